import PyProof.Rows.All
import Wide.All
import OpenK.AllK
import Wide.FinOn
import HandS.ForMost
import HandS.Wide
import HandS.Walk
import HandS.Flow
import HandS.IsInst
import HandS.Zip
import HandS.HeadHook1
import HandS.WideBits
import HandS.Defaults
import HandS.Deep
import HandS.HeadHook2
import HandS.TupAny
import HandS.Codes
import HandS.Style
import KE.KUnpackStar
import HandS.Sort
import KE.KRevSl
import HandS.Exc
import HandS.ExcOwn
import HandS.ExcIs
import HandS.RaiseMore
import KE.KExcIs
import PyProof.ExcBaseAll.ValueError
import PyProof.ExcBaseAll.ZeroDivisionError
import PyProof.ExcBaseAll.IndexError
import HandS.MakeKwOnly
import KE.DataMinMax
import HandS.Rev
import HandS.Text
import HandS.FStr
import HandS.StrMore
import HandS.Dict
import HandS.CallLocal
import KE.GoesEnumKw
import HandS.Iter
import HandS.Comp
import PyProof.Rows.RegReprOcc
import HandS.Head0
import HandS.Head1
import HandS.Head2
import KE.GoesMore
import HandS.ExcField
import HandS.ExcInit
import HandS.SetFor
import PyProof.AssignAttr
import HandS.More
import HandS.HeadEnd
import PySem.Challenge.RW_toolroad_k52_whole_chords_go_along
set_option Elab.async false
set_option linter.all false
set_option autoImplicit false
set_option maxRecDepth 100000
set_option maxHeartbeats 0
set_option synthInstance.maxHeartbeats 0
set_option synthInstance.maxSize 100000
/-! DL: readings by data: shared data (Dp over a shared heap) and owned things (lists, lists of lists, objects), each with its footprint. -/
namespace DL
open PySem PySem.Spec L2
abbrev Fg := PySem.W.Frag
/-! ### data: as the library's, and instances, dicts, defs -/
def insD (C : Str) (xs : List Str) (ds : List PyData) : PyData := .dict ((.none, .str C) :: (xs.map PyData.str).zip ds)
def keyD : Key → PyData
  | .inl i => .int i
  | .inr x => .str x
def dctD (ks : List Key) (ds : List PyData) : PyData := .dict ((.bool false, .none) :: (ks.map keyD).zip ds)
/-- a def of the module, by its name -/
def fnD (f : Str) : PyData := .dict [(.bool true, .str f)]
/-- a thing of which no more is known than that it isn't None; a thing by its address -/
abbrev anyD : PyData := .dict [(.bool true, .none)]
abbrev adrD (a : Addr) : PyData := .dict [(.bool true, .int (a : Nat))]
/-- the built-in types that are asked for by isinstance -/
def sixT : List String := ["NoneType", "bool", "int", "str", "list", "tuple"]
/-- an own class of plain instances -/
structure InsOk (K : Fg) (C : Str) : Prop where
  cl : Cls K (He.ga K C)
  ha : PySem.W.findIn K (.ref (He.ga K C)) "__class__" = some (some (.builtin "object.__class__"))
  hn : PySem.W.specialIn K (.builtin "object.__class__") "__get__" = some (some (.builtin "getset_descriptor.__get__"))
  tk : PySem.W.takesIn K (.builtin "object.__class__") = some true
  hm : PySem.W.mroIn K (He.ga K C) (.type "object") = some true
  no : ∀ T ∈ sixT, PySem.W.kitOne K (.ref (He.ga K C)) (.type T) = some false
mutual
inductive Dp (K : Fg) (H : Hp) : V → PyData → Prop
  | non : Dp K H .non .none
  | bl (b : Bool) : Dp K H (.bl b) (.bool b)
  | int (i : Int) : Dp K H (.int i) (.int i)
  | str (x : Str) : Dp K H (.str x) (.str x)
  | lst {a : Addr} {xs : List V} {ds : List PyData} : SqL K H a xs → DpAll K H xs ds → Dp K H (.ref a) (.list ds)
  | tup {a : Addr} {xs : List V} {ds : List PyData} : SqT K H a xs → DpAll K H xs ds → Dp K H (.ref a) (.tuple ds)
  | ins {a dx : Addr} {C : Str} {xs : List Str} {vs : List V} {ds : List PyData} : InsOk K C → H a = some (.ins (He.ga K C) dx (xs.zip vs)) → H dx = some (.own a) → xs.length = vs.length → DpAll K H vs ds → Dp K H (.ref a) (insD C xs ds)
  | dct {a : Addr} {ks : List Key} {vs : List V} {ds : List PyData} : H a = some (.dK (ks.zip vs)) → ks.length = vs.length → DpAll K H vs ds → Dp K H (.ref a) (dctD ks ds)
  | fn (f : Str) : Dp K H (.ref (He.fAd K (f, none))) (fnD f)
  | any {v : V} : v ≠ .non → Dp K H v anyD
  | adr (a : Addr) : Dp K H (.ref a) (adrD a)
inductive DpAll (K : Fg) (H : Hp) : List V → List PyData → Prop
  | nil : DpAll K H [] []
  | cons {v : V} {vs : List V} {d : PyData} {ds : List PyData} : Dp K H v d → DpAll K H vs ds → DpAll K H (v :: vs) (d :: ds)
end
theorem sqt_mono {K : Fg} {H H' : Hp} {a : Addr} {xs : List V} (e : Same H H') (h : SqT K H a xs) : SqT K H' a xs := by
  rcases h with (h | ⟨o, h⟩) | h
  · exact .inl (.inl (e _ _ h))
  · exact .inl (.inr ⟨o, e _ _ h⟩)
  · exact .inr h
section
variable {K : Fg} {H H' : Hp}
theorem Dp.up {v : V} {d : PyData} (h : Dp K H v d) (e : Same H H') : Dp K H' v d :=
  Dp.rec (motive_1 := fun v d _ => Dp K H' v d) (motive_2 := fun vs ds _ => DpAll K H' vs ds) .non .bl .int .str (fun s _ a => .lst (e.seq s) a) (fun s _ a => .tup (sqt_mono e s) a)
    (fun h0 h1 h2 h3 _ a => .ins h0 (e _ _ h1) (e _ _ h2) h3 a) (fun h1 h2 _ a => .dct (e _ _ h1) h2 a) (fun f => .fn f) (fun h => .any h) (fun a => .adr a) .nil (fun _ _ a b => .cons a b) h
theorem DpAll.up {vs : List V} {ds : List PyData} (h : DpAll K H vs ds) (e : Same H H') : DpAll K H' vs ds :=
  DpAll.rec (motive_1 := fun v d _ => Dp K H' v d) (motive_2 := fun vs ds _ => DpAll K H' vs ds) .non .bl .int .str (fun s _ a => .lst (e.seq s) a) (fun s _ a => .tup (sqt_mono e s) a)
    (fun h0 h1 h2 h3 _ a => .ins h0 (e _ _ h1) (e _ _ h2) h3 a) (fun h1 h2 _ a => .dct (e _ _ h1) h2 a) (fun f => .fn f) (fun h => .any h) (fun a => .adr a) .nil (fun _ _ a b => .cons a b) h
/-- what the library's == may look at -/
theorem Dp.lib {v : V} {d : PyData} (h : Dp K H v d) : d.canLay0 = true → L2.Dp K H v d :=
  Dp.rec (motive_1 := fun v d _ => d.canLay0 = true → L2.Dp K H v d) (motive_2 := fun vs ds _ => PyData.canLayAll0 ds = true → L2.DpAll K H vs ds) (fun _ => .non) (fun b _ => .bl b) (fun i _ => .int i) (fun x _ => .str x) (fun s _ a c => .lst s (a c)) (fun s _ a c => .tup s (a c))
    (fun _ _ _ _ _ _ c => nomatch c) (fun _ _ _ _ c => nomatch c) (fun _ c => nomatch c) (fun _ c => nomatch c) (fun _ c => nomatch c) (fun _ => .nil) (fun _ _ a b c => by
      have c' := Bool.and_eq_true_iff.mp c
      exact .cons (a c'.1) (b c'.2)) h
theorem Dp.lb {v : V} {d : PyData} (h : Dp K H v d) (s : SeqAt.shaped d = true) : L2.Dp K H v d := h.lib (SeqAt.canLay_of_shaped s)
theorem DpAll.len : ∀ {vs : List V} {ds : List PyData}, DpAll K H vs ds → vs.length = ds.length
  | _, _, .nil => rfl
  | _, _, .cons _ t => by rw [List.length_cons, List.length_cons, DpAll.len t]
theorem DpAll.get : ∀ {vs : List V} {ds : List PyData} {i : Nat} {d : PyData}, DpAll K H vs ds → ds[i]? = some d → ∃ v, vs[i]? = some v ∧ Dp K H v d
  | _, _, _, _, .nil, e => by simp at e
  | _, _, 0, _, .cons h _, e => by simp at e; subst e; exact ⟨_, rfl, h⟩
  | _, _, i + 1, d, .cons _ t, e => by
    obtain ⟨v, h1, h2⟩ := DpAll.get (i := i) (d := d) t (by simpa using e)
    exact ⟨v, by simpa using h1, h2⟩
theorem DpAll.getV : ∀ {vs : List V} {ds : List PyData} {i : Nat} {v : V}, DpAll K H vs ds → vs[i]? = some v → ∃ d, ds[i]? = some d ∧ Dp K H v d
  | _, _, _, _, .nil, e => by simp at e
  | _, _, 0, _, .cons h _, e => by simp at e; subst e; exact ⟨_, rfl, h⟩
  | _, _, i + 1, d, .cons _ t, e => by
    obtain ⟨v, h1, h2⟩ := DpAll.getV (i := i) (v := d) t (by simpa using e)
    exact ⟨v, by simpa using h1, h2⟩
theorem DpAll.app : ∀ {vs ws : List V} {ds es : List PyData}, DpAll K H vs ds → DpAll K H ws es → DpAll K H (vs ++ ws) (ds ++ es)
  | _, _, _, _, .nil, h => h
  | _, _, _, _, .cons a t, h => .cons a (DpAll.app t h)
theorem DpAll.set {v : V} {d : PyData} (h : Dp K H v d) : ∀ {vs : List V} {ds : List PyData} (i : Nat), DpAll K H vs ds → DpAll K H (vs.set i v) (ds.set i d)
  | _, _, _, .nil => .nil
  | _, _, 0, .cons _ t => .cons h t
  | _, _, i + 1, .cons a t => .cons a (DpAll.set h i t)
theorem DpAll.drop : ∀ {vs : List V} {ds : List PyData} (n : Nat), DpAll K H vs ds → DpAll K H (vs.drop n) (ds.drop n)
  | _, _, 0, h => h
  | _, _, _ + 1, .nil => .nil
  | _, _, n + 1, .cons _ t => DpAll.drop n t
theorem DpAll.take : ∀ {vs : List V} {ds : List PyData} (n : Nat), DpAll K H vs ds → DpAll K H (vs.take n) (ds.take n)
  | _, _, 0, _ => .nil
  | _, _, _ + 1, .nil => .nil
  | _, _, n + 1, .cons a t => .cons a (DpAll.take n t)
theorem DpAll.ints : ∀ (ns : List Int), DpAll K H (ns.map V.int) (ns.map PyData.int)
  | [] => .nil
  | n :: r => .cons (.int n) (DpAll.ints r)
theorem DpAll.toBools : ∀ {ns : List Bool} {vs : List V}, DpAll K H vs (ns.map PyData.bool) → vs = ns.map V.bl
  | [], _, h => by cases h; rfl
  | n :: r, _, h => by
    cases h with
    | cons a t => cases a; rw [DpAll.toBools t]; rfl
end
/-! ### slots by data -/
/-- a field: shared data, or a list of the object's own -/
inductive Fv where
  | d (d : PyData)
  | l (xs : List PyData)
  /-- a list whose address is known -/
  | la (b : Addr) (xs : List PyData)
/-- owned things: a list of lists; an object -/
inductive Ob where
  | nst (xss : List (List PyData))
  | ins (C : Str) (FS : List Str) (fs : List Fv)
  | dct (ks : List Key) (ds : List PyData)
/-- shared data; an owned list, an owned thing (p: the caller's, of an argument); the exception that was caught -/
inductive Sl where
  | sh (d : PyData)
  | ow (p : Bool) (xs : List PyData)
  | ob (p : Bool) (o : Ob)
  | xn (C : Str)
def Sl.own : Sl → Bool
  | .sh _ => false
  | .xn _ => false
  | _ => true
def Sl.prm : Sl → Bool
  | .sh _ => false
  | .xn _ => false
  | .ow p _ => p
  | .ob p _ => p
abbrev DSt := List (Option Sl)
/-- an exception: its class by its name, its fields -/
structure Xd where
  C : Str
  fs : List (Str × PyData)
/-- the entry: the heap, its shared part, what the caller lends, what is guarded, what the slots held; to which slot a lent address belongs -/
structure Ent where
  H0 : Hp
  Hs0 : Hp
  own : List Addr
  G : List (Addr × HO)
  σ0 : St
  xa : Option (Addr × Str)
  blk : Addr → Nat
/-- a callee's -/
abbrev Ent.at (H Hs : Hp) (own : List Addr) (σ0 : St) : Ent := ⟨H, Hs, own, [], σ0, none, fun _ => 0⟩
/-! footprints -/
inductive FvAt (K : Fg) (Hs H : Hp) : V → Fv → List Addr → Prop
  | d {v : V} {d : PyData} : Dp K Hs v d → FvAt K Hs H v (.d d) []
  | l {a : Addr} {ws : List V} {xs : List PyData} : H a = some (.lst ws) → DpAll K Hs ws xs → FvAt K Hs H (.ref a) (.l xs) [a]
  | la {a : Addr} {ws : List V} {xs : List PyData} : H a = some (.lst ws) → DpAll K Hs ws xs → FvAt K Hs H (.ref a) (.la a xs) [a]
inductive FsAt (K : Fg) (Hs H : Hp) : List V → List Fv → List Addr → Prop
  | nil : FsAt K Hs H [] [] []
  | cons {v : V} {f : Fv} {vs : List V} {fs : List Fv} {A B : List Addr} : FvAt K Hs H v f A → FsAt K Hs H vs fs B → FsAt K Hs H (v :: vs) (f :: fs) (A ++ B)
inductive LsAt (K : Fg) (Hs H : Hp) : List V → List (List PyData) → List Addr → Prop
  | nil : LsAt K Hs H [] [] []
  | cons {a : Addr} {ws vs : List V} {xs : List PyData} {xss : List (List PyData)} {A : List Addr} : H a = some (.lst ws) → DpAll K Hs ws xs → LsAt K Hs H vs xss A → LsAt K Hs H (.ref a :: vs) (xs :: xss) (a :: A)
inductive At (K : Fg) (Hs H : Hp) : V → Sl → List Addr → Prop
  | ow {a : Addr} {p : Bool} {ws : List V} {xs : List PyData} : H a = some (.lst ws) → DpAll K Hs ws xs → At K Hs H (.ref a) (.ow p xs) [a]
  | nst {a : Addr} {p : Bool} {vs : List V} {xss : List (List PyData)} {A : List Addr} : H a = some (.lst vs) → LsAt K Hs H vs xss A → (a :: A).Nodup → At K Hs H (.ref a) (.ob p (.nst xss)) (a :: A)
  | ins {a dx : Addr} {p : Bool} {C : Str} {FS : List Str} {vs : List V} {fs : List Fv} {A : List Addr} : InsOk K C → FS.length = vs.length → H a = some (.ins (He.ga K C) dx (FS.zip vs)) → H dx = some (.own a) → FsAt K Hs H vs fs A → (a :: dx :: A).Nodup → At K Hs H (.ref a) (.ob p (.ins C FS fs)) (a :: dx :: A)
  | dct {a : Addr} {p : Bool} {ks : List Key} {vs : List V} {ds : List PyData} : H a = some (.dK (ks.zip vs)) → ks.length = vs.length → DpAll K Hs vs ds → At K Hs H (.ref a) (.ob p (.dct ks ds)) [a]
section
variable {K : Fg} {Hs H Hs' H' : Hp}
theorem FvAt.fr {v : V} {f : Fv} {A : List Addr} (h : FvAt K Hs H v f A) (e : Same Hs Hs') (k : ∀ a ∈ A, H' a = H a) : FvAt K Hs' H' v f A := by
  cases h with
  | d h => exact .d (h.up e)
  | l h1 h2 => exact .l ((k _ (List.mem_singleton.mpr rfl)).trans h1) (h2.up e)
  | la h1 h2 => exact .la ((k _ (List.mem_singleton.mpr rfl)).trans h1) (h2.up e)
theorem FsAt.fr {vs : List V} {fs : List Fv} {A : List Addr} (h : FsAt K Hs H vs fs A) (e : Same Hs Hs') (k : ∀ a ∈ A, H' a = H a) : FsAt K Hs' H' vs fs A := by
  induction h with
  | nil => exact .nil
  | cons h _ ih => exact .cons (h.fr e fun a m => k a (List.mem_append_left _ m)) (ih fun a m => k a (List.mem_append_right _ m))
theorem LsAt.fr {vs : List V} {xss : List (List PyData)} {A : List Addr} (h : LsAt K Hs H vs xss A) (e : Same Hs Hs') (k : ∀ a ∈ A, H' a = H a) : LsAt K Hs' H' vs xss A := by
  induction h with
  | nil => exact .nil
  | cons h1 h2 _ ih => exact .cons ((k _ (List.mem_cons_self ..)).trans h1) (h2.up e) (ih fun a m => k a (List.mem_cons_of_mem _ m))
theorem At.fr {v : V} {s : Sl} {A : List Addr} (h : At K Hs H v s A) (e : Same Hs Hs') (k : ∀ a ∈ A, H' a = H a) : At K Hs' H' v s A := by
  cases h with
  | ow h1 h2 => exact .ow ((k _ (List.mem_singleton.mpr rfl)).trans h1) (h2.up e)
  | nst h1 h2 h3 => exact .nst ((k _ (List.mem_cons_self ..)).trans h1) (h2.fr e fun a m => k a (List.mem_cons_of_mem _ m)) h3
  | ins h5 h6 h1 h2 h3 h4 => exact .ins h5 h6 ((k _ (List.mem_cons_self ..)).trans h1) ((k _ (List.mem_cons_of_mem _ (List.mem_cons_self ..))).trans h2) (h3.fr e fun a m => k a (List.mem_cons_of_mem _ (List.mem_cons_of_mem _ m))) h4
  | dct h1 h2 h3 => exact .dct ((k _ (List.mem_singleton.mpr rfl)).trans h1) h2 (h3.up e)
theorem FvAt.live {v : V} {f : Fv} {A : List Addr} (h : FvAt K Hs H v f A) : ∀ a ∈ A, H a ≠ none := by
  cases h with
  | d h => exact fun a m => nomatch m
  | l h1 h2 =>
    intro a m
    rw [List.mem_singleton.mp m, h1]
    exact fun z => nomatch z
  | la h1 h2 =>
    intro a m
    rw [List.mem_singleton.mp m, h1]
    exact fun z => nomatch z
theorem FsAt.live {vs : List V} {fs : List Fv} {A : List Addr} (h : FsAt K Hs H vs fs A) : ∀ a ∈ A, H a ≠ none := by
  induction h with
  | nil => exact fun a m => nomatch m
  | cons h _ ih =>
    intro a m
    rcases List.mem_append.mp m with z | z
    · exact h.live a z
    · exact ih a z
theorem LsAt.live {vs : List V} {xss : List (List PyData)} {A : List Addr} (h : LsAt K Hs H vs xss A) : ∀ a ∈ A, H a ≠ none := by
  induction h with
  | nil => exact fun a m => nomatch m
  | cons h1 h2 _ ih =>
    intro a m
    rcases List.mem_cons.mp m with z | z
    · rw [z, h1]
      exact fun z => nomatch z
    · exact ih a z
theorem At.live {v : V} {s : Sl} {A : List Addr} (h : At K Hs H v s A) : ∀ a ∈ A, H a ≠ none := by
  cases h with
  | ow h1 h2 =>
    intro a m
    rw [List.mem_singleton.mp m, h1]
    exact fun z => nomatch z
  | nst h1 h2 h3 =>
    intro a m
    rcases List.mem_cons.mp m with z | z
    · rw [z, h1]
      exact fun z => nomatch z
    · exact h2.live a z
  | ins h5 h6 h1 h2 h3 h4 =>
    intro a m
    rcases List.mem_cons.mp m with z | z
    · rw [z, h1]
      exact fun z => nomatch z
    · rcases List.mem_cons.mp z with z | z
      · rw [z, h2]
        exact fun z => nomatch z
      · exact h3.live a z
  | dct h1 h2 h3 =>
    intro a m
    rw [List.mem_singleton.mp m, h1]
    exact fun z => nomatch z
theorem At.head {v : V} {s : Sl} {A : List Addr} (h : At K Hs H v s A) : ∃ a, v = .ref a ∧ a ∈ A := by
  cases h with
  | ow h1 h2 => exact ⟨_, rfl, List.mem_singleton.mpr rfl⟩
  | nst h1 h2 h3 => exact ⟨_, rfl, List.mem_cons_self ..⟩
  | ins h5 h6 h1 h2 h3 h4 => exact ⟨_, rfl, List.mem_cons_self ..⟩
  | dct h1 h2 h3 => exact ⟨_, rfl, List.mem_singleton.mpr rfl⟩
theorem At.owned {v : V} {s : Sl} {A : List Addr} (h : At K Hs H v s A) : s.own = true := by cases h <;> rfl
end
structure Fps (K : Fg) (Z : Ent) (Hs H : Hp) (σ : St) (δ : DSt) (f : Nat → List Addr) : Prop where
  at_ : ∀ (i : Nat) (s : Sl), δ[i]? = some (some s) → s.own = true → ∃ v : V, σ[i]? = some (some v) ∧ At K Hs H v s (f i)
  emp : ∀ i : Nat, (∀ s : Sl, δ[i]? = some (some s) → s.own = false) → f i = []
  hs : ∀ (i : Nat) (a : Addr), a ∈ f i → Hs a = none
  old : ∀ (i : Nat) (a : Addr), a ∈ f i → Z.H0 a = none ∨ (a ∈ Z.own ∧ Z.blk a = i)
  mine : ∀ (i : Nat) (s : Sl) (a : Addr), δ[i]? = some (some s) → s.prm = false → a ∈ f i → Z.H0 a = none ∧ a ∉ Z.own
  dis : ∀ (i j : Nat) (a : Addr), i ≠ j → a ∈ f i → a ∉ f j
  g : ∀ (i : Nat) (a : Addr) (o : HO), a ∈ f i → (a, o) ∉ Z.G
structure Rl (K : Fg) (Z : Ent) (Hs H : Hp) (σ : St) (δ : DSt) : Prop where
  len : σ.length = δ.length
  sub : Same Hs H
  ext : Same Z.Hs0 Hs
  fr : ∀ (b : Addr) (o : HO), Z.H0 b = some o → b ∉ Z.own → H b = some o
  new : ∀ (b : Addr), Hs b ≠ none → Z.Hs0 b ≠ none ∨ Z.H0 b = none
  hid : ∀ (b : Addr), b ∈ Z.own → Hs b = none ∧ H b ≠ none
  shr : ∀ (i : Nat) (d : PyData), δ[i]? = some (some (Sl.sh d)) → ∃ v : V, σ[i]? = some (some v) ∧ Dp K Hs v d
  fps : ∃ f, Fps K Z Hs H σ δ f
  grd : ∀ (a : Addr) (o : HO), (a, o) ∈ Z.G → H a = some o ∧ Hs a = none ∧ a ∉ Z.own
  prm : ∀ (i : Nat) (s : Sl), δ[i]? = some (some s) → s.prm = true → σ[i]? = Z.σ0[i]?
  exn : ∀ (i : Nat) (C : Str), δ[i]? = some (some (Sl.xn C)) → ∃ a, σ[i]? = some (some (V.ref a)) ∧ Z.xa = some (a, C)
theorem get_set {α : Type} {l : List (Option α)} {i j : Nat} {x : Option α} {y : α} (h : (l.set i x)[j]? = some (some y)) : (i = j ∧ x = some y) ∨ (i ≠ j ∧ l[j]? = some (some y)) := by
  rw [List.getElem?_set] at h
  by_cases e : i = j
  · subst e
    rw [if_pos rfl] at h
    split at h
    · exact .inl ⟨rfl, Option.some.inj h⟩
    · cases h
  · rw [if_neg e] at h
    exact .inr ⟨e, h⟩
theorem get_lt {α : Type} {l : List α} {i : Nat} {x : α} (h : l[i]? = some x) : i < l.length := (List.getElem?_eq_some_iff.mp h).1
theorem set_lt {l : DSt} {i j : Nat} {x : Option Sl} {y : Option Sl} (h : (l.set i x)[j]? = some y) : j < l.length := by
  have := get_lt h
  rw [List.length_set] at this
  exact this
theorem set_self {σ : St} {i : Nat} {v : V} (h : σ[i]? = some (some v)) : σ.set i (some v) = σ := by
  obtain ⟨hi, e⟩ := List.getElem?_eq_some_iff.mp h
  rw [← e]
  exact List.set_getElem_self hi
theorem same_new {H : Hp} {p : Addr} {o : HO} (h : H p = none) : Same H (upd H p o) := fun b x e => by
  rw [upd_ne (ne_of_none e h)]
  exact e
section
variable {K : Fg} {Z : Ent} {Hs H Hs' H' : Hp} {σ : St} {δ : DSt}
theorem Rl.hsn (R : Rl K Z Hs H σ δ) {p : Addr} (h : H p = none) : Hs p = none := R.sub.free h
theorem Rl.won (R : Rl K Z Hs H σ δ) {p : Addr} (h : H p = none) : p ∉ Z.own := fun e => (R.hid p e).2 h
theorem Rl.h0n (R : Rl K Z Hs H σ δ) {p : Addr} (h : H p = none) : Z.H0 p = none := by
  cases q : Z.H0 p with
  | none => rfl
  | some o =>
    by_cases e : p ∈ Z.own
    · exact absurd h (R.hid p e).2
    · rw [R.fr p o q e] at h
      cases h
theorem Rl.nog (R : Rl K Z Hs H σ δ) {p : Addr} {o : HO} (h : H p = none) : (p, o) ∉ Z.G := fun m => by
  rw [(R.grd p o m).1] at h
  cases h
theorem Fps.live {f : Nat → List Addr} (F : Fps K Z Hs H σ δ f) (i : Nat) {a : Addr} (m : a ∈ f i) : H a ≠ none := by
  cases e : δ[i]? with
  | none =>
    rw [F.emp i (fun s z => by rw [e] at z; cases z)] at m
    exact nomatch m
  | some o =>
    cases o with
    | none =>
      rw [F.emp i (fun s z => by rw [e] at z; cases z)] at m
      exact nomatch m
    | some s =>
      cases ho : s.own with
      | false =>
        rw [F.emp i (fun s' z => by rw [e] at z; cases z; exact ho)] at m
        exact nomatch m
      | true =>
        obtain ⟨v, _, h⟩ := F.at_ i s e ho
        exact h.live a m
/-- all that is there stays; new shared things -/
theorem Rl.grow (R : Rl K Z Hs H σ δ) (hs : Same Hs Hs') (sb : Same Hs' H') (keep : ∀ (b : Addr) (o : HO), H b = some o → H' b = some o) (nw : ∀ b : Addr, Hs' b ≠ none → Hs b ≠ none ∨ H b = none) : Rl K Z Hs' H' σ δ := by
  have hidden : ∀ b : Addr, H b ≠ none → Hs b = none → Hs' b = none := fun b h n => by
    cases q : Hs' b with
    | none => rfl
    | some x =>
      rcases nw b (by rw [q]; exact fun z => nomatch z) with z | z
      · exact absurd n z
      · exact absurd z h
  have eqH : ∀ b : Addr, H b ≠ none → H' b = H b := fun b h => by
    cases q : H b with
    | none => exact absurd q h
    | some o => exact keep b o q
  refine ⟨R.len, sb, R.ext.trans hs, fun b o e n => keep b o (R.fr b o e n), fun b n => ?_, fun b e => ?_, fun i d e => ?_, ?_, fun a o m => ?_, R.prm, R.exn⟩
  · rcases nw b n with z | z
    · exact R.new b z
    · exact .inr (R.h0n z)
  · obtain ⟨h1, h2⟩ := R.hid b e
    exact ⟨hidden b h2 h1, by rw [eqH b h2]; exact h2⟩
  · obtain ⟨v, a, b⟩ := R.shr i d e
    exact ⟨v, a, b.up hs⟩
  · obtain ⟨f, F⟩ := R.fps
    refine ⟨f, ⟨fun i s e o => ?_, F.emp, fun i a m => hidden a (F.live i m) (F.hs i a m), F.old, F.mine, F.dis, F.g⟩⟩
    obtain ⟨v, h1, h2⟩ := F.at_ i s e o
    exact ⟨v, h1, h2.fr hs fun a m => eqH a (F.live i m)⟩
  · obtain ⟨h1, h2, h3⟩ := R.grd a o m
    exact ⟨keep a o h1, hidden a (by rw [h1]; exact fun z => nomatch z) h2, h3⟩
/-- a new shared object -/
theorem Rl.alloc (R : Rl K Z Hs H σ δ) {p : Addr} {o : HO} (h : H p = none) : Rl K Z (upd Hs p o) (upd H p o) σ δ := by
  refine R.grow (same_new (R.hsn h)) (fun b x e => ?_) (fun b x e => by rw [upd_ne (ne_of_none e h)]; exact e) (fun b n => ?_)
  · by_cases hb : b = p
    · subst hb
      rw [upd_same] at e ⊢
      exact e
    · rw [upd_ne hb] at e ⊢
      exact R.sub b x e
  · by_cases hb : b = p
    · subst hb
      exact .inr h
    · rw [upd_ne hb] at n
      exact .inl n
/-- a new object of one's own -/
theorem Rl.allocO (R : Rl K Z Hs H σ δ) {p : Addr} {o : HO} (h : H p = none) : Rl K Z Hs (upd H p o) σ δ :=
  R.grow (Same.refl _) (fun b x e => by rw [upd_ne (ne_of_none (R.sub b x e) h)]; exact R.sub b x e) (fun b x e => by rw [upd_ne (ne_of_none e h)]; exact e) (fun b n => .inl n)
/-- a slot is given something: shared, or with a footprint of its own -/
theorem Rl.put (R : Rl K Z Hs H σ δ) {i : Nat} {v : V} {s : Sl} {A : List Addr} (hsh : ∀ d, s = .sh d → Dp K Hs v d ∧ A = []) (hat : s.own = true → At K Hs H v s A) (h1 : ∀ a ∈ A, Hs a = none) (h2 : ∀ a ∈ A, Z.H0 a = none ∨ (a ∈ Z.own ∧ Z.blk a = i)) (h3 : s.prm = false → ∀ a ∈ A, Z.H0 a = none ∧ a ∉ Z.own)
    (h4 : ∀ f, Fps K Z Hs H σ δ f → ∀ (j : Nat) (a : Addr), j ≠ i → a ∈ A → a ∉ f j) (h5 : ∀ (a : Addr) (o : HO), a ∈ A → (a, o) ∉ Z.G) (h6 : s.prm = true → some (some v) = Z.σ0[i]?) (h7 : ∀ C, s = .xn C → (∃ a, v = .ref a ∧ Z.xa = some (a, C)) ∧ A = []) (hi : i < σ.length) : Rl K Z Hs H (σ.set i (some v)) (δ.set i (some s)) := by
  refine ⟨by rw [List.length_set, List.length_set, R.len], R.sub, R.ext, R.fr, R.new, R.hid, fun j d z => ?_, ?_, R.grd, fun j t z p => ?_, fun j C z => ?_⟩
  · rcases get_set z with ⟨rfl, z'⟩ | ⟨ne, z⟩
    · cases z'
      exact ⟨v, by rw [List.getElem?_set_self hi], (hsh d rfl).1⟩
    · obtain ⟨u, a, b⟩ := R.shr j d z
      exact ⟨u, by rw [List.getElem?_set_ne ne]; exact a, b⟩
  · obtain ⟨f, F⟩ := R.fps
    have no := h4 f F
    refine ⟨fun j => if j = i then A else f j, ⟨fun j t z o => ?_, fun j h => ?_, fun j a m => ?_, fun j a m => ?_, fun j t a z p m => ?_, fun j k a ne m m' => ?_, fun j a o m => ?_⟩⟩
    · rcases get_set z with ⟨rfl, z'⟩ | ⟨ne, z⟩
      · cases z'
        exact ⟨v, by rw [List.getElem?_set_self hi], by rw [if_pos rfl]; exact hat o⟩
      · obtain ⟨u, a, b⟩ := F.at_ j t z o
        exact ⟨u, by rw [List.getElem?_set_ne ne]; exact a, by rw [if_neg ne.symm]; exact b⟩
    · by_cases e : j = i
      · subst e
        rw [if_pos rfl]
        have : s.own = false := h s (by rw [List.getElem?_set_self (by rw [← R.len]; exact hi)])
        cases s with
        | sh d => exact (hsh d rfl).2
        | ow _ _ => cases this
        | ob _ _ => cases this
        | xn C => exact (h7 C rfl).2
      · rw [if_neg e]
        refine F.emp j fun t z => h t ?_
        rw [List.getElem?_set_ne (fun q => e q.symm)]
        exact z
    · by_cases e : j = i
      · rw [if_pos e] at m
        exact h1 a m
      · rw [if_neg e] at m
        exact F.hs j a m
    · by_cases e : j = i
      · rw [if_pos e] at m
        rw [e]
        exact h2 a m
      · rw [if_neg e] at m
        exact F.old j a m
    · rcases get_set z with ⟨rfl, z'⟩ | ⟨ne, z⟩
      · cases z'
        rw [if_pos rfl] at m
        exact h3 p a m
      · rw [if_neg ne.symm] at m
        exact F.mine j t a z p m
    · by_cases e : j = i
      · rw [if_pos e] at m
        rw [if_neg (fun q => ne (e.trans q.symm))] at m'
        exact no k a (fun q => ne (e.trans q.symm)) m m'
      · rw [if_neg e] at m
        by_cases e2 : k = i
        · rw [if_pos e2] at m'
          exact no j a e m' m
        · rw [if_neg e2] at m'
          exact F.dis j k a ne m m'
    · by_cases e : j = i
      · rw [if_pos e] at m
        exact h5 a o m
      · rw [if_neg e] at m
        exact F.g j a o m
  · rcases get_set z with ⟨rfl, z'⟩ | ⟨ne, z⟩
    · cases z'
      rw [List.getElem?_set_self hi]
      exact h6 p
    · rw [List.getElem?_set_ne ne]
      exact R.prm j t z p
  · rcases get_set z with ⟨rfl, z'⟩ | ⟨ne, z⟩
    · cases z'
      obtain ⟨⟨a, rfl, h⟩, _⟩ := h7 C rfl
      exact ⟨a, by rw [List.getElem?_set_self hi], h⟩
    · obtain ⟨a, h1, h2⟩ := R.exn j C z
      exact ⟨a, by rw [List.getElem?_set_ne ne]; exact h1, h2⟩
theorem Rl.set_out (R : Rl K Z Hs H σ δ) {i : Nat} {v : Option V} {s : Option Sl} (hi : ¬ i < σ.length) : Rl K Z Hs H (σ.set i v) (δ.set i s) := by
  rw [List.set_eq_of_length_le (by omega), List.set_eq_of_length_le (by rw [← R.len]; omega)]
  exact R
theorem Rl.set (R : Rl K Z Hs H σ δ) {i : Nat} {v : V} {d : PyData} (h : Dp K Hs v d) : Rl K Z Hs H (σ.set i (some v)) (δ.set i (some (.sh d))) := by
  by_cases hi : i < σ.length
  · exact R.put (A := []) (fun d' e => by cases e; exact ⟨h, rfl⟩) (fun z => nomatch z) (fun a m => nomatch m) (fun a m => nomatch m) (fun _ a m => nomatch m) (fun _ _ _ a _ m => nomatch m) (fun a o m => nomatch m) (fun z => nomatch z) (fun C e => nomatch e) hi
  · exact R.set_out hi
/-- a slot is forgotten -/
theorem Rl.erase (R : Rl K Z Hs H σ δ) (i : Nat) : Rl K Z Hs H σ (δ.set i none) := by
  refine ⟨by rw [List.length_set, R.len], R.sub, R.ext, R.fr, R.new, R.hid, fun j e z => ?_, ?_, R.grd, fun j t z p => ?_, fun j C z => ?_⟩
  · rcases get_set z with ⟨rfl, z'⟩ | ⟨ne, z⟩
    · cases z'
    · exact R.shr j e z
  · obtain ⟨f, F⟩ := R.fps
    refine ⟨fun j => if j = i then [] else f j, ⟨fun j t z o => ?_, fun j h => ?_, fun j a m => ?_, fun j a m => ?_, fun j t a z p m => ?_, fun j k a ne m m' => ?_, fun j a o m => ?_⟩⟩
    · rcases get_set z with ⟨rfl, z'⟩ | ⟨ne, z⟩
      · cases z'
      · rw [if_neg ne.symm]
        exact F.at_ j t z o
    · by_cases e : j = i
      · rw [if_pos e]
      · rw [if_neg e]
        exact F.emp j fun t z => h t (by rw [List.getElem?_set_ne (fun q => e q.symm)]; exact z)
    · by_cases e : j = i
      · rw [if_pos e] at m
        exact nomatch m
      · rw [if_neg e] at m
        exact F.hs j a m
    · by_cases e : j = i
      · rw [if_pos e] at m
        exact nomatch m
      · rw [if_neg e] at m
        exact F.old j a m
    · rcases get_set z with ⟨rfl, z'⟩ | ⟨ne, z⟩
      · cases z'
      · rw [if_neg ne.symm] at m
        exact F.mine j t a z p m
    · by_cases e : j = i
      · rw [if_pos e] at m
        exact nomatch m
      · rw [if_neg e] at m
        by_cases e2 : k = i
        · rw [if_pos e2] at m'
          exact nomatch m'
        · rw [if_neg e2] at m'
          exact F.dis j k a ne m m'
    · by_cases e : j = i
      · rw [if_pos e] at m
        exact nomatch m
      · rw [if_neg e] at m
        exact F.g j a o m
  · rcases get_set z with ⟨rfl, z'⟩ | ⟨ne, z⟩
    · cases z'
    · exact R.prm j t z p
  · rcases get_set z with ⟨rfl, z'⟩ | ⟨ne, z⟩
    · cases z'
    · exact R.exn j C z
/-- what a new thing of one's own is -/
structure FrA (K : Fg) (Z : Ent) (Hs H : Hp) (σ : St) (δ : DSt) (v : V) (s : Sl) (A : List Addr) : Prop where
  at_ : At K Hs H v s A
  hs : ∀ a ∈ A, Hs a = none
  mine : ∀ a ∈ A, Z.H0 a = none ∧ a ∉ Z.own
  dis : ∀ f, Fps K Z Hs H σ δ f → ∀ (j : Nat) (a : Addr), a ∈ A → a ∉ f j
  g : ∀ (a : Addr) (o : HO), a ∈ A → (a, o) ∉ Z.G
theorem Rl.setA (R : Rl K Z Hs H σ δ) {i : Nat} {v : V} {s : Sl} {A : List Addr} (h : FrA K Z Hs H σ δ v s A) (hp : s.prm = false) : Rl K Z Hs H (σ.set i (some v)) (δ.set i (some s)) := by
  by_cases hi : i < σ.length
  · exact R.put (A := A) (fun d e => by have := h.at_.owned; rw [e] at this; cases this) (fun _ => h.at_) h.hs (fun a m => .inl (h.mine a m).1) (fun _ => h.mine) (fun f F j a _ m => h.dis f F j a m) h.g (fun z => by rw [hp] at z; cases z) (fun C e => by have := h.at_.owned; rw [e] at this; cases this) hi
  · exact R.set_out hi
abbrev FrO (K : Fg) (Z : Ent) (Hs H : Hp) (σ : St) (δ : DSt) (v : V) (xs : List PyData) : Prop := ∃ A, FrA K Z Hs H σ δ v (.ow false xs) A
theorem Rl.setO (R : Rl K Z Hs H σ δ) {i : Nat} {v : V} {xs : List PyData} (h : FrO K Z Hs H σ δ v xs) : Rl K Z Hs H (σ.set i (some v)) (δ.set i (some (.ow false xs))) := by
  obtain ⟨A, h⟩ := h
  exact R.setA h rfl
theorem FrA.lst {v : V} {p : Bool} {xs : List PyData} {A : List Addr} (h : FrA K Z Hs H σ δ v (.ow p xs) A) : ∃ a ws, v = .ref a ∧ A = [a] ∧ H a = some (.lst ws) ∧ DpAll K Hs ws xs := by
  cases h.at_ with
  | ow h1 h2 => exact ⟨_, _, rfl, rfl, h1, h2⟩
theorem FrO.lst {v : V} {xs : List PyData} (h : FrO K Z Hs H σ δ v xs) : ∃ a ws, v = .ref a ∧ H a = some (.lst ws) ∧ Hs a = none ∧ DpAll K Hs ws xs ∧ Z.H0 a = none ∧ a ∉ Z.own := by
  obtain ⟨A, h⟩ := h
  obtain ⟨a, ws, rfl, rfl, h1, h2⟩ := h.lst
  have m : a ∈ [a] := List.mem_singleton.mpr rfl
  exact ⟨a, ws, rfl, h1, h.hs a m, h2, (h.mine a m).1, (h.mine a m).2⟩
/-- a thing at addresses that are new -/
theorem FrA.fresh (R : Rl K Z Hs H σ δ) {v : V} {s : Sl} {A : List Addr} (R' : Rl K Z Hs' H' σ δ) (h : At K Hs' H' v s A) (hn : ∀ a ∈ A, H a = none) (hs : ∀ a ∈ A, Hs' a = none) (live : ∀ f, Fps K Z Hs' H' σ δ f → ∀ (j : Nat) (a : Addr), a ∈ f j → H a ≠ none) : FrA K Z Hs' H' σ δ v s A :=
  ⟨h, hs, fun a m => ⟨R.h0n (hn a m), R.won (hn a m)⟩, fun f F j a m m' => live f F j a m' (hn a m), fun a o m => R.nog (hn a m)⟩
theorem At.uniq {v : V} {s : Sl} {A B : List Addr} (h : At K Hs H v s A) (h' : At K Hs' H v s B) : A = B := by
  have kv : ∀ {v : V} {f : Fv} {A B : List Addr}, FvAt K Hs H v f A → FvAt K Hs' H v f B → A = B := fun h h' => by
    cases h with
    | d _ => cases h' with
      | d _ => rfl
    | l _ _ => cases h' with
      | l _ _ => rfl
    | la _ _ => cases h' with
      | la _ _ => rfl
  have ks : ∀ {vs : List V} {fs : List Fv} {A B : List Addr}, FsAt K Hs H vs fs A → FsAt K Hs' H vs fs B → A = B := fun {vs fs A B} h => by
    intro h'
    induction h generalizing B with
    | nil => cases h'; rfl
    | cons a _ ih =>
      cases h' with
      | cons a' b' => rw [kv a a', ih b']
  have kl : ∀ {vs : List V} {xss : List (List PyData)} {A B : List Addr}, LsAt K Hs H vs xss A → LsAt K Hs' H vs xss B → A = B := fun {vs xss A B} h => by
    intro h'
    induction h generalizing B with
    | nil => cases h'; rfl
    | cons a _ _ ih =>
      cases h' with
      | cons a' _ b' => rw [ih b']
  cases h with
  | ow _ _ => cases h' with
    | ow _ _ => rfl
  | nst a b _ => cases h' with
    | nst a' b' _ =>
      rw [a] at a'
      cases a'
      rw [kl b b']
  | @ins a0 dx p C FS vs fs A _ l a _ b _ =>
    cases h' with
    | @ins _ dx' _ _ _ vs' _ B _ l' a' _ b' _ =>
      rw [a] at a'
      have e1 : dx = dx' := by injection (Option.some.inj a')
      have e2 : FS.zip vs = FS.zip vs' := by injection (Option.some.inj a')
      have e3 : vs = vs' := by
        have q := congrArg (List.map Prod.snd) e2
        rw [List.map_snd_zip (by omega), List.map_snd_zip (by omega)] at q
        exact q
      subst e1 e3
      rw [ks b b']
  | dct _ _ _ => cases h' with
    | dct _ _ _ => rfl
/-- the footprints are told by the heap -/
theorem Fps.same {f f' : Nat → List Addr} {Hs2 : Hp} {Z2 : Ent} (F : Fps K Z Hs H σ δ f) (F' : Fps K Z2 Hs2 H σ δ f') (i : Nat) : f i = f' i := by
  cases e : δ[i]? with
  | none => rw [F.emp i (fun s z => by rw [e] at z; cases z), F'.emp i fun s z => by rw [e] at z; cases z]
  | some o =>
    cases o with
    | none => rw [F.emp i (fun s z => by rw [e] at z; cases z), F'.emp i fun s z => by rw [e] at z; cases z]
    | some s =>
      cases ho : s.own with
      | false => rw [F.emp i (fun s' z => by rw [e] at z; cases z; exact ho), F'.emp i fun s' z => by rw [e] at z; cases z; exact ho]
      | true =>
        obtain ⟨v, h1, h2⟩ := F.at_ i s e ho
        obtain ⟨v', h1', h2'⟩ := F'.at_ i s e ho
        rw [h1] at h1'
        cases h1'
        exact h2.uniq h2'
/-- a slot that stands as it stood keeps its footprint -/
theorem Fps.eqj {f f' : Nat → List Addr} {Z2 : Ent} {Hs2 H2 : Hp} {σ2 : St} {δ2 : DSt} (F : Fps K Z Hs H σ δ f) (F' : Fps K Z2 Hs2 H2 σ2 δ2 f') (j : Nat) (hd : δ2[j]? = δ[j]?) (hv : ∀ v, σ[j]? = some (some v) → σ2[j]? = some (some v)) (keep : ∀ a ∈ f j, H2 a = H a) : f' j = f j := by
  have no : (∀ s : Sl, δ[j]? = some (some s) → s.own = false) → f' j = f j := fun h => by
    rw [F.emp j h, F'.emp j (fun s z => h s (by rw [← hd]; exact z))]
  cases e : δ[j]? with
  | none => exact no fun s z => by rw [e] at z; cases z
  | some o =>
    cases o with
    | none => exact no fun s z => by rw [e] at z; cases z
    | some t =>
      cases ho : t.own with
      | false => exact no fun s z => by rw [e] at z; cases z; exact ho
      | true =>
        obtain ⟨u, h1, h2⟩ := F.at_ j t e ho
        obtain ⟨u', h1', h2'⟩ := F'.at_ j t (by rw [hd]; exact e) ho
        rw [hv u h1] at h1'
        cases h1'
        exact h2'.uniq (h2.fr (Hs' := Hs) (H' := H2) (Same.refl _) keep)
/-- an owned thing with another mark -/
def Sl.as (p : Bool) : Sl → Sl
  | .sh d => .sh d
  | .ow _ xs => .ow p xs
  | .ob _ o => .ob p o
  | .xn C => .xn C
theorem Sl.as_own {p : Bool} {s : Sl} : (s.as p).own = s.own := by cases s <;> rfl
theorem Sl.as_prm {p : Bool} {s : Sl} (h : s.own = true) : (s.as p).prm = p := by
  cases s with
  | sh d => cases h
  | ow _ _ => rfl
  | ob _ _ => rfl
  | xn C => cases h
theorem At.as {v : V} {s : Sl} {A : List Addr} (p : Bool) (h : At K Hs H v s A) : At K Hs H v (s.as p) A := by
  cases h with
  | ow h1 h2 => exact .ow h1 h2
  | nst h1 h2 h3 => exact .nst h1 h2 h3
  | ins h5 h6 h1 h2 h3 h4 => exact .ins h5 h6 h1 h2 h3 h4
  | dct h1 h2 h3 => exact .dct h1 h2 h3
/-- a heap that keeps what is there keeps the footprints -/
theorem Fps.back {f : Nat → List Addr} (R : Rl K Z Hs H σ δ) (F : Fps K Z Hs' H' σ δ f) (keep : ∀ (b : Addr) (o : HO), H b = some o → H' b = some o) : ∀ (j : Nat) (a : Addr), a ∈ f j → H a ≠ none := by
  intro j a m
  obtain ⟨f0, F0⟩ := R.fps
  have e : f j = f0 j := by
    cases e : δ[j]? with
    | none => rw [F.emp j (fun s z => by rw [e] at z; cases z), F0.emp j (fun s z => by rw [e] at z; cases z)]
    | some o =>
      cases o with
      | none => rw [F.emp j (fun s z => by rw [e] at z; cases z), F0.emp j (fun s z => by rw [e] at z; cases z)]
      | some s =>
        cases ho : s.own with
        | false => rw [F.emp j (fun s' z => by rw [e] at z; cases z; exact ho), F0.emp j (fun s' z => by rw [e] at z; cases z; exact ho)]
        | true =>
          obtain ⟨v, h1, h2⟩ := F.at_ j s e ho
          obtain ⟨v', h1', h2'⟩ := F0.at_ j s e ho
          rw [h1] at h1'
          cases h1'
          have k := h2'.fr (Hs' := Hs) (H' := H') (Same.refl _) fun a m => by
            cases q : H a with
            | none => exact absurd q (h2'.live a m)
            | some o => exact keep a o q
          exact h2.uniq k
  rw [e] at m
  exact F0.live j m
/-- a new thing beside a slot that is given another one -/
theorem FrA.put {u v : V} {s t : Sl} {A B : List Addr} {i : Nat} (R : Rl K Z Hs H σ δ) (c : FrA K Z Hs H σ δ u t B) (hat : s.own = true → At K Hs H v s A) (hd : ∀ a ∈ B, a ∉ A) : FrA K Z Hs H (σ.set i (some v)) (δ.set i (some s)) u t B := by
  refine ⟨c.at_, c.hs, c.mine, fun f' F' j a m m' => ?_, c.g⟩
  obtain ⟨f, F⟩ := R.fps
  by_cases e : j = i
  · subst e
    by_cases hj : j < δ.length
    · have hz : (δ.set j (some s))[j]? = some (some s) := List.getElem?_set_self hj
      cases ho : s.own with
      | false =>
        rw [F'.emp j (fun q z => by rw [hz] at z; cases z; exact ho)] at m'
        exact nomatch m'
      | true =>
        obtain ⟨v', k1, k2⟩ := F'.at_ j s hz ho
        rw [List.getElem?_set_self (by rw [R.len]; exact hj)] at k1
        cases k1
        rw [k2.uniq (hat ho)] at m'
        exact hd a m m'
    · rw [F'.emp j (fun q z => absurd (set_lt z) hj)] at m'
      exact nomatch m'
  · rw [F.eqj F' j (List.getElem?_set_ne (fun q => e q.symm)) (fun w z => by rw [List.getElem?_set_ne (fun q => e q.symm)]; exact z) fun _ _ => rfl] at m'
    exact c.dis f F j a m m'
/-- the frame alone -/
theorem Rl.mk0 (sub : Same Hs H) (ext : Same Z.Hs0 Hs) (fr : ∀ (b : Addr) (o : HO), Z.H0 b = some o → b ∉ Z.own → H b = some o) (new : ∀ (b : Addr), Hs b ≠ none → Z.Hs0 b ≠ none ∨ Z.H0 b = none) (hid : ∀ (b : Addr), b ∈ Z.own → Hs b = none ∧ H b ≠ none)
    (grd : ∀ (a : Addr) (o : HO), (a, o) ∈ Z.G → H a = some o ∧ Hs a = none ∧ a ∉ Z.own) : Rl K Z Hs H [] [] :=
  ⟨rfl, sub, ext, fr, new, hid, fun i d e => (nomatch e), ⟨fun _ => [], ⟨fun i s e => (nomatch e), fun _ _ => rfl, fun i a m => (nomatch m), fun i a m => (nomatch m), fun i s a e => (nomatch e), fun i j a n m => (nomatch m), fun i a o m => nomatch m⟩⟩, grd, fun i s e => (nomatch e), fun i C e => nomatch e⟩
theorem FrO.new (R : Rl K Z Hs H σ δ) {p : Addr} {ws : List V} {xs : List PyData} (h : H p = none) (d : DpAll K Hs ws xs) : FrO K Z Hs (upd H p (.lst ws)) σ δ (.ref p) xs :=
  ⟨[p], FrA.fresh R (R.allocO h) (.ow upd_same d) (fun a m => by rw [List.mem_singleton.mp m]; exact h) (fun a m => by rw [List.mem_singleton.mp m]; exact R.hsn h) fun f F => F.back R fun b o e => by rw [upd_ne (ne_of_none e h)]; exact e⟩
/-- an owned list is to be seen -/
theorem Rl.own (R : Rl K Z Hs H σ δ) (i : Nat) (p : Bool) (xs : List PyData) (h : δ[i]? = some (some (Sl.ow p xs))) : ∃ (a : Addr) (ws : List V), σ[i]? = some (some (V.ref a)) ∧ H a = some (.lst ws) ∧ Hs a = none ∧ DpAll K Hs ws xs := by
  obtain ⟨f, F⟩ := R.fps
  obtain ⟨v, h1, h2⟩ := F.at_ i _ h rfl
  have hs := F.hs i
  generalize f i = A at h2 hs
  cases h2 with
  | ow k1 k2 => exact ⟨_, _, h1, k1, hs _ (List.mem_singleton.mpr rfl), k2⟩
/-- an owned dict is to be seen -/
theorem Rl.ownD (R : Rl K Z Hs H σ δ) (i : Nat) (p : Bool) (ks : List Key) (ds : List PyData) (h : δ[i]? = some (some (Sl.ob p (.dct ks ds)))) : ∃ (a : Addr) (vs : List V), σ[i]? = some (some (V.ref a)) ∧ H a = some (.dK (ks.zip vs)) ∧ Hs a = none ∧ ks.length = vs.length ∧ DpAll K Hs vs ds := by
  obtain ⟨f, F⟩ := R.fps
  obtain ⟨v, h1, h2⟩ := F.at_ i _ h rfl
  have hs := F.hs i
  generalize f i = A at h2 hs
  cases h2 with
  | dct k1 k2 k3 => exact ⟨_, _, h1, k1, hs _ (List.mem_singleton.mpr rfl), k2, k3⟩
theorem Fps.lst {f : Nat → List Addr} (F : Fps K Z Hs H σ δ f) {i : Nat} {p : Bool} {xs : List PyData} {a : Addr} (h : δ[i]? = some (some (Sl.ow p xs))) (hv : σ[i]? = some (some (V.ref a))) : f i = [a] := by
  obtain ⟨v, k1, k2⟩ := F.at_ i _ h rfl
  rw [hv] at k1
  cases k1
  generalize f i = A at k2
  cases k2 with
  | ow _ _ => rfl
/-- an address that is no one's -/
structure Nw (K : Fg) (Z : Ent) (Hs H : Hp) (σ : St) (δ : DSt) (a : Addr) : Prop where
  h0 : Z.H0 a = none
  ow : a ∉ Z.own
  fp : ∀ f, Fps K Z Hs H σ δ f → ∀ j : Nat, a ∉ f j
  g : ∀ o : HO, (a, o) ∉ Z.G
theorem Rl.nw (R : Rl K Z Hs H σ δ) {a : Addr} (h : H a = none) : Nw K Z Hs H σ δ a := ⟨R.h0n h, R.won h, fun f F j m => F.live j m h, fun o => R.nog h⟩
theorem FrA.nw {v : V} {s : Sl} {A : List Addr} (c : FrA K Z Hs H σ δ v s A) {a : Addr} (m : a ∈ A) : Nw K Z Hs H σ δ a := ⟨(c.mine a m).1, (c.mine a m).2, fun f F j => c.dis f F j a m, fun o => c.g a o m⟩
/-- an owned thing is changed, within its footprint and at new addresses -/
theorem Rl.chgG (R : Rl K Z Hs H σ δ) {i : Nat} {s s' : Sl} {v : V} {A : List Addr} (hd : δ[i]? = some (some s)) (ho : s.own = true) (hv : σ[i]? = some (some v)) (hp : s'.prm = s.prm) (hs : Same Hs Hs') (sb : Same Hs' H')
    (keep : ∀ f, Fps K Z Hs H σ δ f → ∀ (b : Addr) (o : HO), b ∉ f i → H b = some o → H' b = some o) (live : ∀ b : Addr, H b ≠ none → H' b ≠ none) (nw : ∀ b : Addr, Hs' b ≠ none → Hs b ≠ none ∨ H b = none)
    (hat : At K Hs' H' v s' A) (hA : ∀ f, Fps K Z Hs H σ δ f → ∀ a ∈ A, a ∈ f i ∨ Nw K Z Hs H σ δ a) (hAs : ∀ a ∈ A, Hs' a = none) : Rl K Z Hs' H' σ (δ.set i (some s')) := by
  obtain ⟨f, F⟩ := R.fps
  have keep := keep f F
  have hA := hA f F
  have hi : i < σ.length := get_lt hv
  have hidden : ∀ b : Addr, H b ≠ none → Hs b = none → Hs' b = none := fun b h n => by
    cases q : Hs' b with
    | none => rfl
    | some x =>
      rcases nw b (by rw [q]; exact fun z => nomatch z) with z | z
      · exact absurd n z
      · exact absurd z h
  have R1 : Rl K Z Hs' H' σ (δ.set i none) := by
    refine ⟨by rw [List.length_set, R.len], sb, R.ext.trans hs, fun b o e n => ?_, fun b n => ?_, fun b e => ?_, fun j d z => ?_, ?_, fun a o m => ?_, (R.erase i).prm, (R.erase i).exn⟩
    · refine keep b o (fun m => ?_) (R.fr b o e n)
      rcases F.old i b m with z | z
      · rw [z] at e
        cases e
      · exact n z.1
    · rcases nw b n with z | z
      · exact R.new b z
      · exact .inr (R.h0n z)
    · obtain ⟨h1, h2⟩ := R.hid b e
      exact ⟨hidden b h2 h1, live b h2⟩
    · rcases get_set z with ⟨rfl, z'⟩ | ⟨ne, z⟩
      · cases z'
      · obtain ⟨u, a, b⟩ := R.shr j d z
        exact ⟨u, a, b.up hs⟩
    · have E := (R.erase i).fps
      obtain ⟨f2, F2⟩ := E
      have e2 : ∀ j, j ≠ i → f2 j = f j := fun j ne => by
        cases e : δ[j]? with
        | none => rw [F2.emp j (fun s z => by rw [List.getElem?_set_ne (fun q => ne q.symm), e] at z; cases z), F.emp j (fun s z => by rw [e] at z; cases z)]
        | some o =>
          cases o with
          | none => rw [F2.emp j (fun s z => by rw [List.getElem?_set_ne (fun q => ne q.symm), e] at z; cases z), F.emp j (fun s z => by rw [e] at z; cases z)]
          | some t =>
            cases ho : t.own with
            | false => rw [F2.emp j (fun s' z => by rw [List.getElem?_set_ne (fun q => ne q.symm), e] at z; cases z; exact ho), F.emp j (fun s' z => by rw [e] at z; cases z; exact ho)]
            | true =>
              obtain ⟨u, h1, h2⟩ := F.at_ j t e ho
              obtain ⟨u', h1', h2'⟩ := F2.at_ j t (by rw [List.getElem?_set_ne (fun q => ne q.symm)]; exact e) ho
              rw [h1] at h1'
              cases h1'
              exact h2'.uniq h2
      have ei : f2 i = [] := F2.emp i fun t z => by
        rcases get_set z with ⟨_, z'⟩ | ⟨ne, _⟩
        · cases z'
        · exact absurd rfl ne
      have kept : ∀ j a, a ∈ f2 j → H' a = H a := fun j a m => by
        by_cases e : j = i
        · rw [e, ei] at m
          exact nomatch m
        · have l := F2.live j m
          cases q : H a with
          | none => exact absurd q l
          | some o => exact keep a o (fun m' => F.dis j i a e (by rw [← e2 j e]; exact m) m') q
      refine ⟨f2, ⟨fun j t z o => ?_, F2.emp, fun j a m => hidden a (F2.live j m) (F2.hs j a m), F2.old, F2.mine, F2.dis, F2.g⟩⟩
      obtain ⟨u, h1, h2⟩ := F2.at_ j t z o
      exact ⟨u, h1, h2.fr hs fun a m => kept j a m⟩
    · obtain ⟨h1, h2, h3⟩ := R.grd a o m
      exact ⟨keep a o (fun m' => F.g i a o m' m) h1, hidden a (by rw [h1]; exact fun z => nomatch z) h2, h3⟩
  have R2 := R1.put (i := i) (v := v) (s := s') (A := A) (fun d e => by have := hat.owned; rw [e] at this; cases this) (fun _ => hat) hAs
    (fun a m => by
      rcases hA a m with z | z
      · exact F.old i a z
      · exact .inl z.h0)
    (fun p a m => by
      rcases hA a m with z | z
      · exact F.mine i s a hd (hp ▸ p) z
      · exact ⟨z.h0, z.ow⟩)
    (fun f1 F1 j a ne m m' => by
      have old : a ∈ f j := by
        cases e : δ[j]? with
        | none =>
          rw [F1.emp j (fun s z => by rw [List.getElem?_set_ne (fun q => ne q.symm), e] at z; cases z)] at m'
          exact nomatch m'
        | some o =>
          cases o with
          | none =>
            rw [F1.emp j (fun s z => by rw [List.getElem?_set_ne (fun q => ne q.symm), e] at z; cases z)] at m'
            exact nomatch m'
          | some t =>
            cases ho : t.own with
            | false =>
              rw [F1.emp j (fun s z => by rw [List.getElem?_set_ne (fun q => ne q.symm), e] at z; cases z; exact ho)] at m'
              exact nomatch m'
            | true =>
              obtain ⟨u, h1, h2⟩ := F.at_ j t e ho
              obtain ⟨u', h1', h2'⟩ := F1.at_ j t (by rw [List.getElem?_set_ne (fun q => ne q.symm)]; exact e) ho
              rw [h1] at h1'
              cases h1'
              have k := h2.fr (Hs' := Hs) (H' := H') (Same.refl _) fun b mb => by
                have l := h2.live b mb
                cases q : H b with
                | none => exact absurd q l
                | some o => exact keep b o (fun m2 => F.dis j i b ne mb m2) q
              rw [← h2'.uniq k]
              exact m'
      rcases hA a m with z | z
      · exact F.dis j i a ne old z
      · exact z.fp f F j old)
    (fun a o m => by
      rcases hA a m with z | z
      · exact F.g i a o z
      · exact z.g o) (fun p => by rw [← hv]; exact R.prm i s hd (hp ▸ p)) (fun C e => by have := hat.owned; rw [e] at this; cases this) hi
  rw [List.set_set, set_self hv] at R2
  exact R2
theorem Rl.chg (R : Rl K Z Hs H σ δ) {i : Nat} {s s' : Sl} {v : V} {A : List Addr} (hd : δ[i]? = some (some s)) (ho : s.own = true) (hv : σ[i]? = some (some v)) (hp : s'.prm = s.prm) (hs : Same Hs Hs') (sb : Same Hs' H')
    (keep : ∀ f, Fps K Z Hs H σ δ f → ∀ (b : Addr) (o : HO), b ∉ f i → H b = some o → H' b = some o) (live : ∀ b : Addr, H b ≠ none → H' b ≠ none) (nw : ∀ b : Addr, Hs' b ≠ none → Hs b ≠ none ∨ H b = none)
    (hat : At K Hs' H' v s' A) (hA : ∀ f, Fps K Z Hs H σ δ f → ∀ a ∈ A, a ∈ f i ∨ H a = none) (hAs : ∀ a ∈ A, Hs' a = none) : Rl K Z Hs' H' σ (δ.set i (some s')) :=
  R.chgG hd ho hv hp hs sb keep live nw hat (fun f F a m => (hA f F a m).imp id fun z => R.nw z) hAs
/-- an owned list is changed -/
theorem Rl.mut (R : Rl K Z Hs H σ δ) {i : Nat} {p : Bool} {xs xs' : List PyData} {a : Addr} {ws' : List V} (h : δ[i]? = some (some (Sl.ow p xs))) (ha : σ[i]? = some (some (V.ref a))) (hd : DpAll K Hs ws' xs') :
    Rl K Z Hs (upd H a (.lst ws')) σ (δ.set i (some (.ow p xs'))) := by
  obtain ⟨a', ws, h1, h2, h3, h4⟩ := R.own i p xs h
  rw [h1] at ha
  cases ha
  have fi : ∀ f, Fps K Z Hs H σ δ f → f i = [a] := fun f F => by
    obtain ⟨v, k1, k2⟩ := F.at_ i _ h rfl
    rw [h1] at k1
    cases k1
    exact k2.uniq (.ow h2 h4)
  refine R.chg (A := [a]) (s' := .ow p xs') h rfl h1 rfl (Same.refl _) (fun b x e => ?_) (fun f F b o n e => ?_) (fun b n => ?_) (fun b n => .inl n) (.ow upd_same hd) (fun f F b m => .inl (by rw [fi f F]; exact m)) (fun b m => by rw [List.mem_singleton.mp m]; exact h3)
  · rw [upd_ne (ne_of_none e h3)]
    exact R.sub b x e
  · rw [fi f F] at n
    rw [upd_ne (fun q => n (List.mem_singleton.mpr q))]
    exact e
  · by_cases q : b = a
    · subst q
      rw [upd_same]
      exact fun z => nomatch z
    · rw [upd_ne q]
      exact n
/-- an owned slot let go -/
theorem Rl.moveA (R : Rl K Z Hs H σ δ) {i : Nat} {s : Sl} (h : δ[i]? = some (some s)) (ho : s.own = true) (hp : s.prm = false) : ∃ v A, σ[i]? = some (some v) ∧ Rl K Z Hs H σ (δ.set i none) ∧ FrA K Z Hs H σ (δ.set i none) v s A := by
  obtain ⟨f, F⟩ := R.fps
  obtain ⟨v, h1, h2⟩ := F.at_ i s h ho
  refine ⟨v, f i, h1, R.erase i, ⟨h2, F.hs i, fun a m => F.mine i s a h hp m, fun f2 F2 j a m m' => ?_, F.g i⟩⟩
  by_cases e : j = i
  · rw [e, F2.emp i fun t z => by
      rcases get_set z with ⟨_, z'⟩ | ⟨ne, _⟩
      · cases z'
      · exact absurd rfl ne] at m'
    exact nomatch m'
  · refine F.dis i j a (fun q => e q.symm) m ?_
    cases q : δ[j]? with
    | none =>
      rw [F2.emp j (fun s z => by rw [List.getElem?_set_ne (fun q => e q.symm), q] at z; cases z)] at m'
      exact nomatch m'
    | some o =>
      cases o with
      | none =>
        rw [F2.emp j (fun s z => by rw [List.getElem?_set_ne (fun q => e q.symm), q] at z; cases z)] at m'
        exact nomatch m'
      | some t =>
        cases ht : t.own with
        | false =>
          rw [F2.emp j (fun s z => by rw [List.getElem?_set_ne (fun q => e q.symm), q] at z; cases z; exact ht)] at m'
          exact nomatch m'
        | true =>
          obtain ⟨u, k1, k2⟩ := F.at_ j t q ht
          obtain ⟨u', k1', k2'⟩ := F2.at_ j t (by rw [List.getElem?_set_ne (fun q => e q.symm)]; exact q) ht
          rw [k1] at k1'
          cases k1'
          rw [← k2'.uniq k2]
          exact m'
theorem Rl.move (R : Rl K Z Hs H σ δ) {i : Nat} {xs : List PyData} (h : δ[i]? = some (some (Sl.ow false xs))) : ∃ v : V, σ[i]? = some (some v) ∧ Rl K Z Hs H σ (δ.set i none) ∧ FrO K Z Hs H σ (δ.set i none) v xs := by
  obtain ⟨v, A, h1, h2, h3⟩ := R.moveA h rfl rfl
  exact ⟨v, h1, h2, A, h3⟩
/-- a new list of one's own is shared -/
theorem FrO.share (R : Rl K Z Hs H σ δ) {v : V} {xs : List PyData} (h : FrO K Z Hs H σ δ v xs) : ∃ Hs', Same Hs Hs' ∧ Rl K Z Hs' H σ δ ∧ Dp K Hs' v (.list xs) := by
  obtain ⟨A, h⟩ := h
  obtain ⟨a, ws, rfl, rfl, h1, h3⟩ := h.lst
  have m : a ∈ [a] := List.mem_singleton.mpr rfl
  have h2 := h.hs a m
  have h4 := h.mine a m
  have e1 : Same Hs (upd Hs a (.lst ws)) := same_new h2
  refine ⟨upd Hs a (.lst ws), e1, ⟨R.len, fun b x e => ?_, R.ext.trans e1, R.fr, fun b n => ?_, fun b e => ?_, fun i d e => ?_, ?_, fun b u mg => ?_, R.prm, R.exn⟩, .lst (SqL.of upd_same) (h3.up e1)⟩
  · by_cases hb : b = a
    · subst hb
      rw [upd_same] at e
      rw [← e]
      exact h1
    · rw [upd_ne hb] at e
      exact R.sub b x e
  · by_cases hb : b = a
    · subst hb
      exact .inr h4.1
    · rw [upd_ne hb] at n
      exact R.new b n
  · obtain ⟨z1, z2⟩ := R.hid b e
    have hb : b ≠ a := fun q => h4.2 (q ▸ e)
    rw [upd_ne hb]
    exact ⟨z1, z2⟩
  · obtain ⟨v, a, b⟩ := R.shr i d e
    exact ⟨v, a, b.up e1⟩
  · obtain ⟨f, F⟩ := R.fps
    refine ⟨f, ⟨fun i s e o => ?_, F.emp, fun i b mb => ?_, F.old, F.mine, F.dis, F.g⟩⟩
    · obtain ⟨u, k1, k2⟩ := F.at_ i s e o
      exact ⟨u, k1, k2.fr e1 fun _ _ => rfl⟩
    · have hb : b ≠ a := fun q => h.dis f F i a m (q ▸ mb)
      rw [upd_ne hb]
      exact F.hs i b mb
  · obtain ⟨g1, g2, g3⟩ := R.grd b u mg
    have hb : b ≠ a := fun z => h.g a u m (z ▸ mg)
    exact ⟨g1, by rw [upd_ne hb]; exact g2, g3⟩
/-- what an owned thing is, once it is shared -/
def fvD : Fv → PyData
  | .d d => d
  | .l xs => .list xs
  | .la _ xs => .list xs
def frzD : Ob → PyData
  | .nst xss => .list (xss.map .list)
  | .ins C FS fs => insD C FS (fs.map fvD)
  | .dct ks ds => dctD ks ds
def ownD : Sl → PyData
  | .sh d => d
  | .ow _ xs => .list xs
  | .ob _ o => frzD o
  | .xn _ => .none
/-- H at A, else Hs -/
def mix (Hs H : Hp) (A : List Addr) : Hp := fun b => if b ∈ A then H b else Hs b
theorem mix_in {A : List Addr} {b : Addr} (m : b ∈ A) : mix Hs H A b = H b := if_pos m
theorem mix_out {A : List Addr} {b : Addr} (m : b ∉ A) : mix Hs H A b = Hs b := if_neg m
theorem mix_same {A : List Addr} (h : ∀ a ∈ A, Hs a = none) : Same Hs (mix Hs H A) := fun b o e => by
  rw [mix_out fun m => by rw [h b m] at e; cases e]
  exact e
theorem LsAt.dpm {vs : List V} {xss : List (List PyData)} {A : List Addr} (h : LsAt K Hs H vs xss A) (e : Same Hs Hs') (k : ∀ a ∈ A, Hs' a = H a) : DpAll K Hs' vs (xss.map PyData.list) := by
  induction h with
  | nil => exact .nil
  | cons h1 h2 _ ih => exact .cons (.lst (SqL.of ((k _ (List.mem_cons_self ..)).trans h1)) (h2.up e)) (ih fun a m => k a (List.mem_cons_of_mem _ m))
theorem FsAt.dpm {vs : List V} {fs : List Fv} {A : List Addr} (h : FsAt K Hs H vs fs A) (e : Same Hs Hs') (k : ∀ a ∈ A, Hs' a = H a) : DpAll K Hs' vs (fs.map fvD) := by
  induction h with
  | nil => exact .nil
  | @cons v f vs fs A B h1 _ ih =>
    refine .cons ?_ (ih fun a m => k a (List.mem_append_right _ m))
    cases h1 with
    | d h => exact h.up e
    | @l a ws xs h1 h2 => exact .lst (SqL.of ((k a (List.mem_append_left _ (List.mem_singleton.mpr rfl))).trans h1)) (h2.up e)
    | @la a ws xs h1 h2 => exact .lst (SqL.of ((k a (List.mem_append_left _ (List.mem_singleton.mpr rfl))).trans h1)) (h2.up e)
theorem At.dpm {v : V} {s : Sl} {A : List Addr} (h : At K Hs H v s A) (e : Same Hs Hs') (k : ∀ a ∈ A, Hs' a = H a) : Dp K Hs' v (ownD s) := by
  cases h with
  | @ow a p ws xs h1 h2 => exact .lst (SqL.of ((k a (List.mem_singleton.mpr rfl)).trans h1)) (h2.up e)
  | @nst a p vs xss A h1 h2 h3 => exact .lst (SqL.of ((k a (List.mem_cons_self ..)).trans h1)) (h2.dpm e fun b m => k b (List.mem_cons_of_mem _ m))
  | @ins a dx p C FS vs fs A h5 h6 h1 h2 h3 h4 =>
    refine .ins h5 ((k a (List.mem_cons_self ..)).trans h1) ((k dx (List.mem_cons_of_mem _ (List.mem_cons_self ..))).trans h2) h6 (h3.dpm e fun b m => k b (List.mem_cons_of_mem _ (List.mem_cons_of_mem _ m)))
  | @dct a p ks vs ds h1 h2 h3 => exact .dct ((k a (List.mem_singleton.mpr rfl)).trans h1) h2 (h3.up e)
/-- a new thing of one's own is shared -/
theorem FrA.share (R : Rl K Z Hs H σ δ) {v : V} {s : Sl} {A : List Addr} (h : FrA K Z Hs H σ δ v s A) : ∃ Hs', Same Hs Hs' ∧ Rl K Z Hs' H σ δ ∧ Dp K Hs' v (ownD s) := by
  have e1 : Same Hs (mix Hs H A) := mix_same h.hs
  refine ⟨mix Hs H A, e1, ⟨R.len, fun b x e => ?_, R.ext.trans e1, R.fr, fun b n => ?_, fun b e => ?_, fun i d e => ?_, ?_, fun b u mg => ?_, R.prm, R.exn⟩, h.at_.dpm e1 fun a m => mix_in m⟩
  · by_cases hb : b ∈ A
    · rw [mix_in hb] at e
      exact e
    · rw [mix_out hb] at e
      exact R.sub b x e
  · by_cases hb : b ∈ A
    · exact .inr (h.mine b hb).1
    · rw [mix_out hb] at n
      exact R.new b n
  · obtain ⟨z1, z2⟩ := R.hid b e
    rw [mix_out fun q => (h.mine b q).2 e]
    exact ⟨z1, z2⟩
  · obtain ⟨v, a, b⟩ := R.shr i d e
    exact ⟨v, a, b.up e1⟩
  · obtain ⟨f, F⟩ := R.fps
    refine ⟨f, ⟨fun i s e o => ?_, F.emp, fun i b mb => ?_, F.old, F.mine, F.dis, F.g⟩⟩
    · obtain ⟨u, k1, k2⟩ := F.at_ i s e o
      exact ⟨u, k1, k2.fr e1 fun _ _ => rfl⟩
    · rw [mix_out fun q => h.dis f F i b q mb]
      exact F.hs i b mb
  · obtain ⟨g1, g2, g3⟩ := R.grd b u mg
    exact ⟨g1, by rw [mix_out fun z => h.g b u z mg]; exact g2, g3⟩
end
end DL

namespace DL
open PySem PySem.Spec L2

/-! ### judgements by data -/
abbrev DE := DSt → (PyData → DSt → Prop) → Prop
abbrev DT := DSt → (Bool → DSt → Prop) → Prop
abbrev DL' := DSt → (List PyData → DSt → Prop) → Prop
def lE (K : Fg) (Z : Ent) (t : DE) : TE := fun σ H Q => ∃ Hs δ, Rl K Z Hs H σ δ ∧ t δ fun d δ' => ∀ v Hs' H', Same Hs Hs' → Rl K Z Hs' H' σ δ' → Dp K Hs' v d → Q v H'
def lT (K : Fg) (Z : Ent) (t : DT) : TT := fun σ H Q => ∃ Hs δ, Rl K Z Hs H σ δ ∧ t δ fun b δ' => ∀ Hs' H', Same Hs Hs' → Rl K Z Hs' H' σ δ' → Q b H'
def lO (K : Fg) (Z : Ent) (t : DL') : TE := fun σ H Q => ∃ Hs δ, Rl K Z Hs H σ δ ∧ t δ fun xs δ' => ∀ v Hs' H', Same Hs Hs' → Rl K Z Hs' H' σ δ' → FrO K Z Hs' H' σ δ' v xs → Q v H'
def lA (K : Fg) (Z : Ent) (t : DL') : TA := fun σ H Q => ∃ Hs δ, Rl K Z Hs H σ δ ∧ t δ fun ds δ' => ∀ vs Hs' H', Same Hs Hs' → Rl K Z Hs' H' σ δ' → DpAll K Hs' vs ds → Q vs H'
structure De (X : Cx) (Z : Ent) (e : Expr) (t : DE) : Prop where
  run : PE X e (lE X.K Z t)
  mono : ∀ (δ : DSt) (Q Q' : PyData → DSt → Prop), (∀ d δ', Q d δ' → Q' d δ') → t δ Q → t δ Q'
structure Dt (X : Cx) (Z : Ent) (e : Expr) (t : DT) : Prop where
  run : PT X e (lT X.K Z t)
  mono : ∀ (δ : DSt) (Q Q' : Bool → DSt → Prop), (∀ d δ', Q d δ' → Q' d δ') → t δ Q → t δ Q'
structure Dw (X : Cx) (Z : Ent) (e : Expr) (t : DT) : Prop where
  run : PW X e (lT X.K Z t)
  mono : ∀ (δ : DSt) (Q Q' : Bool → DSt → Prop), (∀ d δ', Q d δ' → Q' d δ') → t δ Q → t δ Q'
structure Do (X : Cx) (Z : Ent) (e : Expr) (t : DL') : Prop where
  run : PE X e (lO X.K Z t)
  mono : ∀ (δ : DSt) (Q Q' : List PyData → DSt → Prop), (∀ d δ', Q d δ' → Q' d δ') → t δ Q → t δ Q'
structure Da (X : Cx) (Z : Ent) (es : List Expr) (t : DL') : Prop where
  run : PA X es (lA X.K Z t)
  mono : ∀ (δ : DSt) (Q Q' : List PyData → DSt → Prop), (∀ d δ', Q d δ' → Q' d δ') → t δ Q → t δ Q'
theorem pe_imp {X : Cx} {e : Expr} {t t' : TE} (h : PE X e t) (i : ∀ σ H Q, t' σ H Q → t σ H Q) : PE X e t' := ⟨fun pins s σ H Q I h' => h.run pins s σ H Q I (i σ H Q h')⟩
theorem pt_imp {X : Cx} {e : Expr} {t t' : TT} (h : PT X e t) (i : ∀ σ H Q, t' σ H Q → t σ H Q) : PT X e t' := ⟨fun pins s σ H Q I h' => h.run pins s σ H Q I (i σ H Q h')⟩
theorem pw_imp {X : Cx} {e : Expr} {t t' : TT} (h : PW X e t) (i : ∀ σ H Q, t' σ H Q → t σ H Q) : PW X e t' := ⟨fun w pins s σ H Q I h' => h.run w pins s σ H Q I (i σ H Q h')⟩
theorem pa_imp {X : Cx} {e : List Expr} {t t' : TA} (h : PA X e t) (i : ∀ σ H Q, t' σ H Q → t σ H Q) : PA X e t' := ⟨fun p pins s σ H Q I h' => h.run p pins s σ H Q I (i σ H Q h')⟩
theorem ps_imp {X : Cx} {e : Stmt} {t t' : TS} (h : PS X e t) (i : ∀ D σ H, t' D σ H → t D σ H) : PS X e t' := ⟨fun pins s σ H D I h' => h.run pins s σ H D I (i D σ H h')⟩
theorem pss_imp {X : Cx} {e : List Stmt} {t t' : TS} (h : PSs X e t) (i : ∀ D σ H, t' D σ H → t D σ H) : PSs X e t' := ⟨fun pins s σ H D I h' => h.run pins s σ H D I (i D σ H h')⟩

section
variable {X : Cx} {Z : Ent} {pos : Pos}
/-! ### names, constants -/
/-- a name: shared data, or a list of one's own that is shared from here on -/
def dVar (i : Nat) : DE := fun δ Q => match δ[i]? with
  | some (some (.sh d)) => Q d δ
  | some (some (.ow false xs)) => Q (.list xs) (δ.set i (some (.sh (.list xs))))
  | _ => False
theorem de_var (i : Nat) {x : Str} (hN : X.N[i]? = some x := by rfl) (hv : Vis X.env.scope x := by first | exact Or.inl rfl | exact Or.inr (Or.inl rfl) | exact Or.inr (Or.inr rfl)) (hd : (x == ("__debug__" : Str)) = false := by decide)
    (hcd : (x == ("__classdict__" : Str)) = false := by decide) : De X Z (.Name x pos) (dVar i) := by
  refine ⟨pe_imp (pe_var hN hv hd hcd) fun σ H Q ⟨Hs, δ, R, h⟩ => ?_, fun δ Q Q' hq h => ?_⟩
  · unfold dVar at h
    split at h
    · rename_i d e
      obtain ⟨v, h1, h2⟩ := R.shr i d e
      exact ⟨v, h1, h v Hs H (Same.refl _) R h2⟩
    · rename_i xs e
      obtain ⟨v, h1, R1, f⟩ := R.move e
      obtain ⟨Hs', s1, R2, dp⟩ := f.share R1
      refine ⟨v, h1, h v Hs' H s1 ?_ dp⟩
      have R3 := R2.set (i := i) dp
      rw [set_self h1, List.set_set] at R3
      exact R3
    · exact h.elim
  · unfold dVar at h ⊢
    split at h
    · exact hq _ _ h
    · exact hq _ _ h
    · exact h
def dC (d : PyData) : DE := fun δ Q => Q d δ
theorem de_c {e : Expr} {v : V} {d : PyData} (h : PE X e (tC v)) (hd : ∀ H, Dp X.K H v d) : De X Z e (dC d) :=
  ⟨pe_imp h fun σ H Q ⟨Hs, δ, R, q⟩ => q v Hs H (Same.refl _) R (hd Hs), fun δ Q Q' hq h => hq _ _ h⟩
theorem de_int {i : Int} {j} : De X Z (.Constant (.int i) j pos) (dC (.int i)) := de_c pe_int fun _ => .int i
theorem de_bl {b : Bool} {j} : De X Z (.Constant (.bool b) j pos) (dC (.bool b)) := de_c pe_bl fun _ => .bl b
theorem de_non {j} : De X Z (.Constant .none j pos) (dC .none) := de_c pe_non fun _ => .non
theorem de_str {x : Str} {j} : De X Z (.Constant (.str x) j pos) (dC (.str x)) := de_c pe_str fun _ => .str x
/-- a constant of the module -/
theorem de_glob {x : Str} {v : V} {u : Value} {d : PyData} (hg : Gl X x) (hm : X.mg x = some u) (r : RelV v u) (hd : ∀ H, Dp X.K H v d) (hdb : (x == ("__debug__" : Str)) = false := by decide) : De X Z (.Name x pos) (dC d) := de_c (pe_glob hg hm r hdb) hd
/-- a new list shared at once -/
def dShare (t : DL') : DE := fun δ Q => t δ fun xs δ' => Q (.list xs) δ'
theorem Do.sh {e : Expr} {t : DL'} (h : Do X Z e t) : De X Z e (dShare t) := by
  refine ⟨pe_imp h.run fun σ H Q ⟨Hs, δ, R, q⟩ => ⟨Hs, δ, R, h.mono _ _ _ (fun xs δ' q v Hs' H' s1 R1 f => ?_) q⟩, fun δ Q Q' hq q => h.mono _ _ _ (fun _ _ z => hq _ _ z) q⟩
  obtain ⟨Hs2, s2, R2, dp⟩ := f.share R1
  exact q v Hs2 H' (s1.trans s2) R2 dp

/-! ### arguments, displays -/
def dNil : DL' := fun δ Q => Q [] δ
def dCons (t : DE) (r : DL') : DL' := fun δ Q => t δ fun d δ1 => r δ1 fun ds δ2 => Q (d :: ds) δ2
theorem da_nil : Da X Z [] dNil := ⟨pa_imp pa_nil fun σ H Q ⟨Hs, δ, R, q⟩ => q [] Hs H (Same.refl _) R .nil, fun δ Q Q' hq h => hq _ _ h⟩
theorem da_cons {e : Expr} {es : List Expr} {t : DE} {r : DL'} (h : De X Z e t) (hr : Da X Z es r) (hs : starEach (e :: es) X.env = (false, eval e X.env) :: starEach es X.env := by rfl) : Da X Z (e :: es) (dCons t r) := by
  refine ⟨pa_imp (pa_cons h.run hr.run hs) fun σ H Q ⟨Hs, δ, R, q⟩ => ⟨Hs, δ, R, h.mono _ _ _ (fun d δ1 q v Hs1 H1 s1 R1 dp => ⟨Hs1, δ1, R1, hr.mono _ _ _ (fun ds δ2 q vs Hs2 H2 s2 R2 dps => ?_) q⟩) q⟩,
    fun δ Q Q' hq q => h.mono _ _ _ (fun _ _ z => hr.mono _ _ _ (fun _ _ z => hq _ _ z) z) q⟩
  exact q (v :: vs) Hs2 H2 (s1.trans s2) R2 (.cons (dp.up s2) dps)
def dTup (t : DL') : DE := fun δ Q => t δ fun ds δ' => ds.length ≤ sizeLine ∧ Q (.tuple ds) δ'
theorem de_tup {es : List Expr} {t : DL'} {x1} (h : Da X Z es t) : De X Z (.Tuple es x1 pos) (dTup t) := by
  refine ⟨pe_imp (pe_tup h.run) fun σ H Q ⟨Hs, δ, R, q⟩ => ⟨Hs, δ, R, h.mono _ _ _ (fun ds δ1 q vs Hs1 H1 s1 R1 dps => ⟨by rw [dps.len]; exact q.1, fun p np => ?_⟩) q⟩, fun δ Q Q' hq q => h.mono _ _ _ (fun _ _ z => ⟨z.1, hq _ _ z.2⟩) q⟩
  have s2 : Same Hs1 (upd Hs1 p (.tup vs)) := same_new (R1.hsn np)
  exact q.2 (.ref p) _ _ (s1.trans s2) (R1.alloc np) (.tup (SqT.of upd_same) (dps.up s2))
def dLst (t : DL') : DL' := fun δ Q => t δ fun ds δ' => ds.length ≤ sizeLine ∧ Q ds δ'
theorem do_lst {es : List Expr} {t : DL'} (h : Da X Z es t) : Do X Z (.List es pos) (dLst t) := by
  refine ⟨pe_imp (pe_lst h.run) fun σ H Q ⟨Hs, δ, R, q⟩ => ⟨Hs, δ, R, h.mono _ _ _ (fun ds δ1 q vs Hs1 H1 s1 R1 dps => ⟨by rw [dps.len]; exact q.1, fun p np => ?_⟩) q⟩, fun δ Q Q' hq q => h.mono _ _ _ (fun _ _ z => ⟨z.1, hq _ _ z.2⟩) q⟩
  exact q.2 (.ref p) Hs1 _ s1 (R1.allocO np) (FrO.new R1 np dps)

/-! ### operators -/
abbrev D2 := PyData → PyData → (PyData → Prop) → Prop
structure OpD (X : Cx) (Z : Ent) (f : Value → Value → Sem Value) (r : D2) : Prop where
  ex : ∃ r0 : R2, OpR X f r0 ∧ ∀ (d e : PyData) (x y : V) (Hs H : Hp) (σ : St) (δ : DSt) (Q : VK), Rl X.K Z Hs H σ δ → Dp X.K Hs x d → Dp X.K Hs y e →
    r d e (fun z => ∀ v Hs' H', Same Hs Hs' → Rl X.K Z Hs' H' σ δ → Dp X.K Hs' v z → Q v H') → r0 x y H Q
  mono : ∀ (d e : PyData) (Q Q' : PyData → Prop), (∀ z, Q z → Q' z) → r d e Q → r d e Q'
theorem OpD.or {f : Value → Value → Sem Value} {r r' : D2} (h : OpD X Z f r) (h' : OpD X Z f r') : OpD X Z f (fun d e Q => r d e Q ∨ r' d e Q) := by
  obtain ⟨r0, a, b⟩ := h.ex
  obtain ⟨r1, a', b'⟩ := h'.ex
  refine ⟨⟨_, a.or a', fun d e x y Hs H σ δ Q R dx dy q => ?_⟩, fun d e Q Q' hq q => ?_⟩
  · rcases q with q | q
    · exact .inl (b d e x y Hs H σ δ Q R dx dy q)
    · exact .inr (b' d e x y Hs H σ δ Q R dx dy q)
  · rcases q with q | q
    · exact .inl (h.mono d e Q Q' hq q)
    · exact .inr (h'.mono d e Q Q' hq q)
theorem OpD.imp {f : Value → Value → Sem Value} {r r' : D2} (h : OpD X Z f r) (i : ∀ d e Q, r' d e Q → r d e Q) (m : ∀ (d e : PyData) (Q Q' : PyData → Prop), (∀ z, Q z → Q' z) → r' d e Q → r' d e Q') : OpD X Z f r' := by
  obtain ⟨r0, a, b⟩ := h.ex
  exact ⟨⟨r0, a, fun d e x y Hs H σ δ Q R dx dy q => b d e x y Hs H σ δ Q R dx dy (i _ _ _ q)⟩, m⟩
def dOp (r : D2) (ta tb : DE) : DE := fun δ Q => ta δ fun d δ1 => tb δ1 fun e δ2 => r d e fun z => Q z δ2
theorem de_opP {a b e : Expr} {ta tb : DE} {r : D2} {f : Value → Value → Sem Value} (ho : OpD X Z f r) (ha : De X Z a ta) (hb : De X Z b tb) (hp : ∀ r0 : R2, OpR X f r0 → PE X e (tOp r0 (lE X.K Z ta) (lE X.K Z tb))) : De X Z e (dOp r ta tb) := by
  obtain ⟨r0, h0, h1⟩ := ho.ex
  refine ⟨pe_imp (hp r0 h0) fun σ H Q ⟨Hs, δ, R, q⟩ => ⟨Hs, δ, R, ha.mono _ _ _ (fun d δ1 q v Hs1 H1 s1 R1 dp => ⟨Hs1, δ1, R1, hb.mono _ _ _ (fun d2 δ2 q v2 Hs2 H2 s2 R2 dp2 => ?_) q⟩) q⟩,
    fun δ Q Q' hq q => ha.mono _ _ _ (fun _ _ z => hb.mono _ _ _ (fun _ _ z => ho.mono _ _ _ _ (fun _ z => hq _ _ z) z) z) q⟩
  refine h1 d d2 v v2 Hs2 H2 σ δ2 Q R2 (dp.up s2) dp2 (ho.mono _ _ _ _ (fun z q v3 Hs3 H3 s3 R3 dp3 => ?_) q)
  exact q v3 Hs3 H3 ((s1.trans s2).trans s3) R3 dp3
theorem de_op {a b : Expr} {ta tb : DE} {r : D2} {op : Operator} (ho : OpD X Z (binaryOp op) r) (ha : De X Z a ta) (hb : De X Z b tb) : De X Z (.BinOp a op b pos) (dOp r ta tb) := de_opP ho ha hb fun _ h => pe_op h ha.run hb.run
theorem de_cmp {a b : Expr} {ta tb : DE} {r : D2} {op : CmpOp} (ho : OpD X Z (compareOp op) r) (ha : De X Z a ta) (hb : De X Z b tb) (hm : behindInMarks op b = false := by first | exact nomark _ | rfl) : De X Z (.Compare a [op] [b] pos) (dOp r ta tb) := de_opP ho ha hb fun _ h => pe_cmpR h ha.run hb.run hm
/-- two ints -/
def rII (C : Int → Int → Prop) (g : Int → Int → PyData) : D2 := fun d e Q => match d, e with
  | .int i, .int j => C i j ∧ Q (g i j)
  | _, _ => False
theorem rII_mono {C : Int → Int → Prop} {g : Int → Int → PyData} (d e : PyData) (Q Q' : PyData → Prop) (h : ∀ z, Q z → Q' z) (q : rII C g d e Q) : rII C g d e Q' := by
  unfold rII at q ⊢
  split at q
  · exact ⟨q.1, h _ q.2⟩
  · exact q
theorem opd_I {f : Value → Value → Sem Value} {C : Int → Int → Prop} {g : Int → Int → V} {g' : Int → Int → PyData} (h : OpR X f (rI C g)) (hd : ∀ i j H, Dp X.K H (g i j) (g' i j)) : OpD X Z f (rII C g') := by
  refine ⟨⟨_, h, fun d e x y Hs H σ δ Q R dx dy q => ?_⟩, rII_mono⟩
  unfold rII at q
  split at q
  · rename_i i j
    cases dx
    cases dy
    exact ⟨i, j, rfl, rfl, q.1, q.2 _ Hs H (Same.refl _) R (hd i j Hs)⟩
  · exact q.elim
theorem opd_I0 {f : Value → Value → Sem Value} {g : Int → Int → V} {g' : Int → Int → PyData} (h : OpR X f (rI0 g)) (hd : ∀ i j H, Dp X.K H (g i j) (g' i j)) : OpD X Z f (rII (fun _ _ => True) g') := by
  refine ⟨⟨_, h, fun d e x y Hs H σ δ Q R dx dy q => ?_⟩, rII_mono⟩
  unfold rII at q
  split at q
  · rename_i i j
    cases dx
    cases dy
    exact ⟨i, j, rfl, rfl, q.2 _ Hs H (Same.refl _) R (hd i j Hs)⟩
  · exact q.elim
abbrev rAddI : D2 := rII (fun _ _ => True) fun i j => .int (i + j)
abbrev rSubI : D2 := rII (fun _ _ => True) fun i j => .int (i - j)
abbrev rMulI : D2 := rII CMulW fun i j => .int (i * j)
/-- // by a divisor other than 0, of less than 9000 bits -/
def CDivA (_ j : Int) : Prop := j ≠ 0 ∧ j.natAbs.log2 < 9000
abbrev rDivI : D2 := rII CDivA fun i j => .int (i.fdiv j)
abbrev rModI : D2 := rII (fun _ j => j ≠ 0) fun i j => .int (i.fmod j)
abbrev rShlI : D2 := rII CPow fun i j => .int (i * 2 ^ j.toNat)
theorem op_fdivA : OpR X (binaryOp .FloorDiv) (rI CDivA fun i j => .int (i.fdiv j)) := opI fun i j _ _ _ _ _ hc q => PyProof.Rows.floordiv_int hc.1 q (.inl (PyProof.noPylong_of_log2 hc.2))
theorem od_add : OpD X Z (binaryOp .Add) rAddI := opd_I0 op_add fun _ _ _ => .int _
theorem od_sub : OpD X Z (binaryOp .Sub) rSubI := opd_I0 op_sub fun _ _ _ => .int _
theorem od_mul : OpD X Z (binaryOp .Mult) rMulI := opd_I op_mulW fun _ _ _ => .int _
theorem od_div : OpD X Z (binaryOp .FloorDiv) rDivI := opd_I op_fdivA fun _ _ _ => .int _
theorem od_mod : OpD X Z (binaryOp .Mod) rModI := opd_I op_modN fun _ _ _ => .int _
theorem od_shl : OpD X Z (binaryOp .LShift) rShlI := opd_I op_shl fun _ _ _ => .int _
theorem od_lt : OpD X Z (compareOp .Lt) (rII (fun _ _ => True) fun i j => .bool (decide (i < j))) := opd_I0 op_lt fun _ _ _ => .bl _
theorem od_gt : OpD X Z (compareOp .Gt) (rII (fun _ _ => True) fun i j => .bool (decide (j < i))) := opd_I0 op_gt fun _ _ _ => .bl _
theorem od_ge : OpD X Z (compareOp .GtE) (rII (fun _ _ => True) fun i j => .bool (decide (j ≤ i))) := opd_I0 op_ge fun _ _ _ => .bl _
def rEqq : D2 := fun d e Q => SeqAt.shaped d = true ∧ SeqAt.shaped e = true ∧ Q (.bool (PyData.eqv d e))
def rNeq : D2 := fun d e Q => SeqAt.shaped d = true ∧ SeqAt.shaped e = true ∧ Q (.bool (!PyData.eqv d e))
theorem Rl.up {K : Fg} {Hs H : Hp} {σ : St} {δ : DSt} {v : V} {d : PyData} (R : Rl K Z Hs H σ δ) (h : Dp K Hs v d) : Dp K H v d := h.up R.sub
theorem od_eq (hu : X.A.units + 64 < cLine) : OpD X Z (compareOp .Eq) rEqq :=
  ⟨⟨_, op_eqD hu, fun d e x y Hs H σ δ Q R dx dy q => ⟨d, e, (R.up dx).lb q.1, (R.up dy).lb q.2.1, q.1, q.2.1, q.2.2 _ Hs H (Same.refl _) R (.bl _)⟩⟩, fun d e Q Q' hq q => ⟨q.1, q.2.1, hq _ q.2.2⟩⟩
theorem od_ne (hu : X.A.units + 64 < cLine) : OpD X Z (compareOp .NotEq) rNeq :=
  ⟨⟨_, op_neD hu, fun d e x y Hs H σ δ Q R dx dy q => ⟨d, e, (R.up dx).lb q.1, (R.up dy).lb q.2.1, q.1, q.2.1, q.2.2 _ Hs H (Same.refl _) R (.bl _)⟩⟩, fun d e Q Q' hq q => ⟨q.1, q.2.1, hq _ q.2.2⟩⟩
/-- is None -/
def isNone : PyData → Bool
  | .none => true
  | _ => false
/-- a subscript -/
def rIx : D2 := fun d e Q => match d, e with
  | .tuple xs, .int i => ∃ z, atI xs i = some z ∧ Q z
  | .list xs, .int i => ∃ z, atI xs i = some z ∧ Q z
  | _, _ => False
theorem atI_dp {K : Fg} {H : Hp} {vs : List V} {ds : List PyData} {i : Int} {z : PyData} (h : DpAll K H vs ds) (e : atI ds i = some z) : ∃ v, atI vs i = some v ∧ Dp K H v z := by
  unfold atI at e ⊢
  rw [h.len]
  cases q : ixN ds.length i with
  | none => rw [q] at e; cases e
  | some j =>
    rw [q] at e
    exact h.get e
theorem de_ix {a b : Expr} {ta tb : DE} (ha : De X Z a ta) (hb : De X Z b tb) (hs : PlainIx b := by exact fun _ _ => rfl) : De X Z (.Subscript a b pos) (dOp rIx ta tb) := by
  have mono : ∀ (d e : PyData) (Q Q' : PyData → Prop), (∀ z, Q z → Q' z) → rIx d e Q → rIx d e Q' := fun d e Q Q' hq q => by
    unfold rIx at q ⊢
    split at q
    · obtain ⟨z, a, b⟩ := q
      exact ⟨z, a, hq _ b⟩
    · obtain ⟨z, a, b⟩ := q
      exact ⟨z, a, hq _ b⟩
    · exact q
  refine ⟨pe_imp (pe_ix ix_seq ha.run hb.run hs) fun σ H Q ⟨Hs, δ, R, q⟩ => ⟨Hs, δ, R, ha.mono _ _ _ (fun d δ1 q v Hs1 H1 s1 R1 dp => ⟨Hs1, δ1, R1, hb.mono _ _ _ (fun d2 δ2 q v2 Hs2 H2 s2 R2 dp2 => ?_) q⟩) q⟩,
    fun δ Q Q' hq q => ha.mono _ _ _ (fun _ _ z => hb.mono _ _ _ (fun _ _ z => mono _ _ _ _ (fun _ z => hq _ _ z) z) z) q⟩
  unfold rIx at q
  split at q
  · rename_i xs i
    obtain ⟨z, e, q⟩ := q
    cases dp2
    cases dp.up s2 with
    | tup hs ha =>
      obtain ⟨v, e1, e2⟩ := atI_dp ha e
      exact .inr (.inl ⟨_, _, _, v, rfl, rfl, sqt_mono R2.sub hs, e1, q v Hs2 H2 (s1.trans s2) R2 e2⟩)
  · rename_i xs i
    obtain ⟨z, e, q⟩ := q
    cases dp2
    cases dp.up s2 with
    | lst hs ha =>
      obtain ⟨v, e1, e2⟩ := atI_dp ha e
      exact .inl ⟨_, _, _, v, rfl, rfl, R2.sub.seq hs, e1, q v Hs2 H2 (s1.trans s2) R2 e2⟩
  · exact q.elim
/-- a subscript of a name: a list of one's own, or shared -/
def dIxO (i : Nat) (tb : DE) : DE := fun δ Q => match δ[i]? with
  | some (some _) => tb δ fun e δ' => match e, δ'[i]? with
    | .int j, some (some (.ow _ xs)) => ∃ z, atI xs j = some z ∧ Q z δ'
    | .int j, some (some (.sh d)) => rIx d (.int j) fun z => Q z δ'
    | _, _ => False
  | _ => False
theorem rIx_mono (d e : PyData) (Q Q' : PyData → Prop) (hq : ∀ z, Q z → Q' z) (q : rIx d e Q) : rIx d e Q' := by
  unfold rIx at q ⊢
  split at q
  · obtain ⟨z, a, b⟩ := q
    exact ⟨z, a, hq _ b⟩
  · obtain ⟨z, a, b⟩ := q
    exact ⟨z, a, hq _ b⟩
  · exact q
theorem ix_run {Hs H : Hp} {σ : St} {δ : DSt} {x y : V} {d e : PyData} {Q : VK} (R : Rl X.K Z Hs H σ δ) (dx : Dp X.K Hs x d) (dy : Dp X.K Hs y e) (q : rIx d e fun z => ∀ v, Dp X.K Hs v z → Q v H) : L2.rIx X.K x y H Q := by
  unfold rIx at q
  split at q
  · rename_i xs i
    obtain ⟨z, e, q⟩ := q
    cases dy
    cases dx with
    | tup hs ha =>
      obtain ⟨v, e1, e2⟩ := atI_dp ha e
      exact .inr (.inl ⟨_, _, _, v, rfl, rfl, sqt_mono R.sub hs, e1, q v e2⟩)
  · rename_i xs i
    obtain ⟨z, e, q⟩ := q
    cases dy
    cases dx with
    | lst hs ha =>
      obtain ⟨v, e1, e2⟩ := atI_dp ha e
      exact .inl ⟨_, _, _, v, rfl, rfl, R.sub.seq hs, e1, q v e2⟩
  · exact q.elim
theorem Rl.thereS {K : Fg} {Hs H : Hp} {σ : St} {δ : DSt} (R : Rl K Z Hs H σ δ) {i : Nat} {s : Sl} (h : δ[i]? = some (some s)) : ∃ v, σ[i]? = some (some v) := by
  cases s with
  | sh d => obtain ⟨v, e, _⟩ := R.shr i d h; exact ⟨v, e⟩
  | ow p xs => obtain ⟨a, _, e, _⟩ := R.own i p xs h; exact ⟨_, e⟩
  | ob p o =>
    obtain ⟨f, F⟩ := R.fps
    obtain ⟨v, e, _⟩ := F.at_ i _ h rfl
    exact ⟨v, e⟩
  | xn C => obtain ⟨a, e, _⟩ := R.exn i C h; exact ⟨_, e⟩
theorem de_ixo (i : Nat) {x : Str} {b : Expr} {tb : DE} {p1 : Pos} (hb : De X Z b tb) (hN : X.N[i]? = some x := by rfl) (hv : Vis X.env.scope x := by first | exact Or.inl rfl | exact Or.inr (Or.inl rfl) | exact Or.inr (Or.inr rfl)) (hs : PlainIx b := by exact fun _ _ => rfl)
    (hd : (x == ("__debug__" : Str)) = false := by decide) (hcd : (x == ("__classdict__" : Str)) = false := by decide) : De X Z (.Subscript (.Name x p1) b pos) (dIxO i tb) := by
  refine ⟨pe_imp (pe_ix ix_seq (pe_var hN hv hd hcd) hb.run hs) fun σ H Q ⟨Hs, δ, R, q⟩ => ?_, fun δ Q Q' hq q => ?_⟩
  · unfold dIxO at q
    split at q
    · rename_i s0 e0
      obtain ⟨v0, hv⟩ := R.thereS e0
      refine ⟨_, hv, Hs, δ, R, hb.mono _ _ _ (fun d2 δ2 q v2 Hs2 H2 s2 R2 dp2 => ?_) q⟩
      split at q
      · rename_i j pp xs e
        obtain ⟨z, e1, q⟩ := q
        obtain ⟨a, ws, h1, h2, h3, h4⟩ := R2.own _ _ _ e
        rw [hv] at h1
        cases h1
        cases dp2
        obtain ⟨v, e2, e3⟩ := atI_dp h4 e1
        exact .inl ⟨_, _, _, v, rfl, rfl, SqL.of h2, e2, q v Hs2 H2 s2 R2 e3⟩
      · rename_i j d e
        obtain ⟨v, h1, h2⟩ := R2.shr _ _ e
        rw [hv] at h1
        cases h1
        exact ix_run R2 h2 dp2 (rIx_mono _ _ _ _ (fun z q v dv => q v Hs2 H2 s2 R2 dv) q)
      · exact q.elim
    · exact q.elim
  · unfold dIxO at q ⊢
    split at q
    · refine hb.mono _ _ _ (fun d δ' z => ?_) q
      split at z
      · obtain ⟨w, a, b⟩ := z
        exact ⟨w, a, hq _ _ b⟩
      · exact rIx_mono _ _ _ _ (fun _ z => hq _ _ z) z
      · exact z
    · exact q
end
end DL

namespace DL
open PySem PySem.Spec L2
section
variable {X : Cx} {Z : Ent} {pos : Pos}
/-! ### truth -/
def tru : PyData → Option Bool
  | .none => some false
  | .bool b => some b
  | .int i => some (i != 0)
  | .str y => if y.length ≤ sizeLine then some ((y.length : Int) != 0) else none
  | .list xs => some (!xs.isEmpty)
  | .tuple xs => some (!xs.isEmpty)
  | .dict _ => none
theorem isEmpty_dp {K : Fg} {H : Hp} {vs : List V} {ds : List PyData} (h : DpAll K H vs ds) : vs.isEmpty = ds.isEmpty := by
  cases h <;> rfl
theorem tru_dp {K : Fg} {H : Hp} {v : V} {d : PyData} {k : Bool} (h : Dp K H v d) (e : tru d = some k) : TruV K v H k := by
  cases h with
  | non => exact (Option.some.inj e).symm
  | bl b => exact (Option.some.inj e).symm
  | int i => exact (Option.some.inj e).symm
  | str x =>
    have e' : (if x.length ≤ sizeLine then some ((x.length : Int) != 0) else none) = some k := e
    split at e'
    · rename_i hl
      exact ⟨hl, (Option.some.inj e').symm⟩
    · cases e'
  | lst hs ha => exact .inl ⟨_, hs, by rw [isEmpty_dp ha]; exact (Option.some.inj e).symm⟩
  | tup hs ha => exact .inr (.inl ⟨_, hs, by rw [isEmpty_dp ha]; exact (Option.some.inj e).symm⟩)
  | ins _ _ _ _ _ => exact nomatch e
  | dct _ _ _ => exact nomatch e
  | fn _ => exact nomatch e
  | any _ => exact nomatch e
  | adr _ => exact nomatch e
def dTru (t : DE) : DT := fun δ Q => t δ fun d δ' => ∃ k, tru d = some k ∧ Q k δ'
theorem dt_val {a : Expr} {t : DE} (h : De X Z a t) (he : ∀ whole, isTrue a X.env whole = (do let v ← whole; standAt a.pos; holding [v] (truthy v)) := by intro _; rfl) : Dt X Z a (dTru t) := by
  refine ⟨pt_imp (pt_truth h.run he) fun σ H Q ⟨Hs, δ, R, q⟩ => ⟨Hs, δ, R, h.mono _ _ _ (fun d δ1 q v Hs1 H1 s1 R1 dp => ?_) q⟩, fun δ Q Q' hq q => h.mono _ _ _ (fun d δ' ⟨k, e, z⟩ => ⟨k, e, hq _ _ z⟩) q⟩
  obtain ⟨k, e, q⟩ := q
  exact ⟨k, tru_dp (R1.up dp) e, q Hs1 H1 s1 R1⟩
/-- a comparison as a test: it gives a truth -/
def dTst (t : DE) : DT := fun δ Q => t δ fun d δ' => match d with
  | .bool k => Q k δ'
  | _ => False
theorem dt_cmpP {e : Expr} {t : DE} {t0 : TE} (h : De X Z e t) (hp : PT X e (tTest t0)) (hi : ∀ σ H Q, lE X.K Z t σ H Q → t0 σ H Q) : Dt X Z e (dTst t) := by
  refine ⟨pt_imp hp fun σ H Q ⟨Hs, δ, R, q⟩ => hi _ _ _ ⟨Hs, δ, R, h.mono _ _ _ (fun d δ1 q v Hs1 H1 s1 R1 dp => ?_) q⟩, fun δ Q Q' hq q => h.mono _ _ _ (fun d δ' z => ?_) q⟩
  · split at q
    · cases dp
      exact ⟨_, rfl, q Hs1 H1 s1 R1⟩
    · exact q.elim
  · split at z
    · exact hq _ _ z
    · exact z
theorem lE_op {ta tb : DE} {r : D2} {r0 : R2} {a b : Expr} (ha : De X Z a ta) (hb : De X Z b tb) (hm : ∀ (d e : PyData) (Q Q' : PyData → Prop), (∀ z, Q z → Q' z) → r d e Q → r d e Q') (h1 : ∀ (d e : PyData) (x y : V) (Hs H : Hp) (σ : St) (δ : DSt) (Q : VK), Rl X.K Z Hs H σ δ → Dp X.K Hs x d → Dp X.K Hs y e →
    r d e (fun z => ∀ v Hs' H', Same Hs Hs' → Rl X.K Z Hs' H' σ δ → Dp X.K Hs' v z → Q v H') → r0 x y H Q) : ∀ σ H Q, lE X.K Z (dOp r ta tb) σ H Q → tOp r0 (lE X.K Z ta) (lE X.K Z tb) σ H Q := fun σ H Q ⟨Hs, δ, R, q⟩ => by
  refine ⟨Hs, δ, R, ha.mono _ _ _ (fun d δ1 q v Hs1 H1 s1 R1 dp => ⟨Hs1, δ1, R1, hb.mono _ _ _ (fun d2 δ2 q v2 Hs2 H2 s2 R2 dp2 => ?_) q⟩) q⟩
  refine h1 d d2 v v2 Hs2 H2 σ δ2 Q R2 (dp.up s2) dp2 (hm _ _ _ _ (fun z q v3 Hs3 H3 s3 R3 dp3 => ?_) q)
  exact q v3 Hs3 H3 ((s1.trans s2).trans s3) R3 dp3
theorem dt_cmp {a b : Expr} {ta tb : DE} {r : D2} {op : CmpOp} (ho : OpD X Z (compareOp op) r) (ha : De X Z a ta) (hb : De X Z b tb) (hm : behindInMarks op b = false := by first | exact nomark _ | rfl) : Dt X Z (.Compare a [op] [b] pos) (dTst (dOp r ta tb)) := by
  obtain ⟨r0, h0, h1⟩ := ho.ex
  exact dt_cmpP (de_cmp ho ha hb hm) (pt_cmpR h0 ha.run hb.run hm) (lE_op ha hb ho.mono h1)
/-! ### and, or, not as tests -/
def dAnd (t u : DT) : DT := fun δ Q => t δ fun c δ1 => match c with
  | true => u δ1 Q
  | false => Q false δ1
def dOr (t u : DT) : DT := fun δ Q => t δ fun c δ1 => match c with
  | true => Q true δ1
  | false => u δ1 Q
def dNot (t : DT) : DT := fun δ Q => t δ fun c δ1 => Q (!c) δ1
theorem Dw.pt {e : Expr} {t : DT} (h : Dw X Z e t) : Dt X Z e t := ⟨h.run.pt, h.mono⟩
theorem dw_and1 {a : Expr} {t : DT} (h : Dt X Z a t) : Dw X Z (.BoolOp .And [a] pos) t := ⟨pw_and1 h.run, h.mono⟩
theorem dw_or1 {a : Expr} {t : DT} (h : Dt X Z a t) : Dw X Z (.BoolOp .Or [a] pos) t := ⟨pw_or1 h.run, h.mono⟩
theorem dw_and {a b : Expr} {rest : List Expr} {t u : DT} (h : Dt X Z a t) (h2 : Dw X Z (.BoolOp .And (b :: rest) pos) u) : Dw X Z (.BoolOp .And (a :: b :: rest) pos) (dAnd t u) := by
  refine ⟨pw_imp (pw_and h.run h2.run) fun σ H Q ⟨Hs, δ, R, q⟩ => ⟨Hs, δ, R, h.mono _ _ _ (fun c δ1 q Hs1 H1 s1 R1 => ?_) q⟩, fun δ Q Q' hq q => h.mono _ _ _ (fun c δ' z => ?_) q⟩
  · cases c with
    | true =>
      rw [if_pos rfl]
      exact ⟨Hs1, δ1, R1, h2.mono _ _ _ (fun c δ2 q Hs2 H2 s2 R2 => q Hs2 H2 (s1.trans s2) R2) q⟩
    | false =>
      rw [if_neg Bool.false_ne_true]
      exact q Hs1 H1 s1 R1
  · cases c with
    | true => exact h2.mono _ _ _ hq z
    | false => exact hq _ _ z
theorem dw_or {a b : Expr} {rest : List Expr} {t u : DT} (h : Dt X Z a t) (h2 : Dw X Z (.BoolOp .Or (b :: rest) pos) u) : Dw X Z (.BoolOp .Or (a :: b :: rest) pos) (dOr t u) := by
  refine ⟨pw_imp (pw_or h.run h2.run) fun σ H Q ⟨Hs, δ, R, q⟩ => ⟨Hs, δ, R, h.mono _ _ _ (fun c δ1 q Hs1 H1 s1 R1 => ?_) q⟩, fun δ Q Q' hq q => h.mono _ _ _ (fun c δ' z => ?_) q⟩
  · cases c with
    | true =>
      rw [if_pos rfl]
      exact q Hs1 H1 s1 R1
    | false =>
      rw [if_neg Bool.false_ne_true]
      exact ⟨Hs1, δ1, R1, h2.mono _ _ _ (fun c δ2 q Hs2 H2 s2 R2 => q Hs2 H2 (s1.trans s2) R2) q⟩
  · cases c with
    | true => exact hq _ _ z
    | false => exact h2.mono _ _ _ hq z
theorem dt_not {a : Expr} {t : DT} (h : Dt X Z a t) : Dt X Z (.UnaryOp .Not a pos) (dNot t) :=
  ⟨pt_imp (pt_not h.run) fun σ H Q ⟨Hs, δ, R, q⟩ => ⟨Hs, δ, R, q⟩, fun δ Q Q' hq q => h.mono _ _ _ (fun c δ' z => hq _ _ z) q⟩
/-! ### and, or, not as values -/
def dAndV (t u : DE) : DE := fun δ Q => t δ fun d δ1 => ∃ k, tru d = some k ∧ match k with
  | true => u δ1 Q
  | false => Q d δ1
def dOrV (t u : DE) : DE := fun δ Q => t δ fun d δ1 => ∃ k, tru d = some k ∧ match k with
  | true => Q d δ1
  | false => u δ1 Q
def dNotV (t : DE) : DE := fun δ Q => t δ fun d δ1 => ∃ k, tru d = some k ∧ Q (.bool (!k)) δ1
theorem de_one {a : Expr} {t : DE} {op} (h : De X Z a t) : De X Z (.BoolOp op [a] pos) t := ⟨pe_one h.run, h.mono⟩
theorem de_and {a b : Expr} {rest : List Expr} {t u : DE} (h : De X Z a t) (h2 : De X Z (.BoolOp .And (b :: rest) pos) u) : De X Z (.BoolOp .And (a :: b :: rest) pos) (dAndV t u) := by
  refine ⟨pe_imp (pe_andT h.run h2.run) fun σ H Q ⟨Hs, δ, R, q⟩ => ⟨Hs, δ, R, h.mono _ _ _ (fun d δ1 q v Hs1 H1 s1 R1 dp => ?_) q⟩, fun δ Q Q' hq q => h.mono _ _ _ (fun d δ' z => ?_) q⟩
  · obtain ⟨k, e, q⟩ := q
    refine ⟨k, tru_dp (R1.up dp) e, ?_⟩
    cases k with
    | true =>
      rw [if_pos rfl]
      exact ⟨Hs1, δ1, R1, h2.mono _ _ _ (fun c δ2 q v2 Hs2 H2 s2 R2 dp2 => q v2 Hs2 H2 (s1.trans s2) R2 dp2) q⟩
    | false =>
      rw [if_neg Bool.false_ne_true]
      exact q v Hs1 H1 s1 R1 dp
  · obtain ⟨k, e, z⟩ := z
    refine ⟨k, e, ?_⟩
    cases k with
    | true => exact h2.mono _ _ _ hq z
    | false => exact hq _ _ z
theorem de_or {a b : Expr} {rest : List Expr} {t u : DE} (h : De X Z a t) (h2 : De X Z (.BoolOp .Or (b :: rest) pos) u) : De X Z (.BoolOp .Or (a :: b :: rest) pos) (dOrV t u) := by
  refine ⟨pe_imp (pe_orT h.run h2.run) fun σ H Q ⟨Hs, δ, R, q⟩ => ⟨Hs, δ, R, h.mono _ _ _ (fun d δ1 q v Hs1 H1 s1 R1 dp => ?_) q⟩, fun δ Q Q' hq q => h.mono _ _ _ (fun d δ' z => ?_) q⟩
  · obtain ⟨k, e, q⟩ := q
    refine ⟨k, tru_dp (R1.up dp) e, ?_⟩
    cases k with
    | true =>
      rw [if_pos rfl]
      exact q v Hs1 H1 s1 R1 dp
    | false =>
      rw [if_neg Bool.false_ne_true]
      exact ⟨Hs1, δ1, R1, h2.mono _ _ _ (fun c δ2 q v2 Hs2 H2 s2 R2 dp2 => q v2 Hs2 H2 (s1.trans s2) R2 dp2) q⟩
  · obtain ⟨k, e, z⟩ := z
    refine ⟨k, e, ?_⟩
    cases k with
    | true => exact hq _ _ z
    | false => exact h2.mono _ _ _ hq z
theorem de_not {a : Expr} {t : DE} (h : De X Z a t) : De X Z (.UnaryOp .Not a pos) (dNotV t) := by
  refine ⟨pe_imp (pe_notT h.run) fun σ H Q ⟨Hs, δ, R, q⟩ => ⟨Hs, δ, R, h.mono _ _ _ (fun d δ1 q v Hs1 H1 s1 R1 dp => ?_) q⟩, fun δ Q Q' hq q => h.mono _ _ _ (fun d δ' ⟨k, e, z⟩ => ⟨k, e, hq _ _ z⟩) q⟩
  obtain ⟨k, e, q⟩ := q
  exact ⟨k, tru_dp (R1.up dp) e, q _ Hs1 H1 s1 R1 (.bl _)⟩
def dNeg (t : DE) : DE := fun δ Q => t δ fun d δ' => match d with
  | .int i => Q (.int (-i)) δ'
  | _ => False
theorem de_neg {a : Expr} {t : DE} (h : De X Z a t) : De X Z (.UnaryOp .USub a pos) (dNeg t) := by
  refine ⟨pe_imp (pe_un un_neg h.run) fun σ H Q ⟨Hs, δ, R, q⟩ => ⟨Hs, δ, R, h.mono _ _ _ (fun d δ1 q v Hs1 H1 s1 R1 dp => ?_) q⟩, fun δ Q Q' hq q => h.mono _ _ _ (fun d δ' z => ?_) q⟩
  · split at q
    · cases dp
      exact ⟨_, rfl, q _ Hs1 H1 s1 R1 (.int _)⟩
    · exact q.elim
  · split at z
    · exact hq _ _ z
    · exact z
/-! ### if .. else -/
def dIf (c : DT) (t u : DE) : DE := fun δ Q => c δ fun k δ1 => match k with
  | true => t δ1 Q
  | false => u δ1 Q
theorem de_if {c a b : Expr} {tc : DT} {ta tb : DE} (hc : Dt X Z c tc) (ha : De X Z a ta) (hb : De X Z b tb) : De X Z (.IfExp c a b pos) (dIf tc ta tb) := by
  refine ⟨pe_imp (pe_ifExp hc.run ha.run hb.run) fun σ H Q ⟨Hs, δ, R, q⟩ => ⟨Hs, δ, R, hc.mono _ _ _ (fun k δ1 q Hs1 H1 s1 R1 => ?_) q⟩, fun δ Q Q' hq q => hc.mono _ _ _ (fun k δ' z => ?_) q⟩
  · cases k with
    | true =>
      rw [if_pos rfl]
      exact ⟨Hs1, δ1, R1, ha.mono _ _ _ (fun c δ2 q v2 Hs2 H2 s2 R2 dp2 => q v2 Hs2 H2 (s1.trans s2) R2 dp2) q⟩
    | false =>
      rw [if_neg Bool.false_ne_true]
      exact ⟨Hs1, δ1, R1, hb.mono _ _ _ (fun c δ2 q v2 Hs2 H2 s2 R2 dp2 => q v2 Hs2 H2 (s1.trans s2) R2 dp2) q⟩
  · cases k with
    | true => exact ha.mono _ _ _ hq z
    | false => exact hb.mono _ _ _ hq z
/-! ### built-ins -/
abbrev D1 := List PyData → (PyData → Prop) → Prop
structure ClD (X : Cx) (Z : Ent) (f : Value) (r : D1) : Prop where
  ex : ∃ r0 : List V → Hp → VK → Prop, CallR X f r0 ∧ ∀ (ds : List PyData) (vs : List V) (Hs H : Hp) (σ : St) (δ : DSt) (Q : VK), Rl X.K Z Hs H σ δ → DpAll X.K Hs vs ds →
    r ds (fun z => ∀ v Hs' H', Same Hs Hs' → Rl X.K Z Hs' H' σ δ → Dp X.K Hs' v z → Q v H') → r0 vs H Q
  mono : ∀ (ds : List PyData) (Q Q' : PyData → Prop), (∀ z, Q z → Q' z) → r ds Q → r ds Q'
def dCB (r : D1) (t : DL') : DE := fun δ Q => t δ fun ds δ' => r ds fun z => Q z δ'
theorem de_bP {e : Expr} {es : List Expr} {t : DL'} {r : D1} {f : Value} (hc : ClD X Z f r) (ha : Da X Z es t) (hp : ∀ r0, CallR X f r0 → PE X e (tCB r0 (lA X.K Z t))) : De X Z e (dCB r t) := by
  obtain ⟨r0, h0, h1⟩ := hc.ex
  refine ⟨pe_imp (hp r0 h0) fun σ H Q ⟨Hs, δ, R, q⟩ => ⟨Hs, δ, R, ha.mono _ _ _ (fun ds δ1 q vs Hs1 H1 s1 R1 dps => ?_) q⟩, fun δ Q Q' hq q => ha.mono _ _ _ (fun ds δ' z => hc.mono _ _ _ (fun _ z => hq _ _ z) z) q⟩
  exact h1 ds vs Hs1 H1 σ δ1 Q R1 dps (hc.mono _ _ _ (fun z q v Hs2 H2 s2 R2 dp => q v Hs2 H2 (s1.trans s2) R2 dp) q)
theorem de_b {x : Str} {id : String} {e : Expr} {es : List Expr} {t : DL'} {r : D1} {p : Pos} (hc : ClD X Z (.builtin id) r) (hg : Gl X x) (hm : X.mg x = none) (hv : bootBuiltins x = some (.builtin id)) (ha : Da X Z (e :: es) t) (hn : x ≠ "__name__" := by decide) (hdb : (x == ("__debug__" : Str)) = false := by decide)
    (he : starEach (e :: es) X.env = (false, eval e X.env) :: starEach es X.env := by rfl) (hpl : (backTo pos (starEach es X.env)).any (·.1) = false := by rfl) : De X Z (.Call (.Name x p) (e :: es) [] pos) (dCB r t) :=
  de_bP hc ha fun _ h => pe_callB h hg hm hv ha.run hn hdb he hpl
theorem de_ty {x : Str} {T : String} {e : Expr} {es : List Expr} {t : DL'} {r : D1} {p : Pos} (hc : ClD X Z (.type T) r) (hg : Gl X x) (hm : X.mg x = none) (hv : bootBuiltins x = some (.type T)) (ha : Da X Z (e :: es) t) (hn : x ≠ "__name__" := by decide) (hdb : (x == ("__debug__" : Str)) = false := by decide)
    (he : starEach (e :: es) X.env = (false, eval e X.env) :: starEach es X.env := by rfl) (hpl : (backTo pos (starEach es X.env)).any (·.1) = false := by rfl) : De X Z (.Call (.Name x p) (e :: es) [] pos) (dCB r t) :=
  de_bP hc ha fun _ h => pe_callTy h hg hm hv ha.run hn hdb he hpl
def rAbs : D1 := fun ds Q => match ds with
  | [.int i] => Q (.int (if i < 0 then -i else i))
  | _ => False
theorem cd_abs : ClD X Z (.builtin "abs") rAbs := by
  refine ⟨⟨_, call_abs, fun ds vs Hs H σ δ Q R dps q => ?_⟩, fun ds Q Q' hq q => ?_⟩
  · unfold rAbs at q
    split at q
    · cases dps with
      | cons d1 d2 =>
        cases d1
        cases d2
        exact ⟨_, rfl, q _ Hs H (Same.refl _) R (.int _)⟩
    · exact q.elim
  · unfold rAbs at q ⊢
    split at q
    · exact hq _ q
    · exact q
def rMax : D1 := fun ds Q => match ds with
  | [.int i, .int j] => Q (.int (if j > i then j else i))
  | _ => False
def rMin : D1 := fun ds Q => match ds with
  | [.int i, .int j] => Q (.int (if j < i then j else i))
  | _ => False
theorem cd_max (hc : X.calm = true) : ClD X Z (.builtin "max") rMax := by
  refine ⟨⟨_, call_max2 hc, fun ds vs Hs H σ δ Q R dps q => ?_⟩, fun ds Q Q' hq q => ?_⟩
  · unfold rMax at q
    split at q
    · cases dps with
      | cons d1 d2 =>
        cases d1
        cases d2 with
        | cons d2 d3 =>
          cases d2
          cases d3
          exact ⟨_, _, rfl, q _ Hs H (Same.refl _) R (.int _)⟩
    · exact q.elim
  · unfold rMax at q ⊢
    split at q
    · exact hq _ q
    · exact q
theorem cd_min (hc : X.calm = true) : ClD X Z (.builtin "min") rMin := by
  refine ⟨⟨_, call_min2 hc, fun ds vs Hs H σ δ Q R dps q => ?_⟩, fun ds Q Q' hq q => ?_⟩
  · unfold rMin at q
    split at q
    · cases dps with
      | cons d1 d2 =>
        cases d1
        cases d2 with
        | cons d2 d3 =>
          cases d2
          cases d3
          exact ⟨_, _, rfl, q _ Hs H (Same.refl _) R (.int _)⟩
    · exact q.elim
  · unfold rMin at q ⊢
    split at q
    · exact hq _ q
    · exact q
def rInt1 : D1 := fun ds Q => match ds with
  | [.int i] => Q (.int i)
  | [.bool k] => Q (.int (if k then 1 else 0))
  | _ => False
theorem cd_int : ClD X Z (.type "int") rInt1 := by
  refine ⟨⟨_, call_int1, fun ds vs Hs H σ δ Q R dps q => ?_⟩, fun ds Q Q' hq q => ?_⟩
  · unfold rInt1 at q
    split at q
    · cases dps with
      | cons d1 d2 =>
        cases d1
        cases d2
        exact .inl ⟨_, rfl, q _ Hs H (Same.refl _) R (.int _)⟩
    · cases dps with
      | cons d1 d2 =>
        cases d1
        cases d2
        exact .inr ⟨_, rfl, q _ Hs H (Same.refl _) R (.int _)⟩
    · exact q.elim
  · unfold rInt1 at q ⊢
    split at q
    · exact hq _ q
    · exact hq _ q
    · exact q
def rLen : D1 := fun ds Q => match ds with
  | [.list xs] => Q (.int xs.length)
  | [.tuple xs] => Q (.int xs.length)
  | [.str x] => x.length ≤ sizeLine ∧ Q (.int x.length)
  | _ => False
theorem cd_len : ClD X Z (.builtin "len") rLen := by
  refine ⟨⟨_, call_len_seq.or call_len_str, fun ds vs Hs H σ δ Q R dps q => ?_⟩, fun ds Q Q' hq q => ?_⟩
  · unfold rLen at q
    split at q
    · cases dps with
      | cons d1 d2 =>
        cases d2
        cases d1 with
        | lst hs ha =>
          refine .inl ⟨_, _, rfl, .inl (R.sub.seq hs), ?_⟩
          rw [ha.len]
          exact q _ Hs H (Same.refl _) R (.int _)
    · cases dps with
      | cons d1 d2 =>
        cases d2
        cases d1 with
        | tup hs ha =>
          refine .inl ⟨_, _, rfl, .inr (sqt_mono R.sub hs), ?_⟩
          rw [ha.len]
          exact q _ Hs H (Same.refl _) R (.int _)
    · cases dps with
      | cons d1 d2 =>
        cases d2
        cases d1
        exact .inr ⟨_, rfl, q.1, q.2 _ Hs H (Same.refl _) R (.int _)⟩
    · exact q.elim
  · unfold rLen at q ⊢
    split at q
    · exact hq _ q
    · exact hq _ q
    · exact ⟨q.1, hq _ q.2⟩
    · exact q
/-- all, any of a list of truths -/
def bools : List PyData → Option (List Bool)
  | [] => some []
  | .bool b :: r => (bools r).map (b :: ·)
  | _ => none
theorem bools_map : ∀ {ds : List PyData} {bs : List Bool}, bools ds = some bs → ds = bs.map .bool
  | [], bs, h => by cases h; rfl
  | d :: r, bs, h => by
    cases d with
    | bool b =>
      unfold bools at h
      cases q : bools r with
      | none => rw [q] at h; cases h
      | some cs =>
        rw [q] at h
        cases h
        rw [bools_map q]
        rfl
    | _ => cases h
theorem bools_of (bs : List Bool) : bools (bs.map .bool) = some bs := by
  induction bs with
  | nil => rfl
  | cons b r ih => show (bools (r.map .bool)).map (b :: ·) = _; rw [ih]; rfl
def rAll : D1 := fun ds Q => match ds with
  | [.list xs] => ∃ bs, bools xs = some bs ∧ Q (.bool (bs.all id))
  | _ => False
theorem cd_all (hc : X.calm = true) : ClD X Z (.builtin "all") rAll := by
  refine ⟨⟨_, cr_all hc, fun ds vs Hs H σ δ Q R dps q => ?_⟩, fun ds Q Q' hq q => ?_⟩
  · unfold rAll at q
    split at q
    · obtain ⟨bs, e, q⟩ := q
      have e := bools_map e
      cases dps with
      | cons d1 d2 =>
        cases d2
        cases d1 with
        | lst hs ha =>
          rw [e] at ha
          have e2 := ha.toBools
          rw [e2] at hs
          exact ⟨_, bs, rfl, R.sub.seq hs, q _ Hs H (Same.refl _) R (.bl _)⟩
    · exact q.elim
  · unfold rAll at q ⊢
    split at q
    · obtain ⟨bs, e, q⟩ := q
      exact ⟨bs, e, hq _ q⟩
    · exact q
/-- isinstance(e, T), T a built-in class by its name -/
def tyName : PyData → String
  | .none => "NoneType"
  | .bool _ => "bool"
  | .int _ => "int"
  | .str _ => "str"
  | .list _ => "list"
  | .tuple _ => "tuple"
  | .dict _ => "dict"
def isT (T : String) (n : String) : Bool := n == T || (n == "bool" && T == "int")
def kitFor (T : String) : Bool := sixT.all (fun n => kitB n T == some (isT T n)) && sixT.contains T && kitB "dict" T == some (isT T "dict") && !isT T "dict"
/-- no def as a value -/
def noF : PyData → Bool
  | .dict ((.bool true, _) :: _) => false
  | _ => true
theorem noF_non : noF .none = true := rfl
theorem noF_bool {b : Bool} : noF (.bool b) = true := rfl
theorem noF_int {i : Int} : noF (.int i) = true := rfl
theorem noF_str {x : Str} : noF (.str x) = true := rfl
theorem noF_list {xs : List PyData} : noF (.list xs) = true := rfl
theorem noF_tup {xs : List PyData} : noF (.tuple xs) = true := rfl
theorem noF_ins {C : Str} {xs : List Str} {ds : List PyData} : noF (insD C xs ds) = true := rfl
theorem tyx_dp {K : Fg} {H : Hp} {v : V} {d : PyData} {T : String} (h : Dp K H v d) (hf : noF d = true) (hT : kitFor T = true) : ∃ t, TyX K H v t ∧ PySem.W.kitOne K t (.type T) = some (isT T (tyName d)) := by
  simp only [kitFor, Bool.and_eq_true, List.all_eq_true, beq_iff_eq, List.contains_iff_mem, Bool.not_eq_true'] at hT
  obtain ⟨⟨⟨h6, hm⟩, hd⟩, hn⟩ := hT
  have k6 : ∀ n ∈ sixT, PySem.W.kitOne K (.type n) (.type T) = some (isT T n) := fun n m => kit_ty (h6 n m)
  cases h with
  | non => exact ⟨_, .base .non, k6 _ (by decide)⟩
  | bl b => exact ⟨_, .base (.bl b), k6 _ (by decide)⟩
  | int i => exact ⟨_, .base (.int i), k6 _ (by decide)⟩
  | str x => exact ⟨_, .base (.str x), k6 _ (by decide)⟩
  | lst hs ha =>
    rcases hs with (h | ⟨o, h⟩) | ⟨o, its, n, h, c, _⟩
    · exact ⟨_, .base (.lst h), k6 _ (by decide)⟩
    · exact ⟨_, .base (.frz h), k6 _ (by decide)⟩
    · exact ⟨_, .kList h c, k6 _ (by decide)⟩
  | tup hs ha =>
    rcases hs with (h | ⟨o, h⟩) | ⟨o, its, n, h, c, _⟩
    · exact ⟨_, .base (.tup h), k6 _ (by decide)⟩
    · exact ⟨_, .fTuple h, k6 _ (by decide)⟩
    · exact ⟨_, .kTuple h c, k6 _ (by decide)⟩
  | ins ok h1 h2 h3 h4 =>
    refine ⟨_, .base (.ins h1 ok.cl ok.ha ok.hn ok.tk ok.hm), ?_⟩
    show _ = some (isT T "dict")
    rw [hn]
    exact ok.no T hm
  | dct h1 h2 h3 => exact ⟨_, .base (.dK h1), kit_ty hd⟩
  | fn f => cases hf
  | any _ => cases hf
  | adr _ => cases hf
def dIsi (T : String) (t : DE) : DE := fun δ Q => t δ fun d δ' => noF d = true ∧ Q (.bool (isT T (tyName d))) δ'
theorem de_isi {e : Expr} {t : DE} {x : Str} {T : String} {p p2 : Pos} (ha : De X Z e t) (hk : kitFor T = true) (hg : Gl X "isinstance") (hm : X.mg "isinstance" = none) (hgT : Gl X x) (hmT : X.mg x = none) (hvT : bootBuiltins x = some (.type T))
    (hv : bootBuiltins "isinstance" = some (.builtin "isinstance")) (hnT : x ≠ "__name__" := by decide) (hdT : (x == ("__debug__" : Str)) = false := by decide)
    (h1 : starEach [e, .Name x p2] X.env = (false, eval e X.env) :: starEach [.Name x p2] X.env := by rfl) (h2 : starEach [.Name x p2] X.env = (false, eval (.Name x p2) X.env) :: starEach [] X.env := by rfl) (hpl : (backTo pos (starEach [.Name x p2] X.env)).any (·.1) = false := by rfl) :
    De X Z (.Call (.Name "isinstance" p) [e, .Name x p2] [] pos) (dIsi T t) := by
  have hT : PE X (.Name x p2) (tC (.ty T)) := pe_bltn hgT hmT hvT rfl hnT hdT
  refine ⟨pe_imp (pe_callB call_isi hg hm hv (pa_cons ha.run (pa_cons hT pa_nil h2) h1) (by decide) (by decide) h1 hpl) fun σ H Q ⟨Hs, δ, R, q⟩ => ⟨Hs, δ, R, ha.mono _ _ _ (fun d δ1 q v Hs1 H1 s1 R1 dp => ?_) q⟩, fun δ Q Q' hq q => ha.mono _ _ _ (fun d δ' z => ⟨z.1, hq _ _ z.2⟩) q⟩
  obtain ⟨t, h1, h2⟩ := tyx_dp (R1.up dp) q.1 hk
  exact ⟨v, .ty T, t, .type T, _, rfl, .ty T, h1, h2, q.2 _ Hs1 H1 s1 R1 (.bl _)⟩
/-- x.bit_length() -/
def dBits (t : DE) : DE := fun δ Q => t δ fun d δ' => match d with
  | .int i => Q (.int (Builtin.Int.intBits i : Nat)) δ'
  | _ => False
theorem de_bits {e : Expr} {t : DE} {apos : Pos} (ha : De X Z e t) (hbase : attributeBase e "bit_length" X.env (eval e X.env) = eval e X.env := by rfl) (hline : (apos.endLine == pos.line) = true := by rfl) : De X Z (.Call (.Attribute e "bit_length" apos) [] [] pos) (dBits t) := by
  refine ⟨pe_imp (pe_bits ha.run hbase hline) fun σ H Q ⟨Hs, δ, R, q⟩ => ⟨Hs, δ, R, ha.mono _ _ _ (fun d δ1 q v Hs1 H1 s1 R1 dp => ?_) q⟩, fun δ Q Q' hq q => ha.mono _ _ _ (fun d δ' z => ?_) q⟩
  · split at q
    · cases dp
      exact ⟨_, rfl, q _ Hs1 H1 s1 R1 (.int _)⟩
    · exact q.elim
  · split at z
    · exact hq _ _ z
    · exact z
end
end DL

namespace DL
open PySem PySem.Spec L2
/-! ### defs: promises by data -/
inductive Res where
  | d (d : PyData)
  | o (xs : List PyData)
  | b (o : Ob)
def ResOk (K : Fg) (Z : Ent) (Hs H : Hp) (σ : St) (δ : DSt) (v : V) : Res → Prop
  | .d d => Dp K Hs v d
  | .o xs => FrO K Z Hs H σ δ v xs
  | .b o => ∃ A, FrA K Z Hs H σ δ v (.ob false o) A
/-- shared data handed in; nothing is changed -/
abbrev FP := List PyData → (Res → Prop) → Prop
def spP (K : Fg) (f : FP) : Sp := fun vs H Q _ => ∃ Hs ds, Same Hs H ∧ DpAll K Hs vs ds ∧ f ds fun r => ∀ v Hs' H', Rl K (.at H Hs [] []) Hs' H' [] [] → ResOk K (.at H Hs [] []) Hs' H' [] [] v r → Q v H'
/-- a list of the caller's own handed in first, which may be changed; then shared data -/
abbrev FB := List PyData → List PyData → (Res → List PyData → Prop) → Prop
def spB (K : Fg) (f : FB) : Sp := fun vs H Q _ => ∃ Hs b ws xs us ds, vs = .ref b :: us ∧ Same Hs H ∧ Hs b = none ∧ H b = some (.lst ws) ∧ DpAll K Hs ws xs ∧ DpAll K Hs us ds ∧
  f xs ds fun r xs' => ∀ v Hs' H', Rl K (.at H Hs [b] [some (.ref b)]) Hs' H' [some (.ref b)] [some (.ow true xs')] → ResOk K (.at H Hs [b] [some (.ref b)]) Hs' H' [some (.ref b)] [some (.ow true xs')] v r → Q v H'
section
variable {K : Fg} {Z : Ent} {Hs H Hs' H' : Hp} {σ : St} {δ : DSt}
theorem Rl.after (R : Rl K Z Hs H σ δ) (C : Rl K (.at H Hs [] []) Hs' H' [] []) : Rl K Z Hs' H' σ δ :=
  R.grow C.ext C.sub (fun b o e => C.fr b o e (fun z => nomatch z)) fun b n => C.new b n
theorem FrA.after {v : V} {s : Sl} {A : List Addr} (R : Rl K Z Hs H σ δ) (C : Rl K (.at H Hs [] []) Hs' H' [] []) (f : FrA K (.at H Hs [] []) Hs' H' [] [] v s A) : FrA K Z Hs' H' σ δ v s A :=
  FrA.fresh R (R.after C) f.at_ (fun a m => (f.mine a m).1) f.hs fun f' F => F.back R fun b o e => C.fr b o e (fun z => nomatch z)
theorem FrO.after {v : V} {xs : List PyData} (R : Rl K Z Hs H σ δ) (C : Rl K (.at H Hs [] []) Hs' H' [] []) (f : FrO K (.at H Hs [] []) Hs' H' [] [] v xs) : FrO K Z Hs' H' σ δ v xs := by
  obtain ⟨A, f⟩ := f
  exact ⟨A, f.after R C⟩
/-- behind a call that was handed the owned thing of slot i -/
theorem Rl.afterA {v : V} {i : Nat} {s s' : Sl} {f : Nat → List Addr} (R : Rl K Z Hs H σ δ) (F : Fps K Z Hs H σ δ f) (h : δ[i]? = some (some s)) (ho : s.own = true) (hv : σ[i]? = some (some v)) (ho' : s'.own = true) (C : Rl K (.at H Hs (f i) [some v]) Hs' H' [some v] [some s']) :
    Rl K Z Hs' H' σ (δ.set i (some (s'.as s.prm))) := by
  obtain ⟨g, G⟩ := C.fps
  obtain ⟨v', g1, g2⟩ := G.at_ 0 s' rfl ho'
  cases g1
  refine R.chg (A := g 0) h ho hv (Sl.as_prm ho') C.ext C.sub (fun f2 F2 b o n e => C.fr b o e (by rw [F.same F2 i]; exact n)) (fun b n => ?_) (fun b n => C.new b n) (g2.as _) (fun f2 F2 a m => ?_) (G.hs 0)
  · by_cases q : b ∈ f i
    · exact (C.hid b q).2
    · cases e : H b with
      | none => exact absurd e n
      | some o =>
        rw [C.fr b o e q]
        exact fun z => nomatch z
  · rcases G.old 0 a m with z | z
    · exact .inr z
    · exact .inl (by rw [← F.same F2 i]; exact z.1)
theorem FrA.afterA {v u : V} {i : Nat} {s s' t : Sl} {A : List Addr} {f : Nat → List Addr} (R : Rl K Z Hs H σ δ) (F : Fps K Z Hs H σ δ f) (h : δ[i]? = some (some s)) (ho : s.own = true) (hv : σ[i]? = some (some v)) (ho' : s'.own = true) (C : Rl K (.at H Hs (f i) [some v]) Hs' H' [some v] [some s'])
    (c : FrA K (.at H Hs (f i) [some v]) Hs' H' [some v] [some s'] u t A) : FrA K Z Hs' H' σ (δ.set i (some (s'.as s.prm))) u t A := by
  obtain ⟨g, G⟩ := C.fps
  obtain ⟨v', g1, g2⟩ := G.at_ 0 s' rfl ho'
  cases g1
  refine ⟨c.at_, c.hs, fun a m => ⟨R.h0n (c.mine a m).1, R.won (c.mine a m).1⟩, fun f' F' j a m m' => ?_, fun a o m => R.nog (c.mine a m).1⟩
  by_cases q : j = i
  · subst q
    obtain ⟨v', k1, k2⟩ := F'.at_ j _ (List.getElem?_set_self (get_lt h)) (by rw [Sl.as_own]; exact ho')
    rw [hv] at k1
    cases k1
    rw [k2.uniq (g2.as _)] at m'
    exact c.dis g G 0 a m m'
  · have e := F.eqj F' j (List.getElem?_set_ne (fun z => q z.symm)) (fun _ z => z) fun b mb => by
      cases e : H b with
      | none => exact absurd e (F.live j mb)
      | some o => exact C.fr b o e (F.dis j i b q mb)
    rw [e] at m'
    exact F.live j m' (c.mine a m).1
/-- the same for a list -/
theorem Rl.afterB {b : Addr} {i : Nat} {p : Bool} {xs xs' : List PyData} (R : Rl K Z Hs H σ δ) (h : δ[i]? = some (some (Sl.ow p xs))) (hb : σ[i]? = some (some (V.ref b))) (C : Rl K (.at H Hs [b] [some (.ref b)]) Hs' H' [some (.ref b)] [some (.ow true xs')]) :
    Rl K Z Hs' H' σ (δ.set i (some (.ow p xs'))) := by
  obtain ⟨f, F⟩ := R.fps
  exact R.afterA F h rfl hb (s' := .ow true xs') rfl (by rw [F.lst h hb]; exact C)
theorem FrO.afterB {v : V} {b : Addr} {i : Nat} {p : Bool} {xs xs' zs : List PyData} (R : Rl K Z Hs H σ δ) (h : δ[i]? = some (some (Sl.ow p xs))) (hb : σ[i]? = some (some (V.ref b))) (C : Rl K (.at H Hs [b] [some (.ref b)]) Hs' H' [some (.ref b)] [some (.ow true xs')]) (c : FrO K (.at H Hs [b] [some (.ref b)]) Hs' H' [some (.ref b)] [some (.ow true xs')] v zs) : FrO K Z Hs' H' σ (δ.set i (some (.ow p xs'))) v zs := by
  obtain ⟨f, F⟩ := R.fps
  obtain ⟨A, c⟩ := c
  exact ⟨A, FrA.afterA R F h rfl hb (s' := .ow true xs') rfl (by rw [F.lst h hb]; exact C) (by rw [F.lst h hb]; exact c)⟩
end
section
variable {X : Cx} {Z : Ent} {pos : Pos}
/-! ### calls of defs -/
def asD : Res → PyData
  | .d d => d
  | .o xs => .list xs
  | .b o => frzD o
def dCall (f : FP) (dd : List PyData) (t : DL') : DE := fun δ Q => t δ fun ds δ' => f (ds ++ dd) fun r => Q (asD r) δ'
def dCallO (f : FP) (dd : List PyData) (t : DL') : DL' := fun δ Q => t δ fun ds δ' => f (ds ++ dd) fun r => match r with
  | .o xs => Q xs δ'
  | .d _ => False
  | .b _ => False
class FMono (f : FP) : Prop where
  m : ∀ (ds : List PyData) (Q Q' : Res → Prop), (∀ r, Q r → Q' r) → f ds Q → f ds Q'
class BMono (f : FB) : Prop where
  m : ∀ (xs ds : List PyData) (Q Q' : Res → List PyData → Prop), (∀ r y, Q r y → Q' r y) → f xs ds Q → f xs ds Q'
section
variable {CX : CXT} {k : Nat} {g : Addr} {fd : FuncData} {ps : List Str} {f : FP} {fb : FB} {x : Str} {e : Expr} {es : List Expr} {t : DL'} {p : Pos} {dvs : List V} {dus : List Value} {dd : List PyData}
theorem call_run {σ : St} {H : Hp} {Q : VK} (fm : FMono f) (hdd : ∀ H, DpAll X.K H dvs dd) {Hs : Hp} {δ : DSt} (R : Rl X.K Z Hs H σ δ) {vs : List V} {ds : List PyData} (dps : DpAll X.K Hs vs ds)
    (q : f (ds ++ dd) fun r => ∀ v Hs' H', Same Hs Hs' → Rl X.K Z Hs' H' σ δ → ResOk X.K Z Hs' H' σ δ v r → Q v H') : spP X.K f (vs ++ dvs) H Q E0 := by
  refine ⟨Hs, ds ++ dd, R.sub, dps.app (hdd Hs), fm.m _ _ _ (fun r q v Hs' H' C c => ?_) q⟩
  refine q v Hs' H' C.ext (R.after C) ?_
  cases r with
  | d d => exact c
  | o xs => exact FrO.after R C c
  | b o => exact c.elim fun A c => ⟨A, c.after R C⟩
theorem de_call (F : FnOk X.prog X.w X.K X.mg X.base CX0 k g fd ps (spP X.K f)) (fm : FMono f) (hr : Room k X.A) (hg : Gl X x) (hm : X.mg x = some (.ref g)) (hk : PySem.W.keepIn X.K (.ref g) = true) (hb : Binds X.K fd ps dus) (hd : Vals dvs dus) (hdd : ∀ H, DpAll X.K H dvs dd)
    (ha : Da X Z (e :: es) t) (hdb : (x == ("__debug__" : Str)) = false := by decide) (he : starEach (e :: es) X.env = (false, eval e X.env) :: starEach es X.env := by rfl) (hpl : (backTo pos (starEach es X.env)).any (·.1) = false := by rfl) :
    De X Z (.Call (.Name x p) (e :: es) [] pos) (dCall f dd t) := by
  refine ⟨pe_imp (pe_call F hr hg hm hk hb hd pass0 ha.run hdb he hpl) fun σ H Q ⟨Hs, δ, R, q⟩ => ⟨Hs, δ, R, ha.mono _ _ _ (fun ds δ1 q vs Hs1 H1 s1 R1 dps => ?_) q⟩, fun δ Q Q' hq q => ha.mono _ _ _ (fun ds δ' z => fm.m _ _ _ (fun r z => hq _ _ z) z) q⟩
  refine call_run fm hdd R1 dps (fm.m _ _ _ (fun r q v Hs2 H2 s2 R2 c => ?_) q)
  cases r with
  | d d => exact q v Hs2 H2 (s1.trans s2) R2 c
  | o xs =>
    obtain ⟨Hs3, s3, R3, dp⟩ := FrO.share R2 c
    exact q v Hs3 H2 ((s1.trans s2).trans s3) R3 dp
  | b o =>
    obtain ⟨A, c⟩ := c
    obtain ⟨Hs3, s3, R3, dp⟩ := FrA.share R2 c
    exact q v Hs3 H2 ((s1.trans s2).trans s3) R3 dp
theorem do_call (F : FnOk X.prog X.w X.K X.mg X.base CX0 k g fd ps (spP X.K f)) (fm : FMono f) (hr : Room k X.A) (hg : Gl X x) (hm : X.mg x = some (.ref g)) (hk : PySem.W.keepIn X.K (.ref g) = true) (hb : Binds X.K fd ps dus) (hd : Vals dvs dus) (hdd : ∀ H, DpAll X.K H dvs dd)
    (ha : Da X Z (e :: es) t) (hdb : (x == ("__debug__" : Str)) = false := by decide) (he : starEach (e :: es) X.env = (false, eval e X.env) :: starEach es X.env := by rfl) (hpl : (backTo pos (starEach es X.env)).any (·.1) = false := by rfl) :
    Do X Z (.Call (.Name x p) (e :: es) [] pos) (dCallO f dd t) := by
  refine ⟨pe_imp (pe_call F hr hg hm hk hb hd pass0 ha.run hdb he hpl) fun σ H Q ⟨Hs, δ, R, q⟩ => ⟨Hs, δ, R, ha.mono _ _ _ (fun ds δ1 q vs Hs1 H1 s1 R1 dps => ?_) q⟩, fun δ Q Q' hq q => ha.mono _ _ _ (fun ds δ' z => fm.m _ _ _ (fun r z => ?_) z) q⟩
  · refine call_run fm hdd R1 dps (fm.m _ _ _ (fun r q v Hs2 H2 s2 R2 c => ?_) q)
    cases r with
    | d d => exact q.elim
    | o xs => exact q v Hs2 H2 (s1.trans s2) R2 c
    | b o => exact q.elim
  · cases r with
    | d d => exact z
    | o xs => exact hq _ _ z
    | b o => exact z
/-- an owned list handed in first -/
def dCallB (i : Nat) (f : FB) (t : DL') : DE := fun δ Q => match δ[i]? with
  | some (some (.ow _ _)) => t δ fun ds δ' => match δ'[i]? with
    | some (some (.ow p xs)) => f xs ds fun r xs' => Q (asD r) (δ'.set i (some (.ow p xs')))
    | _ => False
  | _ => False
theorem de_callB (i : Nat) {y : Str} {py : Pos} (F : FnOk X.prog X.w X.K X.mg X.base CX0 k g fd ps (spB X.K fb)) (fm : BMono fb) (hr : Room k X.A) (hg : Gl X x) (hm : X.mg x = some (.ref g)) (hk : PySem.W.keepIn X.K (.ref g) = true) (hb : Binds X.K fd ps []) (ha : Da X Z es t)
    (hN : X.N[i]? = some y := by rfl) (hv : Vis X.env.scope y := by first | exact Or.inl rfl | exact Or.inr (Or.inl rfl) | exact Or.inr (Or.inr rfl)) (hdy : (y == ("__debug__" : Str)) = false := by decide) (hcd : (y == ("__classdict__" : Str)) = false := by decide)
    (hdb : (x == ("__debug__" : Str)) = false := by decide) (he : starEach (.Name y py :: es) X.env = (false, eval (.Name y py) X.env) :: starEach es X.env := by rfl) (hpl : (backTo pos (starEach es X.env)).any (·.1) = false := by rfl) :
    De X Z (.Call (.Name x p) (.Name y py :: es) [] pos) (dCallB i fb t) := by
  refine ⟨pe_imp (pe_call F hr hg hm hk hb .nil pass0 (pa_cons (pe_var hN hv hdy hcd) ha.run he) hdb he hpl) fun σ H Q ⟨Hs, δ, R, q⟩ => ?_, fun δ Q Q' hq q => ?_⟩
  · unfold dCallB at q
    split at q
    · rename_i p0 xs0 e0
      obtain ⟨b, ws0, hv, _⟩ := R.own _ _ _ e0
      refine ⟨.ref b, hv, Hs, δ, R, ha.mono _ _ _ (fun ds δ1 q vs Hs1 H1 s1 R1 dps => ?_) q⟩
      split at q
      · rename_i p1 xs e1
        obtain ⟨b', ws, h1, h2, h3, h4⟩ := R1.own _ _ _ e1
        rw [hv] at h1
        cases h1
        refine ⟨Hs1, b, ws, xs, vs, ds, by rw [List.append_nil], R1.sub, h3, h2, h4, dps, fm.m _ _ _ _ (fun r xs' q v Hs2 H2 C c => ?_) q⟩
        have R2 := R1.afterB e1 hv C
        cases r with
        | d d => exact q v Hs2 H2 (s1.trans C.ext) R2 c
        | o zs =>
          obtain ⟨Hs3, s3, R3, dp⟩ := FrO.share R2 (FrO.afterB R1 e1 hv C c)
          exact q v Hs3 H2 ((s1.trans C.ext).trans s3) R3 dp
        | b o =>
          obtain ⟨A, c⟩ := c
          obtain ⟨f, F⟩ := R1.fps
          have c2 := FrA.afterA R1 F e1 rfl hv (s' := .ow true xs') rfl (by rw [F.lst e1 hv]; exact C) (by rw [F.lst e1 hv]; exact c)
          obtain ⟨Hs3, s3, R3, dp⟩ := FrA.share R2 c2
          exact q v Hs3 H2 ((s1.trans C.ext).trans s3) R3 dp
      · exact q.elim
    · exact q.elim
  · unfold dCallB at q ⊢
    split at q
    · refine ha.mono _ _ _ (fun ds δ' z => ?_) q
      split at z
      · exact fm.m _ _ _ _ (fun r y z => hq _ _ z) z
      · exact z
    · exact q
end
/-! ### statements -/
structure DEnds where
  nx : DSt → Prop
  rt : PyData → DSt → Prop
  ro : Sl → DSt → Prop
  bk : DSt → Prop
  ct : DSt → Prop
structure EndsOk (K : Fg) (Z : Ent) (Hs0 : Hp) (D : Ends) (N : DEnds) : Prop where
  nx : ∀ σ δ Hs H, Same Hs0 Hs → Rl K Z Hs H σ δ → N.nx δ → D.nx σ H
  rt : ∀ σ δ Hs H v d, Same Hs0 Hs → Rl K Z Hs H σ δ → Dp K Hs v d → N.rt d δ → D.rt v H
  ro : ∀ σ δ Hs H v s, Same Hs0 Hs → Rl K Z Hs H σ δ → (s.prm = false ∧ ∃ A, FrA K Z Hs H σ δ v s A) → N.ro s δ → D.rt v H
  bk : ∀ σ δ Hs H, Same Hs0 Hs → Rl K Z Hs H σ δ → N.bk δ → D.bk σ H
  ct : ∀ σ δ Hs H, Same Hs0 Hs → Rl K Z Hs H σ δ → N.ct δ → D.ct σ H
theorem EndsOk.up {K : Fg} {Hs Hs' : Hp} {D : Ends} {N : DEnds} (h : EndsOk K Z Hs D N) (e : Same Hs Hs') : EndsOk K Z Hs' D N :=
  ⟨fun σ δ a b s => h.nx σ δ a b (e.trans s), fun σ δ a b v d s => h.rt σ δ a b v d (e.trans s), fun σ δ a b v d s => h.ro σ δ a b v d (e.trans s), fun σ δ a b s => h.bk σ δ a b (e.trans s), fun σ δ a b s => h.ct σ δ a b (e.trans s)⟩
abbrev DS := DEnds → DSt → Prop
def lS (K : Fg) (Z : Ent) (t : DS) : TS := fun D σ H => ∃ Hs δ N, Rl K Z Hs H σ δ ∧ EndsOk K Z Hs D N ∧ t N δ
structure Ds (X : Cx) (Z : Ent) (st : Stmt) (t : DS) : Prop where
  run : PS X st (lS X.K Z t)
structure Dss (X : Cx) (Z : Ent) (st : List Stmt) (t : DS) : Prop where
  run : PSs X st (lS X.K Z t)
def dNx : DS := fun N δ => N.nx δ
def dSeq (t u : DS) : DS := fun N δ => t { N with nx := u N } δ
theorem dss_nil : Dss X Z [] dNx := ⟨pss_imp pss_nil fun D σ H ⟨Hs, δ, N, R, ok, q⟩ => ok.nx σ δ Hs H (Same.refl _) R q⟩
theorem dss_cons {st : Stmt} {rest : List Stmt} {t u : DS} (h1 : Ds X Z st t) (h2 : Dss X Z rest u) : Dss X Z (st :: rest) (dSeq t u) := by
  refine ⟨pss_imp (pss_cons h1.run h2.run) fun D σ H ⟨Hs, δ, N, R, ok, q⟩ => ?_⟩
  refine ⟨Hs, δ, { N with nx := u N }, R, ⟨fun σ' δ' Hs' H' s R' q => ?_, ok.rt, ok.ro, ok.bk, ok.ct⟩, q⟩
  exact ⟨Hs', δ', N, R', ok.up s, q⟩
theorem dss_one {st : Stmt} {t : DS} (h1 : Ds X Z st t) : Dss X Z [st] t := ⟨pss_one h1.run⟩
def dNever : DS := fun _ _ => False
theorem ds_never {st : Stmt} : Ds X Z st dNever := ⟨ps_imp ps_never fun D σ H ⟨Hs, δ, N, R, ok, q⟩ => q⟩
def dRet (t : DE) : DS := fun N δ => t δ fun d δ' => N.rt d δ'
theorem ds_ret {e : Expr} {t : DE} (h : De X Z e t) : Ds X Z (.Return (some e) pos) (dRet t) :=
  ⟨ps_imp (ps_ret h.run) fun D σ H ⟨Hs, δ, N, R, ok, q⟩ => ⟨Hs, δ, R, h.mono _ _ _ (fun d δ' q v Hs' H' s R' dp => ok.rt σ δ' Hs' H' v d s R' dp q) q⟩⟩
def dRetO (t : DL') : DS := fun N δ => t δ fun d δ' => N.ro (.ow false d) δ'
theorem ds_retO {e : Expr} {t : DL'} (h : Do X Z e t) : Ds X Z (.Return (some e) pos) (dRetO t) :=
  ⟨ps_imp (ps_ret h.run) fun D σ H ⟨Hs, δ, N, R, ok, q⟩ => ⟨Hs, δ, R, h.mono _ _ _ (fun d δ' q v Hs' H' s R' dp => ok.ro σ δ' Hs' H' v _ s R' ⟨rfl, dp⟩ q) q⟩⟩
def dIfS (c : DT) (t u : DS) : DS := fun N δ => c δ fun k δ' => match k with
  | true => t N δ'
  | false => u N δ'
theorem ds_if {c : Expr} {a b : List Stmt} {tc : DT} {t u : DS} (hc : Dt X Z c tc) (ha : Dss X Z a t) (hb : Dss X Z b u) : Ds X Z (.If c a b pos) (dIfS tc t u) := by
  refine ⟨ps_imp (ps_if hc.run ha.run hb.run) fun D σ H ⟨Hs, δ, N, R, ok, q⟩ => ⟨Hs, δ, R, hc.mono _ _ _ (fun k δ' q Hs' H' s R' => ?_) q⟩⟩
  cases k with
  | true =>
    rw [if_pos rfl]
    exact ⟨Hs', δ', N, R', ok.up s, q⟩
  | false =>
    rw [if_neg Bool.false_ne_true]
    exact ⟨Hs', δ', N, R', ok.up s, q⟩
/-! ### targets -/
abbrev DG := PyData → DSt → (DSt → Prop) → Prop
abbrev DGs := List PyData → DSt → (DSt → Prop) → Prop
def Agree (ts : List Nat) (σ σ' : St) : Prop := σ'.length = σ.length ∧ ∀ j, j ∉ ts → σ'[j]? = σ[j]?
theorem Agree.refl {ts : List Nat} {σ : St} : Agree ts σ σ := ⟨rfl, fun _ _ => rfl⟩
theorem Agree.trans {ts us : List Nat} {σ σ1 σ2 : St} (a : Agree ts σ σ1) (b : Agree us σ1 σ2) : Agree (ts ++ us) σ σ2 := ⟨b.1.trans a.1, fun j h => by
  rw [List.mem_append, not_or] at h
  rw [b.2 j h.2, a.2 j h.1]⟩
theorem agree_set {σ : St} {i : Nat} {v : Option V} : Agree [i] σ (σ.set i v) := ⟨List.length_set, fun j h => by
  rw [List.getElem?_set_ne]
  intro e
  exact h (by rw [e]; exact List.mem_singleton_self _)⟩
def lG (K : Fg) (Z : Ent) (ts : List Nat) (t : DG) : TG := fun v σ H Q => ∃ Hs δ d, Rl K Z Hs H σ δ ∧ Dp K Hs v d ∧ t d δ fun δ' => ∀ σ', Rl K Z Hs H σ' δ' → Agree ts σ σ' → Q σ' H
def lGs (K : Fg) (Z : Ent) (ts : List Nat) (t : DGs) : TGs := fun vs σ H Q => ∃ Hs δ ds, Rl K Z Hs H σ δ ∧ DpAll K Hs vs ds ∧ t ds δ fun δ' => ∀ σ', Rl K Z Hs H σ' δ' → Agree ts σ σ' → Q σ' H
structure Dg (X : Cx) (Z : Ent) (tg : Expr) (ts : List Nat) (t : DG) : Prop where
  run : PG X tg (lG X.K Z ts t)
  mono : ∀ (d : PyData) (δ : DSt) (Q Q' : DSt → Prop), (∀ δ', Q δ' → Q' δ') → t d δ Q → t d δ Q'
structure Dgs (X : Cx) (Z : Ent) (tg : List Expr) (ts : List Nat) (t : DGs) : Prop where
  run : PGs X tg (lGs X.K Z ts t)
  mono : ∀ (d : List PyData) (δ : DSt) (Q Q' : DSt → Prop), (∀ δ', Q δ' → Q' δ') → t d δ Q → t d δ Q'
def gNm (i : Nat) : DG := fun d δ Q => Q (δ.set i (some (.sh d)))
theorem pg_imp {tg : Expr} {t t' : TG} (h : PG X tg t) (i : ∀ v σ H Q, t' v σ H Q → t v σ H Q) : PG X tg t' := ⟨fun pins s σ H v u Q I r h' => h.run pins s σ H v u Q I r (i v σ H Q h')⟩
theorem pgs_imp {tg : List Expr} {t t' : TGs} (h : PGs X tg t) (i : ∀ v σ H Q, t' v σ H Q → t v σ H Q) : PGs X tg t' := ⟨fun pins s σ H v u Q I r h' => h.run pins s σ H v u Q I r (i v σ H Q h')⟩
theorem dg_name {i : Nat} {x : Str} (hN : X.N.Nodup) (hi : X.N[i]? = some x) (hx : Loc X.env.scope x) (hf : X.fn x = true ∨ X.env.scope.names.lookup x = some .local := by first | exact .inl rfl | exact .inr rfl | assumption) : Dg X Z (.Name x pos) [i] (gNm i) :=
  ⟨pg_imp (pg_name hN hi hx hf) fun v σ H Q ⟨Hs, δ, d, R, dp, q⟩ => q _ (R.set dp) agree_set, fun d δ Q Q' hq q => hq _ q⟩
def gsNil : DGs := fun ds δ Q => match ds with
  | [] => Q δ
  | _ => False
def gsCons (t : DG) (u : DGs) : DGs := fun ds δ Q => match ds with
  | d :: r => t d δ fun δ' => u r δ' Q
  | [] => False
theorem dgs_nil : Dgs X Z [] [] gsNil := by
  refine ⟨pgs_imp pgs_nil fun vs σ H Q ⟨Hs, δ, ds, R, dps, q⟩ => ?_, fun ds δ Q Q' hq q => ?_⟩
  · cases dps with
    | nil => exact ⟨rfl, q σ R Agree.refl⟩
    | cons _ _ => exact q.elim
  · cases ds with
    | nil => exact hq _ q
    | cons _ _ => exact q
theorem dgs_cons {e : Expr} {es : List Expr} {ts us : List Nat} {t : DG} {u : DGs} (h1 : Dg X Z e ts t) (h2 : Dgs X Z es us u)
    (hs : (assignEach (e :: es) X.env).map (·.2) = assign e X.env :: (assignEach es X.env).map (·.2) := by rfl) : Dgs X Z (e :: es) (ts ++ us) (gsCons t u) := by
  refine ⟨pgs_imp (pgs_cons h1.run h2.run hs) fun vs σ H Q ⟨Hs, δ, ds, R, dps, q⟩ => ?_, fun ds δ Q Q' hq q => ?_⟩
  · cases dps with
    | nil => exact q.elim
    | cons d1 d2 => exact ⟨_, _, rfl, Hs, δ, _, R, d1, h1.mono _ _ _ _ (fun δ1 q σ1 R1 a1 => ⟨Hs, δ1, _, R1, d2, h2.mono _ _ _ _ (fun δ2 q σ2 R2 a2 => q σ2 R2 (a1.trans a2)) q⟩) q⟩
  · cases ds with
    | nil => exact q
    | cons d r => exact h1.mono _ _ _ _ (fun δ1 q => h2.mono _ _ _ _ hq q) q
def gTp (n : Nat) (t : DGs) : DG := fun d δ Q => match d with
  | .tuple xs => xs.length = n ∧ t xs δ Q
  | _ => False
theorem dg_tup {es : List Expr} {k : Nat} {ts : List Nat} {t : DGs} {n : Nat} (hc : X.calm = true) (h : Dgs X Z es ts t)
    (hn : (assignEach es X.env).length = n := by rfl) (hst : (assignEach es X.env).findIdx? (·.1) = none := by rfl) : Dg X Z (.Tuple es k pos) ts (gTp n t) := by
  refine ⟨pg_imp (pg_tup hc h.run hn hst) fun v σ H Q ⟨Hs, δ, d, R, dp, q⟩ => ?_, fun d δ Q Q' hq q => ?_⟩
  · unfold gTp at q
    split at q
    · cases dp with
      | tup hs ha => exact ⟨_, _, rfl, sqt_mono R.sub hs, by rw [ha.len]; exact q.1, Hs, δ, _, R, ha, q.2⟩
    · exact q.elim
  · unfold gTp at q ⊢
    split at q
    · exact ⟨q.1, h.mono _ _ _ _ hq q.2⟩
    · exact q
/-! ### assignments -/
def dAsg (t : DE) (g : DG) : DS := fun N δ => t δ fun d δ' => g d δ' N.nx
theorem ds_asg {tg e : Expr} {ts : List Nat} {t : DE} {g : DG} (he : De X Z e t) (hg : Dg X Z tg ts g) (hs : swapsWithSole [tg] e pos.line X.env = pure false := by rfl) (hw : swappedStores [tg] e X.env = pure none := by rfl)
    (h1 : (assignEach [tg] X.env).map (·.2) = [assign tg X.env] := by rfl) : Ds X Z (.Assign [tg] e pos) (dAsg t g) :=
  ⟨ps_imp (ps_asg he.run hg.run hs hw h1) fun D σ H ⟨Hs, δ, N, R, ok, q⟩ => ⟨Hs, δ, R, he.mono _ _ _ (fun d δ' q v Hs' H' s R' dp => ⟨Hs', δ', d, R', dp, hg.mono _ _ _ _ (fun δ2 q σ2 R2 _ => ok.nx σ2 δ2 Hs' H' s R2 q) q⟩) q⟩⟩
def dSet (i : Nat) (t : DE) : DS := fun N δ => t δ fun d δ' => N.nx (δ'.set i (some (.sh d)))
theorem ds_set {i : Nat} {x : Str} {e : Expr} {t : DE} {pos' : Pos} (hN : X.N.Nodup) (hi : X.N[i]? = some x) (hx : Loc X.env.scope x) (he : De X Z e t) (hs : swapsWith e (some (.Name x pos')) pos.line X.env = pure false := by rfl) (hf : X.fn x = true ∨ X.env.scope.names.lookup x = some .local := by first | exact .inl rfl | exact .inr rfl | assumption) :
    Ds X Z (.Assign [.Name x pos'] e pos) (dSet i t) :=
  ⟨ps_imp (ps_set hN hi hx he.run hs hf) fun D σ H ⟨Hs, δ, N, R, ok, q⟩ => ⟨Hs, δ, R, he.mono _ _ _ (fun d δ' q v Hs' H' s R' dp => ok.nx _ _ Hs' H' s (R'.set dp) q) q⟩⟩
def dSetO (i : Nat) (t : DL') : DS := fun N δ => t δ fun xs δ' => N.nx (δ'.set i (some (.ow false xs)))
theorem ds_setO {i : Nat} {x : Str} {e : Expr} {t : DL'} {pos' : Pos} (hN : X.N.Nodup) (hi : X.N[i]? = some x) (hx : Loc X.env.scope x) (he : Do X Z e t) (hs : swapsWith e (some (.Name x pos')) pos.line X.env = pure false := by rfl) (hf : X.fn x = true ∨ X.env.scope.names.lookup x = some .local := by first | exact .inl rfl | exact .inr rfl | assumption) :
    Ds X Z (.Assign [.Name x pos'] e pos) (dSetO i t) :=
  ⟨ps_imp (ps_set hN hi hx he.run hs hf) fun D σ H ⟨Hs, δ, N, R, ok, q⟩ => ⟨Hs, δ, R, he.mono _ _ _ (fun d δ' q v Hs' H' s R' f => ok.nx _ _ Hs' H' s (R'.setO f) q) q⟩⟩
def dPar (i j : Nat) (t : DL') : DS := fun N δ => t δ fun ds δ' => match ds with
  | [d, e] => N.nx ((δ'.set i (some (.sh d))).set j (some (.sh e)))
  | _ => False
theorem ds_par {i j : Nat} {x y : Str} {a b : Expr} {t : DL'} {px py pt : Pos} {kt k2 pt2} (hc : X.calm = true) (hN : X.N.Nodup) (hi : X.N[i]? = some x) (hj : X.N[j]? = some y) (hij : i ≠ j)
    (hx : X.env.scope.names.lookup x = some .local) (hy : X.env.scope.names.lookup y = some .local) (ha : Da X Z [a, b] t)
    (hp : ∀ ta, PA X [a, b] ta → PS X (.Assign [.Tuple [.Name x px, .Name y py] kt pt] (.Tuple [a, b] k2 pt2) pos) (tPar i j ta)) :
    Ds X Z (.Assign [.Tuple [.Name x px, .Name y py] kt pt] (.Tuple [a, b] k2 pt2) pos) (dPar i j t) := by
  refine ⟨ps_imp (hp _ ha.run) fun D σ H ⟨Hs, δ, N, R, ok, q⟩ => ⟨Hs, δ, R, ha.mono _ _ _ (fun ds δ' q vs Hs' H' s R' dps => ?_) q⟩⟩
  split at q
  · cases dps with
    | cons d1 d2 =>
      cases d2 with
      | cons d2 d3 =>
        cases d3
        exact ⟨_, _, rfl, ok.nx _ _ Hs' H' s ((R'.set d1).set d2) q⟩
  · exact q.elim
/-- bag[k] = e -/
def dSetIx (i : Nat) (t ti : DE) : DS := fun N δ => t δ fun d δ1 => match δ1[i]? with
  | some (some (.ow _ _)) => ti δ1 fun e δ2 => match e, δ2[i]? with
    | .int k, some (some (.ow p xs)) => ∃ j, ixN xs.length k = some j ∧ N.nx (δ2.set i (some (.ow p (xs.set j d))))
    | _, _ => False
  | _ => False
theorem ds_setix (i : Nat) {x : Str} {e ix : Expr} {t ti : DE} {p1 p2 : Pos} (he : De X Z e t) (hi : De X Z ix ti) (hN : X.N[i]? = some x := by rfl) (hv : Vis X.env.scope x := by first | exact Or.inl rfl | exact Or.inr (Or.inl rfl) | exact Or.inr (Or.inr rfl))
    (hd : (x == ("__debug__" : Str)) = false := by decide) (hcd : (x == ("__classdict__" : Str)) = false := by decide)
    (ha : ∀ v, assign (.Subscript (.Name x p1) ix p2) X.env v = (do
      let ov ← holding [v] (eval (.Name x p1) X.env)
      let iv ← holding [v, ov] (eval ix X.env)
      standAt p2
      holding [v, ov, iv] (setItem ov iv v)
      release [v, ov, iv] []) := by intro _; rfl)
    (hs : swapsWithSole [.Subscript (.Name x p1) ix p2] e pos.line X.env = pure false := by rfl) (hw : swappedStores [.Subscript (.Name x p1) ix p2] e X.env = pure none := by rfl)
    (h1 : (assignEach [.Subscript (.Name x p1) ix p2] X.env).map (·.2) = [assign (.Subscript (.Name x p1) ix p2) X.env] := by rfl) : Ds X Z (.Assign [.Subscript (.Name x p1) ix p2] e pos) (dSetIx i t ti) := by
  refine ⟨ps_imp (ps_asg he.run (pg_sub (pe_var hN hv hd hcd) hi.run set_list ha) hs hw h1) fun D σ H ⟨Hs, δ, N, R, ok, q⟩ => ⟨Hs, δ, R, he.mono _ _ _ (fun d δ1 q v Hs1 H1 s1 R1 dp => ?_) q⟩⟩
  split at q
  · rename_i p0 xs0 e0
    obtain ⟨a, ws0, hv, _⟩ := R1.own _ _ _ e0
    refine ⟨.ref a, hv, Hs1, δ1, R1, hi.mono _ _ _ (fun d2 δ2 q v2 Hs2 H2 s2 R2 dp2 => ?_) q⟩
    split at q
    · rename_i k p xs e1
      obtain ⟨j, ej, q⟩ := q
      obtain ⟨a', ws, h1, h2, h3, h4⟩ := R2.own _ _ _ e1
      rw [hv] at h1
      cases h1
      cases dp2
      refine ⟨a, ws, k, j, rfl, rfl, h2, by rw [h4.len]; exact ej, ?_⟩
      exact ok.nx _ _ Hs2 _ (s1.trans s2) (R2.mut e1 hv (h4.set (dp.up s2) j)) q
    · exact q.elim
  · exact q.elim
/-- xs.append(e) -/
def dApp (i : Nat) (t : DE) : DS := fun N δ => match δ[i]? with
  | some (some (.ow _ _)) => t δ fun d δ1 => match δ1[i]? with
    | some (some (.ow p xs)) => xs.length < sizeLine ∧ N.nx (δ1.set i (some (.ow p (xs ++ [d]))))
    | _ => False
  | _ => False
theorem ds_appP (i : Nat) {st : Stmt} {e : Expr} {t : DE} (he : De X Z e t) (hp : PS X st (tDrop (tBM X.K "list" rAppend (tVar i) (tCons (lE X.K Z t) tNil)))) : Ds X Z st (dApp i t) := by
  refine ⟨ps_imp hp fun D σ H ⟨Hs, δ, N, R, ok, q⟩ => ?_⟩
  unfold dApp at q
  split at q
  · rename_i p0 xs0 e0
    obtain ⟨a, ws0, hv, h20, _⟩ := R.own _ _ _ e0
    refine ⟨.ref a, hv, .inl ⟨rfl, _, SqL.of h20⟩, Hs, δ, R, he.mono _ _ _ (fun d2 δ2 q v2 Hs2 H2 s2 R2 dp2 => ?_) q⟩
    split at q
    · rename_i p xs e1
      obtain ⟨hz, q⟩ := q
      obtain ⟨a', ws, h1, h2, h3, h4⟩ := R2.own _ _ _ e1
      rw [hv] at h1
      cases h1
      refine ⟨a, ws, _, rfl, rfl, h2, by rw [h4.len]; exact hz, ?_⟩
      exact ok.nx _ _ Hs2 _ s2 (R2.mut e1 hv (h4.app (.cons dp2 .nil))) q
    · exact q.elim
  · exact q.elim
theorem ds_app (i : Nat) {x : Str} {e : Expr} {t : DE} {p1 apos cpos : Pos} (he : De X Z e t) (hN : X.N[i]? = some x := by rfl) (hv : Vis X.env.scope x := by first | exact Or.inl rfl | exact Or.inr (Or.inl rfl) | exact Or.inr (Or.inr rfl))
    (hd : (x == ("__debug__" : Str)) = false := by decide) (hcd : (x == ("__classdict__" : Str)) = false := by decide) (hbase : attributeBase (.Name x p1) "append" X.env (eval (.Name x p1) X.env) = eval (.Name x p1) X.env := by rfl)
    (hfew : ((backTo cpos (starEach [e] X.env)).all (fun x => !x.1) && (backToKw cpos (keywordEach [] X.env)).all (fun x => x.1.isSome)
      && decide (([e] : List Expr).length + ([] : List Keyword).length + (if ([] : List Keyword).isEmpty then 0 else 1) < 30)) = true := by rfl)
    (hline : (apos.endLine == cpos.line) = true := by rfl) (hs : starEach [e] X.env = (false, eval e X.env) :: starEach [] X.env := by rfl) (hplain : (backTo cpos (starEach [] X.env)).any (·.1) = false := by rfl)
    (hsw : swapsWith (.Call (.Attribute (.Name x p1) "append" apos) [e] [] cpos) none pos.line X.env = pure false := by rfl) : Ds X Z (.Expr (.Call (.Attribute (.Name x p1) "append" apos) [e] [] cpos) pos) (dApp i t) :=
  ds_appP i he (ps_expr (pe_bm PySem.F.plainAttrs_list PySem.F.slot_list_append PySem.F.type_list_append mt_append (pe_var hN hv hd hcd) (pa_cons he.run pa_nil hs) hbase hfew hline hs hplain) hsw)
/-- x += e, x -= e of ints -/
def dAug (i : Nat) (f : Int → Int → Int) (t : DE) : DS := fun N δ => match δ[i]? with
  | some (some (.sh (.int a))) => t δ fun d δ' => match d with
    | .int b => N.nx (δ'.set i (some (.sh (.int (f a b)))))
    | _ => False
  | _ => False
theorem ds_aug {i : Nat} {x : Str} {e : Expr} {t : DE} {op : Operator} {f : Int → Int → Int} {pos' : Pos} (hN : X.N.Nodup) (hi : X.N[i]? = some x) (hx : Loc X.env.scope x) (he : De X Z e t) (ho : PIp X op (ipI f))
    (hf : X.fn x = true ∨ X.env.scope.names.lookup x = some .local := by first | exact .inl rfl | exact .inr rfl | assumption) : Ds X Z (.AugAssign (.Name x pos') op e pos) (dAug i f t) := by
  refine ⟨ps_imp (ps_aug hN hi hx he.run ho hf) fun D σ H ⟨Hs, δ, N, R, ok, q⟩ => ?_⟩
  unfold dAug at q
  split at q
  · rename_i a e0
    obtain ⟨v, hv, dv⟩ := R.shr _ _ e0
    cases dv
    refine ⟨_, hv, Hs, δ, R, he.mono _ _ _ (fun d2 δ2 q v2 Hs2 H2 s2 R2 dp2 => ?_) q⟩
    split at q
    · cases dp2
      exact ⟨_, _, rfl, rfl, ok.nx _ _ Hs2 H2 s2 (R2.set (.int _)) q⟩
    · exact q.elim
  · exact q.elim
end
end DL

namespace DL
open PySem PySem.Spec L2
/-! ### what is walked -/
def Walks (K : Fg) (J : It) (Hs : Hp) (items : List PyData) : Prop := ∀ (Z : Ent) (Hs2 H : Hp) (σ : St) (δ : DSt), Same Hs Hs2 → Rl K Z Hs2 H σ δ →
  (∀ i, i < items.length → J.go i H) ∧ J.stop items.length H ∧ ∀ i x H', i < items.length → J.yld i H x H' → ∃ d Hs3, items[i]? = some d ∧ Same Hs2 Hs3 ∧ Rl K Z Hs3 H' σ δ ∧ Dp K Hs3 x d
def lI (K : Fg) (Z : Ent) (t : DL') : TI := fun σ H R => ∃ Hs δ, Rl K Z Hs H σ δ ∧ t δ fun items δ' => ∀ J Hs' H', Same Hs Hs' → Rl K Z Hs' H' σ δ' → Walks K J Hs' items → R J H'
structure Dit (X : Cx) (Z : Ent) (tg iter : Expr) (t : DL') : Prop where
  run : PI X tg iter (lI X.K Z t)
  mono : ∀ (δ : DSt) (Q Q' : List PyData → DSt → Prop), (∀ d δ', Q d δ' → Q' d δ') → t δ Q → t δ Q'
theorem pi_imp {X : Cx} {tg e : Expr} {t t' : TI} (h : PI X tg e t) (i : ∀ σ H Q, t' σ H Q → t σ H Q) : PI X tg e t' := ⟨fun pins s σ H Q I h' => h.run pins s σ H Q I (i σ H Q h')⟩
/-- lo, lo + 1, .. -/
def rngD (lo : Int) : Nat → List PyData
  | 0 => []
  | n + 1 => .int lo :: rngD (lo + 1) n
theorem rngD_len (lo : Int) (n : Nat) : (rngD lo n).length = n := by
  induction n generalizing lo with
  | zero => rfl
  | succ n ih => show (rngD (lo + 1) n).length + 1 = n + 1; rw [ih]
theorem rngD_get {lo : Int} {n i : Nat} (h : i < n) : (rngD lo n)[i]? = some (.int (lo + i)) := by
  induction n generalizing lo i with
  | zero => omega
  | succ n ih =>
    cases i with
    | zero => show some (PyData.int lo) = _; simp
    | succ i =>
      show (rngD (lo + 1) n)[i]? = _
      rw [ih (by omega)]
      have : lo + 1 + (i : Int) = lo + ((i + 1 : Nat) : Int) := by omega
      rw [this]
section
variable {X : Cx} {Z : Ent} {pos : Pos} {tg : Expr}
theorem walks_list {K : Fg} {Hs : Hp} {a : Addr} {xs : List V} {ds : List PyData} (hs : SqL K Hs a xs) (ha : DpAll K Hs xs ds) : Walks K (Itl K a) Hs ds := fun Z Hs2 H σ δ s R => by
  have q : SqL K H a xs := (s.trans R.sub).seq hs
  refine ⟨fun i hi => ⟨xs, xs[i]'(by rw [ha.len]; exact hi), q, by simp [ha.len, hi]⟩, ⟨xs, q, by rw [ha.len]; exact Nat.le_refl _⟩, fun i x H' hi y => ?_⟩
  obtain ⟨rfl, y⟩ := y
  obtain ⟨d, e1, e2⟩ := ha.getV (y xs q)
  exact ⟨d, Hs2, e1, Same.refl _, R, e2.up s⟩
theorem walks_tup {K : Fg} {Hs : Hp} {a : Addr} {xs : List V} {ds : List PyData} (hs : SqT K Hs a xs) (ha : DpAll K Hs xs ds) : Walks K (Itt K a) Hs ds := fun Z Hs2 H σ δ s R => by
  have q : SqT K H a xs := sqt_mono (s.trans R.sub) hs
  refine ⟨fun i hi => ⟨xs, xs[i]'(by rw [ha.len]; exact hi), q, by simp [ha.len, hi]⟩, ⟨xs, q, by rw [ha.len]; exact Nat.le_refl _⟩, fun i x H' hi y => ?_⟩
  obtain ⟨rfl, y⟩ := y
  obtain ⟨d, e1, e2⟩ := ha.getV (y xs q)
  exact ⟨d, Hs2, e1, Same.refl _, R, e2.up s⟩
theorem walks_range {K : Fg} {Hs : Hp} {lo : Int} {n : Nat} : Walks K (Itr lo n) Hs (rngD lo n) := fun Z Hs2 H σ δ s R => by
  rw [rngD_len]
  refine ⟨fun i hi => hi, Nat.le_refl _, fun i x H' hi y => ?_⟩
  obtain ⟨rfl, rfl⟩ := y
  exact ⟨_, Hs2, rngD_get hi, Same.refl _, R, .int _⟩
def zipD : List PyData → List PyData → List PyData
  | x :: xs, y :: ys => .tuple [x, y] :: zipD xs ys
  | _, _ => []
theorem zipD_len : ∀ xs ys : List PyData, (zipD xs ys).length = min xs.length ys.length
  | [], _ => by unfold zipD; simp
  | _ :: _, [] => by unfold zipD; simp
  | x :: xs, y :: ys => by
    show (zipD xs ys).length + 1 = min (xs.length + 1) (ys.length + 1)
    rw [zipD_len xs ys]
    omega
theorem zipD_get : ∀ {xs ys : List PyData} {i : Nat} {x y : PyData}, xs[i]? = some x → ys[i]? = some y → (zipD xs ys)[i]? = some (.tuple [x, y])
  | [], _, _, _, _, h, _ => by simp at h
  | _ :: _, [], _, _, _, _, h => by simp at h
  | x :: xs, y :: ys, 0, _, _, h1, h2 => by
    simp at h1 h2
    subst h1 h2
    rfl
  | x :: xs, y :: ys, i + 1, _, _, h1, h2 => by
    show (zipD xs ys)[i]? = _
    exact zipD_get (by simpa using h1) (by simpa using h2)
theorem walks_zip {K : Fg} {Hs : Hp} {a b : Addr} {xs ys : List V} {ds es : List PyData} (hs : SqL K Hs a xs) (ha : DpAll K Hs xs ds) (hs2 : SqL K Hs b ys) (ha2 : DpAll K Hs ys es) : Walks K (Itz K a b) Hs (zipD ds es) := fun Z Hs2 H σ δ s R => by
  have q : SqL K H a xs := (s.trans R.sub).seq hs
  have q2 : SqL K H b ys := (s.trans R.sub).seq hs2
  rw [zipD_len]
  have l1 := ha.len
  have l2 := ha2.len
  refine ⟨fun i hi => ?_, ⟨xs, ys, q, q2, by omega⟩, fun i x H' hi y => ?_⟩
  · have h1 : i < xs.length := by omega
    have h2 : i < ys.length := by omega
    exact ⟨xs, ys, xs[i], ys[i], q, q2, by simp [h1], by simp [h2]⟩
  · obtain ⟨T, x1, x2, rfl, nT, rfl, f1, f2⟩ := y
    obtain ⟨d, e1, e2⟩ := ha.getV (f1 xs q)
    obtain ⟨d', e1', e2'⟩ := ha2.getV (f2 ys q2)
    have s2 : Same Hs2 (upd Hs2 T (.tup [x1, x2])) := same_new (R.hsn nT)
    exact ⟨_, _, zipD_get e1 e1', s2, R.alloc nT, .tup (SqT.of upd_same) (.cons ((e2.up s).up s2) (.cons ((e2'.up s).up s2) .nil))⟩
/-- over a list or a tuple as a value -/
def iLst (t : DE) : DL' := fun δ Q => t δ fun d δ' => match d with
  | .list xs => Q xs δ'
  | _ => False
def iTpl (t : DE) : DL' := fun δ Q => t δ fun d δ' => match d with
  | .tuple xs => Q xs δ'
  | _ => False
theorem di_list {e : Expr} {t : DE} (h : De X Z e t) : Dit X Z tg e (iLst t) := by
  refine ⟨pi_imp (pi_list h.run) fun σ H R ⟨Hs, δ, Rr, q⟩ => ⟨Hs, δ, Rr, h.mono _ _ _ (fun d δ1 q v Hs1 H1 s1 R1 dp => ?_) q⟩, fun δ Q Q' hq q => h.mono _ _ _ (fun d δ' z => ?_) q⟩
  · split at q
    · cases dp with
      | lst hs ha => exact ⟨_, rfl, ⟨_, R1.sub.seq hs⟩, q _ Hs1 H1 s1 R1 (walks_list hs ha)⟩
    · exact q.elim
  · split at z
    · exact hq _ _ z
    · exact z
theorem di_tup {e : Expr} {t : DE} (h : De X Z e t) : Dit X Z tg e (iTpl t) := by
  refine ⟨pi_imp (pi_tup h.run) fun σ H R ⟨Hs, δ, Rr, q⟩ => ⟨Hs, δ, Rr, h.mono _ _ _ (fun d δ1 q v Hs1 H1 s1 R1 dp => ?_) q⟩, fun δ Q Q' hq q => h.mono _ _ _ (fun d δ' z => ?_) q⟩
  · split at q
    · cases dp with
      | tup hs ha => exact ⟨_, rfl, ⟨_, sqt_mono R1.sub hs⟩, q _ Hs1 H1 s1 R1 (walks_tup hs ha)⟩
    · exact q.elim
  · split at z
    · exact hq _ _ z
    · exact z
def iRg1 (t : DL') : DL' := fun δ Q => t δ fun ds δ' => match ds with
  | [.int j] => -(2 ^ 62) ≤ j ∧ j < 2 ^ 62 ∧ Q (rngD 0 j.toNat) δ'
  | _ => False
theorem di_range1 {a : Expr} {t : DL'} {p : Pos} (hg : Gl X "range") (hm : X.mg "range" = none) (ha : Da X Z [a] t) (hs : starEach [a] X.env = [(false, eval a X.env)] := by rfl) : Dit X Z tg (.Call (.Name "range" p) [a] [] pos) (iRg1 t) := by
  refine ⟨pi_imp (pi_range1 hg hm ha.run hs) fun σ H R ⟨Hs, δ, Rr, q⟩ => ⟨Hs, δ, Rr, ha.mono _ _ _ (fun ds δ1 q vs Hs1 H1 s1 R1 dps => ?_) q⟩, fun δ Q Q' hq q => ha.mono _ _ _ (fun d δ' z => ?_) q⟩
  · split at q
    · cases dps with
      | cons d1 d2 =>
        cases d1
        cases d2
        exact ⟨_, rfl, q.1, q.2.1, q.2.2 _ Hs1 H1 s1 R1 walks_range⟩
    · exact q.elim
  · split at z
    · exact ⟨z.1, z.2.1, hq _ _ z.2.2⟩
    · exact z
def iRg2 (t : DL') : DL' := fun δ Q => t δ fun ds δ' => match ds with
  | [.int i, .int j] => (-(2 ^ 62) ≤ i ∧ i < 2 ^ 62 ∧ -(2 ^ 62) ≤ j ∧ j < 2 ^ 62) ∧ Q (rngD i (j - i).toNat) δ'
  | _ => False
theorem di_range2 {a b : Expr} {t : DL'} {p : Pos} (hg : Gl X "range") (hm : X.mg "range" = none) (ha : Da X Z [a, b] t) (hs : starEach [a, b] X.env = [(false, eval a X.env), (false, eval b X.env)] := by rfl) (hs2 : starEach [b] X.env = [(false, eval b X.env)] := by rfl) : Dit X Z tg (.Call (.Name "range" p) [a, b] [] pos) (iRg2 t) := by
  refine ⟨pi_imp (pi_range2 hg hm ha.run hs hs2) fun σ H R ⟨Hs, δ, Rr, q⟩ => ⟨Hs, δ, Rr, ha.mono _ _ _ (fun ds δ1 q vs Hs1 H1 s1 R1 dps => ?_) q⟩, fun δ Q Q' hq q => ha.mono _ _ _ (fun d δ' z => ?_) q⟩
  · split at q
    · cases dps with
      | cons d1 d2 =>
        cases d1
        cases d2 with
        | cons d2 d3 =>
          cases d2
          cases d3
          exact ⟨_, _, rfl, q.1, q.2 _ Hs1 H1 s1 R1 walks_range⟩
    · exact q.elim
  · split at z
    · exact ⟨z.1, hq _ _ z.2⟩
    · exact z
def iZp (t : DL') : DL' := fun δ Q => t δ fun ds δ' => match ds with
  | [.list xs, .list ys] => Q (zipD xs ys) δ'
  | _ => False
theorem di_zip {e e2 : Expr} {t : DL'} {p tpos : Pos} {elts : List Expr} {kk : Nat} (hg : Gl X "zip") (hm : X.mg "zip" = none) (ha : Da X Z [e, e2] t)
    (hs : starEach [e, e2] X.env = (false, eval e X.env) :: starEach [e2] X.env := by rfl) (hpl : (backTo pos (starEach [e2] X.env)).any (·.1) = false := by rfl) : Dit X Z (.Tuple elts kk tpos) (.Call (.Name "zip" p) [e, e2] [] pos) (iZp t) := by
  refine ⟨pi_imp (pi_zip hg hm ha.run hs hpl) fun σ H R ⟨Hs, δ, Rr, q⟩ => ⟨Hs, δ, Rr, ha.mono _ _ _ (fun ds δ1 q vs Hs1 H1 s1 R1 dps => ?_) q⟩, fun δ Q Q' hq q => ha.mono _ _ _ (fun d δ' z => ?_) q⟩
  · split at q
    · cases dps with
      | cons d1 d2 =>
        cases d2 with
        | cons d2 d3 =>
          cases d3
          cases d1 with
          | lst hs ha =>
            cases d2 with
            | lst hs2 ha2 => exact ⟨_, _, _, _, rfl, R1.sub.seq hs, R1.sub.seq hs2, q _ Hs1 H1 s1 R1 (walks_zip hs ha hs2 ha2)⟩
    · exact q.elim
  · split at z
    · exact hq _ _ z
    · exact z
/-! ### for -/
def dForL (g : DG) (body : DS) (N : DEnds) : List PyData → DSt → Prop
  | [], δ => N.nx δ
  | d :: r, δ => g d δ fun δ' => body { N with nx := dForL g body N r, ct := dForL g body N r, bk := N.nx } δ'
def dFor (ti : DL') (g : DG) (body : DS) : DS := fun N δ => ti δ fun items δ' => dForL g body N items δ'
theorem ds_for {iter : Expr} {body : List Stmt} {ti : DL'} {ts : List Nat} {g : DG} {tb : DS} (hp : PassesOwn (model X.prog X.w) X.A X.env X.xe) (hc : X.calm = true) (hi : Dit X Z tg iter ti) (hg : Dg X Z tg ts g) (hb : Dss X Z body tb)
    (hs : ∀ x, foldedSetIterable iter X.env x = pure x := by intro _; rfl) : Ds X Z (.For tg iter body [] pos) (dFor ti g tb) := by
  refine ⟨ps_imp (ps_for hp hc hi.run hg.run hb.run hs) fun D σ H ⟨Hs, δ, N, R, ok, q⟩ => ⟨Hs, δ, R, hi.mono _ _ _ (fun items δ1 q J Hs1 H1 s1 R1 w => ?_) q⟩⟩
  refine ⟨fun i m σ' H' => m = items.length - i ∧ i ≤ items.length ∧ ∃ Hs2 δ2, Same Hs1 Hs2 ∧ Rl X.K Z Hs2 H' σ' δ2 ∧ dForL g tb N (items.drop i) δ2, ⟨items.length, by simp, Nat.zero_le _, Hs1, δ1, Same.refl _, R1, q⟩, ?_⟩
  rintro i m σ' H' ⟨rfl, hi, Hs2, δ2, s2, R2, q2⟩
  obtain ⟨w1, w2, w3⟩ := w Z Hs2 H' σ' δ2 s2 R2
  by_cases hlt : i < items.length
  · refine .inr ⟨w1 i hlt, fun σ3 H3 => ∃ Hs3 δ3, Same Hs1 Hs3 ∧ Rl X.K Z Hs3 H3 σ3 δ3 ∧ dForL g tb N (items.drop (i + 1)) δ3, fun σ3 H3 z => ⟨items.length - (i + 1), by omega, rfl, hlt, z⟩, fun x H3 y => ?_⟩
    obtain ⟨d, Hs3, e, s3, R3, dp⟩ := w3 i x H3 hlt y
    have ed : items.drop i = d :: items.drop (i + 1) := by
      obtain ⟨h1, h2⟩ := List.getElem?_eq_some_iff.mp e
      rw [← h2]
      exact List.drop_eq_getElem_cons h1
    rw [ed] at q2
    refine ⟨Hs3, δ2, d, R3, dp, hg.mono _ _ _ _ (fun δ4 q4 σ4 R4 _ => ?_) q2⟩
    refine ⟨Hs3, δ4, { N with nx := dForL g tb N (items.drop (i + 1)), ct := dForL g tb N (items.drop (i + 1)), bk := N.nx }, R4, ⟨fun σ5 δ5 Hs5 H5 s5 R5 q5 => ⟨Hs5, δ5, (s2.trans s3).trans s5, R5, q5⟩, fun σ5 δ5 Hs5 H5 v d s5 => ok.rt σ5 δ5 Hs5 H5 v d (((s1.trans s2).trans s3).trans s5), fun σ5 δ5 Hs5 H5 v d s5 => ok.ro σ5 δ5 Hs5 H5 v d (((s1.trans s2).trans s3).trans s5),
      fun σ5 δ5 Hs5 H5 s5 => ok.nx σ5 δ5 Hs5 H5 (((s1.trans s2).trans s3).trans s5), fun σ5 δ5 Hs5 H5 s5 R5 q5 => ⟨Hs5, δ5, (s2.trans s3).trans s5, R5, q5⟩⟩, q4⟩
  · have e : i = items.length := by omega
    subst e
    rw [List.drop_length] at q2
    exact .inl ⟨w2, ok.nx σ' δ2 Hs2 H' (s1.trans s2) R2 q2⟩
/-! ### while -/
def dWhile (c : DT) (body : DS) : DS := fun N δ => ∃ W : Nat → DSt → Prop, (∃ m, W m δ) ∧ ∀ m δ, W m δ → c δ fun b δ1 => match b with
  | true => body { N with nx := fun δ' => ∃ m', m' < m ∧ W m' δ', ct := fun δ' => ∃ m', m' < m ∧ W m' δ', bk := N.nx } δ1
  | false => N.nx δ1
theorem ds_while {c : Expr} {body : List Stmt} {tc : DT} {tb : DS} (hp : PassesOwn (model X.prog X.w) X.A X.env X.xe) (hc : Dt X Z c tc) (hb : Dss X Z body tb) : Ds X Z (.While c body [] pos) (dWhile tc tb) := by
  refine ⟨ps_imp (ps_while hp hc.run hb.run) fun D σ H ⟨Hs, δ, N, R, ok, q⟩ => ?_⟩
  obtain ⟨W, ⟨m0, w0⟩, turn⟩ := q
  refine ⟨fun m σ' H' => ∃ Hs2 δ2, Same Hs Hs2 ∧ Rl X.K Z Hs2 H' σ' δ2 ∧ W m δ2, ⟨m0, Hs, δ, Same.refl _, R, w0⟩, ?_⟩
  rintro m σ' H' ⟨Hs2, δ2, s2, R2, w2⟩
  refine ⟨Hs2, δ2, R2, hc.mono _ _ _ (fun b δ3 q3 Hs3 H3 s3 R3 => ?_) (turn m δ2 w2)⟩
  cases b with
  | true =>
    rw [if_pos rfl]
    refine ⟨fun σ4 H4 => ∃ m', m' < m ∧ ∃ Hs4 δ4, Same Hs Hs4 ∧ Rl X.K Z Hs4 H4 σ4 δ4 ∧ W m' δ4, fun σ4 H4 z => z, ?_⟩
    refine ⟨Hs3, δ3, { N with nx := fun δ' => ∃ m', m' < m ∧ W m' δ', ct := fun δ' => ∃ m', m' < m ∧ W m' δ', bk := N.nx }, R3, ⟨fun σ5 δ5 Hs5 H5 s5 R5 q5 => ?_, fun σ5 δ5 Hs5 H5 v d s5 => ok.rt σ5 δ5 Hs5 H5 v d ((s2.trans s3).trans s5), fun σ5 δ5 Hs5 H5 v d s5 => ok.ro σ5 δ5 Hs5 H5 v d ((s2.trans s3).trans s5),
      fun σ5 δ5 Hs5 H5 s5 => ok.nx σ5 δ5 Hs5 H5 ((s2.trans s3).trans s5), fun σ5 δ5 Hs5 H5 s5 R5 q5 => ?_⟩, q3⟩
    · obtain ⟨m', hm, w⟩ := q5
      exact ⟨m', hm, Hs5, δ5, (s2.trans s3).trans s5, R5, w⟩
    · obtain ⟨m', hm, w⟩ := q5
      exact ⟨m', hm, Hs5, δ5, (s2.trans s3).trans s5, R5, w⟩
  | false =>
    rw [if_neg Bool.false_ne_true]
    exact ok.nx σ' δ3 Hs3 H3 (s2.trans s3) R3 q3
end
/-! ### comprehensions -/
def dwipe (δ : DSt) : List Nat → DSt
  | [] => δ
  | v :: vs => (dwipe δ vs).set v none
theorem dwipe_some {δ : DSt} {i : Nat} {x : Sl} : ∀ {vs : List Nat}, (dwipe δ vs)[i]? = some (some x) → δ[i]? = some (some x) ∧ i ∉ vs
  | [], h => ⟨h, by simp⟩
  | v :: vs, h => by
    rcases get_set h with ⟨rfl, z⟩ | ⟨ne, z⟩
    · cases z
    · obtain ⟨h1, h2⟩ := dwipe_some z
      exact ⟨h1, by simp only [List.mem_cons, not_or]; exact ⟨fun e => ne e.symm, h2⟩⟩
theorem dwipe_len {δ : DSt} : ∀ (vs : List Nat), (dwipe δ vs).length = δ.length
  | [] => rfl
  | v :: vs => by unfold dwipe; rw [List.length_set, dwipe_len vs]
theorem dwipe_get {δ : DSt} {j : Nat} : ∀ {vs : List Nat}, j ∉ vs → (dwipe δ vs)[j]? = δ[j]?
  | [], _ => rfl
  | v :: vs, h => by
    rw [List.mem_cons, not_or] at h
    show ((dwipe δ vs).set v none)[j]? = _
    rw [List.getElem?_set_ne (fun e => h.1 e.symm)]
    exact dwipe_get h.2
section
variable {K : Fg} {Z : Ent} {Hs H : Hp} {σ σ' : St} {δ : DSt}
/-- the slots vs forgotten, others as in σ -/
theorem Rl.reslot (R : Rl K Z Hs H σ δ) {vs : List Nat} (hl : σ'.length = σ.length) (h : ∀ j, j ∉ vs → σ'[j]? = σ[j]?) : Rl K Z Hs H σ' (dwipe δ vs) := by
  refine ⟨by rw [hl, dwipe_len, R.len], R.sub, R.ext, R.fr, R.new, R.hid, fun j d e => ?_, ?_, R.grd, fun j t e p => by rw [h j (dwipe_some e).2]; exact R.prm j t (dwipe_some e).1 p, fun j C e => by rw [h j (dwipe_some e).2]; exact R.exn j C (dwipe_some e).1⟩
  · obtain ⟨e, nv⟩ := dwipe_some e
    rw [h j nv]
    exact R.shr j d e
  · obtain ⟨f, F⟩ := R.fps
    have m1 : ∀ {i : Nat} {a : Addr}, a ∈ (if i ∈ vs then [] else f i) → i ∉ vs ∧ a ∈ f i := fun {i a} m => by
      split at m
      · exact nomatch m
      · rename_i n
        exact ⟨n, m⟩
    refine ⟨fun i => if i ∈ vs then [] else f i, ⟨fun i s e o => ?_, fun i e => ?_, fun i a m => F.hs i a (m1 m).2, fun i a m => F.old i a (m1 m).2, fun i s a e p m => F.mine i s a (dwipe_some e).1 p (m1 m).2, fun i j a n m m' => F.dis i j a n (m1 m).2 (m1 m').2, fun i a o m => F.g i a o (m1 m).2⟩⟩
    · obtain ⟨e, nv⟩ := dwipe_some e
      show ∃ v, _ ∧ At K Hs H v s (if i ∈ vs then [] else f i)
      rw [h i nv, if_neg nv]
      exact F.at_ i s e o
    · show (if i ∈ vs then [] else f i) = []
      split
      · rfl
      · rename_i n
        refine F.emp i fun s z => e s ?_
        rw [dwipe_get n]
        exact z
theorem FrA.reslot {v : V} {s : Sl} {A : List Addr} (R : Rl K Z Hs H σ δ) (c : FrA K Z Hs H σ δ v s A) {vs : List Nat} (h : ∀ j, j ∉ vs → σ'[j]? = σ[j]?) : FrA K Z Hs H σ' (dwipe δ vs) v s A := by
  refine ⟨c.at_, c.hs, c.mine, fun f' F' j a m m' => ?_, c.g⟩
  obtain ⟨f, F⟩ := R.fps
  by_cases n : j ∈ vs
  · rw [F'.emp j fun s z => absurd n (dwipe_some z).2] at m'
    exact nomatch m'
  · rw [F.eqj F' j (dwipe_get n) (fun v z => by rw [h j n]; exact z) fun _ _ => rfl] at m'
    exact c.dis f F j a m m'
theorem FrO.reslot {v : V} {xs : List PyData} (R : Rl K Z Hs H σ δ) (c : FrO K Z Hs H σ δ v xs) {vs : List Nat} (h : ∀ j, j ∉ vs → σ'[j]? = σ[j]?) : FrO K Z Hs H σ' (dwipe δ vs) v xs := by
  obtain ⟨A, c⟩ := c
  exact ⟨A, c.reslot R h⟩
theorem wipe_eq {σ σ' : St} : ∀ {vs : List Nat}, σ'.length = σ.length → (∀ j, j ∉ vs → σ'[j]? = σ[j]?) → wipe σ' vs = wipe σ vs := fun {vs} hl h => by
  apply List.ext_getElem?
  intro j
  by_cases hj : j ∈ vs
  · have aux : ∀ (τ : St) (ws : List Nat), j ∈ ws → (wipe τ ws)[j]? = if j < τ.length then some none else none := by
      intro τ ws
      induction ws with
      | nil => intro z; cases z
      | cons v ws ih =>
        intro z
        unfold wipe
        by_cases e : v = j
        · subst e
          rw [List.getElem?_set]
          rw [if_pos rfl, wipe_length]
        · rw [List.getElem?_set_ne e]
          exact ih ((List.mem_cons.mp z).resolve_left fun q => e q.symm)
    rw [aux σ' vs hj, aux σ vs hj, hl]
  · rw [wipe_out hj, wipe_out hj, h j hj]
/-- one more guard -/
abbrev Ent.gd (Z : Ent) (D : Addr) (o : HO) : Ent := ⟨Z.H0, Z.Hs0, Z.own, (D, o) :: Z.G, Z.σ0, Z.xa, Z.blk⟩
theorem Fps.ungd {D : Addr} {o : HO} {f : Nat → List Addr} (F : Fps K (Z.gd D o) Hs H σ δ f) : Fps K Z Hs H σ δ f := ⟨F.at_, F.emp, F.hs, F.old, F.mine, F.dis, fun i a u m z => F.g i a u m (List.mem_cons_of_mem _ z)⟩
theorem Rl.guard (R : Rl K Z Hs H σ δ) {D : Addr} {o : HO} (h1 : H D = some o) (h2 : Hs D = none) (h3 : D ∉ Z.own) (h4 : ∀ f, Fps K Z Hs H σ δ f → ∀ j, D ∉ f j) : Rl K (Z.gd D o) Hs H σ δ := by
  refine ⟨R.len, R.sub, R.ext, R.fr, R.new, R.hid, R.shr, ?_, fun a u m => ?_, R.prm, R.exn⟩
  · obtain ⟨f, F⟩ := R.fps
    refine ⟨f, ⟨F.at_, F.emp, F.hs, F.old, F.mine, F.dis, fun i a u m z => ?_⟩⟩
    rcases List.mem_cons.mp z with e | z
    · cases e
      exact h4 f F i m
    · exact F.g i a u m z
  · rcases List.mem_cons.mp m with e | m
    · cases e
      exact ⟨h1, h2, h3⟩
    · exact R.grd a u m
/-- a list of one's own is guarded -/
theorem FrO.guard {v : V} {xs : List PyData} (R : Rl K Z Hs H σ δ) (c : FrO K Z Hs H σ δ v xs) : ∃ D ws, v = .ref D ∧ H D = some (.lst ws) ∧ Hs D = none ∧ DpAll K Hs ws xs ∧ Z.H0 D = none ∧ (∀ u, (D, u) ∉ Z.G) ∧ Rl K (Z.gd D (.lst ws)) Hs H σ δ := by
  obtain ⟨A, c⟩ := c
  obtain ⟨a, ws, rfl, rfl, h1, h3⟩ := c.lst
  have m : a ∈ [a] := List.mem_singleton.mpr rfl
  exact ⟨a, ws, rfl, h1, c.hs a m, h3, (c.mine a m).1, fun u => c.g a u m, R.guard h1 (c.hs a m) (c.mine a m).2 fun f F j => c.dis f F j a m⟩
/-- the guard is changed and let go -/
theorem Rl.unguard {D : Addr} {o o' : HO} (hG : ∀ u, (D, u) ∉ Z.G) (hD : Z.H0 D = none) (R : Rl K (Z.gd D o) Hs H σ δ) : Rl K Z Hs (upd H D o') σ δ := by
  obtain ⟨g1, g2, g3⟩ := R.grd D o (List.mem_cons_self ..)
  refine ⟨R.len, fun b x e => ?_, R.ext, fun b x e n => ?_, R.new, fun b e => ?_, R.shr, ?_, fun a u m => ?_, R.prm, R.exn⟩
  · rw [upd_ne (ne_of_none e g2)]
    exact R.sub b x e
  · rw [upd_ne (ne_of_none e hD)]
    exact R.fr b x e n
  · obtain ⟨z1, z2⟩ := R.hid b e
    have hb : b ≠ D := fun z => g3 (z ▸ e)
    rw [upd_ne hb]
    exact ⟨z1, z2⟩
  · obtain ⟨f, F⟩ := R.fps
    refine ⟨f, ⟨fun i s e z => ?_, F.emp, F.hs, F.old, F.mine, F.dis, F.ungd.g⟩⟩
    obtain ⟨v, k1, k2⟩ := F.at_ i s e z
    refine ⟨v, k1, k2.fr (Same.refl _) fun a m => ?_⟩
    have hb : a ≠ D := fun q => F.g i a o m (by rw [q]; exact List.mem_cons_self ..)
    rw [upd_ne hb]
  · obtain ⟨z1, z2, z3⟩ := R.grd a u (List.mem_cons_of_mem _ m)
    have hb : a ≠ D := fun z => hG u (z ▸ m)
    exact ⟨by rw [upd_ne hb]; exact z1, z2, z3⟩
theorem FrO.unguard {D : Addr} {o : HO} {ws : List V} {xs : List PyData} (hG : ∀ u, (D, u) ∉ Z.G) (hD : Z.H0 D = none) (R : Rl K (Z.gd D o) Hs H σ δ) (h : DpAll K Hs ws xs) : FrO K Z Hs (upd H D (.lst ws)) σ δ (.ref D) xs := by
  obtain ⟨g1, g2, g3⟩ := R.grd D o (List.mem_cons_self ..)
  refine ⟨[D], .ow upd_same h, fun a m => by rw [List.mem_singleton.mp m]; exact g2, fun a m => by rw [List.mem_singleton.mp m]; exact ⟨hD, g3⟩, fun f F j a m m' => ?_, fun a u m => by rw [List.mem_singleton.mp m]; exact hG u⟩
  obtain ⟨f0, F0⟩ := R.fps
  have nD : ∀ a ∈ f0 j, a ≠ D := fun a m q => F0.g j a o m (by rw [q]; exact List.mem_cons_self ..)
  rw [F0.eqj F j rfl (fun _ z => z) fun b mb => by rw [upd_ne (nD b mb)]] at m'
  exact nD a m' (List.mem_singleton.mp m)
theorem FrA.ungd {D : Addr} {o : HO} {v : V} {s : Sl} {A : List Addr} (R : Rl K (Z.gd D o) Hs H σ δ) (c : FrA K (Z.gd D o) Hs H σ δ v s A) : FrA K Z Hs H σ δ v s A ∧ D ∉ A := by
  refine ⟨⟨c.at_, c.hs, c.mine, fun f F j a m m' => ?_, fun a u m z => c.g a u m (List.mem_cons_of_mem _ z)⟩, fun m => c.g D o m (List.mem_cons_self ..)⟩
  obtain ⟨f0, F0⟩ := R.fps
  rw [F.same F0.ungd j] at m'
  exact c.dis f0 F0 j a m m'
theorem upd_id {D : Addr} {o : HO} (h : H D = some o) : upd H D o = H := by
  funext b
  by_cases hb : b = D
  · subst hb
    rw [upd_same, h]
  · rw [upd_ne hb]
end
section
variable {X : Cx} {Z : Ent} {pos : Pos} {tg : Expr}
structure Dts (X : Cx) (Z : Ent) (ifs : List Expr) (t : DT) : Prop where
  run : PTs X ifs (lT X.K Z t)
  mono : ∀ (δ : DSt) (Q Q' : Bool → DSt → Prop), (∀ d δ', Q d δ' → Q' d δ') → t δ Q → t δ Q'
def dYes : DT := fun δ Q => Q true δ
theorem dts_nil : Dts X Z [] dYes := ⟨⟨fun pins s σ H Q I ⟨Hs, δ, R, q⟩ => pts_nil.run pins s σ H Q I (q Hs H (Same.refl _) R)⟩, fun δ Q Q' hq q => hq _ _ q⟩
def dLcL (g : DG) (tt : DT) (te : DE) (vs : List Nat) (Q : List PyData → DSt → Prop) : List PyData → List PyData → DSt → Prop
  | [], acc, δ => Q acc δ
  | d :: r, acc, δ => g d δ fun δ2 => tt δ2 fun b δ3 => match b with
    | true => te δ3 fun y δ4 => acc.length < sizeLine ∧ dLcL g tt te vs Q r (acc ++ [y]) (dwipe δ4 vs)
    | false => dLcL g tt te vs Q r acc (dwipe δ3 vs)
def dLc (ti : DL') (g : DG) (tt : DT) (te : DE) (vs : List Nat) : DL' := fun δ Q => ti δ fun items δ1 => dLcL g tt te vs Q items [] (dwipe δ1 vs)
theorem dLcL_mono {g : DG} {tt : DT} {te : DE} {vs : List Nat} {Q Q' : List PyData → DSt → Prop} (hg : ∀ (d : PyData) (δ : DSt) (Q Q' : DSt → Prop), (∀ δ', Q δ' → Q' δ') → g d δ Q → g d δ Q')
    (ht : ∀ (δ : DSt) (Q Q' : Bool → DSt → Prop), (∀ d δ', Q d δ' → Q' d δ') → tt δ Q → tt δ Q') (he : ∀ (δ : DSt) (Q Q' : PyData → DSt → Prop), (∀ d δ', Q d δ' → Q' d δ') → te δ Q → te δ Q') (hq : ∀ d δ', Q d δ' → Q' d δ') :
    ∀ (items acc : List PyData) (δ : DSt), dLcL g tt te vs Q items acc δ → dLcL g tt te vs Q' items acc δ
  | [], acc, δ, h => hq _ _ h
  | d :: r, acc, δ, h => hg _ _ _ _ (fun δ2 h => ht _ _ _ (fun b δ3 h => by
      cases b with
      | true => exact he _ _ _ (fun y δ4 h => ⟨h.1, dLcL_mono hg ht he hq r _ _ h.2⟩) h
      | false => exact dLcL_mono hg ht he hq r _ _ h) h) h
theorem lc_imp {iter : Expr} {elt : Expr} {ifs : List Expr} {ti : DL'} {g : DG} {tt : DT} {te : DE} {ts vs : List Nat} (hi : Dit X Z tg iter ti)
    (hg : ∀ (d : PyData) (δ : DSt) (Q Q' : DSt → Prop), (∀ δ', Q δ' → Q' δ') → g d δ Q → g d δ Q') (ht : ∀ (δ : DSt) (Q Q' : Bool → DSt → Prop), (∀ d δ', Q d δ' → Q' d δ') → tt δ Q → tt δ Q') (he : ∀ (δ : DSt) (Q Q' : PyData → DSt → Prop), (∀ d δ', Q d δ' → Q' d δ') → te δ Q → te δ Q') (hts : ∀ t ∈ ts, t ∈ vs)
    (G : TG) (T : TT) (E : TE) (hG : ∀ Z' v σ H Q, lG X.K Z' ts g v σ H Q → G v σ H Q) (hT : ∀ Z' σ H Q, lT X.K Z' tt σ H Q → T σ H Q) (hE : ∀ Z' σ H Q, lE X.K Z' te σ H Q → E σ H Q)
    (σ : St) (H : Hp) (Q : VK) (h : lO X.K Z (dLc ti g tt te vs) σ H Q) : tLc (lI X.K Z ti) G T E vs σ H Q := by
  obtain ⟨Hs, δ, R, q⟩ := h
  refine ⟨Hs, δ, R, hi.mono _ _ _ (fun items δ1 q J Hs1 H1 s1 R1 w D nD => ?_) q⟩
  refine ⟨fun i m H' => m = items.length - i ∧ i ≤ items.length ∧ ∃ Hs2 δ2 acc, Same Hs1 Hs2 ∧ Rl X.K Z Hs2 H' σ δ2 ∧ (∀ j ∈ vs, ∀ x : Sl, δ2[j]? ≠ some (some x)) ∧ FrO X.K Z Hs2 H' σ δ2 (.ref D) acc ∧
      dLcL g tt te vs (fun xs δ' => ∀ v Hs' H', Same Hs Hs' → Rl X.K Z Hs' H' σ δ' → FrO X.K Z Hs' H' σ δ' v xs → Q v H') (items.drop i) acc δ2, ?_, ?_⟩
  · have R1' := R1.reslot (σ' := σ) (vs := vs) rfl fun _ _ => rfl
    exact ⟨items.length, by simp, Nat.zero_le _, Hs1, dwipe δ1 vs, [], Same.refl _, R1'.allocO nD, fun j hj x e => (dwipe_some e).2 hj, FrO.new R1' nD .nil, q⟩
  · rintro i m H' ⟨rfl, hi', Hs2, δ2, acc, s2, R2, hv, hD, q2⟩
    have ew : dwipe δ2 vs = δ2 := by
      have aux : ∀ us : List Nat, (∀ j ∈ us, ∀ x : Sl, δ2[j]? ≠ some (some x)) → dwipe δ2 us = δ2 := by
        intro us
        induction us with
        | nil => intro _; rfl
        | cons v us ih =>
          intro hu
          show (dwipe δ2 us).set v none = δ2
          rw [ih fun j hj => hu j (List.mem_cons_of_mem _ hj)]
          apply List.ext_getElem?
          intro k
          rw [List.getElem?_set]
          by_cases e : v = k
          · subst e
            rw [if_pos rfl]
            split
            · rename_i hk
              cases q : δ2[v]? with
              | none => rw [List.getElem?_eq_none_iff] at q; omega
              | some o =>
                cases o with
                | none => rfl
                | some x => exact absurd q (hu v (List.mem_cons_self ..) x)
            · rename_i hk
              rw [List.getElem?_eq_none (by omega)]
          · rw [if_neg e]
      exact aux vs hv
    have Rw : Rl X.K Z Hs2 H' (wipe σ vs) δ2 := by
      have := R2.reslot (σ' := wipe σ vs) (vs := vs) (wipe_length σ vs) (fun j nj => wipe_out nj)
      rw [ew] at this
      exact this
    have Dw : FrO X.K Z Hs2 H' (wipe σ vs) δ2 (.ref D) acc := by
      have := FrO.reslot (σ' := wipe σ vs) (vs := vs) R2 hD (fun j nj => wipe_out nj)
      rw [ew] at this
      exact this
    obtain ⟨D', ws, eD, hDl, hDs, hda, h0D, hDn, Rg⟩ := Dw.guard Rw
    cases eD
    obtain ⟨w1, _, w3⟩ := w _ Hs2 H' (wipe σ vs) δ2 s2 Rg
    by_cases hlt : i < items.length
    · refine .inr ⟨w1 i hlt, _, fun H3 z => ⟨items.length - (i + 1), by omega, rfl, hlt, z⟩, fun x H3 y => ?_⟩
      obtain ⟨d, Hs3, e, s3, R3, dp⟩ := w3 i x H3 hlt y
      have ed : items.drop i = d :: items.drop (i + 1) := by
        obtain ⟨h1, h2⟩ := List.getElem?_eq_some_iff.mp e
        rw [← h2]
        exact List.drop_eq_getElem_cons h1
      rw [ed] at q2
      refine hG _ _ _ _ _ ⟨Hs3, δ2, d, R3, dp, hg _ _ _ _ (fun δ4 q4 σ4 R4 a4 => ?_) q2⟩
      have ag : ∀ j, j ∉ vs → σ4[j]? = (wipe σ vs)[j]? := fun j nj => a4.2 j fun z => nj (hts j z)
      have ag2 : ∀ j, j ∉ vs → σ[j]? = σ4[j]? := fun j nj => by rw [ag j nj, wipe_out nj]
      have la : σ.length = σ4.length := by rw [a4.1, wipe_length]
      have back : ∀ {Hs5 H5 : Hp} {δ5 : DSt} {ws' : List V} {acc' : List PyData}, Same Hs3 Hs5 → Rl X.K (Z.gd D (.lst ws)) Hs5 H5 σ4 δ5 → DpAll X.K Hs5 ws' acc' →
          dLcL g tt te vs (fun xs δ' => ∀ v Hs' H', Same Hs Hs' → Rl X.K Z Hs' H' σ δ' → FrO X.K Z Hs' H' σ δ' v xs → Q v H') (items.drop (i + 1)) acc' (dwipe δ5 vs) →
          ∃ Hs2 δ2 acc, Same Hs1 Hs2 ∧ Rl X.K Z Hs2 (upd H5 D (.lst ws')) σ δ2 ∧ (∀ j ∈ vs, ∀ x : Sl, δ2[j]? ≠ some (some x)) ∧ FrO X.K Z Hs2 (upd H5 D (.lst ws')) σ δ2 (.ref D) acc ∧
            dLcL g tt te vs (fun xs δ' => ∀ v Hs' H', Same Hs Hs' → Rl X.K Z Hs' H' σ δ' → FrO X.K Z Hs' H' σ δ' v xs → Q v H') (items.drop (i + 1)) acc δ2 := fun {Hs5 H5 δ5 ws' acc'} s5 R5 dp5 q5 =>
        have Ru := Rl.unguard (o' := .lst ws') hDn h0D R5
        ⟨Hs5, dwipe δ5 vs, acc', (s2.trans s3).trans s5, Ru.reslot la ag2, fun j hj x e => (dwipe_some e).2 hj, FrO.reslot Ru (FrO.unguard hDn h0D R5 dp5) ag2, q5⟩
      refine ⟨?_, hT _ _ _ _ ⟨Hs3, δ4, R4, ht _ _ _ (fun b δ5 q5 Hs5 H5 s5 R5 => ?_) q4⟩⟩
      · rw [wipe_eq (σ := wipe σ vs) (σ' := σ4) a4.1 ag]
        exact wipe_eq (wipe_length σ vs) fun j nj => wipe_out nj
      · cases b with
        | true =>
          rw [if_pos rfl]
          refine hE _ _ _ _ ⟨Hs5, δ5, R5, he _ _ _ (fun z δ6 q6 v6 Hs6 H6 s6 R6 dp6 => ?_) q5⟩
          obtain ⟨g1, g2, g3⟩ := R6.grd D _ (List.mem_cons_self ..)
          refine ⟨ws, g1, by rw [hda.len]; exact q6.1, ?_⟩
          exact back (s5.trans s6) R6 ((((hda.up s3).up s5).up s6).app (.cons dp6 .nil)) q6.2
        | false =>
          rw [if_neg Bool.false_ne_true]
          obtain ⟨g1, g2, g3⟩ := R5.grd D _ (List.mem_cons_self ..)
          have z := back s5 R5 ((hda.up s3).up s5) q5
          rw [upd_id g1] at z
          exact z
    · have e : i = items.length := by omega
      subst e
      rw [List.drop_length] at q2
      exact .inl ⟨(w Z Hs2 H' σ δ2 s2 R2).2.1, q2 (.ref D) Hs2 H' (s1.trans s2) R2 hD⟩
theorem do_lc {elt iter : Expr} {ifs : List Expr} {scope : Scope} (own : List (Str × Nat)) {ts : List Nat} {ti : DL'} {g : DG} {tt : DT} {te : DE} (hc : X.calm = true) (hN : X.N.Nodup) (hi : Dit X Z tg iter ti) (ok : BlkOk X.N X.env.scope scope own)
    (hg : ∀ (Z' : Ent) (s : Shared) (H : Hp) (C : Addr) (cl : List (Str × Addr)) (fp : List Addr), Dg (X.blk s H scope (compEnvC scope cl C X.env) fp) Z' tg ts g) (ht : ∀ (Z' : Ent) (s : Shared) (H : Hp) (C : Addr) (cl : List (Str × Addr)) (fp : List Addr), Dts (X.blk s H scope (compEnvC scope cl C X.env) fp) Z' ifs tt)
    (he : ∀ (Z' : Ent) (s : Shared) (H : Hp) (C : Addr) (cl : List (Str × Addr)) (fp : List Addr), De (X.blk s H scope (compEnvC scope cl C X.env) fp) Z' elt te) (hts : ∀ t ∈ ts, t ∈ own.map (·.2) := by decide) (hs : ∀ x, foldedSetIterable iter X.env x = pure x := by intro _; rfl) :
    Do X Z (.ListComp elt [⟨tg, iter, ifs, 0⟩] scope pos) (dLc ti g tt te (own.map (·.2))) := by
  refine ⟨pe_imp (pe_lc (own := own) (g := fun v σ H Q => ∃ Z', lG X.K Z' ts g v σ H Q) (tt := fun σ H Q => ∃ Z', lT X.K Z' tt σ H Q) (te := fun σ H Q => ∃ Z', lE X.K Z' te σ H Q) hc hN hi.run ok
      (fun s H C cl fp => ⟨fun pins s' σ H' v u Q I r ⟨Z', h⟩ => (hg Z' s H C cl fp).run.run pins s' σ H' v u Q I r h⟩) (fun s H C cl fp => ⟨fun pins s' σ H' Q I ⟨Z', h⟩ => (ht Z' s H C cl fp).run.run pins s' σ H' Q I h⟩)
      (fun s H C cl fp => ⟨fun pins s' σ H' Q I ⟨Z', h⟩ => (he Z' s H C cl fp).run.run pins s' σ H' Q I h⟩) hs) fun σ H Q h => ?_, fun δ Q Q' hq q => ?_⟩
  · have z : Shared × Hp × Addr := ⟨X.s_0, X.H_0, 0⟩
    exact lc_imp (elt := elt) (ifs := ifs) hi (hg Z z.1 z.2.1 0 [] []).mono (ht Z z.1 z.2.1 0 [] []).mono (he Z z.1 z.2.1 0 [] []).mono hts _ _ _ (fun Z' _ _ _ _ h => ⟨Z', h⟩) (fun Z' _ _ _ h => ⟨Z', h⟩) (fun Z' _ _ _ h => ⟨Z', h⟩) σ H Q h
  · exact hi.mono _ _ _ (fun items δ1 q => dLcL_mono (hg Z X.s_0 X.H_0 0 [] []).mono (ht Z X.s_0 X.H_0 0 [] []).mono (he Z X.s_0 X.H_0 0 [] []).mono hq _ _ _ q) q
/-- y = [..] -/
theorem ds_setLcP {i : Nat} {y : Str} {py spos : Pos} {elt iter : Expr} {ifs : List Expr} {scope : Scope} {own : List (Str × Nat)} {ts : List Nat} {ti : DL'} {g : DG} {tt : DT} {te : DE} (hc : X.calm = true) (hN : X.N.Nodup) (hy : X.N[i]? = some y) (hyl : X.env.scope.names.lookup y = some .local)
    (hsw : swapsWith (.ListComp elt [⟨tg, iter, ifs, 0⟩] scope pos) (some (.Name y py)) spos.line X.env = pure true) (hi : Dit X Z tg iter ti) (ok : BlkOk X.N X.env.scope scope own)
    (hg : ∀ (Z' : Ent) (s : Shared) (H : Hp) (C : Addr) (cl : List (Str × Addr)) (fp : List Addr), Dg (X.blk s H scope (compEnvC scope cl C X.env) fp) Z' tg ts g) (ht : ∀ (Z' : Ent) (s : Shared) (H : Hp) (C : Addr) (cl : List (Str × Addr)) (fp : List Addr), Dts (X.blk s H scope (compEnvC scope cl C X.env) fp) Z' ifs tt)
    (he : ∀ (Z' : Ent) (s : Shared) (H : Hp) (C : Addr) (cl : List (Str × Addr)) (fp : List Addr), De (X.blk s H scope (compEnvC scope cl C X.env) fp) Z' elt te) (hts : ∀ t ∈ ts, t ∈ own.map (·.2)) (hs : ∀ x, foldedSetIterable iter X.env x = pure x) :
    PS X (.Assign [.Name y py] (.ListComp elt [⟨tg, iter, ifs, 0⟩] scope pos) spos) (fun D σ H => lO X.K Z (dLc ti g tt te (own.map (·.2))) σ H fun v H' => D.nx (σ.set i (some v)) H') := by
  refine ps_imp (ps_setLc (own := own) (i := i) (g := fun v σ H Q => ∃ Z', lG X.K Z' ts g v σ H Q) (tt := fun σ H Q => ∃ Z', lT X.K Z' tt σ H Q) (te := fun σ H Q => ∃ Z', lE X.K Z' te σ H Q) hc hN hy hyl hsw hi.run ok
      (fun s H C cl fp => ⟨fun pins s' σ H' v u Q I r ⟨Z', h⟩ => (hg Z' s H C cl fp).run.run pins s' σ H' v u Q I r h⟩) (fun s H C cl fp => ⟨fun pins s' σ H' Q I ⟨Z', h⟩ => (ht Z' s H C cl fp).run.run pins s' σ H' Q I h⟩)
      (fun s H C cl fp => ⟨fun pins s' σ H' Q I ⟨Z', h⟩ => (he Z' s H C cl fp).run.run pins s' σ H' Q I h⟩) hs) fun D σ H h => ?_
  exact lc_imp (elt := elt) (ifs := ifs) hi (hg Z X.s_0 X.H_0 0 [] []).mono (ht Z X.s_0 X.H_0 0 [] []).mono (he Z X.s_0 X.H_0 0 [] []).mono hts _ _ _ (fun Z' _ _ _ _ h => ⟨Z', h⟩) (fun Z' _ _ _ h => ⟨Z', h⟩) (fun Z' _ _ _ h => ⟨Z', h⟩) σ H _ h
theorem dLc_mono {iter elt : Expr} {ifs : List Expr} {scope : Scope} {ts vs : List Nat} {ti : DL'} {g : DG} {tt : DT} {te : DE} (hi : Dit X Z tg iter ti)
    (hg : ∀ (Z' : Ent) (s : Shared) (H : Hp) (C : Addr) (cl : List (Str × Addr)) (fp : List Addr), Dg (X.blk s H scope (compEnvC scope cl C X.env) fp) Z' tg ts g) (ht : ∀ (Z' : Ent) (s : Shared) (H : Hp) (C : Addr) (cl : List (Str × Addr)) (fp : List Addr), Dts (X.blk s H scope (compEnvC scope cl C X.env) fp) Z' ifs tt)
    (he : ∀ (Z' : Ent) (s : Shared) (H : Hp) (C : Addr) (cl : List (Str × Addr)) (fp : List Addr), De (X.blk s H scope (compEnvC scope cl C X.env) fp) Z' elt te) {δ : DSt} {Q Q' : List PyData → DSt → Prop} (hq : ∀ d δ', Q d δ' → Q' d δ') (q : dLc ti g tt te vs δ Q) : dLc ti g tt te vs δ Q' :=
  hi.mono _ _ _ (fun items δ1 q => dLcL_mono (hg Z X.s_0 X.H_0 0 [] []).mono (ht Z X.s_0 X.H_0 0 [] []).mono (he Z X.s_0 X.H_0 0 [] []).mono hq _ _ _ q) q
theorem ds_setLc {i : Nat} {y : Str} {py spos : Pos} {elt iter : Expr} {ifs : List Expr} {scope : Scope} (own : List (Str × Nat)) {ts : List Nat} {ti : DL'} {g : DG} {tt : DT} {te : DE} (hc : X.calm = true) (hN : X.N.Nodup) (hy : X.N[i]? = some y) (hyl : X.env.scope.names.lookup y = some .local)
    (hsw : swapsWith (.ListComp elt [⟨tg, iter, ifs, 0⟩] scope pos) (some (.Name y py)) spos.line X.env = pure true) (hi : Dit X Z tg iter ti) (ok : BlkOk X.N X.env.scope scope own)
    (hg : ∀ (Z' : Ent) (s : Shared) (H : Hp) (C : Addr) (cl : List (Str × Addr)) (fp : List Addr), Dg (X.blk s H scope (compEnvC scope cl C X.env) fp) Z' tg ts g) (ht : ∀ (Z' : Ent) (s : Shared) (H : Hp) (C : Addr) (cl : List (Str × Addr)) (fp : List Addr), Dts (X.blk s H scope (compEnvC scope cl C X.env) fp) Z' ifs tt)
    (he : ∀ (Z' : Ent) (s : Shared) (H : Hp) (C : Addr) (cl : List (Str × Addr)) (fp : List Addr), De (X.blk s H scope (compEnvC scope cl C X.env) fp) Z' elt te) (hts : ∀ t ∈ ts, t ∈ own.map (·.2) := by decide) (hs : ∀ x, foldedSetIterable iter X.env x = pure x := by intro _; rfl) :
    Ds X Z (.Assign [.Name y py] (.ListComp elt [⟨tg, iter, ifs, 0⟩] scope pos) spos) (dSet i (dShare (dLc ti g tt te (own.map (·.2))))) :=
  ⟨ps_imp (ds_setLcP hc hN hy hyl hsw hi ok hg ht he hts hs) fun D σ H ⟨Hs, δ, N, R, okk, q⟩ => ⟨Hs, δ, R, dLc_mono hi hg ht he (fun xs δ' q v Hs' H' s R' f => by
    obtain ⟨Hs2, s2, R2, dp⟩ := f.share R'
    exact okk.nx _ _ Hs2 H' (s.trans s2) (R2.set dp) q) q⟩⟩
end
/-! ### a def keeps its promise -/
def startD (N : List Str) (ds : List PyData) : DSt := ds.map (fun d => some (.sh d)) ++ List.replicate (N.length - ds.length) none
def startB (N : List Str) (xs : List PyData) (ds : List PyData) : DSt := some (.ow true xs) :: (ds.map (fun d => some (.sh d)) ++ List.replicate (N.length - (ds.length + 1)) none)
def endsP (Q : Res → Prop) : DEnds := ⟨fun _ => Q (.d .none), fun d _ => Q (.d d), fun s _ => (match s with
  | .ow _ xs => Q (.o xs)
  | .ob _ o => Q (.b o)
  | _ => False), fun _ => False, fun _ => False⟩
/-- the caller's list as it stands in slot 0 -/
def atB (δ : DSt) (Q : List PyData → Prop) : Prop := match δ with
  | some (Sl.ow true xs) :: _ => Q xs
  | _ => False
def endsB (Q : Res → List PyData → Prop) : DEnds := ⟨fun δ => atB δ (Q (.d .none)), fun d δ => atB δ (Q (.d d)), fun s δ => (match s with
  | .ow _ xs => atB δ (Q (.o xs))
  | .ob _ o => atB δ (Q (.b o))
  | _ => False), fun _ => False, fun _ => False⟩
section
variable {P : Program} {w : World} {K : Fg} {mg : Str → Option Value} {base : Heap} {x qual : Str} {params : Arguments} {body : List Stmt} {scope : Scope} {dvs : List V} {kws : List (Str × V)} {f : Addr} {fd : FuncData} {N ps : List Str} {k : Nat}
/-- only the frame is left -/
theorem Rl.nil {Z : Ent} {Hs H : Hp} {σ : St} {δ : DSt} (R : Rl K Z Hs H σ δ) : Rl K Z Hs H [] [] :=
  ⟨rfl, R.sub, R.ext, R.fr, R.new, R.hid, fun i d e => (nomatch e), ⟨fun _ => [], ⟨fun i s e => (nomatch e), fun _ _ => rfl, fun i a m => (nomatch m), fun i a m => (nomatch m), fun i s a e => (nomatch e), fun i j a n m => (nomatch m), fun i a o m => nomatch m⟩⟩, R.grd, fun i s e => (nomatch e), fun i C e => nomatch e⟩
theorem FrA.nil {Z : Ent} {Hs H : Hp} {σ : St} {δ : DSt} {v : V} {s : Sl} {A : List Addr} (c : FrA K Z Hs H σ δ v s A) : FrA K Z Hs H [] [] v s A :=
  ⟨c.at_, c.hs, c.mine, fun f F j a m m' => by rw [F.emp j (fun s e => (nomatch e))] at m'; exact (nomatch m'), c.g⟩
theorem FrO.nil {Z : Ent} {Hs H : Hp} {σ : St} {δ : DSt} {v : V} {xs : List PyData} (f : FrO K Z Hs H σ δ v xs) : FrO K Z Hs H [] [] v xs := f.elim fun A c => ⟨A, c.nil⟩
theorem start_get {N : List Str} {vs : List V} {i : Nat} {v : V} (h : vs[i]? = some v) : (start N vs)[i]? = some (some v) := by
  unfold L2.start
  rw [List.getElem?_append_left (by rw [List.length_map]; exact get_lt h), List.getElem?_map, h]
  rfl
theorem startD_get {ds : List PyData} {n i : Nat} {s : Sl} (h : (ds.map (fun d => some (Sl.sh d)) ++ List.replicate n none)[i]? = some (some s)) : ∃ d, ds[i]? = some d ∧ s = .sh d := by
  by_cases hi : i < ds.length
  · rw [List.getElem?_append_left (by rw [List.length_map]; exact hi), List.getElem?_map, List.getElem?_eq_getElem hi] at h
    cases h
    exact ⟨_, List.getElem?_eq_getElem hi, rfl⟩
  · rw [List.getElem?_append_right (by rw [List.length_map]; omega), List.getElem?_replicate] at h
    split at h <;> cases h
theorem rl_startP {Hs H : Hp} {vs : List V} {ds : List PyData} {σ0 : St} {xa : Option (Addr × Str)} {ex : Addr → Nat} (sub : Same Hs H) (d : DpAll K Hs vs ds) : Rl K ⟨H, Hs, [], [], σ0, xa, ex⟩ Hs H (start N vs) (startD N ds) := by
  have l := d.len
  have no : ∀ (i : Nat) (s : Sl), (startD N ds)[i]? = some (some s) → s.own = false ∧ s.prm = false := fun i s z => by
    obtain ⟨d', e1, e2⟩ := startD_get z
    subst e2
    exact ⟨rfl, rfl⟩
  refine ⟨?_, sub, Same.refl _, fun b o e _ => e, fun b n => .inl n, fun b e => (nomatch e), fun i e z => ?_, ⟨fun _ => [], ⟨fun i s z o => ?_, fun _ _ => rfl, fun i a m => (nomatch m), fun i a m => (nomatch m), fun i s a _ _ m => (nomatch m), fun i j a n m => (nomatch m), fun i a o m => nomatch m⟩⟩, fun a o m => (nomatch m), fun i s z p => ?_, fun i C z => ?_⟩
  · unfold L2.start startD
    rw [List.length_append, List.length_append, List.length_map, List.length_map, List.length_replicate, List.length_replicate, l]
  · obtain ⟨d', e1, e2⟩ := startD_get z
    cases e2
    obtain ⟨v, h1, h2⟩ := d.get e1
    exact ⟨v, start_get h1, h2⟩
  · rw [(no i s z).1] at o
    cases o
  · rw [(no i s z).2] at p
    cases p
  · obtain ⟨d', e1, e2⟩ := startD_get z
    cases e2
/-- an owned thing handed in first -/
theorem rl_startA {Hs H : Hp} {v : V} {s : Sl} {A : List Addr} {us : List V} {ds : List PyData} {σ0 : St} {xa : Option (Addr × Str)} (sub : Same Hs H) (h : At K Hs H v s A) (hs : ∀ a ∈ A, Hs a = none) (hp : s.prm = true) (h0 : σ0[0]? = some (some v)) (d : DpAll K Hs us ds) :
    Rl K ⟨H, Hs, A, [], σ0, xa, fun _ => 0⟩ Hs H (start N (v :: us)) (some s :: (ds.map (fun d => some (.sh d)) ++ List.replicate (N.length - (ds.length + 1)) none)) := by
  have l := d.len
  have e0 : start N (v :: us) = some v :: (us.map some ++ List.replicate (N.length - (us.length + 1)) none) := rfl
  have no : ∀ (i : Nat) (t : Sl), (some s :: (ds.map (fun d => some (Sl.sh d)) ++ List.replicate (N.length - (ds.length + 1)) none))[i]? = some (some t) → i = 0 ∧ t = s ∨ i ≠ 0 ∧ t.own = false ∧ t.prm = false := fun i t z => by
    cases i with
    | zero => cases z; exact .inl ⟨rfl, rfl⟩
    | succ i =>
      obtain ⟨d', e1, e2⟩ := startD_get (show (ds.map (fun d => some (Sl.sh d)) ++ List.replicate (N.length - (ds.length + 1)) none)[i]? = some (some t) from z)
      subst e2
      exact .inr ⟨by omega, rfl, rfl⟩
  refine ⟨?_, sub, Same.refl _, fun b o e _ => e, fun b n => .inl n, fun c e => ⟨hs c e, h.live c e⟩, fun i e z => ?_, ⟨fun i => if i = 0 then A else [], ⟨fun i t z o => ?_, fun i z => ?_, fun i a m => ?_, fun i a m => ?_, fun i t a z p m => ?_, fun i j a n m m' => ?_, fun i a o m => nofun⟩⟩, fun a o m => (nomatch m), fun i t z p => ?_, fun i C z => ?_⟩
  · rw [e0, List.length_cons, List.length_cons, List.length_append, List.length_append, List.length_map, List.length_map, List.length_replicate, List.length_replicate, l]
  · cases i with
    | zero => cases z; cases hp
    | succ i =>
      obtain ⟨d', e1, e2⟩ := startD_get (show (ds.map (fun d => some (Sl.sh d)) ++ List.replicate (N.length - (ds.length + 1)) none)[i]? = some (some (Sl.sh e)) from z)
      cases e2
      obtain ⟨v', h1, h2⟩ := d.get e1
      exact ⟨v', start_get (show (v :: us)[i + 1]? = some v' from h1), h2⟩
  · rcases no i t z with ⟨rfl, rfl⟩ | ⟨_, e, _⟩
    · exact ⟨v, by rw [e0]; rfl, h⟩
    · rw [e] at o
      cases o
  · cases i with
    | zero =>
      have := z s rfl
      rw [h.owned] at this
      cases this
    | succ i => rfl
  · split at m
    · exact hs a m
    · exact nomatch m
  · split at m
    · rename_i e
      exact .inr ⟨m, e.symm⟩
    · exact nomatch m
  · rcases no i t z with ⟨rfl, rfl⟩ | ⟨ne, e, _⟩
    · rw [hp] at p
      cases p
    · rw [if_neg ne] at m
      exact nomatch m
  · split at m
    · rename_i e1
      split at m'
      · rename_i e2
        exact n (e1.trans e2.symm)
      · exact nomatch m'
    · exact nomatch m
  · rcases no i t z with ⟨rfl, rfl⟩ | ⟨_, _, e⟩
    · rw [e0, h0]
      rfl
    · rw [e] at p
      cases p
  · cases i with
    | zero => cases z; cases hp
    | succ i =>
      obtain ⟨d', e1, e2⟩ := startD_get (show (ds.map (fun d => some (Sl.sh d)) ++ List.replicate (N.length - (ds.length + 1)) none)[i]? = some (some (Sl.xn C)) from z)
      cases e2
theorem ok_pure {fn : FP} (F : FunD K x qual params body scope dvs kws f fd) (S : FnScope N ps scope) (fm : FMono fn) (len : ∀ ds Q, fn ds Q → ds.length = ps.length)
    (hb : ∀ (cdv : Value) (A : Around) (outer : List Env) (s : Shared) (H : Hp) (E : XK) (Z : Ent), Room k (A.deeper (PyProof.Rows.envOfC qual scope s.heap.objs.size f cdv)) →
      ∃ t, Dss (cxOf CX0 P w K mg base N qual scope f cdv A outer s H E).nox Z body t ∧ ∀ ds Q, fn ds Q → t (endsP Q) (startD N ds)) : FnOk P w K mg base CX0 (k + 1) f fd ps (spP K fn) := by
  refine F.ok S (fun vs H Q E h => ?_) (fun cdv A outer s H vs Q E hr h => ?_)
  · obtain ⟨Hs, ds, _, d, q⟩ := h
    rw [d.len]
    exact len _ _ q
  · obtain ⟨Hs, ds, sub, d, q⟩ := h
    obtain ⟨t, ht, hq⟩ := hb cdv A outer s H E (.at H Hs [] []) hr
    refine ⟨_, PSs.nox ht.run, Hs, startD N ds, endsP _, rl_startP sub d, ⟨fun σ δ Hs' H' _ R z => ?_, fun σ δ Hs' H' v e _ R dp z => ?_, fun σ δ Hs' H' v xs _ R fr z => ?_, fun _ _ _ _ _ _ z => z.elim, fun _ _ _ _ _ _ z => z.elim⟩, hq ds _ q⟩
    · exact z .non Hs' H' R.nil .non
    · exact z v Hs' H' R.nil dp
    · obtain ⟨hp, A, fr⟩ := fr
      cases xs with
      | sh d => exact z.elim
      | xn C => exact z.elim
      | ow p ys => cases p with
        | false => exact z v Hs' H' R.nil ⟨A, fr.nil⟩
        | true => exact nomatch hp
      | ob p o => cases p with
        | false => exact z v Hs' H' R.nil ⟨A, fr.nil⟩
        | true => exact nomatch hp
theorem atB_of {δ : DSt} {Q : List PyData → Prop} (h : atB δ Q) : ∃ xs, δ[0]? = some (some (Sl.ow true xs)) ∧ Q xs := by
  unfold atB at h
  split at h
  · exact ⟨_, rfl, h⟩
  · exact h.elim
/-- only slot 0, the caller's, is left -/
theorem Rl.head {Z : Ent} {Hs H : Hp} {σ : St} {δ : DSt} {s : Sl} {v : V} (R : Rl K Z Hs H σ δ) (h0 : Z.σ0[0]? = some (some v)) (h : δ[0]? = some (some s)) (ho : s.own = true) (hp : s.prm = true) : Rl K Z Hs H [some v] [some s] ∧ σ[0]? = some (some v) := by
  have hv : σ[0]? = some (some v) := (R.prm 0 s h hp).trans h0
  have no : ∀ (i : Nat) (t : Sl), ([some s] : DSt)[i]? = some (some t) → i = 0 ∧ t = s := fun i t z => by
    cases i with
    | zero => cases z; exact ⟨rfl, rfl⟩
    | succ i => simp at z
  refine ⟨⟨rfl, R.sub, R.ext, R.fr, R.new, R.hid, fun i d e => ?_, ?_, R.grd, fun i t e p => ?_, fun i C e => ?_⟩, hv⟩
  · obtain ⟨rfl, e2⟩ := no i _ e
    rw [← e2] at hp
    cases hp
  · obtain ⟨f, F⟩ := R.fps
    obtain ⟨v', k1, k2⟩ := F.at_ 0 s h ho
    rw [hv] at k1
    cases k1
    have m1 : ∀ {i : Nat} {a : Addr}, a ∈ (if i = 0 then f 0 else []) → i = 0 ∧ a ∈ f 0 := fun {i a} m => by
      split at m
      · rename_i e
        exact ⟨e, m⟩
      · exact nomatch m
    refine ⟨fun i => if i = 0 then f 0 else [], ⟨fun i t e o => ?_, fun i e => ?_, fun i a m => F.hs 0 a (m1 m).2, fun i a m => (m1 m).1 ▸ F.old 0 a (m1 m).2, fun i t a e p m => ?_, fun i j a n m m' => n ((m1 m).1.trans (m1 m').1.symm), fun i a o m => F.g 0 a o (m1 m).2⟩⟩
    · obtain ⟨rfl, rfl⟩ := no i t e
      exact ⟨v, rfl, k2⟩
    · cases i with
      | zero =>
        have := e s rfl
        rw [ho] at this
        cases this
      | succ i => rfl
    · obtain ⟨rfl, rfl⟩ := no i t e
      exact F.mine 0 _ a h p (m1 m).2
  · obtain ⟨rfl, rfl⟩ := no i t e
    rw [h0]
    rfl
  · obtain ⟨rfl, e2⟩ := no i _ e
    rw [← e2] at hp
    cases hp
theorem FrA.one {Z : Ent} {Hs H : Hp} {σ : St} {δ : DSt} {s t : Sl} {v u : V} {A : List Addr} (R : Rl K Z Hs H σ δ) (hv : σ[0]? = some (some v)) (h : δ[0]? = some (some s)) (ho : s.own = true) (c : FrA K Z Hs H σ δ u t A) : FrA K Z Hs H [some v] [some s] u t A := by
  refine ⟨c.at_, c.hs, c.mine, fun f' F' j a m m' => ?_, c.g⟩
  obtain ⟨f, F⟩ := R.fps
  cases j with
  | zero =>
    rw [F.eqj F' 0 (by rw [h]; rfl) (fun w z => by rw [hv] at z; cases z; rfl) fun _ _ => rfl] at m'
    exact c.dis f F 0 a m m'
  | succ j =>
    rw [F'.emp (j + 1) fun s z => by simp at z] at m'
    exact nomatch m'
theorem ok_bag {fn : FB} (F : FunD K x qual params body scope dvs kws f fd) (S : FnScope N ps scope) (fm : BMono fn) (len : ∀ xs ds Q, fn xs ds Q → ds.length + 1 = ps.length)
    (hb : ∀ (cdv : Value) (A : Around) (outer : List Env) (s : Shared) (H : Hp) (E : XK) (Z : Ent), Room k (A.deeper (PyProof.Rows.envOfC qual scope s.heap.objs.size f cdv)) →
      ∃ t, Dss (cxOf CX0 P w K mg base N qual scope f cdv A outer s H E).nox Z body t ∧ ∀ xs ds Q, fn xs ds Q → t (endsB Q) (startB N xs ds)) : FnOk P w K mg base CX0 (k + 1) f fd ps (spB K fn) := by
  refine F.ok S (fun vs H Q E h => ?_) (fun cdv A outer s H vs Q E hr h => ?_)
  · obtain ⟨Hs, b, ws, xs, us, ds, rfl, _, _, _, _, d, q⟩ := h
    rw [List.length_cons, d.len]
    exact len _ _ _ q
  · obtain ⟨Hs, b, ws, xs, us, ds, rfl, sub, hb0, hl, d1, d, q⟩ := h
    obtain ⟨t, ht, hq⟩ := hb cdv A outer s H E (.at H Hs [b] [some (.ref b)]) hr
    refine ⟨_, PSs.nox ht.run, Hs, startB N xs ds, endsB _, rl_startA (s := .ow true xs) (A := [b]) sub (.ow hl d1) (fun a m => by rw [List.mem_singleton.mp m]; exact hb0) rfl rfl d, ⟨fun σ δ Hs' H' _ R z => ?_, fun σ δ Hs' H' v e _ R dp z => ?_, fun σ δ Hs' H' v xs _ R fr z => ?_, fun _ _ _ _ _ _ z => z.elim, fun _ _ _ _ _ _ z => z.elim⟩, hq xs ds _ q⟩
    · obtain ⟨ys, e, z⟩ := atB_of z
      exact z .non Hs' H' (R.head rfl e rfl rfl).1 .non
    · obtain ⟨ys, e, z⟩ := atB_of z
      exact z v Hs' H' (R.head rfl e rfl rfl).1 dp
    · obtain ⟨hp, A, c⟩ := fr
      cases xs with
      | sh d => exact z.elim
      | xn C => exact z.elim
      | ow p us =>
        cases p with
        | true => exact nomatch hp
        | false =>
          obtain ⟨ys, e, z⟩ := atB_of z
          exact z v Hs' H' (R.head rfl e rfl rfl).1 ⟨A, FrA.one R (R.head rfl e rfl rfl).2 e rfl c⟩
      | ob p o =>
        cases p with
        | true => exact nomatch hp
        | false =>
          obtain ⟨ys, e, z⟩ := atB_of z
          exact z v Hs' H' (R.head rfl e rfl rfl).1 ⟨A, FrA.one R (R.head rfl e rfl rfl).2 e rfl c⟩
end
end DL

namespace DL
open PySem PySem.Spec L2
theorem bb_abs : bootBuiltins "abs" = some (.builtin "abs") := by decide +kernel
theorem bb_max : bootBuiltins "max" = some (.builtin "max") := by decide +kernel
theorem bb_min : bootBuiltins "min" = some (.builtin "min") := by decide +kernel
theorem bb_len : bootBuiltins "len" = some (.builtin "len") := by decide +kernel
theorem bb_all : bootBuiltins "all" = some (.builtin "all") := by decide +kernel
theorem bb_isinstance : bootBuiltins "isinstance" = some (.builtin "isinstance") := by decide +kernel
theorem bt_int : bootBuiltins "int" = some (.type "int") := by decide +kernel
theorem bt_bool : bootBuiltins "bool" = some (.type "bool") := by decide +kernel
theorem bt_tuple : bootBuiltins "tuple" = some (.type "tuple") := by decide +kernel
theorem bt_list : bootBuiltins "list" = some (.type "list") := by decide +kernel
theorem kf_int : kitFor "int" = true := by decide +kernel
theorem kf_bool : kitFor "bool" = true := by decide +kernel
theorem kf_tuple : kitFor "tuple" = true := by decide +kernel
theorem kf_list : kitFor "list" = true := by decide +kernel
end DL

namespace DL
open PySem PySem.Spec L2
/-! ### readings are monotone -/
class EMono (t : DE) : Prop where
  m : ∀ (δ : DSt) (Q Q' : PyData → DSt → Prop), (∀ d δ', Q d δ' → Q' d δ') → t δ Q → t δ Q'
class TMono (t : DT) : Prop where
  m : ∀ (δ : DSt) (Q Q' : Bool → DSt → Prop), (∀ d δ', Q d δ' → Q' d δ') → t δ Q → t δ Q'
class LMono (t : DL') : Prop where
  m : ∀ (δ : DSt) (Q Q' : List PyData → DSt → Prop), (∀ d δ', Q d δ' → Q' d δ') → t δ Q → t δ Q'
class GMono (t : DG) : Prop where
  m : ∀ (d : PyData) (δ : DSt) (Q Q' : DSt → Prop), (∀ δ', Q δ' → Q' δ') → t d δ Q → t d δ Q'
class GsMono (t : DGs) : Prop where
  m : ∀ (d : List PyData) (δ : DSt) (Q Q' : DSt → Prop), (∀ δ', Q δ' → Q' δ') → t d δ Q → t d δ Q'
class D2M (r : D2) : Prop where
  m : ∀ (d e : PyData) (Q Q' : PyData → Prop), (∀ z, Q z → Q' z) → r d e Q → r d e Q'
class D1M (r : D1) : Prop where
  m : ∀ (ds : List PyData) (Q Q' : PyData → Prop), (∀ z, Q z → Q' z) → r ds Q → r ds Q'
structure DEnds.Le (N N' : DEnds) : Prop where
  nx : ∀ δ, N.nx δ → N'.nx δ
  rt : ∀ d δ, N.rt d δ → N'.rt d δ
  ro : ∀ d δ, N.ro d δ → N'.ro d δ
  bk : ∀ δ, N.bk δ → N'.bk δ
  ct : ∀ δ, N.ct δ → N'.ct δ
theorem DEnds.Le.refl (N : DEnds) : N.Le N := ⟨fun _ h => h, fun _ _ h => h, fun _ _ h => h, fun _ h => h, fun _ h => h⟩
class SMono (t : DS) : Prop where
  m : ∀ (N N' : DEnds) (δ : DSt), N.Le N' → t N δ → t N' δ
section
variable {ta tb tc : DE} {c c' : DT} {l l' : DL'} {g : DG} {gs : DGs} {r r' : D2} {r1 : D1} {s s' : DS} {f : FP} {fb : FB}
instance {C : Int → Int → Prop} {h : Int → Int → PyData} : D2M (rII C h) := ⟨rII_mono⟩
instance : D2M rEqq := ⟨fun d e Q Q' hq q => ⟨q.1, q.2.1, hq _ q.2.2⟩⟩
instance : D2M rNeq := ⟨fun d e Q Q' hq q => ⟨q.1, q.2.1, hq _ q.2.2⟩⟩
instance : D2M DL.rIx := ⟨fun d e Q Q' hq q => by
  unfold DL.rIx at q ⊢
  split at q
  · obtain ⟨z, a, b⟩ := q
    exact ⟨z, a, hq _ b⟩
  · obtain ⟨z, a, b⟩ := q
    exact ⟨z, a, hq _ b⟩
  · exact q⟩
instance : D1M rAbs := ⟨fun ds Q Q' hq q => by
  unfold rAbs at q ⊢
  split at q
  · exact hq _ q
  · exact q⟩
instance : D1M DL.rMax := ⟨fun ds Q Q' hq q => by
  unfold DL.rMax at q ⊢
  split at q
  · exact hq _ q
  · exact q⟩
instance : D1M DL.rMin := ⟨fun ds Q Q' hq q => by
  unfold DL.rMin at q ⊢
  split at q
  · exact hq _ q
  · exact q⟩
instance : D1M rInt1 := ⟨fun ds Q Q' hq q => by
  unfold rInt1 at q ⊢
  split at q
  · exact hq _ q
  · exact hq _ q
  · exact q⟩
instance : D1M rLen := ⟨fun ds Q Q' hq q => by
  unfold rLen at q ⊢
  split at q
  · exact hq _ q
  · exact hq _ q
  · exact ⟨q.1, hq _ q.2⟩
  · exact q⟩
instance : D1M DL.rAll := ⟨fun ds Q Q' hq q => by
  unfold DL.rAll at q ⊢
  split at q
  · obtain ⟨bs, e, q⟩ := q
    exact ⟨bs, e, hq _ q⟩
  · exact q⟩
instance {i : Nat} : EMono (dVar i) := ⟨fun δ Q Q' hq q => by
  unfold dVar at q ⊢
  split at q
  · exact hq _ _ q
  · exact hq _ _ q
  · exact q⟩
instance {d : PyData} : EMono (dC d) := ⟨fun δ Q Q' hq q => hq _ _ q⟩
instance [LMono l] : EMono (dShare l) := ⟨fun δ Q Q' hq q => LMono.m (t := l) _ _ _ (fun _ _ z => hq _ _ z) q⟩
instance : LMono (dNil) := ⟨fun δ Q Q' hq q => hq _ _ q⟩
instance [EMono ta] [LMono l] : LMono (dCons ta l) := ⟨fun δ Q Q' hq q => EMono.m (t := ta) _ _ _ (fun _ _ z => LMono.m (t := l) _ _ _ (fun _ _ z => hq _ _ z) z) q⟩
instance [LMono l] : EMono (dTup l) := ⟨fun δ Q Q' hq q => LMono.m (t := l) _ _ _ (fun _ _ z => ⟨z.1, hq _ _ z.2⟩) q⟩
instance [LMono l] : LMono (dLst l) := ⟨fun δ Q Q' hq q => LMono.m (t := l) _ _ _ (fun _ _ z => ⟨z.1, hq _ _ z.2⟩) q⟩
instance [D2M r] [EMono ta] [EMono tb] : EMono (dOp r ta tb) := ⟨fun δ Q Q' hq q => EMono.m (t := ta) _ _ _ (fun _ _ z => EMono.m (t := tb) _ _ _ (fun _ _ z => D2M.m (r := r) _ _ _ _ (fun _ z => hq _ _ z) z) z) q⟩
instance {i : Nat} [EMono ta] : EMono (dIxO i ta) := ⟨fun δ Q Q' hq q => by
  unfold dIxO at q ⊢
  split at q
  · refine EMono.m (t := ta) _ _ _ (fun d δ' z => ?_) q
    split at z
    · obtain ⟨w, a, b⟩ := z
      exact ⟨w, a, hq _ _ b⟩
    · exact rIx_mono _ _ _ _ (fun _ z => hq _ _ z) z
    · exact z
  · exact q⟩
instance [EMono ta] [EMono tb] : EMono (dAndV ta tb) := ⟨fun δ Q Q' hq q => by
  refine EMono.m (t := ta) _ _ _ (fun d δ' z => ?_) q
  obtain ⟨k, e, z⟩ := z
  refine ⟨k, e, ?_⟩
  cases k with
  | true => exact EMono.m (t := tb) _ _ _ hq z
  | false => exact hq _ _ z⟩
instance [EMono ta] [EMono tb] : EMono (dOrV ta tb) := ⟨fun δ Q Q' hq q => by
  refine EMono.m (t := ta) _ _ _ (fun d δ' z => ?_) q
  obtain ⟨k, e, z⟩ := z
  refine ⟨k, e, ?_⟩
  cases k with
  | true => exact hq _ _ z
  | false => exact EMono.m (t := tb) _ _ _ hq z⟩
instance [EMono ta] : EMono (dNotV ta) := ⟨fun δ Q Q' hq q => EMono.m (t := ta) _ _ _ (fun d δ' ⟨k, e, z⟩ => ⟨k, e, hq _ _ z⟩) q⟩
instance [EMono ta] : EMono (dNeg ta) := ⟨fun δ Q Q' hq q => by
  refine EMono.m (t := ta) _ _ _ (fun d δ' z => ?_) q
  split at z
  · exact hq _ _ z
  · exact z⟩
instance [EMono ta] : EMono (dBits ta) := ⟨fun δ Q Q' hq q => by
  refine EMono.m (t := ta) _ _ _ (fun d δ' z => ?_) q
  split at z
  · exact hq _ _ z
  · exact z⟩
instance [TMono c] [EMono ta] [EMono tb] : EMono (dIf c ta tb) := ⟨fun δ Q Q' hq q => by
  refine TMono.m (t := c) _ _ _ (fun k δ' z => ?_) q
  cases k with
  | true => exact EMono.m (t := ta) _ _ _ hq z
  | false => exact EMono.m (t := tb) _ _ _ hq z⟩
instance [D1M r1] [LMono l] : EMono (dCB r1 l) := ⟨fun δ Q Q' hq q => LMono.m (t := l) _ _ _ (fun ds δ' z => D1M.m (r := r1) _ _ _ (fun _ z => hq _ _ z) z) q⟩
instance {T : String} [EMono ta] : EMono (dIsi T ta) := ⟨fun δ Q Q' hq q => EMono.m (t := ta) _ _ _ (fun d δ' z => ⟨z.1, hq _ _ z.2⟩) q⟩
instance {dd : List PyData} [FMono f] [LMono l] : EMono (dCall f dd l) := ⟨fun δ Q Q' hq q => LMono.m (t := l) _ _ _ (fun ds δ' z => FMono.m (f := f) _ _ _ (fun r z => hq _ _ z) z) q⟩
instance {dd : List PyData} [FMono f] [LMono l] : LMono (dCallO f dd l) := ⟨fun δ Q Q' hq q => LMono.m (t := l) _ _ _ (fun ds δ' z => FMono.m (f := f) _ _ _ (fun r z => by
  cases r with
  | d d => exact z
  | b o => exact z
  | o xs => exact hq _ _ z) z) q⟩
instance {i : Nat} [BMono fb] [LMono l] : EMono (dCallB i fb l) := ⟨fun δ Q Q' hq q => by
  unfold dCallB at q ⊢
  split at q
  · refine LMono.m (t := l) _ _ _ (fun ds δ' z => ?_) q
    split at z
    · exact BMono.m (f := fb) _ _ _ _ (fun r y z => hq _ _ z) z
    · exact z
  · exact q⟩
instance [EMono ta] : TMono (dTru ta) := ⟨fun δ Q Q' hq q => EMono.m (t := ta) _ _ _ (fun d δ' ⟨k, e, z⟩ => ⟨k, e, hq _ _ z⟩) q⟩
instance [EMono ta] : TMono (dTst ta) := ⟨fun δ Q Q' hq q => by
  refine EMono.m (t := ta) _ _ _ (fun d δ' z => ?_) q
  split at z
  · exact hq _ _ z
  · exact z⟩
instance [TMono c] [TMono c'] : TMono (dAnd c c') := ⟨fun δ Q Q' hq q => by
  refine TMono.m (t := c) _ _ _ (fun k δ' z => ?_) q
  cases k with
  | true => exact TMono.m (t := c') _ _ _ hq z
  | false => exact hq _ _ z⟩
instance [TMono c] [TMono c'] : TMono (dOr c c') := ⟨fun δ Q Q' hq q => by
  refine TMono.m (t := c) _ _ _ (fun k δ' z => ?_) q
  cases k with
  | true => exact hq _ _ z
  | false => exact TMono.m (t := c') _ _ _ hq z⟩
instance [TMono c] : TMono (dNot c) := ⟨fun δ Q Q' hq q => TMono.m (t := c) _ _ _ (fun _ _ z => hq _ _ z) q⟩
instance : TMono (dYes) := ⟨fun δ Q Q' hq q => hq _ _ q⟩
instance [EMono ta] : LMono (iLst ta) := ⟨fun δ Q Q' hq q => by
  refine EMono.m (t := ta) _ _ _ (fun d δ' z => ?_) q
  split at z
  · exact hq _ _ z
  · exact z⟩
instance [EMono ta] : LMono (iTpl ta) := ⟨fun δ Q Q' hq q => by
  refine EMono.m (t := ta) _ _ _ (fun d δ' z => ?_) q
  split at z
  · exact hq _ _ z
  · exact z⟩
instance [LMono l] : LMono (iRg1 l) := ⟨fun δ Q Q' hq q => by
  refine LMono.m (t := l) _ _ _ (fun d δ' z => ?_) q
  split at z
  · exact ⟨z.1, z.2.1, hq _ _ z.2.2⟩
  · exact z⟩
instance [LMono l] : LMono (iRg2 l) := ⟨fun δ Q Q' hq q => by
  refine LMono.m (t := l) _ _ _ (fun d δ' z => ?_) q
  split at z
  · exact ⟨z.1, hq _ _ z.2⟩
  · exact z⟩
instance [LMono l] : LMono (iZp l) := ⟨fun δ Q Q' hq q => by
  refine LMono.m (t := l) _ _ _ (fun d δ' z => ?_) q
  split at z
  · exact hq _ _ z
  · exact z⟩
instance {i : Nat} : GMono (gNm i) := ⟨fun d δ Q Q' hq q => hq _ q⟩
instance : GsMono (gsNil) := ⟨fun ds δ Q Q' hq q => by
  cases ds with
  | nil => exact hq _ q
  | cons _ _ => exact q⟩
instance [GMono g] [GsMono gs] : GsMono (gsCons g gs) := ⟨fun ds δ Q Q' hq q => by
  cases ds with
  | nil => exact q
  | cons d r => exact GMono.m (t := g) _ _ _ _ (fun _ z => GsMono.m (t := gs) _ _ _ _ hq z) q⟩
instance {n : Nat} [GsMono gs] : GMono (gTp n gs) := ⟨fun d δ Q Q' hq q => by
  unfold gTp at q ⊢
  split at q
  · exact ⟨q.1, GsMono.m (t := gs) _ _ _ _ hq q.2⟩
  · exact q⟩
instance {vs : List Nat} [LMono l] [GMono g] [TMono c] [EMono ta] : LMono (dLc l g c ta vs) := ⟨fun δ Q Q' hq q => LMono.m (t := l) _ _ _ (fun items δ1 z => dLcL_mono (GMono.m (t := g)) (TMono.m (t := c)) (EMono.m (t := ta)) hq _ _ _ z) q⟩
instance : SMono (dNx) := ⟨fun N N' δ le q => le.nx _ q⟩
instance : SMono (dNever) := ⟨fun N N' δ le q => q⟩
instance [SMono s] [SMono s'] : SMono (dSeq s s') := ⟨fun N N' δ le q => SMono.m (t := s) { N with nx := s' N } { N' with nx := s' N' } _ ⟨fun δ z => SMono.m (t := s') _ _ _ le z, le.rt, le.ro, le.bk, le.ct⟩ q⟩
instance [EMono ta] : SMono (dRet ta) := ⟨fun N N' δ le q => EMono.m (t := ta) _ _ _ (fun _ _ z => le.rt _ _ z) q⟩
instance [LMono l] : SMono (dRetO l) := ⟨fun N N' δ le q => LMono.m (t := l) _ _ _ (fun _ _ z => le.ro _ _ z) q⟩
instance [TMono c] [SMono s] [SMono s'] : SMono (dIfS c s s') := ⟨fun N N' δ le q => by
  refine TMono.m (t := c) _ _ _ (fun k δ' z => ?_) q
  cases k with
  | true => exact SMono.m (t := s) _ _ _ le z
  | false => exact SMono.m (t := s') _ _ _ le z⟩
instance [EMono ta] [GMono g] : SMono (dAsg ta g) := ⟨fun N N' δ le q => EMono.m (t := ta) _ _ _ (fun _ _ z => GMono.m (t := g) _ _ _ _ (fun _ z => le.nx _ z) z) q⟩
instance {i : Nat} [EMono ta] : SMono (dSet i ta) := ⟨fun N N' δ le q => EMono.m (t := ta) _ _ _ (fun _ _ z => le.nx _ z) q⟩
instance {i : Nat} [LMono l] : SMono (dSetO i l) := ⟨fun N N' δ le q => LMono.m (t := l) _ _ _ (fun _ _ z => le.nx _ z) q⟩
instance {i j : Nat} [LMono l] : SMono (dPar i j l) := ⟨fun N N' δ le q => by
  refine LMono.m (t := l) _ _ _ (fun ds δ' z => ?_) q
  split at z
  · exact le.nx _ z
  · exact z⟩
instance {i : Nat} [EMono ta] [EMono tb] : SMono (dSetIx i ta tb) := ⟨fun N N' δ le q => by
  refine EMono.m (t := ta) _ _ _ (fun d δ' z => ?_) q
  split at z
  · refine EMono.m (t := tb) _ _ _ (fun e δ2 z => ?_) z
    split at z
    · obtain ⟨j, e, z⟩ := z
      exact ⟨j, e, le.nx _ z⟩
    · exact z
  · exact z⟩
instance {i : Nat} [EMono ta] : SMono (dApp i ta) := ⟨fun N N' δ le q => by
  unfold dApp at q ⊢
  split at q
  · refine EMono.m (t := ta) _ _ _ (fun d δ' z => ?_) q
    split at z
    · exact ⟨z.1, le.nx _ z.2⟩
    · exact z
  · exact q⟩
instance {i : Nat} {h : Int → Int → Int} [EMono ta] : SMono (dAug i h ta) := ⟨fun N N' δ le q => by
  unfold dAug at q ⊢
  split at q
  · refine EMono.m (t := ta) _ _ _ (fun d δ' z => ?_) q
    split at z
    · exact le.nx _ z
    · exact z
  · exact q⟩
theorem dForL_mono [GMono g] [SMono s] {N N' : DEnds} (le : N.Le N') : ∀ (items : List PyData) (δ : DSt), dForL g s N items δ → dForL g s N' items δ
  | [], δ, q => le.nx _ q
  | d :: r, δ, q => GMono.m (t := g) _ _ _ _ (fun δ' z => SMono.m (t := s) { N with nx := dForL g s N r, ct := dForL g s N r, bk := N.nx } { N' with nx := dForL g s N' r, ct := dForL g s N' r, bk := N'.nx } _ ⟨fun δ z => dForL_mono le r δ z, le.rt, le.ro, fun δ z => le.nx _ z, fun δ z => dForL_mono le r δ z⟩ z) q
instance [LMono l] [GMono g] [SMono s] : SMono (dFor l g s) := ⟨fun N N' δ le q => LMono.m (t := l) _ _ _ (fun items δ' z => dForL_mono le items δ' z) q⟩
instance [TMono c] [SMono s] : SMono (dWhile c s) := ⟨fun N N' δ le q => by
  obtain ⟨W, w0, turn⟩ := q
  refine ⟨W, w0, fun m δ w => TMono.m (t := c) _ _ _ (fun b δ1 z => ?_) (turn m δ w)⟩
  cases b with
  | true => exact SMono.m (t := s) { N with nx := fun δ' => ∃ m', m' < m ∧ W m' δ', ct := fun δ' => ∃ m', m' < m ∧ W m' δ', bk := N.nx } { N' with nx := fun δ' => ∃ m', m' < m ∧ W m' δ', ct := fun δ' => ∃ m', m' < m ∧ W m' δ', bk := N'.nx } _ ⟨fun _ z => z, le.rt, le.ro, fun _ z => le.nx _ z, fun _ z => z⟩ z
  | false => exact le.nx _ z⟩
/-- a statement, then others, met at J -/
theorem seq_at [SMono s] {N : DEnds} {δ : DSt} (J : DSt → Prop) (h1 : s { N with nx := J } δ) (h2 : ∀ δ, J δ → s' N δ) : dSeq s s' N δ :=
  SMono.m (t := s) { N with nx := J } { N with nx := s' N } _ ⟨fun δ z => h2 δ z, fun _ _ z => z, fun _ _ z => z, fun _ z => z, fun _ z => z⟩ h1
/-- a for by its invariant -/
theorem for_at [GMono g] [SMono s] {N : DEnds} {items : List PyData} {δ : DSt} (W : Nat → DSt → Prop) (h0 : W 0 δ)
    (hs : ∀ i d δ, items[i]? = some d → W i δ → g d δ fun δ' => s { N with nx := W (i + 1), ct := W (i + 1), bk := N.nx } δ') (hd : ∀ δ, W items.length δ → N.nx δ) : dForL g s N items δ := by
  have aux : ∀ (n i : Nat) (δ : DSt), i + n = items.length → W i δ → dForL g s N (items.drop i) δ := by
    intro n
    induction n with
    | zero =>
      intro i δ e w
      have e : i = items.length := by omega
      subst e
      rw [List.drop_length]
      exact hd δ w
    | succ n ih =>
      intro i δ e w
      have hi : i < items.length := by omega
      rw [List.drop_eq_getElem_cons hi]
      refine GMono.m (t := g) _ _ _ _ (fun δ' z => SMono.m (t := s) { N with nx := W (i + 1), ct := W (i + 1), bk := N.nx } { N with nx := dForL g s N (items.drop (i + 1)), ct := dForL g s N (items.drop (i + 1)), bk := N.nx } _ ⟨fun δ z => ih (i + 1) δ (by omega) z, fun _ _ z => z, fun _ _ z => z, fun _ z => z, fun δ z => ih (i + 1) δ (by omega) z⟩ z) (hs i _ δ (List.getElem?_eq_getElem hi) w)
  have := aux items.length 0 δ (by omega) h0
  rw [List.drop_zero] at this
  exact this
/-- the same with the invariant kept as a letter (the simplifier leaves it alone) -/
theorem seq_op [SMono s] {N : DEnds} {δ : DSt} (J : DSt → Prop) (h1 : ∀ J' : DSt → Prop, (∀ δ, J δ → J' δ) → s { N with nx := J' } δ) (h2 : ∀ δ, J δ → s' N δ) : dSeq s s' N δ := seq_at J (h1 J fun _ h => h) h2
theorem for_op [GMono g] [SMono s] {N : DEnds} {items : List PyData} {δ : DSt} (W : Nat → DSt → Prop) (h0 : W 0 δ)
    (hs : ∀ W' : Nat → DSt → Prop, (∀ i δ, W i δ → W' i δ) → ∀ i d δ, items[i]? = some d → W i δ → g d δ fun δ' => s { N with nx := W' (i + 1), ct := W' (i + 1), bk := N.nx } δ') (hd : ∀ δ, W items.length δ → N.nx δ) : dForL g s N items δ := for_at W h0 (hs W fun _ _ h => h) hd
theorem while_op {N : DEnds} {δ : DSt} (W : Nat → DSt → Prop) (h0 : ∃ m, W m δ)
    (hs : ∀ W' : Nat → DSt → Prop, (∀ m δ, W m δ → W' m δ) → ∀ m δ, W m δ → c δ fun b δ1 => match b with
      | true => s { N with nx := fun δ' => ∃ m', m' < m ∧ W' m' δ', ct := fun δ' => ∃ m', m' < m ∧ W' m' δ', bk := N.nx } δ1
      | false => N.nx δ1) : dWhile c s N δ := ⟨W, h0, hs W fun _ _ h => h⟩
end
end DL

namespace DM
/-! plain arithmetic: quotients and their sizes -/
theorem fdiv_neg_exact {a g k : Int} (hg : 0 < g) (h : a = g * k) : a.fdiv (-g) = -k := by
  have e : a = (-g) * (-k) := by rw [h, Int.neg_mul_neg]
  rw [e]
  exact Int.mul_fdiv_cancel_left _ (by omega)
/-- top // both, bottom // both is the number in lowest terms -/
theorem num_pos {t b : Int} (hb : 0 < b) : t.fdiv (Int.gcd t b : Nat) = (Rat.divInt t b).num := by
  rw [Rat.num_divInt, Int.sign_eq_one_of_pos hb, Int.one_mul, Int.gcd_comm]
  exact Int.fdiv_eq_ediv_of_nonneg _ (by omega)
theorem den_pos' {t b : Int} (hb : 0 < b) : b.fdiv (Int.gcd t b : Nat) = ((Rat.divInt t b).den : Int) := by
  rw [Rat.den_divInt, if_neg (by omega), Int.gcd_comm, Int.fdiv_eq_ediv_of_nonneg _ (by omega)]
  rw [Int.natCast_ediv, show (b.natAbs : Int) = b by omega]
theorem num_neg {t b : Int} (hb : b < 0) : t.fdiv (0 - (Int.gcd t b : Nat)) = (Rat.divInt t b).num := by
  have hg : 0 < Int.gcd t b := Int.gcd_pos_of_ne_zero_right _ (by omega)
  obtain ⟨k, hk⟩ := Int.gcd_dvd_left t b
  rw [Int.zero_sub, fdiv_neg_exact (by omega) hk, Rat.num_divInt, Int.sign_eq_neg_one_of_neg hb, Int.gcd_comm b t]
  have e : -1 * t = (Int.gcd t b : Int) * (-k) := by rw [Int.mul_neg, ← hk]; omega
  rw [e, Int.mul_ediv_cancel_left _ (by omega)]
theorem den_neg {t b : Int} (hb : b < 0) : b.fdiv (0 - (Int.gcd t b : Nat)) = ((Rat.divInt t b).den : Int) := by
  have hg : 0 < Int.gcd t b := Int.gcd_pos_of_ne_zero_right _ (by omega)
  obtain ⟨k, hk⟩ := Int.gcd_dvd_right t b
  rw [Int.zero_sub, fdiv_neg_exact (by omega) hk, Rat.den_divInt, if_neg (by omega), Int.gcd_comm b t]
  have e : (b.natAbs : Int) = (Int.gcd t b : Int) * (-k) := by rw [Int.mul_neg, ← hk]; omega
  rw [Int.natCast_ediv, e, Int.mul_ediv_cancel_left _ (by omega)]
/-- gcd, one turn -/
theorem gcd_turn {a b : Int} (ha : 0 ≤ a) (hb : 0 < b) : Int.gcd b (a.fmod b) = Int.gcd a b := by
  rw [Int.fmod_eq_emod_of_nonneg _ (by omega), Int.gcd_comm a b]
  obtain ⟨m, rfl⟩ := Int.eq_ofNat_of_zero_le ha
  obtain ⟨n, rfl⟩ := Int.eq_ofNat_of_zero_le (Int.le_of_lt hb)
  rw [← Int.natCast_emod, Int.gcd_natCast_natCast, Int.gcd_natCast_natCast, Nat.gcd_comm n (m % n), ← Nat.gcd_rec]
theorem gcd_zero {a : Int} (ha : 0 ≤ a) : (Int.gcd a 0 : Int) = a := by
  rw [Int.gcd_zero_right]; omega
theorem abs_if (i : Int) : (if i < 0 then -i else i) = (i.natAbs : Int) := by split <;> omega
/-! sizes -/
def Bd (n : Nat) (q : Rat) : Prop := q.num.natAbs < 2 ^ n ∧ q.den < 2 ^ n
theorem Bd.mono {m n : Nat} {q : Rat} (h : Bd m q) (e : m ≤ n) : Bd n q :=
  ⟨Nat.lt_of_lt_of_le h.1 (Nat.pow_le_pow_right (by omega) e), Nat.lt_of_lt_of_le h.2 (Nat.pow_le_pow_right (by omega) e)⟩
theorem bd_divInt {n : Nat} {t b : Int} (ht : t.natAbs < 2 ^ n) (hb : b.natAbs < 2 ^ n) (h0 : b ≠ 0) : Bd n (Rat.divInt t b) := by
  constructor
  · rw [Rat.num_divInt, Int.natAbs_ediv_of_dvd (Int.dvd_trans (Int.gcd_dvd_right b t) (Int.dvd_mul_left ..)), Int.natAbs_mul, Int.natAbs_sign_of_ne_zero h0, Nat.one_mul]
    exact Nat.lt_of_le_of_lt (Nat.div_le_self ..) ht
  · rw [Rat.den_divInt, if_neg h0]
    exact Nat.lt_of_le_of_lt (Nat.div_le_self ..) hb
theorem Bd.pos {n : Nat} {q : Rat} (h : Bd n q) : 0 < n := by
  have := h.2
  have := q.den_pos
  cases n with
  | zero => simp at *; omega
  | succ n => omega
theorem mul_lt_pow {a b m n : Nat} (ha : a < 2 ^ m) (hb : b < 2 ^ n) : a * b < 2 ^ (m + n) := by
  rw [Nat.pow_add]
  exact Nat.mul_lt_mul'' ha hb
theorem add_lt_pow {a b m : Nat} (ha : a < 2 ^ m) (hb : b < 2 ^ m) : a + b < 2 ^ (m + 1) := by
  rw [Nat.pow_succ]
  omega
theorem add_divInt (u v : Rat) : u + v = Rat.divInt (u.num * v.den + v.num * u.den) ((u.den : Int) * v.den) := by
  rw [Rat.add_def', ← Rat.divInt_ofNat, Int.natCast_mul]
theorem mul_divInt (u v : Rat) : u * v = Rat.divInt (u.num * v.num) ((u.den : Int) * v.den) := by
  rw [Rat.mul_def', ← Rat.divInt_ofNat, Int.natCast_mul]
theorem sub_divInt (u v : Rat) : u - v = Rat.divInt (u.num * v.den - v.num * u.den) ((u.den : Int) * v.den) := by
  rw [Rat.sub_def', ← Rat.divInt_ofNat, Int.natCast_mul]
theorem div_divInt (u v : Rat) : u / v = Rat.divInt (u.num * v.den) ((u.den : Int) * v.num) := by
  rw [Rat.div_def, Rat.inv_def, ← Rat.num_divInt_den u, Rat.divInt_mul_divInt, Rat.num_divInt_den]
theorem den_ne (u : Rat) : (u.den : Int) ≠ 0 := by have := u.den_pos; omega
theorem den_mul_ne (u v : Rat) : (u.den : Int) * v.den ≠ 0 := Int.mul_ne_zero (den_ne u) (den_ne v)
theorem nat_add {m n : Nat} {u v : Rat} (hu : Bd m u) (hv : Bd n v) : (u.num * v.den + v.num * u.den).natAbs < 2 ^ (m + n + 1) := by
  refine Nat.lt_of_le_of_lt (Int.natAbs_add_le ..) ?_
  rw [Int.natAbs_mul, Int.natAbs_mul, Int.natAbs_natCast, Int.natAbs_natCast]
  refine add_lt_pow (mul_lt_pow hu.1 hv.2) ?_
  rw [Nat.add_comm m n]
  exact mul_lt_pow hv.1 hu.2
theorem nat_den {m n : Nat} {u v : Rat} (hu : Bd m u) (hv : Bd n v) : ((u.den : Int) * v.den).natAbs < 2 ^ (m + n) := by
  rw [Int.natAbs_mul, Int.natAbs_natCast, Int.natAbs_natCast]
  exact mul_lt_pow hu.2 hv.2
theorem Bd.add {m n : Nat} {u v : Rat} (hu : Bd m u) (hv : Bd n v) : Bd (m + n + 1) (u + v) := by
  rw [add_divInt]
  exact bd_divInt (nat_add hu hv) (Nat.lt_of_lt_of_le (nat_den hu hv) (Nat.pow_le_pow_right (by omega) (by omega))) (den_mul_ne u v)
theorem Bd.neg {m : Nat} {u : Rat} (hu : Bd m u) : Bd m (-u) := ⟨by rw [Rat.neg_num, Int.natAbs_neg]; exact hu.1, by rw [Rat.neg_den]; exact hu.2⟩
theorem Bd.sub {m n : Nat} {u v : Rat} (hu : Bd m u) (hv : Bd n v) : Bd (m + n + 1) (u - v) := by
  rw [Rat.sub_eq_add_neg]
  exact hu.add hv.neg
theorem Bd.mul {m n : Nat} {u v : Rat} (hu : Bd m u) (hv : Bd n v) : Bd (m + n) (u * v) := by
  rw [mul_divInt]
  refine bd_divInt ?_ (nat_den hu hv) (den_mul_ne u v)
  rw [Int.natAbs_mul]
  exact mul_lt_pow hu.1 hv.1
theorem Bd.div {m n : Nat} {u v : Rat} (hu : Bd m u) (hv : Bd n v) (h0 : v ≠ 0) : Bd (m + n) (u / v) := by
  rw [div_divInt]
  have hn : v.num ≠ 0 := fun e => h0 (Rat.num_eq_zero.mp e)
  refine bd_divInt ?_ ?_ (Int.mul_ne_zero (den_ne u) hn)
  · rw [Int.natAbs_mul, Int.natAbs_natCast]
    exact mul_lt_pow hu.1 hv.2
  · rw [Int.natAbs_mul, Int.natAbs_natCast]
    exact mul_lt_pow hu.2 hv.1
theorem Bd.int {n : Nat} {i : Int} (h : i.natAbs < 2 ^ n) (hn : 0 < n) : Bd n (i : Rat) := by
  refine ⟨h, ?_⟩
  show 1 < 2 ^ n
  exact Nat.one_lt_two_pow (by omega)
theorem log2_lt {a n : Nat} (h : a < 2 ^ n) (hn : 0 < n) : a.log2 < n := by
  by_cases e : a = 0
  · subst e; simpa using hn
  · exact (Nat.log2_lt e).mpr h
end DM
namespace DL
open PySem PySem.Spec L2 DM
/-! ### places of written lists -/
theorem atI_0 {α : Type} {a : α} {r : List α} : atI (a :: r) 0 = some a := atI_nat (j := 0) rfl
theorem atI_1 {α : Type} {a b : α} {r : List α} : atI (a :: b :: r) 1 = some b := atI_nat (j := 1) rfl
theorem atI_2 {α : Type} {a b c : α} {r : List α} : atI (a :: b :: c :: r) 2 = some c := atI_nat (j := 2) rfl
theorem atI_3 {α : Type} {a b c d : α} {r : List α} : atI (a :: b :: c :: d :: r) 3 = some d := atI_nat (j := 3) rfl
theorem atI_4 {α : Type} {a b c d e : α} {r : List α} : atI (a :: b :: c :: d :: e :: r) 4 = some e := atI_nat (j := 4) rfl
theorem ixN_0 {n : Nat} : ixN (n + 1) 0 = some 0 := by unfold ixN; rw [if_pos (by omega), if_pos (by omega)]; rfl
theorem ixN_1 {n : Nat} : ixN (n + 2) 1 = some 1 := by unfold ixN; rw [if_pos (by omega), if_pos (by omega)]; rfl
theorem ixN_2 {n : Nat} : ixN (n + 3) 2 = some 2 := by unfold ixN; rw [if_pos (by omega), if_pos (by omega)]; rfl
theorem atI_of {α : Type} {xs : List α} {i : Int} (h0 : 0 ≤ i) (h1 : i < xs.length) : ∃ z, atI xs i = some z ∧ xs[i.toNat]? = some z := by
  have hi : i.toNat < xs.length := by omega
  refine ⟨xs[i.toNat], ?_, List.getElem?_eq_getElem hi⟩
  have := atI_nat (xs := xs) (j := i.toNat) (List.getElem?_eq_getElem hi)
  rw [Int.toNat_of_nonneg h0] at this
  exact this
theorem atI_ints {ns : List Int} {i : Int} (h0 : 0 ≤ i) (h1 : i < ns.length) : ∃ z : Int, atI (ns.map PyData.int) i = some (.int z) ∧ ns[i.toNat]? = some z := by
  obtain ⟨z, e1, e2⟩ := atI_of (xs := ns.map PyData.int) h0 (by rw [List.length_map]; exact h1)
  rw [List.getElem?_map] at e2
  cases q : ns[i.toNat]? with
  | none => rw [q] at e2; cases e2
  | some y =>
    rw [q] at e2
    cases e2
    exact ⟨y, e1, rfl⟩
theorem pick2 {a b d : Int} (h0 : 0 ≤ d) (h1 : d < 2) : ∃ z : Int, (z = a ∨ z = b) ∧ atI [PyData.int a, PyData.int b] d = some (.int z) := by
  rcases (show d = 0 ∨ d = 1 by omega) with e | e <;> subst e
  · exact ⟨a, .inl rfl, atI_0⟩
  · exact ⟨b, .inr rfl, atI_1⟩
theorem pick4 {a b c f d : Int} (h0 : 0 ≤ d) (h1 : d < 4) : ∃ z : Int, (z = a ∨ z = b ∨ z = c ∨ z = f) ∧ atI [PyData.int a, PyData.int b, PyData.int c, PyData.int f] d = some (.int z) := by
  rcases (show d = 0 ∨ d = 1 ∨ d = 2 ∨ d = 3 by omega) with e | e | e | e <;> subst e
  · exact ⟨a, .inl rfl, atI_0⟩
  · exact ⟨b, .inr (.inl rfl), atI_1⟩
  · exact ⟨c, .inr (.inr (.inl rfl)), atI_2⟩
  · exact ⟨f, .inr (.inr (.inr rfl)), atI_3⟩
/-! ### sizes that the rules ask -/
theorem mulW {i j : Int} {a b : Nat} (ha : i.natAbs < 2 ^ a) (hb : j.natAbs < 2 ^ b) (h : a + b ≤ 900000) : CMulW i j :=
  wide_mul (Nat.lt_of_lt_of_le ha (Nat.pow_le_pow_right (by omega) (show a ≤ a + 1 by omega))) (Nat.lt_of_lt_of_le hb (Nat.pow_le_pow_right (by omega) (show b ≤ b + 1 by omega))) (by omega) (by omega) (by omega)
theorem mul64 {i j : Int} (h1 : -18446744073709551616 < i) (h2 : i < 18446744073709551616) (h3 : -18446744073709551616 < j) (h4 : j < 18446744073709551616) : CMulW i j :=
  mulW (a := 64) (b := 64) (by have : (2 : Nat) ^ 64 = 18446744073709551616 := by decide
                               omega) (by have : (2 : Nat) ^ 64 = 18446744073709551616 := by decide
                                          omega) (by decide)
theorem divA {i j : Int} {b : Nat} (h0 : j ≠ 0) (hb : j.natAbs < 2 ^ b) (h : b ≤ 9000) : CDivA i j := by
  refine ⟨h0, Nat.lt_of_lt_of_le (log2_lt (Nat.lt_of_lt_of_le hb (Nat.pow_le_pow_right (by omega) h)) (by omega)) (Nat.le_refl _)⟩
theorem div64 {i j : Int} (h0 : j ≠ 0) (h3 : -18446744073709551616 < j) (h4 : j < 18446744073709551616) : CDivA i j :=
  divA (b := 64) h0 (by have : (2 : Nat) ^ 64 = 18446744073709551616 := by decide
                        omega) (by decide)
theorem pow64 {i j : Int} (h1 : -18446744073709551616 < i) (h2 : i < 18446744073709551616) (h3 : 0 ≤ j) (h4 : j ≤ 1000000) : CPow i j :=
  ⟨h3, h4, by have : (2 : Nat) ^ 64 = 18446744073709551616 := by decide
              omega⟩
theorem fmod_in {a b : Int} (h : 0 < b) : 0 ≤ a.fmod b ∧ a.fmod b < b := ⟨Int.fmod_nonneg_of_pos a h, Int.fmod_lt_of_pos a h⟩
theorem fdiv_nn {a b : Int} (ha : 0 ≤ a) (h : 0 < b) : 0 ≤ a.fdiv b := Int.fdiv_nonneg ha (by omega)
theorem mul_in {a b A B : Int} (ha : 0 ≤ a) (hA : a ≤ A) (hb : 0 ≤ b) (hB : b ≤ B) : 0 ≤ a * b ∧ a * b ≤ A * B := ⟨Int.mul_nonneg ha hb, Int.mul_le_mul hA hB hb (by omega)⟩
/-! ### promises in short -/
section
variable {α β γ κ ε : Type}
def fn1 (a : α → PyData) (pre : α → Prop) (g : α → PyData) : FP := fun ds Q => ∃ x, ds = [a x] ∧ pre x ∧ Q (.d (g x))
def fn2 (a : α → PyData) (b : β → PyData) (pre : α → β → Prop) (g : α → β → PyData) : FP := fun ds Q => ∃ x y, ds = [a x, b y] ∧ pre x y ∧ Q (.d (g x y))
def fn3 (a : α → PyData) (b : β → PyData) (c : γ → PyData) (pre : α → β → γ → Prop) (g : α → β → γ → PyData) : FP := fun ds Q => ∃ x y z, ds = [a x, b y, c z] ∧ pre x y z ∧ Q (.d (g x y z))
def fn4 (a : α → PyData) (b : β → PyData) (c : γ → PyData) (d : κ → PyData) (pre : α → β → γ → κ → Prop) (g : α → β → γ → κ → PyData) : FP := fun ds Q => ∃ x y z u, ds = [a x, b y, c z, d u] ∧ pre x y z u ∧ Q (.d (g x y z u))
theorem fm1 {a : α → PyData} {pre : α → Prop} {g : α → PyData} : FMono (fn1 a pre g) := ⟨fun ds Q Q' hq ⟨x, e, p, q⟩ => ⟨x, e, p, hq _ q⟩⟩
theorem fm2 {a : α → PyData} {b : β → PyData} {pre : α → β → Prop} {g : α → β → PyData} : FMono (fn2 a b pre g) := ⟨fun ds Q Q' hq ⟨x, y, e, p, q⟩ => ⟨x, y, e, p, hq _ q⟩⟩
theorem fm3 {a : α → PyData} {b : β → PyData} {c : γ → PyData} {pre : α → β → γ → Prop} {g : α → β → γ → PyData} : FMono (fn3 a b c pre g) := ⟨fun ds Q Q' hq ⟨x, y, z, e, p, q⟩ => ⟨x, y, z, e, p, hq _ q⟩⟩
theorem fm4 {a : α → PyData} {b : β → PyData} {c : γ → PyData} {d : κ → PyData} {pre : α → β → γ → κ → Prop} {g : α → β → γ → κ → PyData} : FMono (fn4 a b c d pre g) := ⟨fun ds Q Q' hq ⟨x, y, z, u, e, p, q⟩ => ⟨x, y, z, u, e, p, hq _ q⟩⟩
theorem ln1 {a : α → PyData} {pre : α → Prop} {g : α → PyData} : ∀ ds Q, fn1 a pre g ds Q → ds.length = 1 := fun ds Q ⟨x, e, _⟩ => by rw [e]; rfl
theorem ln2 {a : α → PyData} {b : β → PyData} {pre : α → β → Prop} {g : α → β → PyData} : ∀ ds Q, fn2 a b pre g ds Q → ds.length = 2 := fun ds Q ⟨x, y, e, _⟩ => by rw [e]; rfl
theorem ln3 {a : α → PyData} {b : β → PyData} {c : γ → PyData} {pre : α → β → γ → Prop} {g : α → β → γ → PyData} : ∀ ds Q, fn3 a b c pre g ds Q → ds.length = 3 := fun ds Q ⟨x, y, z, e, _⟩ => by rw [e]; rfl
theorem ln4 {a : α → PyData} {b : β → PyData} {c : γ → PyData} {d : κ → PyData} {pre : α → β → γ → κ → Prop} {g : α → β → γ → κ → PyData} : ∀ ds Q, fn4 a b c d pre g ds Q → ds.length = 4 := fun ds Q ⟨x, y, z, u, e, _⟩ => by rw [e]; rfl
theorem fn1_ap {a : α → PyData} {pre : α → Prop} {g : α → PyData} (ia : ∀ x y, a x = a y → x = y) {x : α} {Q : Res → Prop} : fn1 a pre g [a x] Q = (pre x ∧ Q (.d (g x))) := propext ⟨fun ⟨x', e, p, q⟩ => by
  injection e with e1 _
  rw [ia _ _ e1]
  exact ⟨p, q⟩, fun ⟨p, q⟩ => ⟨x, rfl, p, q⟩⟩
theorem fn2_ap {a : α → PyData} {b : β → PyData} {pre : α → β → Prop} {g : α → β → PyData} (ia : ∀ x y, a x = a y → x = y) (ib : ∀ x y, b x = b y → x = y) {x : α} {y : β} {Q : Res → Prop} : fn2 a b pre g [a x, b y] Q = (pre x y ∧ Q (.d (g x y))) := propext ⟨fun ⟨x', y', e, p, q⟩ => by
  injection e with e1 e2
  injection e2 with e2 _
  rw [ia _ _ e1, ib _ _ e2]
  exact ⟨p, q⟩, fun ⟨p, q⟩ => ⟨x, y, rfl, p, q⟩⟩
theorem fn3_ap {a : α → PyData} {b : β → PyData} {c : γ → PyData} {pre : α → β → γ → Prop} {g : α → β → γ → PyData} (ia : ∀ x y, a x = a y → x = y) (ib : ∀ x y, b x = b y → x = y) (ic : ∀ x y, c x = c y → x = y) {x : α} {y : β} {z : γ} {Q : Res → Prop} : fn3 a b c pre g [a x, b y, c z] Q = (pre x y z ∧ Q (.d (g x y z))) := propext ⟨fun ⟨x', y', z', e, p, q⟩ => by
  injection e with e1 e2
  injection e2 with e2 e3
  injection e3 with e3 _
  rw [ia _ _ e1, ib _ _ e2, ic _ _ e3]
  exact ⟨p, q⟩, fun ⟨p, q⟩ => ⟨x, y, z, rfl, p, q⟩⟩
theorem int_inj (x y : Int) (h : PyData.int x = PyData.int y) : x = y := PyData.int.inj h
/-- a law's bag of draws, drawn from at most n times -/
def BagOk (n : Nat) (xs : List PyData) : Prop := ∃ g m s : Int, xs = [.int g, .int m, .int s] ∧ 0 ≤ g ∧ 0 ≤ m ∧ m < 2305843009213693952 ∧ 0 ≤ s ∧ s ≤ n
theorem BagOk.mono {m n : Nat} {xs : List PyData} (h : BagOk m xs) (e : m ≤ n) : BagOk n xs := by
  obtain ⟨g, k, s, h1, h2, h3, h4, h5, h6⟩ := h
  exact ⟨g, k, s, h1, h2, h3, h4, h5, by omega⟩
def mostDraws : Nat := 1000000
/-- draws some a with post, by at most c draws -/
def bg0 (c : Nat) (r : α → PyData) (post : α → Prop) : FB := fun xs ds Q => ∃ n, BagOk n xs ∧ n + c ≤ mostDraws ∧ ds = [] ∧ ∀ a xs', post a → BagOk (n + c) xs' → Q (.d (r a)) xs'
def bg1 (c : Nat) (b : β → PyData) (pre : β → Prop) (r : α → PyData) (post : β → α → Prop) : FB := fun xs ds Q => ∃ n x, BagOk n xs ∧ n + c ≤ mostDraws ∧ ds = [b x] ∧ pre x ∧ ∀ a xs', post x a → BagOk (n + c) xs' → Q (.d (r a)) xs'
theorem bm0 {c : Nat} {r : α → PyData} {post : α → Prop} : BMono (bg0 c r post) := ⟨fun xs ds Q Q' hq ⟨n, h1, h2, h3, h⟩ => ⟨n, h1, h2, h3, fun a xs' p b => hq _ _ (h a xs' p b)⟩⟩
theorem bm1 {c : Nat} {b : β → PyData} {pre : β → Prop} {r : α → PyData} {post : β → α → Prop} : BMono (bg1 c b pre r post) := ⟨fun xs ds Q Q' hq ⟨n, x, h1, h2, h3, h4, h⟩ => ⟨n, x, h1, h2, h3, h4, fun a xs' p b => hq _ _ (h a xs' p b)⟩⟩
theorem bl0 {c : Nat} {r : α → PyData} {post : α → Prop} : ∀ xs ds Q, bg0 c r post xs ds Q → ds.length + 1 = 1 := fun xs ds Q ⟨n, h1, h2, h3, h⟩ => by rw [h3]; rfl
theorem bl1 {c : Nat} {b : β → PyData} {pre : β → Prop} {r : α → PyData} {post : β → α → Prop} : ∀ xs ds Q, bg1 c b pre r post xs ds Q → ds.length + 1 = 2 := fun xs ds Q ⟨n, x, h1, h2, h3, h⟩ => by rw [h3]; rfl
end
/-! ### the laws' own defs that every law has -/
def numD (q : Rat) : PyData := .tuple [.int q.num, .int (q.den : Int)]
theorem numD_inj {a b : Rat} : numD a = numD b ↔ a = b := by
  constructor
  · intro h
    unfold numD at h
    injection h with h
    injection h with h1 h2
    injection h1 with h1
    injection h2 with h2
    injection h2 with h2
    exact Rat.ext h1 (by omega)
  · intro h
    rw [h]
def f_bag : FP := fun ds Q => ∃ (ns : List Int) (k : Int), ds = [.list (ns.map .int), .int k] ∧ ns.length ≤ 63 ∧ 0 ≤ k ∧ k ≤ 1000 ∧ ∀ xs, BagOk 0 xs → Q (.o xs)
theorem fm_bag : FMono f_bag := ⟨fun ds Q Q' hq ⟨ns, k, h1, h2, h3, h4, h⟩ => ⟨ns, k, h1, h2, h3, h4, fun xs b => hq _ (h xs b)⟩⟩
theorem ln_bag : ∀ ds Q, f_bag ds Q → ds.length = 2 := fun ds Q ⟨ns, k, e, _⟩ => by rw [e]; rfl
def f_take : FB := bg1 1 PyData.int (fun m => 0 < m ∧ m < 2 ^ 64) PyData.int (fun m d => 0 ≤ d ∧ d < m)
def f_shared : FP := fn2 PyData.int PyData.int (fun _ _ => True) (fun a b => .int (Int.gcd a b : Nat))
def f_ratio : FP := fn2 PyData.int PyData.int (fun _ b => b ≠ 0 ∧ b.natAbs < 2 ^ 9000) (fun a b => numD (Rat.divInt a b))
theorem num_int {i : Int} : PyData.tuple [.int i, .int 1] = numD (i : Rat) := rfl
theorem num_inj (x y : Rat) (h : numD x = numD y) : x = y := numD_inj.mp h
theorem ap_shared {a b : Int} {Q : Res → Prop} : f_shared [.int a, .int b] Q = (True ∧ Q (.d (.int (Int.gcd a b : Nat)))) := fn2_ap int_inj int_inj
theorem ap_ratio {a b : Int} {Q : Res → Prop} : f_ratio [.int a, .int b] Q = ((b ≠ 0 ∧ b.natAbs < 2 ^ 9000) ∧ Q (.d (numD (Rat.divInt a b)))) := fn2_ap int_inj int_inj
theorem take_at {xs : List PyData} {n : Nat} {m : Int} {Q : Res → List PyData → Prop} (hb : BagOk n xs) (hn : n + 1 ≤ mostDraws) (h0 : 0 < m) (h1 : m < 2 ^ 64) (h : ∀ (d : Int) xs', 0 ≤ d → d < m → BagOk (n + 1) xs' → Q (.d (.int d)) xs') : f_take xs [.int m] Q :=
  ⟨n, m, hb, hn, rfl, ⟨h0, h1⟩, fun a xs' p b => h a xs' p.1 p.2 b⟩
instance : BMono f_take := bm1
instance : FMono f_shared := fm2
instance : FMono f_ratio := fm2
instance : FMono f_bag := fm_bag
def f_law : FP := fun ds Q => ∃ ns : List Int, ds = [.list (ns.map .int)] ∧ ns.length ≤ 63 ∧ Q (.d (.bool true))
theorem fm_law : FMono f_law := ⟨fun ds Q Q' hq ⟨ns, h1, h2, h⟩ => ⟨ns, h1, h2, hq _ h⟩⟩
theorem ln_law : ∀ ds Q, f_law ds Q → ds.length = 1 := fun ds Q ⟨ns, e, _⟩ => by rw [e]; rfl
theorem law_start {K : Fg} {H : Hp} {a : Addr} {ns : List Int} {E : XK} (hl : ns.length ≤ 63) (hS : SqL K H a (ns.map V.int)) : spP K f_law [.ref a] H (fun v _ => v = .bl true) E := by
  refine ⟨H, [.list (ns.map .int)], Same.refl _, .cons (.lst hS (DpAll.ints ns)) .nil, ns, rfl, hl, fun v Hs' H' _ d => ?_⟩
  cases d
  rfl
end DL
namespace DL
open PySem PySem.Spec L2 DM
def f_below : FP := fn2 numD numD (fun u v => Bd 4000 u ∧ Bd 4000 v) (fun u v => .bool (decide (u < v)))
def f_whole : FP := fn1 numD (Bd 4000) (fun u => .int u.floor)
theorem ap_below {u v : Rat} {Q : Res → Prop} : f_below [numD u, numD v] Q = ((Bd 4000 u ∧ Bd 4000 v) ∧ Q (.d (.bool (decide (u < v))))) := fn2_ap num_inj num_inj
theorem ap_whole {u : Rat} {Q : Res → Prop} : f_whole [numD u] Q = (Bd 4000 u ∧ Q (.d (.int u.floor))) := fn1_ap num_inj
instance : FMono f_below := fm2
instance : FMono f_whole := fm1
end DL

namespace DL
open PySem PySem.Spec L2 DM
/-! ### how readings are simplified -/
theorem rII_int {C : Int → Int → Prop} {g : Int → Int → PyData} {i j : Int} {Q : PyData → Prop} : rII C g (.int i) (.int j) Q = (C i j ∧ Q (g i j)) := rfl
theorem rIx_tup {xs : List PyData} {i : Int} {Q : PyData → Prop} : DL.rIx (.tuple xs) (.int i) Q = (∃ z, atI xs i = some z ∧ Q z) := rfl
theorem rIx_list {xs : List PyData} {i : Int} {Q : PyData → Prop} : DL.rIx (.list xs) (.int i) Q = (∃ z, atI xs i = some z ∧ Q z) := rfl
theorem rIx_num0 {u : Rat} {Q : PyData → Prop} : DL.rIx (numD u) (.int 0) Q = Q (.int u.num) := by
  unfold numD
  rw [rIx_tup, atI_0]
  simp only [Option.some.injEq, exists_eq_left']
theorem rIx_num1 {u : Rat} {Q : PyData → Prop} : DL.rIx (numD u) (.int 1) Q = Q (.int (u.den : Int)) := by
  unfold numD
  rw [rIx_tup, atI_1]
  simp only [Option.some.injEq, exists_eq_left']
theorem asD_d {d : PyData} : asD (.d d) = d := rfl
theorem asD_o {xs : List PyData} : asD (.o xs) = .list xs := rfl
theorem tru_none : tru .none = some false := rfl
theorem tru_bool {b : Bool} : tru (.bool b) = some b := rfl
theorem tru_int {i : Int} : tru (.int i) = some (i != 0) := rfl
theorem tru_list {xs : List PyData} : tru (.list xs) = some (!xs.isEmpty) := rfl
theorem tru_tuple {xs : List PyData} : tru (.tuple xs) = some (!xs.isEmpty) := rfl
theorem tru_num {u : Rat} : tru (numD u) = some true := rfl
theorem isN_none : isNone .none = true := rfl
theorem isN_bool {b : Bool} : isNone (.bool b) = false := rfl
theorem isN_int {b : Int} : isNone (.int b) = false := rfl
theorem isN_str {b : Str} : isNone (.str b) = false := rfl
theorem isN_list {b : List PyData} : isNone (.list b) = false := rfl
theorem isN_tuple {b : List PyData} : isNone (.tuple b) = false := rfl
theorem isN_num {u : Rat} : isNone (numD u) = false := rfl
theorem rLen_list {xs : List PyData} {Q : PyData → Prop} : rLen [.list xs] Q = Q (.int xs.length) := rfl
theorem rLen_tuple {xs : List PyData} {Q : PyData → Prop} : rLen [.tuple xs] Q = Q (.int xs.length) := rfl
theorem rLen_str {x : Str} {Q : PyData → Prop} : rLen [.str x] Q = (x.length ≤ sizeLine ∧ Q (.int x.length)) := rfl
theorem rLen_num {u : Rat} {Q : PyData → Prop} : rLen [numD u] Q = Q (.int 2) := rfl
theorem rInt1_int {i : Int} {Q : PyData → Prop} : rInt1 [.int i] Q = Q (.int i) := rfl
theorem rInt1_bool {k : Bool} {Q : PyData → Prop} : rInt1 [.bool k] Q = Q (.int (if k then 1 else 0)) := rfl
theorem sh_none : SeqAt.shaped .none = true := rfl
theorem sh_bool {b : Bool} : SeqAt.shaped (.bool b) = true := rfl
theorem sh_int {i : Int} : SeqAt.shaped (.int i) = true := rfl
theorem sh_num {u : Rat} : SeqAt.shaped (numD u) = true := rfl
theorem sh_nn {u v : Rat} : SeqAt.shaped (.tuple [numD u, numD v]) = true := rfl
theorem eqv_nn : PyData.eqv .none .none = true := rfl
theorem eqv_bb {a b : Bool} : PyData.eqv (.bool a) (.bool b) = (a == b) := rfl
theorem eqv_ii {a b : Int} : PyData.eqv (.int a) (.int b) = (a == b) := rfl
theorem eqv_ss {a b : Str} : PyData.eqv (.str a) (.str b) = (a == b) := rfl
theorem eqv_tt {a b : List PyData} : PyData.eqv (.tuple a) (.tuple b) = PyData.eqvAll a b := rfl
theorem eqv_ll {a b : List PyData} : PyData.eqv (.list a) (.list b) = PyData.eqvAll a b := rfl
theorem eqvAll_nil : PyData.eqvAll [] [] = true := rfl
theorem eqvAll_cons {a b : PyData} {r s : List PyData} : PyData.eqvAll (a :: r) (b :: s) = (PyData.eqv a b && PyData.eqvAll r s) := rfl
theorem eqv_num {u v : Rat} : PyData.eqv (numD u) (numD v) = decide (u = v) := by
  unfold numD
  rw [eqv_tt, eqvAll_cons, eqvAll_cons, eqvAll_nil, eqv_ii, eqv_ii]
  by_cases h : u = v
  · subst h
    simp
  · rw [decide_eq_false h]
    rw [Bool.and_true, Bool.and_eq_false_iff]
    by_cases e : u.num = v.num
    · right
      rw [beq_eq_false_iff_ne]
      intro z
      exact h (Rat.ext e (by omega))
    · left
      rw [beq_eq_false_iff_ne]
      exact e
theorem eqv_num_none {u : Rat} : PyData.eqv (numD u) .none = false := rfl
theorem eqv_none_num {u : Rat} : PyData.eqv .none (numD u) = false := rfl
theorem isT_int_NoneType : isT "int" (tyName (.none)) = false := by
  show isT "int" "NoneType" = false
  decide
theorem isT_int_bool {b : Bool} : isT "int" (tyName (.bool b)) = true := by
  show isT "int" "bool" = true
  decide
theorem isT_int_int {b : Int} : isT "int" (tyName (.int b)) = true := by
  show isT "int" "int" = true
  decide
theorem isT_int_str {b : Str} : isT "int" (tyName (.str b)) = false := by
  show isT "int" "str" = false
  decide
theorem isT_int_list {b : List PyData} : isT "int" (tyName (.list b)) = false := by
  show isT "int" "list" = false
  decide
theorem isT_int_tuple {b : List PyData} : isT "int" (tyName (.tuple b)) = false := by
  show isT "int" "tuple" = false
  decide
theorem noF_num {b : Rat} : noF (numD b) = true := rfl
theorem isT_int_num {b : Rat} : isT "int" (tyName (numD b)) = false := by
  show isT "int" "tuple" = false
  decide
theorem isT_bool_NoneType : isT "bool" (tyName (.none)) = false := by
  show isT "bool" "NoneType" = false
  decide
theorem isT_bool_bool {b : Bool} : isT "bool" (tyName (.bool b)) = true := by
  show isT "bool" "bool" = true
  decide
theorem isT_bool_int {b : Int} : isT "bool" (tyName (.int b)) = false := by
  show isT "bool" "int" = false
  decide
theorem isT_bool_str {b : Str} : isT "bool" (tyName (.str b)) = false := by
  show isT "bool" "str" = false
  decide
theorem isT_bool_list {b : List PyData} : isT "bool" (tyName (.list b)) = false := by
  show isT "bool" "list" = false
  decide
theorem isT_bool_tuple {b : List PyData} : isT "bool" (tyName (.tuple b)) = false := by
  show isT "bool" "tuple" = false
  decide
theorem isT_bool_num {b : Rat} : isT "bool" (tyName (numD b)) = false := by
  show isT "bool" "tuple" = false
  decide
theorem isT_tuple_NoneType : isT "tuple" (tyName (.none)) = false := by
  show isT "tuple" "NoneType" = false
  decide
theorem isT_tuple_bool {b : Bool} : isT "tuple" (tyName (.bool b)) = false := by
  show isT "tuple" "bool" = false
  decide
theorem isT_tuple_int {b : Int} : isT "tuple" (tyName (.int b)) = false := by
  show isT "tuple" "int" = false
  decide
theorem isT_tuple_str {b : Str} : isT "tuple" (tyName (.str b)) = false := by
  show isT "tuple" "str" = false
  decide
theorem isT_tuple_list {b : List PyData} : isT "tuple" (tyName (.list b)) = false := by
  show isT "tuple" "list" = false
  decide
theorem isT_tuple_tuple {b : List PyData} : isT "tuple" (tyName (.tuple b)) = true := by
  show isT "tuple" "tuple" = true
  decide
theorem isT_tuple_num {b : Rat} : isT "tuple" (tyName (numD b)) = true := by
  show isT "tuple" "tuple" = true
  decide
theorem isT_str_NoneType : isT "str" (tyName (.none)) = false := by
  show isT "str" "NoneType" = false
  decide
theorem isT_str_bool {b : Bool} : isT "str" (tyName (.bool b)) = false := by
  show isT "str" "bool" = false
  decide
theorem isT_str_int {b : Int} : isT "str" (tyName (.int b)) = false := by
  show isT "str" "int" = false
  decide
theorem isT_str_str {b : Str} : isT "str" (tyName (.str b)) = true := by
  show isT "str" "str" = true
  decide
theorem isT_str_list {b : List PyData} : isT "str" (tyName (.list b)) = false := by
  show isT "str" "list" = false
  decide
theorem isT_str_tuple {b : List PyData} : isT "str" (tyName (.tuple b)) = false := by
  show isT "str" "tuple" = false
  decide
theorem isT_str_num {b : Rat} : isT "str" (tyName (numD b)) = false := by
  show isT "str" "tuple" = false
  decide
theorem isT_list_NoneType : isT "list" (tyName (.none)) = false := by
  show isT "list" "NoneType" = false
  decide
theorem isT_list_bool {b : Bool} : isT "list" (tyName (.bool b)) = false := by
  show isT "list" "bool" = false
  decide
theorem isT_list_int {b : Int} : isT "list" (tyName (.int b)) = false := by
  show isT "list" "int" = false
  decide
theorem isT_list_str {b : Str} : isT "list" (tyName (.str b)) = false := by
  show isT "list" "str" = false
  decide
theorem isT_list_list {b : List PyData} : isT "list" (tyName (.list b)) = true := by
  show isT "list" "list" = true
  decide
theorem isT_list_tuple {b : List PyData} : isT "list" (tyName (.tuple b)) = false := by
  show isT "list" "tuple" = false
  decide
theorem isT_list_num {b : Rat} : isT "list" (tyName (numD b)) = false := by
  show isT "list" "tuple" = false
  decide
theorem isT_int_dict {b : List (PyData × PyData)} : isT "int" (tyName (.dict b)) = false := by
  show isT "int" "dict" = false
  decide
theorem isT_bool_dict {b : List (PyData × PyData)} : isT "bool" (tyName (.dict b)) = false := by
  show isT "bool" "dict" = false
  decide
theorem isT_tuple_dict {b : List (PyData × PyData)} : isT "tuple" (tyName (.dict b)) = false := by
  show isT "tuple" "dict" = false
  decide
theorem isT_str_dict {b : List (PyData × PyData)} : isT "str" (tyName (.dict b)) = false := by
  show isT "str" "dict" = false
  decide
theorem isT_list_dict {b : List (PyData × PyData)} : isT "list" (tyName (.dict b)) = false := by
  show isT "list" "dict" = false
  decide
end DL

namespace DM
/-! whole roots -/
theorem newton {n s : Int} (hn : 0 ≤ n) (hs : 0 < s) : n < ((s + n / s) / 2 + 1) * ((s + n / s) / 2 + 1) := by
  have h1 : n < (n / s + 1) * s := Int.lt_ediv_add_one_mul_self n hs
  have hq : 0 ≤ n / s := Int.ediv_nonneg hn (by omega)
  generalize n / s = q at *
  have h2 : s + q + 1 ≤ 2 * ((s + q) / 2 + 1) := by omega
  generalize (s + q) / 2 + 1 = t at *
  have h3 : (s + q + 1) * (s + q + 1) ≤ (2 * t) * (2 * t) := Int.mul_le_mul h2 h2 (by omega) (by omega)
  have h4 : 0 ≤ (s - (q + 1)) * (s - (q + 1)) := by
    rcases Int.le_total 0 (s - (q + 1)) with z | z
    · exact Int.mul_nonneg z z
    · exact Int.mul_nonneg_of_nonpos_of_nonpos z z
  grind
theorem newton_end {n s : Int} (hs : 0 < s) (h : s ≤ (s + n / s) / 2) : s * s ≤ n := by
  have h1 : s ≤ n / s := by omega
  exact (Int.le_ediv_iff_mul_le hs).mp h1
theorem le_sq {r : Int} (h : 0 < r) : r ≤ r * r := by
  have := Int.mul_le_mul_of_nonneg_left (show 1 ≤ r by omega) (show 0 ≤ r by omega)
  rw [Int.mul_one] at this
  exact this
theorem rt_uniq {n r t : Int} (hr : 0 ≤ r) (ht : 0 ≤ t) (h1 : r * r ≤ n) (h2 : n < (r + 1) * (r + 1)) (h3 : t * t ≤ n) (h4 : n < (t + 1) * (t + 1)) : r = t := by
  rcases Int.lt_trichotomy r t with z | z | z
  · have : (r + 1) * (r + 1) ≤ t * t := Int.mul_le_mul (by omega) (by omega) (by omega) (by omega)
    omega
  · exact z
  · have : (t + 1) * (t + 1) ≤ r * r := Int.mul_le_mul (by omega) (by omega) (by omega) (by omega)
    omega
theorem sq_succ {r : Int} (h : 0 ≤ r) : r * r < (r + 1) * (r + 1) := by
  have : (r + 1) * (r + 1) = r * r + 2 * r + 1 := by grind
  omega
theorem rt_sq {r t : Int} (hr : 0 ≤ r) (ht : 0 ≤ t) (h1 : t * t ≤ r * r) (h2 : r * r < (t + 1) * (t + 1)) : t = r :=
  rt_uniq ht hr h1 h2 (Int.le_refl _) (sq_succ hr)
/-! roots of numbers -/
theorem rat_sq_num (r : Rat) : (r * r).num = r.num * r.num := by
  have := Rat.num_pow r 2
  rw [Rat.pow_succ, Rat.pow_one] at this
  rw [this]
  show r.num ^ 2 = _
  rw [Int.pow_succ, Int.pow_succ, Int.pow_zero, Int.one_mul]
theorem rat_sq_den (r : Rat) : (r * r).den = r.den * r.den := by
  have := Rat.den_pow r 2
  rw [Rat.pow_succ, Rat.pow_one] at this
  rw [this, Nat.pow_succ, Nat.pow_succ, Nat.pow_zero, Nat.one_mul]
theorem rat_sq_inj {r s : Rat} (hr : 0 ≤ r) (hs : 0 ≤ s) (h : r * r = s * s) : r = s := by
  have h1 : r.num * r.num = s.num * s.num := by rw [← rat_sq_num, ← rat_sq_num, h]
  have h2 : r.den * r.den = s.den * s.den := by rw [← rat_sq_den, ← rat_sq_den, h]
  have a := Rat.num_nonneg.mpr hr
  have b := Rat.num_nonneg.mpr hs
  refine Rat.ext (rt_sq b a (by omega) (by rw [← h1]; exact sq_succ a)) ?_
  have := rt_sq (r := (s.den : Int)) (t := (r.den : Int)) (by omega) (by omega) (by rw [← Int.natCast_mul, ← Int.natCast_mul, h2]; omega)
    (by rw [← Int.natCast_mul, ← h2, Int.natCast_mul]; exact sq_succ (by omega))
  omega
open Classical in
noncomputable def rt (u : Rat) : Option Rat := if h : ∃ r : Rat, 0 ≤ r ∧ r * r = u then some (Classical.choose h) else none
theorem rt_some {u r : Rat} (h : rt u = some r) : 0 ≤ r ∧ r * r = u := by
  unfold rt at h
  split at h
  · rename_i z
    cases h
    exact Classical.choose_spec z
  · cases h
theorem rt_of {u r : Rat} (h0 : 0 ≤ r) (h : r * r = u) : rt u = some r := by
  have z : ∃ r : Rat, 0 ≤ r ∧ r * r = u := ⟨r, h0, h⟩
  unfold rt
  rw [dif_pos z]
  obtain ⟨a, b⟩ := Classical.choose_spec z
  rw [rat_sq_inj a h0 (b.trans h.symm)]
/-- the number of whole roots -/
theorem rt_mk {u : Rat} {t b : Int} (ht : 0 ≤ t) (hb : 0 ≤ b) (h1 : t * t = u.num) (h2 : b * b = u.den) : ∃ r : Rat, rt u = some r ∧ r.num = t ∧ (r.den : Int) = b := by
  obtain ⟨m, rfl⟩ := Int.eq_ofNat_of_zero_le ht
  obtain ⟨n, rfl⟩ := Int.eq_ofNat_of_zero_le hb
  have hn : n ≠ 0 := fun e => by
    subst e
    have := u.den_pos
    simp at h2
    omega
  have hc : Nat.Coprime m n := by
    have h3 : Nat.Coprime (m * m) (n * n) := by
      have := u.reduced
      rw [← h1] at this
      have e : u.den = n * n := by rw [← Int.natCast_mul] at h2; omega
      rw [e] at this
      rw [← Int.natCast_mul, Int.natAbs_natCast] at this
      exact this
    exact Nat.Coprime.coprime_mul_left (Nat.Coprime.coprime_mul_left_right h3)
  let r : Rat := ⟨m, n, hn, by rw [Int.natAbs_natCast]; exact hc⟩
  have hr0 : 0 ≤ r := Rat.num_nonneg.mp (show (0 : Int) ≤ (m : Int) by omega)
  have hr : r * r = u := by
    refine Rat.ext ?_ ?_
    · rw [rat_sq_num]
      exact h1
    · rw [rat_sq_den]
      have e : ((n * n : Nat) : Int) = (u.den : Int) := by rw [Int.natCast_mul]; exact h2
      show n * n = u.den
      exact Int.ofNat.inj e
  exact ⟨r, rt_of hr0 hr, rfl, rfl⟩
theorem rt_num {u r : Rat} (h : rt u = some r) : 0 ≤ r.num ∧ r.num * r.num = u.num ∧ (r.den : Int) * r.den = u.den := by
  obtain ⟨h0, e⟩ := rt_some h
  refine ⟨Rat.num_nonneg.mpr h0, ?_, ?_⟩
  · rw [← rat_sq_num, e]
  · rw [← Int.natCast_mul, ← rat_sq_den, e]
theorem Bd.rt {n : Nat} {u r : Rat} (h : Bd n u) (e : rt u = some r) : Bd n r := by
  obtain ⟨h0, h1, h2⟩ := rt_num e
  have hd := r.den_pos
  constructor
  · refine Nat.lt_of_le_of_lt ?_ h.1
    rw [← h1, Int.natAbs_mul]
    rcases Nat.eq_zero_or_pos r.num.natAbs with z | z
    · omega
    · exact Nat.le_mul_of_pos_left _ z
  · refine Nat.lt_of_le_of_lt ?_ h.2
    have : r.den * r.den = u.den := by rw [← Int.natCast_mul] at h2; omega
    rw [← this]
    exact Nat.le_mul_of_pos_left _ hd
end DM
namespace DL
open PySem PySem.Spec L2 DM
def f_side : FP := fun ds Q => ∃ n : Int, ds = [.int n] ∧ (0 ≤ n ∧ n.natAbs < 2 ^ 8000) ∧ ∀ r : Int, 0 ≤ r → r * r ≤ n → n < (r + 1) * (r + 1) → Q (.d (.int r))
theorem fm_side : FMono f_side := ⟨fun ds Q Q' hq ⟨n, e, p, h⟩ => ⟨n, e, p, fun r a b c => hq _ (h r a b c)⟩⟩
theorem ln_side : ∀ ds Q, f_side ds Q → ds.length = 1 := fun ds Q ⟨n, e, _⟩ => by rw [e]; rfl
instance : FMono f_side := fm_side
theorem ap_side {n : Int} {Q : Res → Prop} : f_side [.int n] Q = ((0 ≤ n ∧ n.natAbs < 2 ^ 8000) ∧ ∀ r : Int, 0 ≤ r → r * r ≤ n → n < (r + 1) * (r + 1) → Q (.d (.int r))) := propext ⟨fun ⟨m, e, p, q⟩ => by
  cases e
  exact ⟨p, q⟩, fun ⟨p, q⟩ => ⟨n, rfl, p, q⟩⟩
def optD : Option Rat → PyData
  | none => .none
  | some r => numD r
noncomputable def f_root : FP := fn1 numD (Bd 8000) (fun u => optD (rt u))
instance : FMono f_root := fm1
theorem ap_root {u : Rat} {Q : Res → Prop} : f_root [numD u] Q = (Bd 8000 u ∧ Q (.d (optD (rt u)))) := fn1_ap num_inj
/-- what both roots' defs do behind the whole roots -/
theorem root_end {u : Rat} {t b : Int} {Q : PyData → Prop} (h : Q (optD (rt u))) (ht : 0 ≤ t) (t1 : t * t ≤ u.num) (t2 : u.num < (t + 1) * (t + 1)) (hb : 0 ≤ b) (b1 : b * b ≤ u.den) (b2 : (u.den : Int) < (b + 1) * (b + 1)) :
    (t * t = u.num ∧ b * b = u.den → Q (.tuple [.int t, .int b])) ∧ (¬ (t * t = u.num ∧ b * b = u.den) → Q .none) := by
  constructor
  · rintro ⟨e1, e2⟩
    obtain ⟨r, e, h1, h2⟩ := rt_mk ht hb e1 e2
    rw [e] at h
    have : optD (some r) = PyData.tuple [.int t, .int b] := by
      show numD r = _
      unfold numD
      rw [h1, h2]
    rw [← this]
    exact h
  · intro hn
    cases e : rt u with
    | none =>
      rw [e] at h
      exact h
    | some r =>
      exfalso
      obtain ⟨h0, h1, h2⟩ := rt_num e
      have e1 := rt_sq (r := r.num) (t := t) h0 ht (by omega) (by omega)
      have e2 := rt_sq (r := (r.den : Int)) (t := b) (by omega) hb (by omega) (by omega)
      exact hn ⟨by rw [e1]; exact h1, by rw [e2]; exact h2⟩
theorem bits_bound (n : Int) : n.natAbs < 2 ^ (Builtin.Int.intBits n) := by
  unfold Builtin.Int.intBits
  split
  · rename_i h
    have : n = 0 := by simpa using h
    subst this
    decide
  · rename_i h
    have h0 : n.natAbs ≠ 0 := by
      intro e
      exact h (by simp; omega)
    exact (Nat.log2_lt h0).mp (Nat.lt_succ_self _)
theorem bits_le {n : Int} {k : Nat} (h : n.natAbs < 2 ^ k) (h0 : n ≠ 0) : Builtin.Int.intBits n ≤ k := by
  unfold Builtin.Int.intBits
  rw [if_neg (by simpa using h0)]
  have : n.natAbs.log2 < k := (Nat.log2_lt (by omega)).mpr h
  omega
theorem num_negd {u : Rat} : PyData.tuple [.int (0 - u.num), .int (u.den : Int)] = numD (-u) := by
  unfold numD
  rw [Rat.neg_num, Rat.neg_den, Int.zero_sub]
theorem bd_zero : Bd 1 0 := ⟨by decide, by decide⟩
theorem bd_one : Bd 1 1 := ⟨by decide, by decide⟩
end DL

namespace DL
open PySem PySem.Spec L2 DM
/-! ### calls by keywords -/
section
variable {K : Fg} {x qual : Str} {params : Arguments} {body : List Stmt} {scope : Scope} {dvs : List V} {kws : List (Str × V)} {f : Addr} {fd : FuncData} {ps : List Str}
/-- some values by their places, the others by keywords; there are defaults -/
theorem kb1 (F : FunD K x qual params body scope dvs kws f fd) (n : Nat) (ks : List Str) (hd : dvs ≠ [])
    (h : ∀ (T : Addr) (kV doc pm : Value) (an : Option Addr) (cdv ct : Value) (us its ws : List Value), us.length = n → its.length = dvs.length → ws.length = ks.length →
      ∃ k, bindArgs (PySem.W.fnOf x qual params body scope (.ref T) kV doc pm an cdv ct) ⟨us, ks.zip ws⟩ = seqItems? (.ref T) >>= k ∧ k (some its.toArray) = pure (ps.zip (us ++ ws))) :
    KBn K fd ps n ks (fun us ws => us ++ ws) (fun vs zs => vs ++ zs) := by
  obtain ⟨oc, od, dV, kV, doc, pm, an, cdv, ct, osl, rfl, lk, hcd, hD, hK⟩ := F.ex
  rcases hD with ⟨e, _⟩ | ⟨_, T, o, its, m, rfl, lT, oT, rT⟩
  · exact absurd e hd
  · refine ⟨fun s us ws X l1 l2 => ?_, fun r1 r2 => r1.append r2⟩
    obtain ⟨k, e1, e2⟩ := h T kV doc pm an cdv ct us its ws l1 rT.length.symm l2
    refine BindsTo.of_looks fun M => ?_
    rw [e1]
    exact looks_items X lT oT (.of_pure e2)
end
section
variable {X : Cx} {Z : Ent} {pos : Pos}
structure Dk (X : Cx) (Z : Ent) (ks : List Keyword) (t : DL') : Prop where
  run : PK X ks (lA X.K Z t)
  mono : ∀ (δ : DSt) (Q Q' : List PyData → DSt → Prop), (∀ d δ', Q d δ' → Q' d δ') → t δ Q → t δ Q'
theorem pk_imp {ks : List Keyword} {t t' : TA} (h : PK X ks t) (i : ∀ σ H Q, t' σ H Q → t σ H Q) : PK X ks t' := ⟨fun p pins s σ H Q I h' => h.run p pins s σ H Q I (i σ H Q h')⟩
theorem dk_nil : Dk X Z [] dNil := ⟨pk_imp pk_nil fun σ H Q ⟨Hs, δ, R, q⟩ => q [] Hs H (Same.refl _) R .nil, fun δ Q Q' hq h => hq _ _ h⟩
theorem dk_cons {nm : Option Str} {e : Expr} {kpos : Pos} {ks : List Keyword} {t : DE} {r : DL'} (h : De X Z e t) (hr : Dk X Z ks r) : Dk X Z (⟨nm, e, kpos⟩ :: ks) (dCons t r) := by
  refine ⟨pk_imp (pk_cons h.run hr.run) fun σ H Q ⟨Hs, δ, R, q⟩ => ⟨Hs, δ, R, h.mono _ _ _ (fun d δ1 q v Hs1 H1 s1 R1 dp => ⟨Hs1, δ1, R1, hr.mono _ _ _ (fun ds δ2 q vs Hs2 H2 s2 R2 dps => ?_) q⟩) q⟩,
    fun δ Q Q' hq q => h.mono _ _ _ (fun _ _ z => hr.mono _ _ _ (fun _ _ z => hq _ _ z) z) q⟩
  exact q (v :: vs) Hs2 H2 (s1.trans s2) R2 (.cons (dp.up s2) dps)
/-- f(e, .., k = v, ..): gD puts the values in the parameters' order -/
def dCallN (f : FP) (n m : Nat) (gD : List PyData → List PyData → List PyData) (t tk : DL') : DE := fun δ Q => t δ fun ds δ1 => tk δ1 fun es δ2 => ds.length = n ∧ es.length = m ∧ f (gD ds es) fun r => Q (asD r) δ2
variable {k n : Nat} {g : Addr} {fd : FuncData} {ps ks : List Str} {f : FP} {x : Str} {e : Expr} {es : List Expr} {kws : List Keyword} {t tk : DL'} {p : Pos} {gv : List Value → List Value → List Value} {gV : List V → List V → List V} {gD : List PyData → List PyData → List PyData}
theorem de_callN (F : FnOk X.prog X.w X.K X.mg X.base CX0 k g fd ps (spP X.K f)) (fm : FMono f) (hr : Room k X.A) (hg : Gl X x) (hm : X.mg x = some (.ref g)) (hk : PySem.W.keepIn X.K (.ref g) = true) (hb : KBn X.K fd ps n ks gv gV)
    (hG : ∀ H vs us ds es, DpAll X.K H vs ds → DpAll X.K H us es → DpAll X.K H (gV vs us) (gD ds es)) (ha : Da X Z (e :: es) t) (hkw : Dk X Z kws tk)
    (hall : (backToKw pos (keywordEach kws X.env)).all (·.1.isSome) = true := by rfl) (hks : (backToKw pos (keywordEach kws X.env)).filterMap (·.1) = ks := by rfl)
    (hdb : (x == ("__debug__" : Str)) = false := by decide) (he : starEach (e :: es) X.env = (false, eval e X.env) :: starEach es X.env := by rfl)
    (hpl : ((backTo pos (starEach (e :: es) X.env)).any (·.1) || (backToKw pos (keywordEach kws X.env)).any (·.1.isNone)) = false := by rfl) :
    De X Z (.Call (.Name x p) (e :: es) kws pos) (dCallN f n ks.length gD t tk) := by
  refine ⟨pe_imp (pe_callN F hr hg hm hk hb pass0 ha.run hkw.run hall hks hdb he hpl) fun σ H Q ⟨Hs, δ, R, q⟩ => ⟨Hs, δ, R, ha.mono _ _ _ (fun ds δ1 q vs Hs1 H1 s1 R1 dps => ⟨Hs1, δ1, R1, hkw.mono _ _ _ (fun es δ2 q us Hs2 H2 s2 R2 dus => ?_) q⟩) q⟩,
    fun δ Q Q' hq q => ha.mono _ _ _ (fun ds δ' z => hkw.mono _ _ _ (fun es δ2 z => ⟨z.1, z.2.1, fm.m _ _ _ (fun r z => hq _ _ z) z.2.2⟩) z) q⟩
  refine ⟨by rw [dps.len]; exact q.1, by rw [dus.len]; exact q.2.1, ?_⟩
  have := call_run (dvs := []) (dd := []) fm (fun _ => .nil) R2 (hG _ _ _ _ _ (dps.up s2) dus) (Q := Q) (fm.m _ _ _ (fun r q v Hs3 H3 s3 R3 c => ?_) (by rw [List.append_nil]; exact q.2.2))
  · rw [List.append_nil] at this
    exact this
  · cases r with
    | d d => exact q v Hs3 H3 ((s1.trans s2).trans s3) R3 c
    | o xs =>
      obtain ⟨Hs4, s4, R4, dp⟩ := FrO.share R3 c
      exact q v Hs4 H3 (((s1.trans s2).trans s3).trans s4) R4 dp
    | b o =>
      obtain ⟨A, c⟩ := c
      obtain ⟨Hs4, s4, R4, dp⟩ := FrA.share R3 c
      exact q v Hs4 H3 (((s1.trans s2).trans s3).trans s4) R4 dp
instance {l l' : DL'} [FMono f] [LMono l] [LMono l'] {m : Nat} : EMono (dCallN f n m gD l l') := ⟨fun δ Q Q' hq q => LMono.m (t := l) _ _ _ (fun ds δ1 z => LMono.m (t := l') _ _ _ (fun es δ2 z => ⟨z.1, z.2.1, FMono.m (f := f) _ _ _ (fun r z => hq _ _ z) z.2.2⟩) z) q⟩
end
/-! ### amounts -/
def f_plus : FP := fn2 numD numD (fun u v => Bd 4000 u ∧ Bd 4000 v) (fun u v => numD (u + v))
def f_minus : FP := fn2 numD numD (fun u v => Bd 4000 u ∧ Bd 4000 v) (fun u v => numD (u - v))
def f_times : FP := fn2 numD numD (fun u v => Bd 4000 u ∧ Bd 4000 v) (fun u v => numD (u * v))
def f_over : FP := fn2 numD numD (fun u v => v ≠ 0 ∧ Bd 4000 u ∧ Bd 4000 v) (fun u v => numD (u / v))
def f_opp : FP := fn1 numD (fun _ => True) (fun u => numD (-u))
instance : FMono f_plus := fm2
instance : FMono f_minus := fm2
instance : FMono f_times := fm2
instance : FMono f_over := fm2
instance : FMono f_opp := fm1
theorem ap_plus {u v : Rat} {Q : Res → Prop} : f_plus [numD u, numD v] Q = ((Bd 4000 u ∧ Bd 4000 v) ∧ Q (.d (numD (u + v)))) := fn2_ap num_inj num_inj
theorem ap_minus {u v : Rat} {Q : Res → Prop} : f_minus [numD u, numD v] Q = ((Bd 4000 u ∧ Bd 4000 v) ∧ Q (.d (numD (u - v)))) := fn2_ap num_inj num_inj
theorem ap_times {u v : Rat} {Q : Res → Prop} : f_times [numD u, numD v] Q = ((Bd 4000 u ∧ Bd 4000 v) ∧ Q (.d (numD (u * v)))) := fn2_ap num_inj num_inj
theorem ap_over {u v : Rat} {Q : Res → Prop} : f_over [numD u, numD v] Q = ((v ≠ 0 ∧ Bd 4000 u ∧ Bd 4000 v) ∧ Q (.d (numD (u / v)))) := fn2_ap num_inj num_inj
theorem ap_opp {u : Rat} {Q : Res → Prop} : f_opp [numD u] Q = (True ∧ Q (.d (numD (-u)))) := fn1_ap num_inj
theorem dI_add (u v : Rat) : Rat.divInt (u.num * v.den + v.num * u.den) ((u.den : Int) * v.den) = u + v := (add_divInt u v).symm
theorem dI_sub (u v : Rat) : Rat.divInt (u.num * v.den - v.num * u.den) ((u.den : Int) * v.den) = u - v := (sub_divInt u v).symm
theorem dI_mul (u v : Rat) : Rat.divInt (u.num * v.num) ((u.den : Int) * v.den) = u * v := (mul_divInt u v).symm
theorem dI_one (a : Int) : Rat.divInt a 1 = (a : Rat) := Rat.num_divInt_den (a : Rat)
theorem dI_div (u v : Rat) : Rat.divInt (u.num * v.den) ((u.den : Int) * v.num) = u / v := (div_divInt u v).symm
/-- what the rules ask of parts of numbers -/
theorem mul_nd {m n : Nat} {u v : Rat} (hu : Bd m u) (hv : Bd n v) (h : m + n ≤ 900000) : CMulW u.num v.den := mulW hu.1 (by rw [Int.natAbs_natCast]; exact hv.2) h
theorem mul_nn {m n : Nat} {u v : Rat} (hu : Bd m u) (hv : Bd n v) (h : m + n ≤ 900000) : CMulW u.num v.num := mulW hu.1 hv.1 h
theorem mul_dd {m n : Nat} {u v : Rat} (hu : Bd m u) (hv : Bd n v) (h : m + n ≤ 900000) : CMulW (u.den : Int) v.den := mulW (by rw [Int.natAbs_natCast]; exact hu.2) (by rw [Int.natAbs_natCast]; exact hv.2) h
theorem mul_dn {m n : Nat} {u v : Rat} (hu : Bd m u) (hv : Bd n v) (h : m + n ≤ 900000) : CMulW (u.den : Int) v.num := mulW (by rw [Int.natAbs_natCast]; exact hu.2) hv.1 h
theorem dd_lt {m n : Nat} {u v : Rat} (hu : Bd m u) (hv : Bd n v) (h : m + n ≤ 9000) : ((u.den : Int) * v.den).natAbs < 2 ^ 9000 := Nat.lt_of_lt_of_le (nat_den hu hv) (Nat.pow_le_pow_right (by omega) h)
theorem dn_lt {m n : Nat} {u v : Rat} (hu : Bd m u) (hv : Bd n v) (h : m + n ≤ 9000) : ((u.den : Int) * v.num).natAbs < 2 ^ 9000 := by
  rw [Int.natAbs_mul, Int.natAbs_natCast]
  exact Nat.lt_of_lt_of_le (mul_lt_pow hu.2 hv.1) (Nat.pow_le_pow_right (by omega) h)
theorem num_ne {v : Rat} (h : v ≠ 0) : v.num ≠ 0 := fun e => h (Rat.num_eq_zero.mp e)
end DL

namespace DL
open PySem PySem.Spec L2 DM
section
variable {X : Cx} {Z : Ent} {pos : Pos}
/-! ### in, not in -/
def seqOf : PyData → Option (List PyData)
  | .list xs => some xs
  | .tuple xs => some xs
  | _ => none
def rInn (neg : Bool) : D2 := fun d e Q => ∃ xs, seqOf e = some xs ∧ SeqAt.shaped d = true ∧ SeqAt.shaped e = true ∧ Q (.bool (if neg then !xs.any fun z => PyData.eqv z d else xs.any fun z => PyData.eqv z d))
theorem rInn_mono {neg : Bool} (d e : PyData) (Q Q' : PyData → Prop) (h : ∀ z, Q z → Q' z) (q : rInn neg d e Q) : rInn neg d e Q' := by
  obtain ⟨xs, a, b, c, q⟩ := q
  exact ⟨xs, a, b, c, h _ q⟩
instance {neg : Bool} : D2M (rInn neg) := ⟨rInn_mono⟩
def rInR (K : Fg) (neg : Bool) : R2 := fun x y H Q => ∃ d e xs, L2.Dp K H x d ∧ L2.Dp K H y e ∧ seqOf e = some xs ∧ SeqAt.shaped d = true ∧ SeqAt.shaped e = true ∧ Q (.bl (if neg then !xs.any fun z => PyData.eqv z d else xs.any fun z => PyData.eqv z d)) H
theorem op_inR (hu : X.A.units + 65 < cLine) : OpR X (compareOp .In) (rInR X.K false) := by
  intro pins s σ H x y v u Q I rx ry h
  obtain ⟨d, e, ds, hd, he, hq, sd, se, q⟩ := h
  obtain ⟨as, r1⟩ := L2.Dp.reads I d x v hd rx
  cases e with
  | list xs =>
    cases hq
    obtain ⟨bs, r2⟩ := L2.Dp.reads I (.list ds) y u he ry
    exact SeqAt.in_list_reads r2 r1 (SeqAt.canLay_of_shaped se) (SeqAt.canLay_of_shaped sd) (PyProof.Rows.room_in_shaped sd hu) ⟨.bl _, H, I, rfl, q⟩
  | tuple xs =>
    cases hq
    obtain ⟨bs, r2⟩ := L2.Dp.reads I (.tuple ds) y u he ry
    exact SeqAt.in_tuple_reads r2 r1 (SeqAt.canLay_of_shaped se) (SeqAt.canLay_of_shaped sd) (PyProof.Rows.room_in_shaped sd hu) ⟨.bl _, H, I, rfl, q⟩
  | _ => cases hq
theorem units65 {k : Nat} {A : Around} (r : Room k A) : A.units + 65 < cLine := by have := r.un; omega
theorem od_in {k : Nat} (hr : Room k X.A) : OpD X Z (compareOp .In) (rInn false) :=
  ⟨⟨_, op_inR (units65 hr), fun d e x y Hs H σ δ Q R dx dy ⟨xs, a, b, c, q⟩ => ⟨d, e, xs, (R.up dx).lb b, (R.up dy).lb c, a, b, c, q _ Hs H (Same.refl _) R (.bl _)⟩⟩, rInn_mono⟩
theorem inn_t {neg : Bool} {d : PyData} {xs : List PyData} {Q : PyData → Prop} : rInn neg d (.tuple xs) Q = (SeqAt.shaped d = true ∧ SeqAt.shaped (.tuple xs) = true ∧ Q (.bool (if neg then !xs.any fun z => PyData.eqv z d else xs.any fun z => PyData.eqv z d))) := propext ⟨fun ⟨ys, e, r⟩ => by cases e; exact r, fun r => ⟨xs, rfl, r⟩⟩
theorem inn_l {neg : Bool} {d : PyData} {xs : List PyData} {Q : PyData → Prop} : rInn neg d (.list xs) Q = (SeqAt.shaped d = true ∧ SeqAt.shaped (.list xs) = true ∧ Q (.bool (if neg then !xs.any fun z => PyData.eqv z d else xs.any fun z => PyData.eqv z d))) := propext ⟨fun ⟨ys, e, r⟩ => by cases e; exact r, fun r => ⟨xs, rfl, r⟩⟩
/-! ### + of anything -/
def rCatS (K : Fg) : R2 := fun x y H Q => ∃ l b xs zs, x = .ref l ∧ y = .ref b ∧ SqL K H l xs ∧ SqL K H b zs ∧ xs.length + zs.length ≤ sizeLine ∧ ∀ p, H p = none → Q (.ref p) (upd H p (.lst (xs ++ zs)))
open PyProof.Rows in
theorem op_catS : OpR X (binaryOp .Add) (rCatS X.K) := by
  intro pins s σ H x y v u Q I rx ry h
  obtain ⟨l, b, xs, zs, rfl, rfl, hL, hB, hz, q⟩ := h
  cases rx
  cases ry
  obtain ⟨its, r, ⟨⟨cls, dd, data, sl⟩, n, ho, hc, _, hd⟩, _⟩ := I.list hL
  obtain ⟨its2, r2, ⟨⟨cls2, dd2, data2, sl2⟩, n2, ho2, hc2, _, hd2⟩, _⟩ := I.list hB
  simp only at hc hd hc2 hd2
  subst hc hd hc2 hd2
  have e : its.toArray ++ its2.toArray = (its ++ its2).toArray := by simp
  have l1 := r.length
  have l2 := r2.length
  refine concat_meets ⟨_, ho, rfl⟩ ⟨_, ho2, rfl⟩ noFill_list_add seq_list_add PySem.F.slot_list_add PySem.F.entry_list_add (PySem.F.args_list_add_2 _ _) (list_addW l b its.toArray its2.toArray n n2 dd dd2 sl sl2 (by simp; omega)) ⟨ho, ho2, ?_⟩
  rw [e]
  exact ⟨.ref _, _, I.lnew (t' := s.toks) (r.append r2) (by rw [List.length_append]; omega), rfl, q _ I.fresh⟩
/-! ### list(x) -/
def rListO : List PyData → (List PyData → Prop) → Prop := fun ds Q => match ds with
  | [.list xs] => Q xs
  | [.tuple xs] => Q xs
  | _ => False
def dListO (t : DL') : DL' := fun δ Q => t δ fun ds δ' => rListO ds fun xs => Q xs δ'
theorem lstO_l {a : List PyData} {Q : List PyData → Prop} : rListO [.list a] Q = Q a := rfl
theorem lstO_t {a : List PyData} {Q : List PyData → Prop} : rListO [.tuple a] Q = Q a := rfl
theorem lstO_n {u : Rat} {Q : List PyData → Prop} : rListO [numD u] Q = Q [.int u.num, .int (u.den : Int)] := rfl
theorem rListO_mono (ds : List PyData) (Q Q' : List PyData → Prop) (h : ∀ z, Q z → Q' z) (q : rListO ds Q) : rListO ds Q' := by
  unfold rListO at q ⊢
  split at q
  · exact h _ q
  · exact h _ q
  · exact q
instance {l : DL'} [LMono l] : LMono (dListO l) := ⟨fun δ Q Q' hq q => LMono.m (t := l) _ _ _ (fun ds δ' z => rListO_mono _ _ _ (fun _ z => hq _ _ z) z) q⟩
theorem do_list {e : Expr} {t : DL'} {p : Pos} (hg : Gl X "list") (hm : X.mg "list" = none) (hv : bootBuiltins "list" = some (.type "list")) (ha : Da X Z [e] t) (hn : ("list" : Str) ≠ "__name__" := by decide) (hdb : (("list" : Str) == ("__debug__" : Str)) = false := by decide)
    (he : starEach [e] X.env = (false, eval e X.env) :: starEach [] X.env := by rfl) (hpl : (backTo pos (starEach [] X.env)).any (·.1) = false := by rfl) : Do X Z (.Call (.Name "list" p) [e] [] pos) (dListO t) := by
  refine ⟨pe_imp (pe_callTy call_list_of hg hm hv ha.run hn hdb he hpl) fun σ H Q ⟨Hs, δ, R, q⟩ => ⟨Hs, δ, R, ha.mono _ _ _ (fun ds δ1 q vs Hs1 H1 s1 R1 dps => ?_) q⟩, fun δ Q Q' hq q => ha.mono _ _ _ (fun ds δ' z => rListO_mono _ _ _ (fun _ z => hq _ _ z) z) q⟩
  unfold rListO at q
  split at q
  · cases dps with
    | cons d1 d2 =>
      cases d2
      cases d1 with
      | lst hs ha => exact ⟨_, _, rfl, .inl (R1.sub.seq hs), fun l hl => q _ Hs1 _ s1 (R1.allocO hl) (FrO.new R1 hl ha)⟩
  · cases dps with
    | cons d1 d2 =>
      cases d2
      cases d1 with
      | tup hs ha => exact ⟨_, _, rfl, .inr (sqt_mono R1.sub hs), fun l hl => q _ Hs1 _ s1 (R1.allocO hl) (FrO.new R1 hl ha)⟩
  · exact q.elim
theorem strOk_of (s : String) : PyData.strOk (Str.ofString s) = true := by
  unfold PyData.strOk
  rw [Str.ofString_eq_toList, List.all_toArray, List.all_map, List.all_eq_true]
  intro c _
  have := c.valid
  simp only [Function.comp, decide_eq_true_eq]
  rcases this with h | h
  · have : c.toNat < 0xd800 := h
    omega
  · have : c.toNat < 0x110000 := h.2
    omega
theorem sh_str {s : String} : SeqAt.shaped (.str (Str.ofString s)) = true := by
  unfold SeqAt.shaped
  show (PyData.strOk (Str.ofString s) && decide (PyData.depth (.str (Str.ofString s)) ≤ 64)) = true
  rw [strOk_of]
  rfl
end
end DL

namespace DM
/-! headings of two whole numbers -/
def hdc (p q : Int) : Rat := Rat.divInt (q * q - p * p) (p * p + q * q)
def hds (p q : Int) : Rat := Rat.divInt (2 * p * q) (p * p + q * q)
theorem sq_nn (p : Int) : 0 ≤ p * p := by
  rcases Int.le_total 0 p with z | z
  · exact Int.mul_nonneg z z
  · exact Int.mul_nonneg_of_nonpos_of_nonpos z z
theorem sq_pos {p : Int} (h : p ≠ 0) : 0 < p * p := by
  have := sq_nn p
  have : p * p ≠ 0 := Int.mul_ne_zero h h
  omega
theorem two_pos {p q : Int} (h : p ≠ 0 ∨ q ≠ 0) : 0 < p * p + q * q := by
  have := sq_nn p
  have := sq_nn q
  rcases h with h | h
  · have := sq_pos h
    omega
  · have := sq_pos h
    omega
theorem hd_one {p q : Int} (h : p ≠ 0 ∨ q ≠ 0) : hdc p q * hdc p q + hds p q * hds p q = 1 := by
  have h0 := two_pos h
  unfold hdc hds
  rw [Rat.divInt_eq_div, Rat.divInt_eq_div]
  have hz : ((p * p + q * q : Int) : Rat) ≠ 0 := fun e => by
    have := Rat.intCast_eq_zero_iff.mp e
    omega
  simp only [Rat.intCast_sub, Rat.intCast_mul, Rat.intCast_add] at hz ⊢
  generalize (p : Rat) = a at *
  generalize (q : Rat) = b at *
  grind
theorem hd_bd {p q : Int} {k : Nat} (h : p ≠ 0 ∨ q ≠ 0) (hp : p.natAbs < 2 ^ k) (hq : q.natAbs < 2 ^ k) : Bd (2 * k + 1) (hdc p q) ∧ Bd (2 * k + 1) (hds p q) := by
  have h0 := two_pos h
  have e : (2 : Nat) ^ (2 * k + 1) = 2 * (2 ^ k * 2 ^ k) := by rw [Nat.pow_succ, Nat.two_mul, Nat.pow_add, Nat.mul_comm]
  have a1 : p.natAbs * p.natAbs < 2 ^ k * 2 ^ k := Nat.mul_lt_mul'' hp hp
  have a2 : q.natAbs * q.natAbs < 2 ^ k * 2 ^ k := Nat.mul_lt_mul'' hq hq
  have a3 : p.natAbs * q.natAbs < 2 ^ k * 2 ^ k := Nat.mul_lt_mul'' hp hq
  have b1 : (p * p).natAbs = p.natAbs * p.natAbs := Int.natAbs_mul _ _
  have b2 : (q * q).natAbs = q.natAbs * q.natAbs := Int.natAbs_mul _ _
  have b3 : (p * q).natAbs = p.natAbs * q.natAbs := Int.natAbs_mul _ _
  have b4 : (2 * p * q).natAbs = 2 * (p.natAbs * q.natAbs) := by rw [Int.mul_assoc, Int.natAbs_mul, b3]; rfl
  refine ⟨bd_divInt ?_ ?_ (by omega), bd_divInt ?_ ?_ (by omega)⟩
  · rw [e]; omega
  · rw [e]; omega
  · rw [e, b4]; omega
  · rw [e]; omega
end DM
namespace DL
open PySem PySem.Spec L2 DM
def plD (p : Rat × Rat) : PyData := .tuple [numD p.1, numD p.2]
theorem pl_inj (x y : Rat × Rat) (h : plD x = plD y) : x = y := by
  unfold plD at h
  injection h with h
  injection h with h1 h2
  injection h2 with h2 _
  exact Prod.ext (num_inj _ _ h1) (num_inj _ _ h2)
def Bd2 (n : Nat) (p : Rat × Rat) : Prop := Bd n p.1 ∧ Bd n p.2
def f_less : FP := fn2 plD plD (fun p q => Bd2 1900 p ∧ Bd2 1900 q) (fun p q => plD (p.1 - q.1, p.2 - q.2))
def f_added : FP := fn2 plD plD (fun p q => Bd2 1900 p ∧ Bd2 1900 q) (fun p q => plD (p.1 + q.1, p.2 + q.2))
def f_scaled : FP := fn2 plD numD (fun p u => Bd2 1900 p ∧ Bd 1900 u) (fun p u => plD (p.1 * u, p.2 * u))
def f_dot : FP := fn2 plD plD (fun p q => Bd2 1900 p ∧ Bd2 1900 q) (fun p q => numD (p.1 * q.1 + p.2 * q.2))
def f_cross : FP := fn2 plD plD (fun p q => Bd2 1900 p ∧ Bd2 1900 q) (fun p q => numD (p.1 * q.2 - p.2 * q.1))
def f_turned : FP := fn2 plD plD (fun p q => Bd2 1900 p ∧ Bd2 1900 q) (fun p q => plD (p.1 * q.1 - p.2 * q.2, p.1 * q.2 + p.2 * q.1))
def f_left : FP := fn1 plD (fun p => True) (fun p => plD (-p.2, p.1))
noncomputable def f_dist : FP := fn2 plD plD (fun p q => Bd2 900 p ∧ Bd2 900 q) (fun p q => optD (rt ((p.1 - q.1) * (p.1 - q.1) + (p.2 - q.2) * (p.2 - q.2))))
instance : FMono f_less := fm2
instance : FMono f_added := fm2
instance : FMono f_scaled := fm2
instance : FMono f_dot := fm2
instance : FMono f_cross := fm2
instance : FMono f_turned := fm2
instance : FMono f_left := fm1
instance : FMono f_dist := fm2
section
variable {a b c d u : Rat} {Q : Res → Prop}
theorem ap_less : f_less [.tuple [numD a, numD b], .tuple [numD c, numD d]] Q = (((Bd 1900 a ∧ Bd 1900 b) ∧ Bd 1900 c ∧ Bd 1900 d) ∧ Q (.d (.tuple [numD (a - c), numD (b - d)]))) := fn2_ap (x := (a, b)) (y := (c, d)) pl_inj pl_inj
theorem ap_added : f_added [.tuple [numD a, numD b], .tuple [numD c, numD d]] Q = (((Bd 1900 a ∧ Bd 1900 b) ∧ Bd 1900 c ∧ Bd 1900 d) ∧ Q (.d (.tuple [numD (a + c), numD (b + d)]))) := fn2_ap (x := (a, b)) (y := (c, d)) pl_inj pl_inj
theorem ap_scaled : f_scaled [.tuple [numD a, numD b], numD u] Q = (((Bd 1900 a ∧ Bd 1900 b) ∧ Bd 1900 u) ∧ Q (.d (.tuple [numD (a * u), numD (b * u)]))) := fn2_ap (x := (a, b)) (y := u) pl_inj num_inj
theorem ap_dot : f_dot [.tuple [numD a, numD b], .tuple [numD c, numD d]] Q = (((Bd 1900 a ∧ Bd 1900 b) ∧ Bd 1900 c ∧ Bd 1900 d) ∧ Q (.d (numD (a * c + b * d)))) := fn2_ap (x := (a, b)) (y := (c, d)) pl_inj pl_inj
theorem ap_cross : f_cross [.tuple [numD a, numD b], .tuple [numD c, numD d]] Q = (((Bd 1900 a ∧ Bd 1900 b) ∧ Bd 1900 c ∧ Bd 1900 d) ∧ Q (.d (numD (a * d - b * c)))) := fn2_ap (x := (a, b)) (y := (c, d)) pl_inj pl_inj
theorem ap_turned : f_turned [.tuple [numD a, numD b], .tuple [numD c, numD d]] Q = (((Bd 1900 a ∧ Bd 1900 b) ∧ Bd 1900 c ∧ Bd 1900 d) ∧ Q (.d (.tuple [numD (a * c - b * d), numD (a * d + b * c)]))) := fn2_ap (x := (a, b)) (y := (c, d)) pl_inj pl_inj
theorem ap_left : f_left [.tuple [numD a, numD b]] Q = (True ∧ Q (.d (.tuple [numD (-b), numD a]))) := fn1_ap (x := (a, b)) pl_inj
theorem ap_dist : f_dist [.tuple [numD a, numD b], .tuple [numD c, numD d]] Q = (((Bd 900 a ∧ Bd 900 b) ∧ Bd 900 c ∧ Bd 900 d) ∧ Q (.d (optD (rt ((a - c) * (a - c) + (b - d) * (b - d)))))) := fn2_ap (x := (a, b)) (y := (c, d)) pl_inj pl_inj
end
/-! law helpers -/
def prD (p : Int × Int) : PyData := .tuple [.int p.1, .int p.2]
def f_heading : FP := fn2 PyData.int PyData.int (fun p q => (p ≠ 0 ∨ q ≠ 0) ∧ p.natAbs < 2 ^ 64 ∧ q.natAbs < 2 ^ 64) (fun p q => plD (hdc p q, hds p q))
instance : FMono f_heading := fm2
theorem ap_heading {p q : Int} {Q : Res → Prop} : f_heading [.int p, .int q] Q = (((p ≠ 0 ∨ q ≠ 0) ∧ p.natAbs < 2 ^ 64 ∧ q.natAbs < 2 ^ 64) ∧ Q (.d (.tuple [numD (hdc p q), numD (hds p q)]))) := fn2_ap int_inj int_inj
theorem chr_inj : ∀ (a b : List Char), a.map Char.toNat = b.map Char.toNat → a = b
  | [], [], _ => rfl
  | [], _ :: _, h => nomatch h
  | _ :: _, [], h => nomatch h
  | a :: as, b :: bs, h => by
    simp only [List.map_cons, List.cons.injEq] at h
    rw [chr_inj as bs h.2, Char.toNat_inj.mp h.1]
theorem str_inj {a b : String} (h : Str.ofString a = Str.ofString b) : a = b := by
  rw [Str.ofString_eq_toList, Str.ofString_eq_toList] at h
  injection h with h
  have := chr_inj _ _ (by simpa using congrArg Array.toList h)
  exact String.toList_inj.mp this
theorem str_beq {a b : String} : (Str.ofString a == Str.ofString b) = (a == b) := by
  by_cases h : a = b
  · subst h
    rw [show (a == a) = true from beq_self_eq_true a]
    exact beq_self_eq_true (Str.ofString a)
  · have h1 : (a == b) = false := by simpa using h
    rw [h1]
    exact beq_eq_false_iff_ne.mpr fun e => h (str_inj e)
theorem optD_some {u : Rat} : optD (some u) = numD u := rfl
end DL

namespace DL
open PySem PySem.Spec L2 DM
section
variable {α β γ κ : Type}
theorem fn4_ap {a : α → PyData} {b : β → PyData} {c : γ → PyData} {d : κ → PyData} {pre : α → β → γ → κ → Prop} {g : α → β → γ → κ → PyData} (ia : ∀ x y, a x = a y → x = y) (ib : ∀ x y, b x = b y → x = y) (ic : ∀ x y, c x = c y → x = y) (id : ∀ x y, d x = d y → x = y) {x : α} {y : β} {z : γ} {u : κ} {Q : Res → Prop} : fn4 a b c d pre g [a x, b y, c z, d u] Q = (pre x y z u ∧ Q (.d (g x y z u))) := propext ⟨fun ⟨x', y', z', u', e, p, q⟩ => by
  injection e with e1 e2
  injection e2 with e2 e3
  injection e3 with e3 e4
  injection e4 with e4 _
  rw [ia _ _ e1, ib _ _ e2, ic _ _ e3, id _ _ e4]
  exact ⟨p, q⟩, fun ⟨p, q⟩ => ⟨x, y, z, u, rfl, p, q⟩⟩
end
/-! ### constants of a module -/
def CstD (K : Fg) (mg : Str → Option Value) (x : Str) (d : PyData) : Prop := ∃ v u, mg x = some u ∧ RelV v u ∧ ∀ H, Dp K H v d
theorem de_globC {X : Cx} {Z : Ent} {pos : Pos} {x : Str} {d : PyData} (hg : Gl X x) (hc : CstD X.K X.mg x d) (hdb : (x == ("__debug__" : Str)) = false := by decide) : De X Z (.Name x pos) (dC d) := by
  obtain ⟨v, u, h1, h2, h3⟩ := hc
  exact de_glob hg h1 h2 h3 hdb
def datAll (f : PyData → Value → Bool) : List PyData → List Value → Bool
  | [], [] => true
  | d :: ds, u :: us => f d u && datAll f ds us
  | _, _ => false
def datTup (K : PySem.W.Frag) (f : PyData → Value → Bool) (ds : List PyData) (a : Addr) : Bool := match K.lookup a with
  | some ⟨.type c, _, .seq its _, _⟩ => decide (c = "tuple") && (decide (its.size ≤ sizeLine) && datAll f ds its.toList)
  | _ => false
def datB (K : PySem.W.Frag) : Nat → PyData → Value → Bool
  | 0, _, _ => false
  | _ + 1, .none, .none => true
  | _ + 1, .bool b, .bool c => decide (b = c)
  | _ + 1, .int i, .int j _ => decide (i = j)
  | _ + 1, .str x, .str y _ => decide (x = y)
  | n + 1, .tuple ds, .ref a => datTup K (datB K n) ds a
  | _, _, _ => false
theorem datAll_ok {K : PySem.W.Frag} {f : PyData → Value → Bool} (hf : ∀ d u, f d u = true → ∃ v, RelV v u ∧ ∀ H, Dp K H v d) : ∀ (ds : List PyData) (us : List Value), datAll f ds us = true → ∃ vs, Vals vs us ∧ ∀ H, DpAll K H vs ds
  | [], [], _ => ⟨[], .nil, fun _ => .nil⟩
  | [], _ :: _, h => nomatch h
  | _ :: _, [], h => nomatch h
  | d :: ds, u :: us, h => by
    obtain ⟨h1, h2⟩ := He.ba h
    obtain ⟨v, r, p⟩ := hf d u h1
    obtain ⟨vs, rs, ps⟩ := datAll_ok hf ds us h2
    exact ⟨v :: vs, .cons r rs, fun H => .cons (p H) (ps H)⟩
theorem datB_ok {K : PySem.W.Frag} : ∀ (n : Nat) (d : PyData) (u : Value), datB K n d u = true → ∃ v, RelV v u ∧ ∀ H, Dp K H v d
  | 0, _, _, h => nomatch h
  | n + 1, d, u, h => by
    unfold datB at h
    split at h
    · rename_i e; cases e
    · exact ⟨.non, rfl, fun _ => .non⟩
    · rename_i b c _ ; have e : b = c := of_decide_eq_true h; subst e; exact ⟨.bl _, rfl, fun _ => .bl _⟩
    · rename_i i j t _ ; have e : i = j := of_decide_eq_true h; subst e; exact ⟨.int _, ⟨t, rfl⟩, fun _ => .int _⟩
    · rename_i x y t _ ; have e : x = y := of_decide_eq_true h; subst e; exact ⟨.str _, ⟨t, rfl⟩, fun _ => .str _⟩
    · rename_i m ds a e
      cases e
      unfold datTup at h
      split at h
      · rename_i c d1 its n1 o1 q
        obtain ⟨h1, h2⟩ := He.ba h
        obtain ⟨h3, h4⟩ := He.ba h2
        obtain ⟨vs, r, p⟩ := datAll_ok (fun d u => datB_ok n d u) ds its.toList h4
        exact ⟨.ref a, rfl, fun H => .tup (.inr ⟨_, its, n1, q, congrArg Value.type (of_decide_eq_true h1), rfl, of_decide_eq_true h3, r⟩) (p H)⟩
      · cases h
    · cases h
def cstB (K : PySem.W.Frag) (t : Str × PyData) : Bool := match PySem.W.nsIn K mainGlobals t.1 with
  | some (some u) => datB K 6 t.2 u
  | _ => false
theorem cstB_ok {K : PySem.W.Frag} {h : Heap} {mg : Str → Option Value} (X : K.In h) (G : h.Ns mainGlobals mg) {x : Str} {d : PyData} (c : cstB K (x, d) = true) : CstD K mg x d := by
  unfold cstB at c
  split at c
  · rename_i u e
    obtain ⟨v, r, p⟩ := datB_ok 6 d u c
    exact ⟨v, u, PySem.W.mg_of X G e, r, p⟩
  · cases c
abbrev AlC : Type := He.AlD × Bool
def obsC (fa : List He.Fa) (fn : List He.DefD) (cs : List (Str × PyData)) (K : PySem.W.Frag) : AlC := (He.obsD fa fn K, cs.all (cstB K))
def SaysC (fa : List He.Fa) (fn : List He.DefD) (cs : List (Str × PyData)) (K : PySem.W.Frag) : Prop := obsC fa fn cs K = (He.valD fn, true)
section
variable {fa : List He.Fa} {fn : List He.DefD} {cs : List (Str × PyData)} {K : PySem.W.Frag}
theorem SaysC.d (c : SaysC fa fn cs K) : He.SaysD fa fn K := congrArg (fun z : AlC => z.1) c
theorem SaysC.cst {h : Heap} {mg : Str → Option Value} (c : SaysC fa fn cs K) (X : K.In h) (G : h.Ns mainGlobals mg) (i : Nat) {x : Str} {d : PyData} (e : cs[i]? = some (x, d) := by rfl) : CstD K mg x d :=
  cstB_ok X G (List.all_eq_true.mp (show cs.all (cstB K) = true from congrArg (fun z : AlC => z.2) c) _ (List.mem_of_getElem? e))
end
end DL

namespace DL
open PySem PySem.Spec L2 DM
/-! ### slices -/
section
variable {K : Fg} {H : Hp}
theorem dpa_drop : ∀ (n : Nat) {vs : List V} {ds : List PyData}, DpAll K H vs ds → DpAll K H (vs.drop n) (ds.drop n)
  | 0, _, _, h => h
  | n + 1, _, _, .nil => .nil
  | n + 1, _, _, .cons _ t => dpa_drop n t
theorem dpa_take : ∀ (n : Nat) {vs : List V} {ds : List PyData}, DpAll K H vs ds → DpAll K H (vs.take n) (ds.take n)
  | 0, _, _, h => .nil
  | n + 1, _, _, .nil => .nil
  | n + 1, _, _, .cons a t => .cons a (dpa_take n t)
theorem dpa_rev : ∀ {vs : List V} {ds : List PyData}, DpAll K H vs ds → DpAll K H vs.reverse ds.reverse
  | _, _, .nil => .nil
  | _, _, .cons a t => by
    rw [List.reverse_cons, List.reverse_cons]
    exact (dpa_rev t).app (.cons a .nil)
def cutD (xs : List PyData) (lo hi : Option Int) : List PyData := (xs.drop (HT.sIx xs.length 0 lo)).take (HT.sIx xs.length xs.length hi - HT.sIx xs.length 0 lo)
theorem dpa_cut {vs : List V} {ds : List PyData} {lo hi : Option Int} (h : DpAll K H vs ds) : DpAll K H (cutV vs lo hi) (cutD ds lo hi) := by
  unfold cutV cutD
  rw [h.len]
  exact dpa_take _ (dpa_drop _ h)
theorem cutD_whole {xs : List PyData} {lo hi : Option Int} (h : HT.sIx xs.length 0 lo = 0 ∧ HT.sIx xs.length xs.length hi = xs.length) : cutD xs lo hi = xs := by
  unfold cutD
  rw [h.1, h.2, List.drop_zero, Nat.sub_zero, List.take_length]
end
section
variable {X : Cx} {Z : Ent} {pos : Pos}
abbrev DPt := DSt → (Option Int → DSt → Prop) → Prop
def lPo (K : Fg) (Z : Ent) (t : DPt) : TO := fun σ H Q => ∃ Hs δ, Rl K Z Hs H σ δ ∧ t δ fun o δ' => ∀ Hs' H', Same Hs Hs' → Rl K Z Hs' H' σ δ' → Q o H'
structure Dpo (X : Cx) (Z : Ent) (e : Option Expr) (t : DPt) : Prop where
  run : PO X e (lPo X.K Z t)
  mono : ∀ (δ : DSt) (Q Q' : Option Int → DSt → Prop), (∀ o δ', Q o δ' → Q' o δ') → t δ Q → t δ Q'
theorem po_imp {e : Option Expr} {t t' : TO} (h : PO X e t) (i : ∀ σ H Q, t' σ H Q → t σ H Q) : PO X e t' := ⟨fun pins s σ H Q I h' => h.run pins s σ H Q I (i σ H Q h')⟩
def dNoP : DPt := fun δ Q => Q none δ
def rPart (d : PyData) (Q : Option Int → Prop) : Prop := match d with
  | .int i => Q (some i)
  | _ => False
theorem part_int {i : Int} {Q : Option Int → Prop} : rPart (.int i) Q = Q (some i) := rfl
def dPart (t : DE) : DPt := fun δ Q => t δ fun d δ' => rPart d fun o => Q o δ'
theorem dpo_none : Dpo X Z none dNoP := ⟨po_imp po_none fun σ H Q ⟨Hs, δ, R, q⟩ => q Hs H (Same.refl _) R, fun δ Q Q' hq h => hq _ _ h⟩
theorem part_mono (d : PyData) (Q Q' : Option Int → Prop) (hq : ∀ o, Q o → Q' o) (h : rPart d Q) : rPart d Q' := by
  cases d <;> first | exact hq _ h | exact h
theorem dpo_some {e : Expr} {t : DE} (h : De X Z e t) : Dpo X Z (some e) (dPart t) := by
  refine ⟨po_imp (po_some h.run) fun σ H Q ⟨Hs, δ, R, q⟩ => ⟨Hs, δ, R, h.mono _ _ _ (fun d δ1 q v Hs1 H1 s1 R1 dp => ?_) q⟩, fun δ Q Q' hq q => h.mono _ _ _ (fun d δ' z => part_mono _ _ _ (fun _ z => hq _ _ z) z) q⟩
  cases d with
  | int i =>
    cases dp
    exact ⟨i, rfl, q Hs1 H1 s1 R1⟩
  | _ => exact q.elim
def rSlD (d : PyData) (lo hi : Option Int) (Q : PyData → Prop) : Prop := match d with
  | .tuple xs => Q (.tuple (cutD xs lo hi))
  | .list xs => Q (.list (cutD xs lo hi))
  | .str z => z.length ≤ sizeLine ∧ Q (.str (Txt.slice z lo hi))
  | _ => False
theorem rSlD_mono (d : PyData) (lo hi : Option Int) (Q Q' : PyData → Prop) (h : ∀ z, Q z → Q' z) (q : rSlD d lo hi Q) : rSlD d lo hi Q' := by
  cases d <;> first | exact h _ q | exact ⟨q.1, h _ q.2⟩ | exact q
def dSl (t : DE) (tl th : DPt) : DE := fun δ Q => t δ fun d δ1 => tl δ1 fun l δ2 => th δ2 fun u δ3 => rSlD d l u fun z => Q z δ3
theorem slD_t {xs : List PyData} {lo hi : Option Int} {Q : PyData → Prop} : rSlD (.tuple xs) lo hi Q = Q (.tuple (cutD xs lo hi)) := rfl
theorem slD_l {xs : List PyData} {lo hi : Option Int} {Q : PyData → Prop} : rSlD (.list xs) lo hi Q = Q (.list (cutD xs lo hi)) := rfl
theorem de_sl {e : Expr} {lo hi : Option Expr} {p2 : Pos} {t : DE} {tl th : DPt} (he : De X Z e t) (hl : Dpo X Z lo tl) (hu : Dpo X Z hi th) : De X Z (.Subscript e (.Slice lo hi none p2) pos) (dSl t tl th) := by
  refine ⟨pe_imp (pe_slice ((sl_tupA.or sl_list).or C8.sl_txt) he.run hl.run hu.run) fun σ H Q ⟨Hs, δ, R, q⟩ => ⟨Hs, δ, R, he.mono _ _ _ (fun d δ1 q v Hs1 H1 s1 R1 dp => ⟨Hs1, δ1, R1, hl.mono _ _ _ (fun l δ2 q Hs2 H2 s2 R2 => ⟨Hs2, δ2, R2, hu.mono _ _ _ (fun u δ3 q Hs3 H3 s3 R3 => ?_) q⟩) q⟩) q⟩,
    fun δ Q Q' hq q => he.mono _ _ _ (fun d δ1 z => hl.mono _ _ _ (fun l δ2 z => hu.mono _ _ _ (fun u δ3 z => rSlD_mono _ _ _ _ _ (fun _ z => hq _ _ z) z) z) z) q⟩
  have s03 := (s1.trans s2).trans s3
  have dp3 := dp.up (s2.trans s3)
  cases d with
  | tuple xs =>
    cases dp3 with
    | tup hs ha =>
      rename_i a vs
      refine .inl (.inl ⟨a, vs, rfl, sqt_mono R3.sub hs, fun hw => ?_, fun hw p np => ?_⟩)
      · rw [ha.len] at hw
        have e : cutD xs l u = xs := cutD_whole hw
        have q : _ := q
        refine q (.ref a) Hs3 H3 s03 R3 ?_
        rw [e]
        exact .tup hs ha
      · have s4 : Same Hs3 (upd Hs3 p (.tup (cutV vs l u))) := same_new (R3.hsn np)
        exact q (.ref p) _ _ (s03.trans s4) (R3.alloc np) (.tup (SqT.of upd_same) (dpa_cut (ha.up s4)))
  | list xs =>
    cases dp3 with
    | lst hs ha =>
      rename_i a vs
      refine .inl (.inr ⟨a, vs, rfl, R3.sub.seq hs, fun p np => ?_⟩)
      have s4 : Same Hs3 (upd Hs3 p (.lst (cutV vs l u))) := same_new (R3.hsn np)
      exact q (.ref p) _ _ (s03.trans s4) (R3.alloc np) (.lst (SqL.of upd_same) (dpa_cut (ha.up s4)))
  | str z =>
    cases dp3
    exact .inr ⟨z, rfl, q.1, q.2 (.str _) Hs3 H3 s03 R3 (.str _)⟩
  | _ => exact q.elim
class PMono (t : DPt) : Prop where
  m : ∀ (δ : DSt) (Q Q' : Option Int → DSt → Prop), (∀ o δ', Q o δ' → Q' o δ') → t δ Q → t δ Q'
instance : PMono dNoP := ⟨fun δ Q Q' hq h => hq _ _ h⟩
instance {t : DE} [EMono t] : PMono (dPart t) := ⟨fun δ Q Q' hq q => EMono.m (t := t) _ _ _ (fun d δ' z => part_mono _ _ _ (fun _ z => hq _ _ z) z) q⟩
instance {t : DE} {tl th : DPt} [EMono t] [PMono tl] [PMono th] : EMono (dSl t tl th) := ⟨fun δ Q Q' hq q => EMono.m (t := t) _ _ _ (fun d δ1 z => PMono.m (t := tl) _ _ _ (fun l δ2 z => PMono.m (t := th) _ _ _ (fun u δ3 z => rSlD_mono _ _ _ _ _ (fun _ z => hq _ _ z) z) z) z) q⟩
end
/-! ### t[::-1] of a tuple -/
section
open PyProof.Rows HT
variable {prog : Program} {w : World} {A : Around} {E : Value → Shared → Prop} {s : Shared}
theorem rev_adj (n : Nat) : Builtin.Slice.sliceAdjust none none (-1) (n : Int) = ((n : Int) - 1, -1) := rfl
theorem rev_places (n : Nat) : Builtin.Slice.slicePlaces ((n : Int) - 1) (-1) (-1) = n := by
  unfold Builtin.Slice.slicePlaces
  rw [if_neg (by decide)]
  split
  · rw [show (-(-1 : Int)) = 1 from rfl, Int.ediv_one]
    omega
  · omega
theorem fm_range {α : Type} : ∀ (ys : List α) (f : Nat → Option α), (∀ k, k < ys.length → f k = ys[k]?) → (List.range ys.length).filterMap f = ys
  | [], _, _ => rfl
  | y :: ys, f, h => by
    have h0 : f 0 = some y := h 0 (by simp)
    rw [List.length_cons, List.range_succ_eq_map, List.filterMap_cons, h0, List.filterMap_map]
    show y :: (List.range ys.length).filterMap (f ∘ Nat.succ) = y :: ys
    rw [fm_range ys (f ∘ Nat.succ) fun k hk => h (k + 1) (by rw [List.length_cons]; omega)]
theorem rev_pick (xs : Array Value) : ((List.range xs.size).filterMap fun (k : Nat) => xs[(((xs.size : Int) - 1) + (k : Int) * (-1)).toNat]?).toArray = xs.toList.reverse.toArray := by
  have := fm_range xs.toList.reverse (fun (k : Nat) => xs[(((xs.size : Int) - 1) + (k : Int) * (-1)).toNat]?) fun k hk => by
    rw [List.length_reverse] at hk
    rw [List.getElem?_reverse hk, Array.length_toList, Array.getElem?_toList]
    congr 1
    rw [Array.length_toList] at hk
    omega
  rw [List.length_reverse, Array.length_toList] at this
  rw [this]
theorem applied_rev {sl : Addr} {vl vu vs : Value} {n : Nat} {Q : Int × Int × Nat → Shared → Prop} (hs : s.heap.IsSliceOf sl vl vu vs) (pl : IsPart vl none) (pu : IsPart vu none) (ps : IsPart vs (some (-1)))
    (h : Q ((n : Int) - 1, -1, n) s) : wpAny (model prog w) A (Builtin.Slice.sliceApplied (.ref sl) (pure (n : Int))) Q E s := by
  obtain ⟨os, hos, hcs, hds⟩ := id hs
  unfold Builtin.Slice.sliceApplied Builtin.Slice.sliceFields
  refine wpAny_bind (wpAny_bind (wpAny_field hos hds (x := vl) rfl (wpAny_bind (wpAny_field hos hds (x := vu) rfl (wpAny_bind (wpAny_field hos hds (x := vs) rfl (wpAny_pure ?_)))))))
  refine wpAny_bind (slicePart_ ps ?_)
  show wpAny _ _ (if ((-1 : Int) == 0) = true then _ else _) _ _ s
  rw [if_neg (by decide)]
  refine wpAny_bind (slicePart_ pl (wpAny_bind (slicePart_ pu (wpAny_bind (wpAny_pure ?_)))))
  show wpAny _ _ (match Builtin.Slice.sliceAdjust none none (-1) (n : Int) with | (lo, hi) => pure (lo, (-1 : Int), Builtin.Slice.slicePlaces lo hi (-1))) _ _ s
  rw [rev_adj n]
  show wpAny _ _ (pure ((n : Int) - 1, (-1 : Int), Builtin.Slice.slicePlaces ((n : Int) - 1) (-1) (-1))) _ _ s
  rw [rev_places]
  exact wpAny_pure h
theorem getItem_rev {t sl : Addr} {items : Array Value} {vl vu vs : Value} {Q : Value → Shared → Prop} (ht : IsTup s.heap t items) (hs : s.heap.IsSliceOf sl vl vu vs) (pl : IsPart vl none) (pu : IsPart vu none) (ps : IsPart vs (some (-1)))
    (h : Q (.ref s.heap.objs.size) { s with heap := s.heap.push { cls := .type "tuple", data := .seq items.toList.reverse.toArray } })
    (hsz : items.size ≤ sizeLine) : wpAny (model prog w) A (getItem (.ref t) (.ref sl)) Q E s := by
  have htake : sizeOk (.seq items.toList.reverse.toArray) := by
    show items.toList.reverse.toArray.size ≤ sizeLine
    rw [List.size_toArray, List.length_reverse, Array.length_toList]
    exact hsz
  obtain ⟨os, hos, hcs, hds⟩ := id hs
  have hTs : s.TypeIs (.ref sl) "slice" := ⟨os, hos, hcs⟩
  unfold getItem
  try with_reducible refine wpAny_holding ?_
  first | refine wpAny_bind (wpAny_pure ?_) | skip
  refine wpAny_bind (wpAny_sequenceKey ht.typeIs (by decide) ?_)
  refine wpAny_bind (wpAny_callSpecial?_slot (name := Str.ofString "__getitem__") ht.typeIs PyProof.Rows.slot_tuple_getitem
    (wpAny_call_entry PyProof.Rows.slot_tuple_getitem ht.typeIs entry_tuple_getitem ?_ (args_tuple_getitem _ _)))
  show wpAny _ _ (Builtin.Tuple.tupleItemsOf (.ref t) >>= _) _ _ s
  refine wpAny_bind (tupleItemsOf_ ht ?_)
  refine wpAny_bind (wpAny_typeOf hTs ?_)
  rw [if_pos (by decide)]
  refine wpAny_bind (applied_rev hs pl pu ps ?_)
  have hno : ¬ (((items.size : Int) - 1 == 0 && (-1 : Int) == 1 && items.size == items.size) = true) := by
    intro q
    rw [Bool.and_eq_true, Bool.and_eq_true] at q
    exact absurd q.1.2 (by decide)
  show wpAny _ _ (if ((items.size : Int) - 1 == 0 && (-1 : Int) == 1 && items.size == items.size) = true then _ else _) _ _ s
  rw [if_neg hno, rev_pick]
  first
    | exact wpAny_bind (m := Builtin.Tuple.tupleExact _) (wpAny_newObj_type (wpAny_pure ⟨_, rfl, wpAny_pure h⟩) htake)
    | exact wpAny_bind (m := Builtin.Tuple.tupleExact _) (wpAny_newObj_type (wpAny_bind (wpAny_pure (wpAny_pure ⟨_, rfl, wpAny_pure h⟩))) htake)
    | exact wpAny_bind (wpAny_bind (m := Builtin.Tuple.tupleExact _) (wpAny_newObj_type (wpAny_pure (wpAny_pure ⟨_, rfl, wpAny_pure h⟩)) htake))
    | exact wpAny_bind (wpAny_bind (m := Builtin.Tuple.tupleExact _) (wpAny_newObj_type (wpAny_pure ⟨_, rfl, wpAny_pure h⟩) htake))
end
section
variable {X : Cx} {Z : Ent} {pos : Pos}
open PySem PySem.Spec PyProof.Rows HT in
open PyProof.Rows HT in
end
end DL

namespace DL
open PySem PySem.Spec L2 DM
theorem cut_from {xs : List PyData} {i : Int} (h : 0 ≤ i) : cutD xs (some i) none = xs.drop i.toNat := by
  unfold cutD
  show (xs.drop (if i < 0 then (i + (xs.length : Int)).toNat else min i.toNat xs.length)).take (xs.length - (if i < 0 then (i + (xs.length : Int)).toNat else min i.toNat xs.length)) = _
  rw [if_neg (by omega)]
  rcases Nat.le_total i.toNat xs.length with z | z
  · rw [Nat.min_eq_left z, List.take_of_length_le (by rw [List.length_drop]; omega)]
  · rw [Nat.min_eq_right z, List.drop_eq_nil_of_le z, List.drop_length, List.take_nil]
/-! ### frames -/
inductive Fr where
  | shift (a b : Rat)
  | turn (p q : Int)
  | flip
def frD : Fr → PyData
  | .shift a b => .tuple [.str "shift", numD a, numD b]
  | .turn p q => .tuple [.str "turn", .int p, .int q]
  | .flip => .tuple [.str "flip"]
def FrOk : Fr → Prop
  | .shift a b => Bd 14 a ∧ Bd 14 b
  | .turn p q => (p ≠ 0 ∨ q ≠ 0) ∧ p.natAbs < 2 ^ 7 ∧ q.natAbs < 2 ^ 7
  | .flip => True
def fwd (m : Bool) : Fr → Rat × Rat → Rat × Rat
  | .shift a b, p => if m then (p.1 + a, p.2 + b) else p
  | .turn s t, p => (p.1 * hdc s t - p.2 * hds s t, p.1 * hds s t + p.2 * hdc s t)
  | .flip, p => (p.1, -p.2)
def bwd : Fr → Rat × Rat → Rat × Rat
  | .shift a b, p => (p.1 - a, p.2 - b)
  | .turn s t, p => (p.1 * hdc s t - p.2 * -hds s t, p.1 * -hds s t + p.2 * hdc s t)
  | .flip, p => (p.1, -p.2)
theorem hdc_neg (p q : Int) : hdc (0 - p) q = hdc p q := by
  unfold hdc
  rw [show (0 - p) * (0 - p) = p * p by rw [Int.zero_sub, Int.neg_mul_neg]]
theorem dI_neg (a b : Int) : Rat.divInt (-a) b = -Rat.divInt a b := by
  rw [Rat.divInt_eq_div, Rat.divInt_eq_div, Rat.intCast_neg]
  grind
theorem hds_neg (p q : Int) : hds (0 - p) q = -hds p q := by
  unfold hds
  rw [show (0 - p) * (0 - p) = p * p by rw [Int.zero_sub, Int.neg_mul_neg], show 2 * (0 - p) * q = -(2 * p * q) by grind, dI_neg]
def led (m : Bool) (fs : List Fr) (p : Rat × Rat) : Rat × Rat := fs.foldr (fwd m) p
def unled (fs : List Fr) (p : Rat × Rat) : Rat × Rat := fs.foldl (fun p f => bwd f p) p
/-! sizes of places by a common bottom -/
def Bc (n : Nat) (p : Rat × Rat) : Prop := ∃ a b d : Int, 0 < d ∧ p.1 = Rat.divInt a d ∧ p.2 = Rat.divInt b d ∧ a.natAbs < 2 ^ n ∧ b.natAbs < 2 ^ n ∧ d.natAbs < 2 ^ n
theorem Bc.bd {n : Nat} {p : Rat × Rat} (h : Bc n p) : Bd n p.1 ∧ Bd n p.2 := by
  obtain ⟨a, b, d, h0, e1, e2, h1, h2, h3⟩ := h
  rw [e1, e2]
  exact ⟨bd_divInt h1 h3 (by omega), bd_divInt h2 h3 (by omega)⟩
theorem Bc.mono {m n : Nat} {p : Rat × Rat} (h : Bc m p) (e : m ≤ n) : Bc n p := by
  obtain ⟨a, b, d, h0, e1, e2, h1, h2, h3⟩ := h
  have := Nat.pow_le_pow_right (show 0 < 2 by omega) e
  exact ⟨a, b, d, h0, e1, e2, by omega, by omega, by omega⟩
theorem ml {a b : Int} {m n : Nat} (h1 : a.natAbs < 2 ^ m) (h2 : b.natAbs < 2 ^ n) : (a * b).natAbs < 2 ^ (m + n) := by
  rw [Int.natAbs_mul, Nat.pow_add]
  exact Nat.mul_lt_mul'' h1 h2
theorem ad {a b : Int} {n : Nat} (h1 : a.natAbs < 2 ^ n) (h2 : b.natAbs < 2 ^ n) : (a + b).natAbs < 2 ^ (n + 1) := by
  rw [Nat.pow_succ]
  omega
theorem sb {a b : Int} {n : Nat} (h1 : a.natAbs < 2 ^ n) (h2 : b.natAbs < 2 ^ n) : (a - b).natAbs < 2 ^ (n + 1) := by
  rw [Nat.pow_succ]
  omega
theorem upn {a : Int} {m n : Nat} (h : a.natAbs < 2 ^ m) (e : m ≤ n) : a.natAbs < 2 ^ n := Nat.lt_of_lt_of_le h (Nat.pow_le_pow_right (by omega) e)
theorem rz {d : Int} (h : 0 < d) : (d : Rat) ≠ 0 := fun e => by
  have := Rat.intCast_eq_zero_iff.mp e
  omega
theorem Bc.of {m n : Nat} {x y : Rat} (hx : Bd m x) (hy : Bd n y) : Bc (m + n) (x, y) := by
  have d1 := x.den_pos
  have d2 := y.den_pos
  have c1 : ((x.den : Int)).natAbs < 2 ^ m := by rw [Int.natAbs_natCast]; exact hx.2
  have c2 : ((y.den : Int)).natAbs < 2 ^ n := by rw [Int.natAbs_natCast]; exact hy.2
  refine ⟨x.num * y.den, y.num * x.den, x.den * y.den, Int.mul_pos (by omega) (by omega), ?_, ?_, ml hx.1 c2, ?_, ml c1 c2⟩
  · show x = _
    rw [Rat.divInt_eq_div, Rat.intCast_mul, Rat.intCast_mul]
    have z1 := rz (show (0 : Int) < (x.den : Int) by omega)
    have z2 := rz (show (0 : Int) < (y.den : Int) by omega)
    have e : x = (x.num : Rat) / ((x.den : Int) : Rat) := by rw [← Rat.divInt_eq_div]; exact (Rat.num_divInt_den x).symm
    generalize (x.num : Rat) = a at *
    generalize ((x.den : Int) : Rat) = b at *
    generalize ((y.den : Int) : Rat) = c at *
    rw [e]
    grind
  · show y = _
    rw [Rat.divInt_eq_div, Rat.intCast_mul, Rat.intCast_mul]
    have z1 := rz (show (0 : Int) < (x.den : Int) by omega)
    have z2 := rz (show (0 : Int) < (y.den : Int) by omega)
    have e : y = (y.num : Rat) / ((y.den : Int) : Rat) := by rw [← Rat.divInt_eq_div]; exact (Rat.num_divInt_den y).symm
    generalize (y.num : Rat) = a at *
    generalize ((x.den : Int) : Rat) = b at *
    generalize ((y.den : Int) : Rat) = c at *
    rw [e]
    grind
  · rw [Nat.add_comm]
    exact ml hy.1 c1
theorem Bc.add {m n : Nat} {p q : Rat × Rat} (hp : Bc m p) (hq : Bc n q) : Bc (m + n + 1) (p.1 + q.1, p.2 + q.2) := by
  obtain ⟨a, b, d, h0, e1, e2, h1, h2, h3⟩ := hp
  obtain ⟨a', b', d', h0', e1', e2', h1', h2', h3'⟩ := hq
  refine ⟨a * d' + a' * d, b * d' + b' * d, d * d', Int.mul_pos h0 h0', ?_, ?_, ad (ml h1 h3') (by rw [Nat.add_comm]; exact ml h1' h3), ad (ml h2 h3') (by rw [Nat.add_comm]; exact ml h2' h3), upn (ml h3 h3') (by omega)⟩
  · show p.1 + q.1 = _
    rw [e1, e1', Rat.divInt_eq_div, Rat.divInt_eq_div, Rat.divInt_eq_div]
    simp only [Rat.intCast_mul, Rat.intCast_add]
    have z1 := rz h0
    have z2 := rz h0'
    grind
  · show p.2 + q.2 = _
    rw [e2, e2', Rat.divInt_eq_div, Rat.divInt_eq_div, Rat.divInt_eq_div]
    simp only [Rat.intCast_mul, Rat.intCast_add]
    have z1 := rz h0
    have z2 := rz h0'
    grind
theorem Bc.neg2 {n : Nat} {p : Rat × Rat} (h : Bc n p) : Bc n (p.1, -p.2) := by
  obtain ⟨a, b, d, h0, e1, e2, h1, h2, h3⟩ := h
  exact ⟨a, -b, d, h0, e1, by rw [dI_neg, ← e2], h1, by rw [Int.natAbs_neg]; exact h2, h3⟩
theorem Bc.turn {m n : Nat} {p q : Rat × Rat} (hp : Bc m p) (hq : Bc n q) : Bc (m + n + 1) (p.1 * q.1 - p.2 * q.2, p.1 * q.2 + p.2 * q.1) := by
  obtain ⟨a, b, d, h0, e1, e2, h1, h2, h3⟩ := hp
  obtain ⟨a', b', d', h0', e1', e2', h1', h2', h3'⟩ := hq
  refine ⟨a * a' - b * b', a * b' + b * a', d * d', Int.mul_pos h0 h0', ?_, ?_, sb (ml h1 h1') (ml h2 h2'), ad (ml h1 h2') (ml h2 h1'), upn (ml h3 h3') (by omega)⟩
  · show p.1 * q.1 - p.2 * q.2 = _
    rw [e1, e1', e2, e2']
    simp only [Rat.divInt_eq_div, Rat.intCast_mul, Rat.intCast_sub]
    have z1 := rz h0
    have z2 := rz h0'
    grind
  · show p.1 * q.2 + p.2 * q.1 = _
    rw [e1, e1', e2, e2']
    simp only [Rat.divInt_eq_div, Rat.intCast_mul, Rat.intCast_add]
    have z1 := rz h0
    have z2 := rz h0'
    grind
theorem bc_hd {p q : Int} {k : Nat} (h : p ≠ 0 ∨ q ≠ 0) (hp : p.natAbs < 2 ^ k) (hq : q.natAbs < 2 ^ k) : Bc (2 * k + 1) (hdc p q, hds p q) := by
  have h0 := two_pos h
  have a1 := ml hp hp
  have a2 := ml hq hq
  have a3 := ml hp hq
  rw [← Nat.two_mul] at a1 a2 a3
  refine ⟨q * q - p * p, 2 * p * q, p * p + q * q, h0, rfl, rfl, sb a2 a1, ?_, ad a1 a2⟩
  rw [Int.mul_assoc, Int.natAbs_mul, Nat.pow_succ, Nat.mul_comm]
  exact Nat.mul_lt_mul_of_pos_right a3 (by decide)
theorem Bc.fwd {n : Nat} {p : Rat × Rat} {f : Fr} (m : Bool) (h : Bc n p) (hf : FrOk f) : Bc (n + 29) (fwd m f p) := by
  cases f with
  | shift a b =>
    cases m
    · exact h.mono (by omega)
    · exact h.add (Bc.of hf.1 hf.2)
  | turn s t => exact (h.turn (bc_hd hf.1 hf.2.1 hf.2.2)).mono (by omega)
  | flip => exact h.neg2.mono (by omega)
theorem Bc.bwd {n : Nat} {p : Rat × Rat} {f : Fr} (h : Bc n p) (hf : FrOk f) : Bc (n + 29) (bwd f p) := by
  cases f with
  | shift a b =>
    have := h.add (Bc.of hf.1.neg hf.2.neg)
    show Bc (n + 29) (p.1 - a, p.2 - b)
    rw [Rat.sub_eq_add_neg, Rat.sub_eq_add_neg]
    exact this
  | turn s t =>
    have := h.turn (bc_hd (p := 0 - s) (q := t) (k := 7) (by have := hf.1; omega) (by have := hf.2.1; omega) hf.2.2)
    simp only [hdc_neg, hds_neg] at this
    exact this.mono (by omega)
  | flip => exact h.neg2.mono (by omega)
def BcUp (p : Rat × Rat) : Prop := ∃ n, n ≤ 1800 ∧ Bc n p
theorem BcUp.bd {p : Rat × Rat} (h : BcUp p) : Bd 1900 p.1 ∧ Bd 1900 p.2 := by
  obtain ⟨n, h1, h2⟩ := h
  exact ⟨h2.bd.1.mono (by omega), h2.bd.2.mono (by omega)⟩
/-- a comprehension by an invariant of turn, items told so far and state -/
theorem lc_at {g : DG} {tt : DT} {te : DE} {vs : List Nat} [GMono g] [TMono tt] [EMono te] {Q : List PyData → DSt → Prop} (W : Nat → List PyData → DSt → Prop) (items : List PyData) {δ : DSt} (h0 : W 0 [] δ)
    (hs : ∀ W' : Nat → List PyData → DSt → Prop, (∀ i acc δ, W i acc δ → W' i acc δ) → ∀ i d acc δ, items[i]? = some d → W i acc δ → g d δ fun δ2 => tt δ2 fun b δ3 => match b with
      | true => te δ3 fun y δ4 => acc.length < sizeLine ∧ W' (i + 1) (acc ++ [y]) (dwipe δ4 vs)
      | false => W' (i + 1) acc (dwipe δ3 vs)) (hd : ∀ acc δ, W items.length acc δ → Q acc δ) : dLcL g tt te vs Q items [] δ := by
  have aux : ∀ (r : List PyData) (i : Nat) (acc : List PyData) (δ : DSt), items.drop i = r → W i acc δ → i ≤ items.length → dLcL g tt te vs Q r acc δ := by
    intro r
    induction r with
    | nil =>
      intro i acc δ e w hi
      have : i = items.length := by
        have := List.drop_eq_nil_iff.mp e
        omega
      subst this
      exact hd _ _ w
    | cons d r ih =>
      intro i acc δ e w hi
      have hlt : i < items.length := by
        apply Classical.byContradiction
        intro z
        rw [List.drop_eq_nil_of_le (by omega)] at e
        cases e
      rw [List.drop_eq_getElem_cons hlt] at e
      injection e with e1 e2
      refine GMono.m (t := g) _ _ _ _ (fun δ2 z => TMono.m (t := tt) _ _ _ (fun b δ3 z => ?_) z) (hs W (fun _ _ _ h => h) i d acc δ (by rw [List.getElem?_eq_getElem hlt, e1]) w)
      cases b with
      | true => exact EMono.m (t := te) _ _ _ (fun y δ4 z => ⟨z.1, ih (i + 1) _ _ e2 z.2 hlt⟩) z
      | false => exact ih (i + 1) _ _ e2 z hlt
  exact aux items 0 [] δ rfl h0 (Nat.zero_le _)
end DL

namespace DM
/-! places as pairs -/
def sb2 (p q : Rat × Rat) : Rat × Rat := (p.1 - q.1, p.2 - q.2)
def ad2 (p q : Rat × Rat) : Rat × Rat := (p.1 + q.1, p.2 + q.2)
def sc2 (p : Rat × Rat) (u : Rat) : Rat × Rat := (p.1 * u, p.2 * u)
def tn2 (p q : Rat × Rat) : Rat × Rat := (p.1 * q.1 - p.2 * q.2, p.1 * q.2 + p.2 * q.1)
def cr (p q : Rat × Rat) : Rat := p.1 * q.2 - p.2 * q.1
def dt (p q : Rat × Rat) : Rat := p.1 * q.1 + p.2 * q.2
def behind (c d : Rat) : Bool := decide (c < 0) || (decide (c = 0) && decide (d < 0))
/-- c1 d1: cross and dot from the one to the other; c2 d2: to the last; c3: cross from the other to the last -/
def soon (c1 d1 c2 d2 c3 : Rat) : Bool := if behind c1 d1 = behind c2 d2 then decide (0 ≤ c3) else behind c2 d2
theorem rsq_nn (x : Rat) : 0 ≤ x * x := by
  rcases Rat.le_total (a := 0) (b := x) with h | h
  · exact Rat.mul_nonneg h h
  · have : 0 ≤ (-x) * (-x) := Rat.mul_nonneg (by grind) (by grind)
    grind
theorem rsq_pos {x : Rat} (h : x ≠ 0) : 0 < x * x := by
  have h1 := rsq_nn x
  have h2 : x * x ≠ 0 := by grind
  grind
theorem dt_zero {p : Rat × Rat} (h : dt p p = 0) : p = (0, 0) := by
  have h1 := rsq_nn p.1
  have h2 := rsq_nn p.2
  unfold dt at h
  have e1 : p.1 = 0 := Classical.byContradiction fun z => by have := rsq_pos z; grind
  have e2 : p.2 = 0 := Classical.byContradiction fun z => by have := rsq_pos z; grind
  exact Prod.ext e1 e2
theorem sq_one {z : Rat} (h : z * z = 1) : z = 1 ∨ z = -1 := by
  have : (z - 1) * (z + 1) = 0 := by grind
  rcases Rat.mul_eq_zero.mp this with h | h
  · left; grind
  · right; grind
theorem behind_iff {c d : Rat} : behind c d = true ↔ c < 0 ∨ (c = 0 ∧ d < 0) := by
  unfold behind
  simp
theorem behind_not {c d : Rat} (h : ¬ (c < 0 ∨ (c = 0 ∧ d < 0))) : behind c d = false := by
  rw [← Bool.not_eq_true, behind_iff]
  exact h
theorem mul_lt_z {R c : Rat} (hR : 0 < R) : R * c < 0 ↔ c < 0 := by
  constructor
  · intro h
    apply Classical.byContradiction
    intro z
    have := Rat.mul_nonneg (Rat.le_of_lt hR) (show 0 ≤ c by grind)
    grind
  · intro h
    have := Rat.mul_pos hR (show 0 < -c by grind)
    grind
theorem mul_le_z {R c : Rat} (hR : 0 < R) : 0 ≤ R * c ↔ 0 ≤ c := by
  have := mul_lt_z (c := c) hR
  constructor
  · intro h
    apply Classical.byContradiction
    intro z
    have := this.mpr (by grind)
    grind
  · intro h
    exact Rat.mul_nonneg (Rat.le_of_lt hR) h
theorem mul_eq_z {R c : Rat} (hR : 0 < R) : R * c = 0 ↔ c = 0 := by
  constructor
  · intro h
    rcases Rat.mul_eq_zero.mp h with h | h
    · grind
    · exact h
  · intro h
    rw [h]
    grind
theorem behind_mul {R c d : Rat} (hR : 0 < R) : behind (R * c) (R * d) = behind c d := by
  unfold behind
  rw [decide_eq_decide.mpr (mul_lt_z hR), decide_eq_decide.mpr (mul_eq_z hR), decide_eq_decide.mpr (mul_lt_z hR)]
theorem soon_mul {R c1 d1 c2 d2 c3 : Rat} (hR : 0 < R) : soon (R * c1) (R * d1) (R * c2) (R * d2) (R * c3) = soon c1 d1 c2 d2 c3 := by
  unfold soon
  rw [behind_mul hR, behind_mul hR, decide_eq_decide.mpr (mul_le_z hR)]
/-- on a line -/
def onLine (b e p : Rat × Rat) : Bool := decide (cr (sb2 e b) (sb2 p b) = 0) && (decide (0 ≤ dt (sb2 p b) (sb2 e b) / dt (sb2 e b) (sb2 e b)) && decide (dt (sb2 p b) (sb2 e b) / dt (sb2 e b) (sb2 e b) ≤ 1))
/-- on an arc about c -/
def onArc (b e c : Rat × Rat) (w : Int) (p : Rat × Rat) : Bool := decide (dt (sb2 c p) (sb2 c p) = dt (sb2 c b) (sb2 c b)) && (decide (b = e) ||
  soon (cr (sb2 b c) (sb2 p c) * w) (dt (sb2 b c) (sb2 p c)) (cr (sb2 b c) (sb2 e c) * w) (dt (sb2 b c) (sb2 e c)) (cr (sb2 p c) (sb2 e c) * w))
/-! isometries -/
end DM
namespace DL
open PySem PySem.Spec L2 DM
def isFl : Fr → Bool
  | .flip => true
  | _ => false
def nfl (fs : List Fr) : Nat := (fs.filter isFl).length
/-! draws of the laws -/
/-! cuts -/
def arcD (a b c d e f : Rat) (w : Int) : PyData := .tuple [.str "arc", .tuple [numD a, numD b], .tuple [numD c, numD d], .tuple [numD e, numD f], .int w]
/-- the radius of an arc: e f is the middle -/
def ArcOk (a b c d e f : Rat) (w : Int) (r : Rat) : Prop := (Bd 200 a ∧ Bd 200 b ∧ Bd 200 c ∧ Bd 200 d ∧ Bd 200 e ∧ Bd 200 f) ∧ (w = 1 ∨ w = -1) ∧ r ≠ 0 ∧ rt ((e - a) * (e - a) + (f - b) * (f - b)) = some r
def f_radius : FP := fun ds Q => ∃ (a b c d e f : Rat) (w : Int) (r : Rat), ds = [arcD a b c d e f w] ∧ ArcOk a b c d e f w r ∧ Q (.d (numD r))
theorem fm_radius : FMono f_radius := ⟨fun ds Q Q' hq ⟨a, b, c, d, e, f, w, r, h1, h2, h3⟩ => ⟨a, b, c, d, e, f, w, r, h1, h2, hq _ h3⟩⟩
instance : FMono f_radius := fm_radius
theorem ln_radius : ∀ ds Q, f_radius ds Q → ds.length = 1 := fun ds Q ⟨a, b, c, d, e, f, w, r, h1, _⟩ => by rw [h1]; rfl
theorem w_bd {w : Int} (h : w = 1 ∨ w = -1) : Bd 2 (w : Rat) := by
  rcases h with rfl | rfl
  · exact ⟨by decide, by decide⟩
  · exact ⟨by decide, by decide⟩
/-! places on cuts -/
def f_behind : FP := fn3 plD plD PyData.int (fun p q w => Bd2 900 p ∧ Bd2 900 q ∧ (w = 1 ∨ w = -1)) (fun p q w => .bool (behind (cr p q * w) (dt p q)))
instance : FMono f_behind := fm3
theorem ap_behind {a b c d : Rat} {w : Int} {Q : Res → Prop} : f_behind [.tuple [numD a, numD b], .tuple [numD c, numD d], .int w] Q = (((Bd 900 a ∧ Bd 900 b) ∧ (Bd 900 c ∧ Bd 900 d) ∧ (w = 1 ∨ w = -1)) ∧ Q (.d (.bool (behind ((a * d - b * c) * w) (a * c + b * d))))) := fn3_ap (x := (a, b)) (y := (c, d)) pl_inj pl_inj int_inj
def f_sooner : FP := fn4 plD plD plD PyData.int (fun p q l w => Bd2 900 p ∧ Bd2 900 q ∧ Bd2 900 l ∧ (w = 1 ∨ w = -1)) (fun p q l w => .bool (soon (cr p q * w) (dt p q) (cr p l * w) (dt p l) (cr q l * w)))
instance : FMono f_sooner := fm4
theorem ap_sooner {a b c d e f : Rat} {w : Int} {Q : Res → Prop} : f_sooner [.tuple [numD a, numD b], .tuple [numD c, numD d], .tuple [numD e, numD f], .int w] Q = (((Bd 900 a ∧ Bd 900 b) ∧ (Bd 900 c ∧ Bd 900 d) ∧ (Bd 900 e ∧ Bd 900 f) ∧ (w = 1 ∨ w = -1)) ∧ Q (.d (.bool (soon ((a * d - b * c) * w) (a * c + b * d) ((a * f - b * e) * w) (a * e + b * f) ((c * f - d * e) * w))))) := fn4_ap (x := (a, b)) (y := (c, d)) (z := (e, f)) pl_inj pl_inj pl_inj int_inj
def f_onarc : FP := fun ds Q => ∃ (a b c d e f : Rat) (w : Int) (r x y : Rat), ds = [arcD a b c d e f w, .tuple [numD x, numD y]] ∧ ArcOk a b c d e f w r ∧ (Bd 400 x ∧ Bd 400 y) ∧ Q (.d (.bool (onArc (a, b) (c, d) (e, f) w (x, y))))
theorem fm_onarc : FMono f_onarc := ⟨fun ds Q Q' hq ⟨a, b, c, d, e, f, w, r, x, y, h1, h2, h3, h4⟩ => ⟨a, b, c, d, e, f, w, r, x, y, h1, h2, h3, hq _ h4⟩⟩
instance : FMono f_onarc := fm_onarc
theorem ln_onarc : ∀ ds Q, f_onarc ds Q → ds.length = 2 := fun ds Q ⟨a, b, c, d, e, f, w, r, x, y, h1, _⟩ => by rw [h1]; rfl
def lineD (a b c d : Rat) : PyData := .tuple [.str "line", .tuple [numD a, numD b], .tuple [numD c, numD d]]
def f_lies : FP := fun ds Q => f_onarc ds Q ∨ (∃ (a b c d x y : Rat), ds = [lineD a b c d, .tuple [numD x, numD y]] ∧ (Bd 200 a ∧ Bd 200 b ∧ Bd 200 c ∧ Bd 200 d) ∧ ¬ (a = c ∧ b = d) ∧ (Bd 400 x ∧ Bd 400 y) ∧ Q (.d (.bool (onLine (a, b) (c, d) (x, y)))))
theorem fm_lies : FMono f_lies := ⟨fun ds Q Q' hq h => by
  rcases h with h | ⟨a, b, c, d, x, y, h1, h2, h3, h4, h5⟩
  · exact .inl (fm_onarc.m _ _ _ hq h)
  · exact .inr ⟨a, b, c, d, x, y, h1, h2, h3, h4, hq _ h5⟩⟩
instance : FMono f_lies := fm_lies
theorem ln_lies : ∀ ds Q, f_lies ds Q → ds.length = 2 := fun ds Q h => by
  rcases h with h | ⟨a, b, c, d, x, y, h1, _⟩
  · exact ln_onarc ds Q h
  · rw [h1]; rfl
/-- signs by the top -/
theorem num_w_lt {x : Rat} {w : Int} (h : w = 1 ∨ w = -1) : (x.num * w < 0) ↔ (x * w < 0) := by
  have e3 := Rat.num_nonneg (q := x)
  have e4 := Rat.num_eq_zero (q := x)
  have e1 : x.num < 0 ↔ x < 0 := ⟨fun h => by
    apply Classical.byContradiction
    intro z
    have := e3.mpr (by grind)
    omega, fun h => by
    apply Classical.byContradiction
    intro z
    have := e3.mp (by omega)
    grind⟩
  have e2 : 0 < x.num ↔ 0 < x := ⟨fun h => by
    have h1 := e3.mp (by omega)
    have h2 : x ≠ 0 := fun e => by
      have := e4.mpr e
      omega
    grind, fun h => by
    have h1 := e3.mpr (by grind)
    have h2 : x.num ≠ 0 := fun e => by
      have := e4.mp e
      grind
    omega⟩
  rcases h with rfl | rfl
  · rw [Int.mul_one, e1, show (((1 : Int) : Rat)) = 1 from rfl]
    grind
  · rw [show x.num * -1 = -x.num by omega, show (((-1 : Int) : Rat)) = -1 from rfl]
    constructor
    · intro h
      have := e2.mp (by omega)
      grind
    · intro h
      have := e2.mpr (by grind)
      omega
theorem num_w_z {x : Rat} {w : Int} (h : w = 1 ∨ w = -1) : (x.num * w = 0) ↔ (x * w = 0) := by
  have e1 := Rat.num_eq_zero (q := x)
  rcases h with rfl | rfl
  · rw [Int.mul_one, e1, show (((1 : Int) : Rat)) = 1 from rfl]
    grind
  · rw [show x.num * -1 = -x.num by omega, show (((-1 : Int) : Rat)) = -1 from rfl]
    constructor
    · intro h
      have := e1.mp (by omega)
      grind
    · intro h
      have := e1.mpr (by grind)
      omega
theorem num_w_le {x : Rat} {w : Int} (h : w = 1 ∨ w = -1) : (0 ≤ x.num * w) ↔ (0 ≤ x * w) := by
  have := num_w_lt (x := x) h
  constructor
  · intro z
    apply Classical.byContradiction
    intro y
    have := this.mpr (by grind)
    omega
  · intro z
    apply Classical.byContradiction
    intro y
    have := this.mp (by omega)
    grind
end DL

namespace DM
theorem dI_lt {a m : Int} (hm : 0 < m) : Rat.divInt a m < 0 ↔ a < 0 := by
  have e : Rat.divInt a m = (a : Rat) / (m : Rat) := Rat.divInt_eq_div a m
  have h0 : (0 : Rat) < (m : Rat) := by
    rw [show (0 : Rat) = ((0 : Int) : Rat) from rfl]
    exact Rat.intCast_lt_intCast.mpr hm
  have e2 : (a : Rat) = (m : Rat) * Rat.divInt a m := by rw [e]; grind
  have h2 := mul_lt_z (R := (m : Rat)) (c := Rat.divInt a m) h0
  rw [← h2, ← e2, show (0 : Rat) = ((0 : Int) : Rat) from rfl]
  exact Rat.intCast_lt_intCast
theorem dI_z {a m : Int} (hm : 0 < m) : Rat.divInt a m = 0 ↔ a = 0 := by
  have h2 := mul_eq_z (R := (m : Rat)) (c := Rat.divInt a m) (by
    rw [show (0 : Rat) = ((0 : Int) : Rat) from rfl]
    exact Rat.intCast_lt_intCast.mpr hm)
  have e2 : (a : Rat) = (m : Rat) * Rat.divInt a m := by
    rw [Rat.divInt_eq_div]
    have h0 : (0 : Rat) < (m : Rat) := by
      rw [show (0 : Rat) = ((0 : Int) : Rat) from rfl]
      exact Rat.intCast_lt_intCast.mpr hm
    grind
  rw [← h2, ← e2]
  exact Rat.intCast_eq_zero_iff
theorem dI_le {a m : Int} (hm : 0 < m) : 0 ≤ Rat.divInt a m ↔ 0 ≤ a := by
  have := dI_lt (a := a) hm
  constructor
  · intro h
    apply Classical.byContradiction
    intro z
    have := this.mpr (by omega)
    grind
  · intro h
    apply Classical.byContradiction
    intro z
    have := this.mp (by grind)
    omega
theorem mul_sg_pos {a b : Int} (ha : 0 < a) : (0 ≤ a * b ↔ 0 ≤ b) ∧ (a * b < 0 ↔ b < 0) := by
  have h1 : 0 ≤ a * b ↔ 0 ≤ b := by
    constructor
    · intro h
      apply Classical.byContradiction
      intro z
      have := Int.mul_pos ha (show 0 < -b by omega)
      rw [Int.mul_neg] at this
      omega
    · intro h
      exact Int.mul_nonneg (by omega) h
  exact ⟨h1, by omega⟩
theorem behind_hd {p q : Int} (hp : 0 ≤ p) (h : p ≠ 0 ∨ q ≠ 0) : behind (hds p q) (hdc p q) = decide (0 < p ∧ q ≤ 0) := by
  have hm := two_pos h
  rw [Bool.eq_iff_iff, behind_iff, decide_eq_true_eq]
  unfold hds hdc
  rw [dI_lt hm, dI_z hm, dI_lt hm]
  rcases Int.lt_or_eq_of_le hp with z | z
  · have h1 := mul_sg_pos (a := 2 * p) (b := q) (by omega)
    rw [h1.2]
    constructor
    · rintro (h | ⟨h, _⟩)
      · omega
      · rcases Int.mul_eq_zero.mp h with h | h <;> omega
    · rintro ⟨_, h⟩
      rcases Int.lt_or_eq_of_le h with h | h
      · exact .inl h
      · right
        rw [h]
        have := sq_pos (p := p) (by omega)
        omega
  · rw [← z]
    constructor
    · rintro (h | ⟨h, h'⟩)
      · omega
      · have := sq_nn q
        omega
    · omega
theorem hd_cross (p q P Q : Int) (h : p ≠ 0 ∨ q ≠ 0) (H : P ≠ 0 ∨ Q ≠ 0) : hdc p q * hds P Q - hds p q * hdc P Q = Rat.divInt (2 * ((q * Q + p * P) * (q * P - Q * p))) ((p * p + q * q) * (P * P + Q * Q)) := by
  have z1 := DL.rz (two_pos h)
  have z2 := DL.rz (two_pos H)
  unfold hdc hds
  simp only [Rat.divInt_eq_div, Rat.intCast_mul, Rat.intCast_add, Rat.intCast_sub] at z1 z2 ⊢
  generalize (p : Rat) = a at *
  generalize (q : Rat) = b at *
  generalize (P : Rat) = A at *
  generalize (Q : Rat) = B at *
  rw [show (((2 : Int) : Rat)) = 2 from rfl]
  have z3 : (a * a + b * b) * (A * A + B * B) ≠ 0 := fun e => by
    rcases Rat.mul_eq_zero.mp e with e | e
    · exact z1 e
    · exact z2 e
  grind
theorem half {p q P Q : Int} (hp : 0 ≤ p) (h : p ≠ 0 ∨ q ≠ 0) (hP : 0 < P) : soon (hds p q) (hdc p q) (hds P Q) (hdc P Q) (hdc p q * hds P Q - hds p q * hdc P Q) = (decide (p = 0) || decide (Q * p ≤ q * P)) := by
  have H : P ≠ 0 ∨ Q ≠ 0 := .inl (by omega)
  unfold soon
  rw [behind_hd hp h, behind_hd (by omega) H, hd_cross p q P Q h H, decide_eq_decide.mpr (dI_le (Int.mul_pos (two_pos h) (two_pos H)))]
  have c0 : (0 ≤ 2 * ((q * Q + p * P) * (q * P - Q * p)) ↔ 0 ≤ (q * Q + p * P) * (q * P - Q * p)) := by omega
  rw [show decide (0 ≤ 2 * ((q * Q + p * P) * (q * P - Q * p))) = decide (0 ≤ (q * Q + p * P) * (q * P - Q * p)) from decide_eq_decide.mpr c0]
  rcases Int.lt_or_eq_of_le hp with z | z
  · have e0 : decide (p = 0) = false := decide_eq_false (by omega)
    have pP := Int.mul_pos z hP
    rw [e0, Bool.false_or]
    by_cases hq : q ≤ 0
    · have e1 : decide (0 < p ∧ q ≤ 0) = true := decide_eq_true ⟨z, hq⟩
      rw [e1]
      by_cases hQ : Q ≤ 0
      · have e2 : decide (0 < P ∧ Q ≤ 0) = true := decide_eq_true ⟨hP, hQ⟩
        rw [e2, if_pos rfl]
        have := Int.mul_nonneg_of_nonpos_of_nonpos hq hQ
        rw [decide_eq_decide, (mul_sg_pos (a := q * Q + p * P) (b := q * P - Q * p) (by omega)).1]
        omega
      · have e2 : decide (0 < P ∧ Q ≤ 0) = false := decide_eq_false (by omega)
        rw [e2, if_neg (by decide)]
        have a1 := Int.mul_pos (show 0 < Q by omega) z
        have a2 := Int.mul_nonneg (show 0 ≤ -q by omega) (show 0 ≤ P by omega)
        rw [Int.neg_mul] at a2
        exact (decide_eq_false (by omega)).symm
    · have e1 : decide (0 < p ∧ q ≤ 0) = false := decide_eq_false (by omega)
      rw [e1]
      by_cases hQ : Q ≤ 0
      · have e2 : decide (0 < P ∧ Q ≤ 0) = true := decide_eq_true ⟨hP, hQ⟩
        rw [e2, if_neg (by decide)]
        have a1 := Int.mul_pos (show 0 < q by omega) hP
        have a2 := Int.mul_nonneg (show 0 ≤ -Q by omega) (show 0 ≤ p by omega)
        rw [Int.neg_mul] at a2
        exact (decide_eq_true (by omega)).symm
      · have e2 : decide (0 < P ∧ Q ≤ 0) = false := decide_eq_false (by omega)
        rw [e2, if_pos rfl]
        have := Int.mul_pos (show 0 < q by omega) (show 0 < Q by omega)
        rw [decide_eq_decide, (mul_sg_pos (a := q * Q + p * P) (b := q * P - Q * p) (by omega)).1]
        omega
  · have hq : q ≠ 0 := by omega
    have e0 : decide (p = 0) = true := decide_eq_true z.symm
    have e1 : decide (0 < p ∧ q ≤ 0) = false := decide_eq_false (by omega)
    rw [e0, e1, Bool.true_or]
    by_cases hQ : Q ≤ 0
    · have e2 : decide (0 < P ∧ Q ≤ 0) = true := decide_eq_true ⟨hP, hQ⟩
      rw [e2, if_neg (by decide)]
    · have e2 : decide (0 < P ∧ Q ≤ 0) = false := decide_eq_false (by omega)
      rw [e2, if_pos rfl, decide_eq_true_eq, ← z]
      have e : (q * Q + 0 * P) * (q * P - Q * 0) = (q * q) * (Q * P) := by grind
      rw [e]
      exact Int.mul_nonneg (sq_nn q) (Int.mul_nonneg (by omega) (by omega))
theorem hdc_w {w p q : Int} (hw : w = 1 ∨ w = -1) : hdc (w * p) q = hdc p q := by
  rcases hw with rfl | rfl
  · rw [Int.one_mul]
  · rw [show -1 * p = 0 - p by omega, DL.hdc_neg]
theorem hds_w {w p q : Int} (hw : w = 1 ∨ w = -1) : hds (w * p) q = (w : Rat) * hds p q := by
  rcases hw with rfl | rfl
  · rw [Int.one_mul, show (((1 : Int) : Rat)) = 1 from rfl]; grind
  · rw [show -1 * p = 0 - p by omega, DL.hds_neg, show (((-1 : Int) : Rat)) = -1 from rfl]; grind
theorem w_sq {w : Int} (hw : w = 1 ∨ w = -1) : (w : Rat) * (w : Rat) = 1 := by
  rcases hw with rfl | rfl
  · rw [show (((1 : Int) : Rat)) = 1 from rfl]; grind
  · rw [show (((-1 : Int) : Rat)) = -1 from rfl]; grind
end DM
namespace DL
open PySem PySem.Spec L2 DM
theorem num_lt0 {x : Rat} : (x.num < 0) ↔ (x < 0) := by
  have := num_w_lt (x := x) (w := 1) (.inl rfl)
  rw [Int.mul_one, show (((1 : Int) : Rat)) = 1 from rfl, Rat.mul_one] at this
  exact this
theorem opt_eqv {o : Option Rat} {r : Rat} : PyData.eqv (optD o) (numD r) = decide (o = some r) := by
  cases o with
  | none => rfl
  | some u =>
    rw [optD_some, eqv_num, decide_eq_decide]
    exact ⟨fun e => by rw [e], fun e => Option.some.inj e⟩
theorem sh_opt {o : Option Rat} : SeqAt.shaped (optD o) = true := by
  cases o with
  | none => rfl
  | some u => rfl
theorem rt_iff {u r : Rat} : rt u = some r ↔ 0 ≤ r ∧ r * r = u := ⟨rt_some, fun h => rt_of h.1 h.2⟩
theorem rt_same {u v r : Rat} (h : rt v = some r) : (rt u = some r) ↔ u = v := by
  have h1 := rt_some h
  rw [rt_iff]
  constructor
  · intro z
    rw [← z.2, h1.2]
  · rintro rfl
    exact h1
end DL

namespace DL
open PySem PySem.Spec L2 DM
section
variable {X : Cx} {Z : Ent} {pos : Pos}
/-! ### is True, is not False -/
/-! ### t + u of any tuples -/
/-! ### a new list times a written number -/
theorem dpa_flat {K : Fg} {H : Hp} {ws : List V} {xs : List PyData} (h : DpAll K H ws xs) : ∀ n : Nat, DpAll K H (List.replicate n ws).flatten (List.replicate n xs).flatten
  | 0 => .nil
  | n + 1 => by
    rw [List.replicate_succ, List.replicate_succ, List.flatten_cons, List.flatten_cons]
    exact h.app (dpa_flat h n)
def dRep (k : Int) (t : DL') : DE := fun δ Q => t δ fun xs δ' => (-(2 ^ 63) ≤ k ∧ k < 2 ^ 63 ∧ xs.length * k.toNat ≤ sizeLine) ∧ Q (.list (List.replicate k.toNat xs).flatten) δ'
instance {k : Int} {l : DL'} [LMono l] : EMono (dRep k l) := ⟨fun δ Q Q' hq q => LMono.m (t := l) _ _ _ (fun _ _ z => ⟨z.1, hq _ _ z.2⟩) q⟩
theorem de_rep {a : Expr} {t : DL'} {k : Int} {j} {p1 : Pos} (ha : Do X Z a t) : De X Z (.BinOp a .Mult (.Constant (.int k) j p1) pos) (dRep k t) := by
  refine ⟨pe_imp (pe_op op_rep ha.run pe_int) fun σ H Q ⟨Hs, δ, R, q⟩ => ⟨Hs, δ, R, ha.mono _ _ _ (fun xs δ1 q v Hs1 H1 s1 R1 f => ?_) q⟩, fun δ Q Q' hq q => ha.mono _ _ _ (fun _ _ z => ⟨z.1, hq _ _ z.2⟩) q⟩
  obtain ⟨a, ws, rfl, h1, h2, h3, h4, h5⟩ := FrO.lst f
  refine ⟨a, k, ws, rfl, rfl, h1, q.1.1, q.1.2.1, by rw [h3.len]; exact q.1.2.2, fun p np => ?_⟩
  have s2 : ∀ ys, Same Hs1 (upd Hs1 p (.lst ys)) := fun _ => same_new (R1.hsn np)
  exact q.2 _ _ _ (s1.trans (s2 _)) (R1.alloc np) (.lst (SqL.of upd_same) ((dpa_flat h3 _).up (s2 _)))
end
/-! ### things that are told as data: shaped, their ints small -/
inductive Gd : Nat → PyData → Prop
  | non {n : Nat} : Gd n .none
  | bl {n : Nat} (b : Bool) : Gd n (.bool b)
  | int {n : Nat} {i : Int} (h : i.natAbs < 2 ^ 900) : Gd n (.int i)
  | str {n : Nat} (s : String) : Gd n (.str (Str.ofString s))
  | lst {n : Nat} {xs : List PyData} (h : ∀ x ∈ xs, Gd n x) : Gd (n + 1) (.list xs)
  | tup {n : Nat} {xs : List PyData} (h : ∀ x ∈ xs, Gd n x) : Gd (n + 1) (.tuple xs)
theorem Gd.mono {m n : Nat} {d : PyData} (h : Gd m d) : m ≤ n → Gd n d := by
  induction h generalizing n with
  | non => intro _; exact .non
  | bl b => intro _; exact .bl b
  | int h => intro _; exact .int h
  | str s => intro _; exact .str s
  | lst h ih =>
    intro e
    cases n with
    | zero => omega
    | succ n => exact .lst fun x m => ih x m (by omega)
  | tup h ih =>
    intro e
    cases n with
    | zero => omega
    | succ n => exact .tup fun x m => ih x m (by omega)
theorem canAll {xs : List PyData} (h : ∀ x ∈ xs, PyData.canLay0 x = true) : PyData.canLayAll0 xs = true := by
  induction xs with
  | nil => rfl
  | cons x xs ih =>
    show (PyData.canLay0 x && PyData.canLayAll0 xs) = true
    rw [h x List.mem_cons_self, ih fun y m => h y (List.mem_cons_of_mem _ m)]
    rfl
theorem depAll {xs : List PyData} {n : Nat} (h : ∀ x ∈ xs, PyData.depth x ≤ n) : PyData.depthAll xs ≤ n := by
  induction xs with
  | nil => exact Nat.zero_le _
  | cons x xs ih =>
    show max (PyData.depth x) (PyData.depthAll xs) ≤ n
    have h1 := h x List.mem_cons_self
    have h2 := ih fun y m => h y (List.mem_cons_of_mem _ m)
    omega
theorem Gd.can {n : Nat} {d : PyData} (h : Gd n d) : PyData.canLay0 d = true ∧ PyData.depth d ≤ n := by
  induction h with
  | non => exact ⟨rfl, Nat.zero_le _⟩
  | bl b => exact ⟨rfl, Nat.zero_le _⟩
  | int h => exact ⟨rfl, Nat.zero_le _⟩
  | str s => exact ⟨by show PyData.strOk _ = true; exact strOk_of s, Nat.zero_le _⟩
  | lst h ih => exact ⟨canAll fun x m => (ih x m).1, by show PyData.depthAll _ + 1 ≤ _; have := depAll fun x m => (ih x m).2; omega⟩
  | tup h ih => exact ⟨canAll fun x m => (ih x m).1, by show PyData.depthAll _ + 1 ≤ _; have := depAll fun x m => (ih x m).2; omega⟩
theorem Gd.sh {n : Nat} {d : PyData} (h : Gd n d) (hn : n ≤ 64) : SeqAt.shaped d = true := by
  obtain ⟨h1, h2⟩ := h.can
  show (_ && decide _) = true
  rw [h1, decide_eq_true (by omega)]
  rfl
theorem Gd.num {n : Nat} {u : Rat} (h : Bd 900 u) : Gd (n + 1) (numD u) := .tup fun x m => by
  rcases List.mem_cons.mp m with rfl | m
  · exact .int h.1
  · rcases List.mem_cons.mp m with rfl | m
    · exact .int (by rw [Int.natAbs_natCast]; exact h.2)
    · cases m
theorem Gd.pl {n : Nat} {a b : Rat} (h : Bd 900 a) (h' : Bd 900 b) : Gd (n + 2) (.tuple [numD a, numD b]) := .tup fun x m => by
  rcases List.mem_cons.mp m with rfl | m
  · exact .num h
  · rcases List.mem_cons.mp m with rfl | m
    · exact .num h'
    · cases m
/-! ### numbers, places, steps of any thing -/
/-- a root that is a number above 0 -/
noncomputable def farB (u : Rat) : Bool := match rt u with
  | some r => !decide (r = 0)
  | none => false
end DL

namespace DM
/-! turned, flipped and moved: e is 1 or -1, c c + s s is 1 -/
section
variable {c s e : Rat} (h : c * c + s * s = 1) (he : e * e = 1)
include h he in
include h in
include h he in
include h he in
include h he in
end
end DM
namespace DL
open PySem PySem.Spec L2 DM
/-! ### cuts -/
inductive Ct where
  | line (b f : Rat × Rat)
  | arc (b f o : Rat × Rat) (w : Int)
/-- a cut whose places have sizes n, of the length or radius r -/
def CtOk (n : Nat) (r : Rat) : Ct → Prop
  | .line b f => (Bc n b ∧ Bc n f) ∧ 0 < r ∧ r * r = dt (sb2 b f) (sb2 b f)
  | .arc b f o w => (Bc n b ∧ Bc n f ∧ Bc n o) ∧ (w = 1 ∨ w = -1) ∧ 0 < r ∧ r * r = dt (sb2 o b) (sb2 o b) ∧ r * r = dt (sb2 o f) (sb2 o f)
def hd0 (r : Rat) : Ct → Rat × Rat
  | .line b f => ((f.1 - b.1) * (1 / r), (f.2 - b.2) * (1 / r))
  | .arc b f o w => (-(b.2 - o.2) * ((w : Rat) / r), (b.1 - o.1) * ((w : Rat) / r))
def hd1 (r : Rat) : Ct → Rat × Rat
  | .line b f => ((f.1 - b.1) * (1 / r), (f.2 - b.2) * (1 / r))
  | .arc b f o w => (-(f.2 - o.2) * ((w : Rat) / r), (f.1 - o.1) * ((w : Rat) / r))
/-! moved cuts -/
theorem CtOk.mono {m n : Nat} {r : Rat} {ct : Ct} (h : CtOk m r ct) (e : m ≤ n) : CtOk n r ct := by
  cases ct with
  | line b f =>
    obtain ⟨⟨b1, b2⟩, h0, e1⟩ := h
    exact ⟨⟨b1.mono e, b2.mono e⟩, h0, e1⟩
  | arc b f o w =>
    obtain ⟨⟨b1, b2, b3⟩, hw, h0, e1, e2⟩ := h
    exact ⟨⟨b1.mono e, b2.mono e, b3.mono e⟩, hw, h0, e1, e2⟩
theorem Bc.sub {m n : Nat} {p q : Rat × Rat} (hp : Bc m p) (hq : Bc n q) : Bc (m + n + 1) (p.1 - q.1, p.2 - q.2) := by
  obtain ⟨a, b, d, h0, e1, e2, h1, h2, h3⟩ := hq
  have := hp.add (q := (-q.1, -q.2)) ⟨-a, -b, d, h0, by rw [dI_neg, ← e1], by rw [dI_neg, ← e2], by rw [Int.natAbs_neg]; exact h1, by rw [Int.natAbs_neg]; exact h2, h3⟩
  simp only [← Rat.sub_eq_add_neg] at this
  exact this
end DL

namespace DL
open PySem PySem.Spec L2 DM PyProof.Rows PySem.W
/-! ### a, *b, c = a list or a tuple -/
section
variable {prog : Program} {w : World} {A : Around} {E : Value → Shared → Prop} {s : Shared}
theorem star_items {l : Addr} {its : List Value} {n i : Nat} {Q : List Value → Shared → Prop} (hl : s.heap.IsList l its.toArray ∨ IsTup s.heap l its.toArray) (hh : A.handled = none) (hi : i < n) (hn : n ≤ its.length + 1) (hz : its.length ≤ 16384)
    (h : ∀ (h' : Heap) (tk : Nat), (∀ b o, s.heap.get? b = some o → h'.get? b = some o) → Q (its.take i ++ [.ref h'.objs.size] ++ (its.drop i).drop (its.length + 1 - n)) { s with heap := h'.push { cls := .type "list", data := .seq ((its.drop i).take (its.length + 1 - n)).toArray }, toks := tk }) :
    wpAny (model prog w) A (unpackItems (.ref l) n (some i)) Q E s := by
  have fin : ∀ (h₁ : Heap) (tk : Nat), (∀ b o, b ≠ s.heap.objs.size → s.heap.get? b = some o → h₁.get? b = some o) →
      wpAny (model prog w) A (newList ((its.drop i).take ((its.drop i).length - (n - 1 - i))) >>= fun d => pure (its.take i ++ [d] ++ (its.drop i).drop ((its.drop i).length - (n - 1 - i)))) Q E { s with heap := h₁, toks := tk } := by
    intro h₁ tk hk
    have hmid : (its.drop i).length - (n - 1 - i) = its.length + 1 - n := by rw [List.length_drop]; omega
    rw [hmid]
    unfold newList
    refine wpAny_bind (wpAny_newObj_type ?_ (by show ((its.drop i).take (its.length + 1 - n)).toArray.size ≤ sizeLine; rw [List.size_toArray, List.length_take, List.length_drop, sizeLine_eq]; omega))
    exact wpAny_pure (h h₁ tk fun b o e => hk b o (Nat.ne_of_lt (Heap.lt_size e)) e)
  have hfl : (its.take i).length = i := by rw [List.length_take]; omega
  have hrl : ¬ (its.drop i).length < n - 1 - i := by rw [List.length_drop]; omega
  unfold unpackItems
  refine wpAny_bind ?_
  unfold notIterableAtAll
  rcases hl with hl | hl
  · have hlt : l ≠ s.heap.objs.size := by obtain ⟨o, ho, _⟩ := hl; exact Nat.ne_of_lt (Heap.lt_size ho)
    refine wpAny_bind (wpAny_specialOf hl.typeIs slot_list_iter.lookup ?_)
    refine wpAny_pure ?_
    simp only [Bool.false_eq_true, if_false]
    refine wpAny_bind (wpAny_holding (wpAny_pyIter_list hl ?_))
    refine wpAny_bind (wpAny_holding (kun_draw hlt i 0 _ _ ⟨_, Heap.get?_push_size _ rfl, rfl, rfl⟩ (hl.push _) (by simp; omega) fun h₁ hit₁ hs₁ => ?_))
    have hl₁ : h₁.IsList l its.toArray := (hl.push _).extBut hs₁.extBut hlt
    rw [Nat.zero_add] at hit₁
    have hit₁' := hit₁
    obtain ⟨oi, hoi, _⟩ := hit₁'
    have hl₁' := hl₁
    obtain ⟨ol, hol, _⟩ := hl₁'
    simp only [List.drop_zero]
    rw [if_neg (show ¬ ((its.take i).length < i) by rw [hfl]; omega)]
    refine wpAny_bind (wpAny_holding (kun_collect (s := { s with heap := h₁ }) (T := "list_iterator") (.inr (.inr (.inl rfl))) (Walks.list (A := A.in1) hh s.heap.objs.size l hlt its.toArray) (fun j u st => st.1.typeIs) (k := i) (by simp; omega) ⟨hit₁, hl₁⟩ (Heap.lt_size hoi) (Heap.lt_size hol) (fun h₂ tk hk => ?_) (by rw [sizeLine_eq]; simp; omega)))
    show wpAny _ _ (if (its.drop i).length < n - 1 - i then _ else _) _ _ _
    rw [if_neg hrl]
    exact fin h₂ tk fun b o hb e => hk b o hb (hs₁.extBut b o hb (Heap.get?_push_of_some _ e))
  · have hlt : l ≠ s.heap.objs.size := by obtain ⟨o, ho, _⟩ := hl; exact Nat.ne_of_lt (Heap.lt_size ho)
    refine wpAny_bind (wpAny_specialOf hl.typeIs slot_tuple_iter.lookup ?_)
    refine wpAny_pure ?_
    simp only [Bool.false_eq_true, if_false]
    refine wpAny_bind (wpAny_holding (iter_tuple hl ?_))
    refine wpAny_bind (wpAny_holding (draw_tuple hlt i 0 _ _ ⟨_, Heap.get?_push_size _ rfl, rfl, rfl⟩ (hl.push _) (by simp; omega) fun h₁ hit₁ hs₁ => ?_))
    have hl₁ : IsTup h₁ l its.toArray := (hl.push _).extBut hs₁.extBut hlt
    rw [Nat.zero_add] at hit₁
    have hit₁' := hit₁
    obtain ⟨oi, hoi, _⟩ := hit₁'
    have hl₁' := hl₁
    obtain ⟨ol, hol, _⟩ := hl₁'
    simp only [List.drop_zero]
    rw [if_neg (show ¬ ((its.take i).length < i) by rw [hfl]; omega)]
    refine wpAny_bind (wpAny_holding (kun_collect (s := { s with heap := h₁ }) (T := "tuple_iterator") (.inr (.inr (.inr rfl))) (Walks.tuple (A := A.in1) hh s.heap.objs.size l hlt its.toArray) (fun j u st => st.1.typeIs) (k := i) (by simp; omega) ⟨hit₁, hl₁⟩ (Heap.lt_size hoi) (Heap.lt_size hol) (fun h₂ tk hk => ?_) (by rw [sizeLine_eq]; simp; omega)))
    show wpAny _ _ (if (its.drop i).length < n - 1 - i then _ else _) _ _ _
    rw [if_neg hrl]
    exact fin h₂ tk fun b o hb e => hk b o hb (hs₁.extBut b o hb (Heap.get?_push_of_some _ e))
end
section
variable {X : Cx} {Z : Ent} {pos : Pos}
def gStarR (K : PySem.W.Frag) (n i : Nat) (t : TGs) : TG := fun v σ H Q => ∃ a xs, v = .ref a ∧ (SqL K H a xs ∨ SqT K H a xs) ∧ n ≤ xs.length + 1 ∧ xs.length ≤ 16384 ∧
  ∀ p, H p = none → t (xs.take i ++ [.ref p] ++ (xs.drop i).drop (xs.length + 1 - n)) σ (upd H p (.lst ((xs.drop i).take (xs.length + 1 - n)))) Q
theorem vals_take : ∀ {xs : List V} {us : List Value} (n : Nat), Vals xs us → Vals (xs.take n) (us.take n)
  | _, _, 0, _ => .nil
  | _, _, _ + 1, .nil => .nil
  | _, _, n + 1, .cons h t => .cons h (vals_take n t)
theorem vals_drop : ∀ {xs : List V} {us : List Value} (n : Nat), Vals xs us → Vals (xs.drop n) (us.drop n)
  | _, _, 0, h => h
  | _, _, _ + 1, .nil => .nil
  | _, _, n + 1, .cons _ t => vals_drop n t
theorem pg_star {es : List Expr} {k : Nat} {t : TGs} {n i : Nat} (hc : X.calm = true) (h : PGs X es t) (hi : i < n)
    (hn : (assignEach es X.env).length = n := by rfl) (hst : (assignEach es X.env).findIdx? (·.1) = some i := by rfl) : PG X (.Tuple es k pos) (gStarR X.K n i t) := by
  refine ⟨fun pins s σ H v u Q I r hw => ?_⟩
  obtain ⟨a, xs, e1, hq, hl, hz, hw⟩ := hw
  subst e1
  cases r
  have key : ∀ its : List Value, Vals xs its → (s.heap.IsList a its.toArray ∨ IsTup s.heap a its.toArray) → wpAny (model X.prog X.w) X.A (assign (.Tuple es k pos) X.env (.ref a)) (fun _ s' => ∃ σ' H', Inv X pins σ' H' s' ∧ Q σ' H') X.xe s := by
    intro its rv hs
    have ln := rv.length
    rw [assign_Tuple]
    refine wpAny_bind (wpAny_standAt ?_)
    unfold unpack
    rw [hn, hst]
    refine wpAny_bind (wpAny_holding (star_items hs (I.ok.hd hc) hi (by omega) (by omega) fun h' tk hk => ?_))
    have I1 : Inv X pins σ H { s with heap := h', toks := tk } := I.kept (t' := tk) hk
    have I2 := I1.lnew (t' := tk) (vals_take (xs.length + 1 - n) (vals_drop i rv)) (by rw [List.length_take, List.length_drop, sizeLine_eq]; omega)
    have q := hw _ I1.fresh
    rw [ln] at I2 q
    exact h.run pins _ σ _ _ _ Q I2 (((vals_take i rv).append (.cons (show L2.RelV (V.ref h'.objs.size) (Value.ref h'.objs.size) from rfl) .nil)).append (vals_drop _ (vals_drop i rv))) q
  rcases hq with hq | hq
  · obtain ⟨its, rv, pl, _⟩ := I.list hq
    exact key its rv (.inl pl.isList)
  · obtain ⟨its, rv, ht, _⟩ := I.tuple hq
    exact key its rv (.inr ht)
theorem dgs_consS {e : Expr} {es : List Expr} {ts us : List Nat} {t : DG} {u : DGs} {p1 : Pos} (h1 : Dg X Z e ts t) (h2 : Dgs X Z es us u)
    (hs : (assignEach (.Starred e p1 :: es) X.env).map (·.2) = assign e X.env :: (assignEach es X.env).map (·.2) := by rfl) : Dgs X Z (.Starred e p1 :: es) (ts ++ us) (gsCons t u) := by
  have pg : PGs X (.Starred e p1 :: es) (gCons (lG X.K Z ts t) (lGs X.K Z us u)) := by
    refine ⟨fun pins s σ H vs us Q I r h => ?_⟩
    obtain ⟨v, vr, e1, h⟩ := h
    subst e1
    cases r with
    | cons r rr =>
      rw [hs]
      refine assignInOrder_cons (thn (h1.run.run pins s σ H _ _ _ I r h) fun _ s1 ⟨σ1, H1, I1, q1⟩ => ?_)
      exact h2.run.run pins s1 σ1 H1 _ _ Q I1 rr q1
  refine ⟨pgs_imp pg fun vs σ H Q ⟨Hs, δ, ds, R, dps, q⟩ => ?_, fun ds δ Q Q' hq q => ?_⟩
  · cases dps with
    | nil => exact q.elim
    | cons d1 d2 => exact ⟨_, _, rfl, Hs, δ, _, R, d1, h1.mono _ _ _ _ (fun δ1 q σ1 R1 a1 => ⟨Hs, δ1, _, R1, d2, h2.mono _ _ _ _ (fun δ2 q σ2 R2 a2 => q σ2 R2 (a1.trans a2)) q⟩) q⟩
  · cases ds with
    | nil => exact q
    | cons d r => exact h1.mono _ _ _ _ (fun δ1 q => h2.mono _ _ _ _ hq q) q
def rStar (n i : Nat) (d : PyData) (Q : List PyData → Prop) : Prop := match d with
  | .tuple xs => (n ≤ xs.length + 1 ∧ xs.length ≤ 16384) ∧ Q (xs.take i ++ [.list ((xs.drop i).take (xs.length + 1 - n))] ++ (xs.drop i).drop (xs.length + 1 - n))
  | .list xs => (n ≤ xs.length + 1 ∧ xs.length ≤ 16384) ∧ Q (xs.take i ++ [.list ((xs.drop i).take (xs.length + 1 - n))] ++ (xs.drop i).drop (xs.length + 1 - n))
  | _ => False
theorem star_t {n i : Nat} {xs : List PyData} {Q : List PyData → Prop} : rStar n i (.tuple xs) Q = ((n ≤ xs.length + 1 ∧ xs.length ≤ 16384) ∧ Q (xs.take i ++ [.list ((xs.drop i).take (xs.length + 1 - n))] ++ (xs.drop i).drop (xs.length + 1 - n))) := rfl
theorem star_l {n i : Nat} {xs : List PyData} {Q : List PyData → Prop} : rStar n i (.list xs) Q = ((n ≤ xs.length + 1 ∧ xs.length ≤ 16384) ∧ Q (xs.take i ++ [.list ((xs.drop i).take (xs.length + 1 - n))] ++ (xs.drop i).drop (xs.length + 1 - n))) := rfl
theorem rStar_mono {n i : Nat} {d : PyData} {Q Q' : List PyData → Prop} (h : ∀ xs, Q xs → Q' xs) (q : rStar n i d Q) : rStar n i d Q' := by
  cases d <;> first | exact ⟨q.1, h _ q.2⟩ | exact q
def dAsgS (n i : Nat) (t : DE) (g : DGs) : DS := fun N δ => t δ fun d δ' => rStar n i d fun ds => g ds δ' N.nx
theorem ds_asgS {es : List Expr} {e : Expr} {k n i : Nat} {ts : List Nat} {t : DE} {g : DGs} {p1 : Pos} (hc : X.calm = true) (he : De X Z e t) (hg : Dgs X Z es ts g) (hi : i < n)
    (hn : (assignEach es X.env).length = n := by rfl) (hst : (assignEach es X.env).findIdx? (·.1) = some i := by rfl)
    (hs : swapsWithSole [.Tuple es k p1] e pos.line X.env = pure false := by rfl) (hw : swappedStores [.Tuple es k p1] e X.env = pure none := by rfl)
    (h1 : (assignEach [.Tuple es k p1] X.env).map (·.2) = [assign (.Tuple es k p1) X.env] := by rfl) : Ds X Z (.Assign [.Tuple es k p1] e pos) (dAsgS n i t g) := by
  refine ⟨ps_imp (ps_asg he.run (pg_star hc hg.run hi hn hst) hs hw h1) fun D σ H ⟨Hs, δ, N, R, ok, q⟩ => ⟨Hs, δ, R, he.mono _ _ _ (fun d δ' q v Hs' H' s R' dp => ?_) q⟩⟩
  have go : ∀ (a : Addr) (xs : List V) (ds : List PyData), v = .ref a → (SqL X.K H' a xs ∨ SqT X.K H' a xs) → DpAll X.K Hs' xs ds → (n ≤ ds.length + 1 ∧ ds.length ≤ 16384) ∧ g (ds.take i ++ [.list ((ds.drop i).take (ds.length + 1 - n))] ++ (ds.drop i).drop (ds.length + 1 - n)) δ' N.nx → gStarR X.K n i (lGs X.K Z ts g) v σ H' D.nx := by
    intro a xs ds e1 hs dps q
    have ln := dps.len
    refine ⟨a, xs, e1, hs, by omega, by omega, fun p np => ?_⟩
    have s2 : ∀ ys, Same Hs' (upd Hs' p (.lst ys)) := fun _ => same_new (R'.hsn np)
    refine ⟨_, δ', ds.take i ++ [.list ((ds.drop i).take (ds.length + 1 - n))] ++ (ds.drop i).drop (ds.length + 1 - n), R'.alloc np, ?_, hg.mono _ _ _ _ (fun δ2 q σ2 R2 _ => ok.nx σ2 δ2 _ _ (s.trans (s2 _)) R2 q) q.2⟩
    rw [ln]
    exact (((dps.take i).up (s2 _)).app (.cons (.lst (SqL.of upd_same) (((dps.drop i).take _).up (s2 _))) .nil)).app (((dps.drop i).drop _).up (s2 _))
  cases dp with
  | lst hs ha => exact go _ _ _ rfl (.inl (R'.sub.seq hs)) ha q
  | tup hs ha => exact go _ _ _ rfl (.inr (sqt_mono R'.sub hs)) ha q
  | _ => exact q.elim
instance {n i : Nat} {ta : DE} {gs : DGs} [EMono ta] [GsMono gs] : SMono (dAsgS n i ta gs) := ⟨fun N N' δ le q => EMono.m (t := ta) _ _ _ (fun _ _ z => rStar_mono (fun _ z => GsMono.m (t := gs) _ _ _ _ (fun _ z => le.nx _ z) z) z) q⟩
end
end DL

namespace DL
open PySem PySem.Spec L2 DM PyProof.Rows
section
variable {X : Cx} {Z : Ent} {pos : Pos}
/-! ### powers of great numbers -/
def CPowB (i j : Int) : Prop := 0 ≤ j ∧ (Builtin.Int.intBits i : Int) * j ≤ 2 ^ 27
abbrev rPowB : D2 := rII CPowB fun i j => .int (i ^ j.toNat)
theorem op_powB : OpR X (binaryOp .Pow) (rI CPowB fun i j => .int (i ^ j.toNat)) := opI fun _ _ _ _ _ _ _ hc q => pow_int hc.1 hc.2 q
theorem od_powB : OpD X Z (binaryOp .Pow) rPowB := opd_I op_powB fun _ _ _ => .int _
theorem powB {i j : Int} {b : Nat} (h : i.natAbs < 2 ^ b) (h0 : 0 ≤ j) (hb : (b : Int) * j ≤ 2 ^ 27) : CPowB i j := by
  refine ⟨h0, ?_⟩
  have hle : Builtin.Int.intBits i ≤ b := by
    by_cases z : i = 0
    · subst z
      exact Nat.zero_le _
    · exact bits_le h z
  have := Int.mul_le_mul_of_nonneg_right (show (Builtin.Int.intBits i : Int) ≤ b by omega) h0
  omega
theorem powB64 {i j : Int} (h1 : -18446744073709551616 < i) (h2 : i < 18446744073709551616) (h3 : 0 ≤ j) (h4 : j ≤ 1000000) : CPowB i j :=
  powB (b := 64) (by have : (2 : Nat) ^ 64 = 18446744073709551616 := by decide
                     omega) h3 (by omega)
/-! ### lists of one's own lent to an expression that tells flat things -/
def unown : Option Sl → Option Sl
  | some (.sh d) => some (.sh d)
  | some (.ow _ xs) => some (.sh (.list xs))
  | some (.ob _ (.dct ks ds)) => some (.sh (dctD ks ds))
  | some (.ob _ _) => none
  | some (.xn _) => none
  | none => none
theorem unown_sh {d : PyData} : unown (some (.sh d)) = some (.sh d) := rfl
theorem unown_ow {p : Bool} {xs : List PyData} : unown (some (.ow p xs)) = some (.sh (.list xs)) := rfl
theorem unown_dct {p : Bool} {ks : List Key} {ds : List PyData} : unown (some (.ob p (.dct ks ds))) = some (.sh (dctD ks ds)) := rfl
theorem unown_ins {p : Bool} {C : Str} {FS : List Str} {fs : List Fv} : unown (some (.ob p (.ins C FS fs))) = none := rfl
theorem unown_none : unown none = none := rfl
def lent (δ : DSt) (i : Nat) (xs : List PyData) : DSt := (δ.map unown).set i (some (.sh (.list xs)))
/-- all lists of one's own shared for a while -/
theorem lend_all {K : Fg} {Hs H : Hp} {σ : L2.St} {δ : DSt} (R : Rl K Z Hs H σ δ) : ∃ Hs1, Same Hs Hs1 ∧ Rl K (.at H Hs1 [] []) Hs1 H σ (δ.map unown) := by
  classical
  let own : Addr → Prop := fun b => ∃ (j : Nat) (s : Sl), δ[j]? = some (some s) ∧ σ[j]? = some (some (V.ref b)) ∧ ((∃ q ys, s = Sl.ow q ys) ∨ ∃ q ks ds, s = Sl.ob q (.dct ks ds))
  let Hs1 : Hp := fun b => if own b then H b else Hs b
  have nOwn : ∀ b o, Hs b = some o → ¬ own b := fun b o e ⟨j, s, h1, h2, h3⟩ => by
    rcases h3 with ⟨q, ys, rfl⟩ | ⟨q, ks, ds, rfl⟩
    · obtain ⟨a, ws, k1, k2, k3, _⟩ := R.own j q ys h1
      rw [k1] at h2
      cases h2
      rw [k3] at e
      cases e
    · obtain ⟨a, ws, k1, k2, k3, _⟩ := R.ownD j q ks ds h1
      rw [k1] at h2
      cases h2
      rw [k3] at e
      cases e
  have e1 : Same Hs Hs1 := fun b o e => by
    show (if own b then H b else Hs b) = some o
    rw [if_neg (nOwn b o e)]
    exact e
  have sub : Same Hs1 H := fun b o e => by
    have e : (if own b then H b else Hs b) = some o := e
    split at e
    · exact e
    · exact R.sub b o e
  have noow : ∀ (j : Nat) (s : Sl), (δ.map unown)[j]? = some (some s) → s.own = false ∧ s.prm = false := fun j s z => by
    rw [List.getElem?_map] at z
    cases w : δ[j]? with
    | none => rw [w] at z; cases z
    | some o =>
      rw [w] at z
      cases o with
      | none => cases z
      | some s =>
        cases s with
        | sh d => cases z; exact ⟨rfl, rfl⟩
        | ow p xs => cases z; exact ⟨rfl, rfl⟩
        | ob p o => cases o <;> first | (cases z; done) | (cases z; exact ⟨rfl, rfl⟩)
        | xn C => cases z
  refine ⟨Hs1, e1, ⟨by rw [List.length_map, R.len], sub, Same.refl _, fun b o e _ => e, fun b n => .inl n, fun b e => (nomatch e), fun j d z => ?_, ⟨fun _ => [], ⟨fun j s z o => ?_, fun _ _ => rfl, fun i a m => (nomatch m), fun i a m => (nomatch m), fun i s a _ _ m => (nomatch m), fun i j a n m => (nomatch m), fun i a o m => nomatch m⟩⟩, fun b o m => (nomatch m), fun j s z p => ?_, fun j C z => ?_⟩⟩
  rotate_left
  · rw [(noow j s z).1] at o
    cases o
  · rw [(noow j s z).2] at p
    cases p
  · rw [List.getElem?_map] at z
    cases w : δ[j]? with
    | none => rw [w] at z; cases z
    | some o =>
      rw [w] at z
      cases o with
      | none => cases z
      | some s =>
        cases s with
        | ob p o => cases o <;> cases z
        | _ => cases z
  rw [List.getElem?_map] at z
  cases w : δ[j]? with
  | none => rw [w] at z; cases z
  | some o =>
    rw [w] at z
    cases o with
    | none => cases z
    | some s =>
      cases s with
      | sh d' =>
        cases z
        obtain ⟨v, q1, q2⟩ := R.shr j d w
        exact ⟨v, q1, q2.up e1⟩
      | ow p xs =>
        cases z
        obtain ⟨a, ws, k1, k2, k3, k4⟩ := R.own j p xs w
        refine ⟨.ref a, k1, .lst (SqL.of ?_) (k4.up e1)⟩
        show (if own a then H a else Hs a) = _
        rw [if_pos ⟨j, _, w, k1, .inl ⟨p, xs, rfl⟩⟩]
        exact k2
      | ob p o =>
        cases o with
        | dct ks ds =>
          cases z
          obtain ⟨a, vs, k1, k2, k3, k4, k5⟩ := R.ownD j p ks ds w
          refine ⟨.ref a, k1, .dct ?_ k4 (k5.up e1)⟩
          show (if own a then H a else Hs a) = _
          rw [if_pos ⟨j, _, w, k1, .inr ⟨p, ks, ds, rfl⟩⟩]
          exact k2
        | nst _ => cases z
        | ins _ _ _ => cases z
      | xn C => cases z
theorem lend_in {K : Fg} {Hs H : Hp} {σ : L2.St} {δ : DSt} {i : Nat} {p : Bool} {xs : List PyData} (R : Rl K Z Hs H σ δ) (h : δ[i]? = some (some (Sl.ow p xs))) :
    ∃ Hs1, Rl K (.at H Hs1 [] []) Hs1 H σ (lent δ i xs) := by
  obtain ⟨Hs1, e1, R1⟩ := lend_all R
  refine ⟨Hs1, ?_⟩
  have e : lent δ i xs = δ.map unown := by
    have hi : i < (δ.map unown).length := by rw [List.length_map]; exact get_lt h
    have e2 : (δ.map unown)[i]? = some (some (.sh (.list xs))) := by rw [List.getElem?_map, h]; rfl
    obtain ⟨_, e3⟩ := List.getElem?_eq_some_iff.mp e2
    unfold lent
    rw [← e3]
    exact List.set_getElem_self hi
  rw [e]
  exact R1
theorem lend_out {K : Fg} {Hs Hs1 Hs2 H H2 : Hp} {σ : L2.St} {δ δ2 : DSt} (R : Rl K Z Hs H σ δ) (R2 : Rl K (.at H Hs1 [] []) Hs2 H2 σ δ2) : Rl K Z Hs H2 σ δ :=
  R.after (Hs' := Hs) (H' := H2) (Rl.mk0 (fun b o e => R2.fr b o (R.sub b o e) (fun z => nomatch z)) (Same.refl _) (fun b o e n => R2.fr b o e n) (fun b n => .inl n) (fun b e => nomatch e) (fun a o m => nomatch m))
def dLendT (i : Nat) (t : DT) : DT := fun δ Q => match δ[i]? with
  | some (some (.ow _ xs)) => t (lent δ i xs) fun d _ => Q d δ
  | _ => t δ Q
theorem dt_lend (i : Nat) {e : Expr} {t : DT} (h : ∀ Z : Ent, Dt X Z e t) : Dt X Z e (dLendT i t) := by
  refine ⟨⟨fun pins s σ H Q I q => ?_⟩, fun δ Q Q' hq q => ?_⟩
  · obtain ⟨Hs, δ, R, q⟩ := q
    unfold dLendT at q
    split at q
    · rename_i p xs e0
      obtain ⟨Hs1, R1⟩ := lend_in R e0
      exact (h (.at H Hs1 [] [])).run.run pins s σ H Q I ⟨_, _, R1, (h Z).mono _ _ _ (fun d δ' z Hs2 H2 s2 R2 => z Hs H2 (Same.refl _) (lend_out R R2)) q⟩
    · exact (h Z).run.run pins s σ H Q I ⟨Hs, δ, R, q⟩
  · unfold dLendT at q ⊢
    split at q
    · exact (h Z).mono _ _ _ (fun d δ' z => hq _ _ z) q
    · exact (h Z).mono _ _ _ hq q
instance {i : Nat} {t : DT} [TMono t] : TMono (dLendT i t) := ⟨fun δ Q Q' hq q => by
  unfold dLendT at q ⊢
  split at q
  · exact TMono.m (t := t) _ _ _ (fun d δ' z => hq _ _ z) q
  · exact TMono.m (t := t) _ _ _ hq q⟩
/-! ### xs.reverse(), xs.clear() -/
/-! ### a, b = e1, e2, both new lists of one's own -/
/-! ### max of a list of ints -/
end
/-! ### calls by keywords of keyword-only parameters -/
section
variable {K : Fg} {x qual : Str} {params : Arguments} {body : List Stmt} {scope : Scope} {kws : List (Str × V)} {f : Addr} {fd : FuncData} {ps : List Str}
/-- all parameters are given, the keyword-only ones by keywords in their order -/
theorem kbA (F : FunD K x qual params body scope [] kws f fd) (n : Nat) (ks : List Str)
    (h : ∀ (kV doc pm : Value) (an : Option Addr) (cdv ct : Value) (us ws : List Value), us.length = n → ws.length = ks.length → bindArgs (PySem.W.fnOf x qual params body scope .none kV doc pm an cdv ct) ⟨us, ks.zip ws⟩ = pure (ps.zip (us ++ ws))) :
    KBn K fd ps n ks (fun us ws => us ++ ws) (fun vs zs => vs ++ zs) := by
  obtain ⟨oc, od, dV, kV, doc, pm, an, cdv, ct, osl, rfl, lk, hcd, hD, hK⟩ := F.ex
  rcases hD with ⟨_, rfl⟩ | ⟨e, _⟩
  · exact ⟨fun s us ws X l1 l2 => BindsTo.of_eq (h kV doc pm an cdv ct us ws l1 l2), fun r1 r2 => r1.append r2⟩
  · exact absurd rfl e
end
end DL
namespace DL
open PySem PySem.Spec L2 DM PyProof.Rows
section
variable {X : Cx} {Z : Ent} {pos : Pos}
variable {k n : Nat} {g : Addr} {fd : FuncData} {ps ks : List Str} {f : FP} {x : Str} {e : Expr} {es : List Expr} {kws : List Keyword} {t tk : DL'} {p : Pos} {gv : List Value → List Value → List Value} {gV : List V → List V → List V} {gD : List PyData → List PyData → List PyData}
end
end DL

namespace DM
/-! places of ways: all numbers over one bottom -/
def gD : Int := 20881492632000
def Gr (u : Rat) : Prop := ∃ a : Int, u = Rat.divInt a gD
theorem gD_ne : ((gD : Int) : Rat) ≠ 0 := DL.rz (by decide)
theorem Gr.add {u v : Rat} (hu : Gr u) (hv : Gr v) : Gr (u + v) := by
  obtain ⟨a, rfl⟩ := hu
  obtain ⟨b, rfl⟩ := hv
  refine ⟨a + b, ?_⟩
  simp only [Rat.divInt_eq_div, Rat.intCast_add]
  have := gD_ne
  grind
theorem gr_frac {a m : Int} (hm : m ≠ 0) (h : m ∣ gD) : Gr (Rat.divInt a m) := by
  obtain ⟨k, hk⟩ := h
  refine ⟨a * k, ?_⟩
  have z1 : (m : Rat) ≠ 0 := fun e => hm (Rat.intCast_eq_zero_iff.mp e)
  have z2 := gD_ne
  rw [hk, Rat.intCast_mul] at z2
  rw [hk]
  simp only [Rat.divInt_eq_div, Rat.intCast_mul]
  have z3 : (k : Rat) ≠ 0 := fun e => z2 (by rw [e]; grind)
  grind
theorem Gr.bd {u : Rat} {k : Nat} (h : Gr u) (h1 : -(k : Rat) ≤ u) (h2 : u ≤ (k : Rat)) : ∃ a : Int, u = Rat.divInt a gD ∧ a.natAbs ≤ k * 20881492632000 := by
  obtain ⟨a, e⟩ := h
  refine ⟨a, e, ?_⟩
  have z := gD_ne
  have e2 : (a : Rat) = u * (gD : Rat) := by
    rw [e, Rat.divInt_eq_div]
    grind
  have pos : (0 : Rat) < ((gD : Int) : Rat) := by
    rw [show (0 : Rat) = ((0 : Int) : Rat) from rfl]
    exact Rat.intCast_lt_intCast.mpr (by decide)
  have l1 : (a : Rat) ≤ (((k : Int) * gD : Int) : Rat) := by
    rw [e2, Rat.intCast_mul]
    have : 0 ≤ ((k : Rat) - u) * ((gD : Int) : Rat) := Rat.mul_nonneg (by grind) (by grind)
    have e3 : (((k : Int)) : Rat) = (k : Rat) := rfl
    rw [e3]
    grind
  have l2 : ((-((k : Int) * gD) : Int) : Rat) ≤ (a : Rat) := by
    rw [e2, Rat.intCast_neg, Rat.intCast_mul]
    have : 0 ≤ (u + (k : Rat)) * ((gD : Int) : Rat) := Rat.mul_nonneg (by grind) (by grind)
    have e3 : (((k : Int)) : Rat) = (k : Rat) := rfl
    rw [e3]
    grind
  have m1 := Rat.intCast_le_intCast.mp l1
  have m2 := Rat.intCast_le_intCast.mp l2
  unfold gD at m1 m2
  omega
def Pl (k : Nat) (p : Rat × Rat) : Prop := (Gr p.1 ∧ Gr p.2) ∧ (-(k : Rat) ≤ p.1 ∧ p.1 ≤ (k : Rat)) ∧ (-(k : Rat) ≤ p.2 ∧ p.2 ≤ (k : Rat))
theorem Pl.add {k m : Nat} {p q : Rat × Rat} (hp : Pl k p) (hq : Pl m q) : Pl (k + m) (p.1 + q.1, p.2 + q.2) := by
  obtain ⟨⟨a1, a2⟩, ⟨b1, b2⟩, c1, c2⟩ := hp
  obtain ⟨⟨a1', a2'⟩, ⟨b1', b2'⟩, c1', c2'⟩ := hq
  have e : ((k + m : Nat) : Rat) = (k : Rat) + (m : Rat) := Rat.natCast_add k m
  refine ⟨⟨a1.add a1', a2.add a2'⟩, ?_, ?_⟩ <;> rw [e] <;> exact ⟨by simp only; grind, by simp only; grind⟩
theorem Pl.mono {k m : Nat} {p : Rat × Rat} (hp : Pl k p) (h : k ≤ m) : Pl m p := by
  obtain ⟨a, ⟨b1, b2⟩, c1, c2⟩ := hp
  have e : (k : Rat) ≤ (m : Rat) := Rat.natCast_le_natCast.mpr h
  exact ⟨a, ⟨by grind, by grind⟩, by grind, by grind⟩
theorem Pl.bc {k : Nat} {p : Rat × Rat} (h : Pl k p) (hk : k ≤ 50000) : DL.Bc 61 p := by
  obtain ⟨⟨a1, a2⟩, ⟨b1, b2⟩, c1, c2⟩ := h
  obtain ⟨a, e1, l1⟩ := a1.bd b1 b2
  obtain ⟨b, e2, l2⟩ := a2.bd c1 c2
  have : (2 : Nat) ^ 61 = 2305843009213693952 := by decide
  exact ⟨a, b, gD, by decide, e1, e2, by omega, by omega, by decide⟩
/-! headings of a small bottom -/
structure Hd (m : Nat) (u : Rat × Rat) : Prop where
  one : u.1 * u.1 + u.2 * u.2 = 1
  d1 : u.1.den ≤ m
  d2 : u.2.den = u.1.den
theorem unit_le {x y : Rat} (h : x * x + y * y = 1) : -1 ≤ x ∧ x ≤ 1 := by
  have := rsq_nn y
  constructor
  · apply Classical.byContradiction
    intro z
    have := Rat.mul_pos (show 0 < -x - 1 by grind) (show 0 < -x + 1 by grind)
    grind
  · apply Classical.byContradiction
    intro z
    have := Rat.mul_pos (show 0 < x - 1 by grind) (show 0 < x + 1 by grind)
    grind
theorem unit_bd {x y : Rat} {n : Nat} (h : x * x + y * y = 1) (hd : x.den < 2 ^ n) : Bd (n + 1) x := by
  obtain ⟨h1, h2⟩ := unit_le h
  have e : (x.num : Rat) = x * ((x.den : Int) : Rat) := by
    have z : ((x.den : Int) : Rat) ≠ 0 := DL.rz (by have := x.den_pos; omega)
    have e : x = (x.num : Rat) / ((x.den : Int) : Rat) := by rw [← Rat.divInt_eq_div]; exact (Rat.num_divInt_den x).symm
    generalize (x.num : Rat) = a at *
    generalize ((x.den : Int) : Rat) = b at *
    rw [e]
    grind
  have pos : (0 : Rat) < ((x.den : Int) : Rat) := by
    rw [show (0 : Rat) = ((0 : Int) : Rat) from rfl]
    exact Rat.intCast_lt_intCast.mpr (by have := x.den_pos; omega)
  have l1 : (x.num : Rat) ≤ ((x.den : Int) : Rat) := by
    have : 0 ≤ (1 - x) * ((x.den : Int) : Rat) := Rat.mul_nonneg (by grind) (by grind)
    grind
  have l2 : ((-(x.den : Int) : Int) : Rat) ≤ (x.num : Rat) := by
    have : 0 ≤ (1 + x) * ((x.den : Int) : Rat) := Rat.mul_nonneg (by grind) (by grind)
    rw [Rat.intCast_neg]
    grind
  have m1 := Rat.intCast_le_intCast.mp l1
  have m2 := Rat.intCast_le_intCast.mp l2
  have : (2 : Nat) ^ (n + 1) = 2 * 2 ^ n := by rw [Nat.pow_succ]; omega
  exact ⟨by omega, by omega⟩
theorem Hd.bd {m n : Nat} {u : Rat × Rat} (h : Hd m u) (hm : m < 2 ^ n) : Bd (n + 1) u.1 ∧ Bd (n + 1) u.2 :=
  ⟨unit_bd h.one (Nat.lt_of_le_of_lt h.d1 hm), unit_bd (y := u.1) (by have := h.one; grind) (by rw [h.d2]; exact Nat.lt_of_le_of_lt h.d1 hm)⟩
theorem dvd25 {m : Nat} (h0 : 0 < m) (h : m ≤ 25) : (m : Int) ∣ 26771144400 := by
  have : ∀ k : Fin 25, ((k.val + 1 : Nat) : Int) ∣ 26771144400 := by decide
  have := this ⟨m - 1, by omega⟩
  have e : m - 1 + 1 = m := by omega
  simp only [e] at this
  exact this
/-- a heading of a small bottom, so far -/
theorem Hd.pl {m : Nat} {u : Rat × Rat} {a b : Int} (h : Hd m u) (hm : m ≤ 25) (hb : 0 < b) (hb4 : b ∣ 12) (ha : 0 ≤ a) (hab : a ≤ 40 * b) : Pl 40 (u.1 * Rat.divInt a b, u.2 * Rat.divInt a b) := by
  have dn := u.1.den_pos
  have dv : ((u.1.den : Int)) * b ∣ gD := by
    have d1 := Int.mul_dvd_mul (dvd25 dn (Nat.le_trans h.d1 hm)) hb4
    exact Int.dvd_trans d1 (by decide)
  have g : ∀ x : Rat, x.den = u.1.den → Gr (x * Rat.divInt a b) := by
    intro x hx
    have e : x * Rat.divInt a b = Rat.divInt (x.num * a) ((x.den : Int) * b) := by
      have e1 : x = Rat.divInt x.num (x.den : Int) := (Rat.num_divInt_den x).symm
      have e2 : Rat.divInt x.num (x.den : Int) * Rat.divInt a b = Rat.divInt (x.num * a) ((x.den : Int) * b) := Rat.divInt_mul_divInt ..
      rw [← e2, ← e1]
    rw [e, hx]
    exact gr_frac (Int.mul_ne_zero (by omega) (by omega)) dv
  have s0 : 0 ≤ Rat.divInt a b := (dI_le hb).mpr ha
  have s1 : Rat.divInt a b ≤ 40 := by
    have e : Rat.divInt (a - 40 * b) b = Rat.divInt a b - 40 := by
      have z := DL.rz hb
      simp only [Rat.divInt_eq_div, Rat.intCast_sub, Rat.intCast_mul]
      rw [show (((40 : Int)) : Rat) = 40 from rfl]
      grind
    have := dI_le (a := -(a - 40 * b)) hb
    have e2 : Rat.divInt (-(a - 40 * b)) b = 40 - Rat.divInt a b := by rw [DL.dI_neg, e]; grind
    rw [e2] at this
    have := this.mpr (by omega)
    grind
  have b1 := unit_le h.one
  have b2 := unit_le (x := u.2) (y := u.1) (by have := h.one; grind)
  generalize Rat.divInt a b = S at *
  have e40 : ((40 : Nat) : Rat) = 40 := rfl
  have aux : ∀ x : Rat, -1 ≤ x ∧ x ≤ 1 → -40 ≤ x * S ∧ x * S ≤ 40 := by
    intro x ⟨h1, h2⟩
    have q1 := Rat.mul_nonneg (show 0 ≤ 1 - x by grind) s0
    have q2 := Rat.mul_nonneg (show 0 ≤ 1 + x by grind) s0
    exact ⟨by grind, by grind⟩
  refine ⟨⟨g u.1 rfl, g u.2 h.d2⟩, ?_, ?_⟩ <;> rw [e40]
  · exact aux _ b1
  · exact aux _ b2
end DM
namespace DL
open PySem PySem.Spec L2 DM
/-- a statement, what follows kept as a letter -/
theorem seq_k {s s' : DS} {N : DEnds} {δ : DSt} (h : ∀ K : DSt → Prop, (∀ δ, s' N δ → K δ) → s { N with nx := K } δ) : dSeq s s' N δ := h _ (fun _ z => z)
/-! a product with one small side -/
section
variable {X : Cx} {Z : Ent}
end
/-! ### the second family of draws -/
/-- what stands in a way's step -/
inductive En where
  | hop (b f : Rat × Rat)
  | cut (ct : Ct) (r : Rat)
def fin : En → Rat × Rat
  | .hop _ f => f
  | .cut (.line _ f) _ => f
  | .cut (.arc _ f _ _) _ => f
/-- sizes, and that headings are of length 1 -/
def EnOk : En → Prop
  | .hop b f => Bc 61 b ∧ Bc 61 f
  | .cut ct r => CtOk 61 r ct ∧ Bd 9 r ∧ ((hd0 r ct).1 * (hd0 r ct).1 + (hd0 r ct).2 * (hd0 r ct).2 = 1 ∧ Bd2 20 (hd0 r ct)) ∧ ((hd1 r ct).1 * (hd1 r ct).1 + (hd1 r ct).2 * (hd1 r ct).2 = 1 ∧ Bd2 20 (hd1 r ct))
/-- an entry of a way -/
structure Et where
  e : En
  pace : Int
  num : Int
def EtOk (t : Et) : Prop := EnOk t.e ∧ (0 ≤ t.pace ∧ t.pace ≤ 9) ∧ (0 ≤ t.num ∧ t.num < 1000)
end DL
namespace DM
open DL
/-! headings turned, arcs drawn -/
theorem unit_num {x y : Rat} (h : x * x + y * y = 1) : x.num.natAbs ≤ x.den := by
  obtain ⟨h1, h2⟩ := unit_le h
  have e : (x.num : Rat) = x * ((x.den : Int) : Rat) := by
    have z : ((x.den : Int) : Rat) ≠ 0 := DL.rz (by have := x.den_pos; omega)
    have e : x = (x.num : Rat) / ((x.den : Int) : Rat) := by rw [← Rat.divInt_eq_div]; exact (Rat.num_divInt_den x).symm
    generalize (x.num : Rat) = a at *
    generalize ((x.den : Int) : Rat) = b at *
    rw [e]
    grind
  have pos : (0 : Rat) < ((x.den : Int) : Rat) := by
    rw [show (0 : Rat) = ((0 : Int) : Rat) from rfl]
    exact Rat.intCast_lt_intCast.mpr (by have := x.den_pos; omega)
  have l1 : (x.num : Rat) ≤ ((x.den : Int) : Rat) := by
    have : 0 ≤ (1 - x) * ((x.den : Int) : Rat) := Rat.mul_nonneg (by grind) (by grind)
    grind
  have l2 : ((-(x.den : Int) : Int) : Rat) ≤ (x.num : Rat) := by
    have : 0 ≤ (1 + x) * ((x.den : Int) : Rat) := Rat.mul_nonneg (by grind) (by grind)
    rw [Rat.intCast_neg]
    grind
  have m1 := Rat.intCast_le_intCast.mp l1
  have m2 := Rat.intCast_le_intCast.mp l2
  omega
theorem Hd.flip {m : Nat} {u : Rat × Rat} (h : Hd m u) : u.2 * u.2 + u.1 * u.1 = 1 := by have := h.one; grind
theorem Hd.bc {m n : Nat} {u : Rat × Rat} (h : Hd m u) (hm : m < 2 ^ n) : Bc n u := by
  have h1 := unit_num h.one
  have h2 := unit_num h.flip
  have := h.d1
  have := h.d2
  have := u.1.den_pos
  refine ⟨u.1.num, u.2.num, u.1.den, by omega, (Rat.num_divInt_den _).symm, ?_, by omega, by omega, by omega⟩
  rw [← h.d2]
  exact (Rat.num_divInt_den _).symm
theorem Hd.mono {m n : Nat} {u : Rat × Rat} (h : Hd m u) (e : m ≤ n) : Hd n u := ⟨h.one, Nat.le_trans h.d1 e, h.d2⟩
theorem side_sq {w : Int} (h : w = 1 ∨ w = -1) : (w : Rat) * (w : Rat) = 1 := by
  rcases h with rfl | rfl
  · rw [show (((1 : Int) : Rat)) = 1 from rfl]
    grind
  · rw [show (((-1 : Int) : Rat)) = -1 from rfl]
    grind
theorem side_den {w : Int} {x : Rat} (h : w = 1 ∨ w = -1) : ((w : Rat) * x).den = x.den := by
  rcases h with rfl | rfl
  · rw [show (((1 : Int) : Rat)) = 1 from rfl, Rat.one_mul]
  · rw [show (((-1 : Int) : Rat)) = -1 from rfl, show (-1 : Rat) * x = -x by grind, Rat.neg_den]
theorem Hd.side {m : Nat} {u : Rat × Rat} {w : Int} (h : Hd m u) (hw : w = 1 ∨ w = -1) : Hd m ((w : Rat) * u.1, (w : Rat) * u.2) := by
  have e := side_sq hw
  have o := h.one
  refine ⟨?_, ?_, ?_⟩
  · show (w : Rat) * u.1 * ((w : Rat) * u.1) + (w : Rat) * u.2 * ((w : Rat) * u.2) = 1
    generalize (w : Rat) = W at *
    grind
  · show ((w : Rat) * u.1).den ≤ m
    rw [side_den hw]
    exact h.d1
  · show ((w : Rat) * u.2).den = ((w : Rat) * u.1).den
    rw [side_den hw, side_den hw]
    exact h.d2
theorem Hd.spoke {m : Nat} {u : Rat × Rat} {w : Int} (h : Hd m u) (hw : w = 1 ∨ w = -1) : Hd m ((w : Rat) * u.2, -((w : Rat) * u.1)) := by
  have e := side_sq hw
  have o := h.one
  refine ⟨?_, ?_, ?_⟩
  · show (w : Rat) * u.2 * ((w : Rat) * u.2) + -((w : Rat) * u.1) * -((w : Rat) * u.1) = 1
    generalize (w : Rat) = W at *
    grind
  · show ((w : Rat) * u.2).den ≤ m
    rw [side_den hw, h.d2]
    exact h.d1
  · show (-((w : Rat) * u.1)).den = ((w : Rat) * u.2).den
    rw [Rat.neg_den, side_den hw, side_den hw, h.d2]
theorem Gr.neg {u : Rat} (h : Gr u) : Gr (-u) := by
  obtain ⟨a, rfl⟩ := h
  exact ⟨-a, by rw [DL.dI_neg]⟩
theorem Pl.neg {k : Nat} {p : Rat × Rat} (h : Pl k p) : Pl k (-p.1, -p.2) := by
  obtain ⟨⟨a1, a2⟩, ⟨b1, b2⟩, c1, c2⟩ := h
  exact ⟨⟨a1.neg, a2.neg⟩, ⟨by simp only; grind, by simp only; grind⟩, ⟨by simp only; grind, by simp only; grind⟩⟩
end DM
namespace DL
open PySem PySem.Spec L2 DM
/-- a comprehension over things ts, kept by p, each told as F -/
theorem lc_filt {α : Type} {g : DG} {tt : DT} {te : DE} {vs : List Nat} [GMono g] [TMono tt] [EMono te] {Q : List PyData → DSt → Prop} {ts : List α} {mk : α → PyData} {δ0 : DSt} (p : α → Bool) (F : α → PyData) (hn : ts.length ≤ sizeLine)
    (hs : ∀ t ∈ ts, ∀ (R : PyData → DSt → Prop) (R' : DSt → Prop), (p t = true → ∀ δ4, dwipe δ4 vs = δ0 → R (F t) δ4) → (p t = false → ∀ δ3, dwipe δ3 vs = δ0 → R' δ3) → g (mk t) δ0 fun δ2 => tt δ2 fun b δ3 => match b with
      | true => te δ3 R
      | false => R' δ3) (hd : Q ((ts.filter p).map F) δ0) : dLcL g tt te vs Q (ts.map mk) [] δ0 := by
  refine lc_at (fun j acc δ => δ = δ0 ∧ acc = ((ts.take j).filter p).map F) _ ⟨rfl, by rw [List.take_zero]; rfl⟩ ?_ ?_
  · rintro W hW j d acc δ hj ⟨rfl, rfl⟩
    rw [List.getElem?_map] at hj
    cases e : ts[j]? with
    | none => rw [e] at hj; exact nomatch hj
    | some t =>
      rw [e] at hj
      cases hj
      have hlt := get_lt e
      have et : ts.take (j + 1) = ts.take j ++ [t] := by rw [List.take_add_one, e]; rfl
      have hlen : (((ts.take j).filter p).map F).length < sizeLine := by
        rw [List.length_map]
        have := List.length_filter_le p (ts.take j)
        rw [List.length_take] at this
        omega
      refine GMono.m (t := g) _ _ _ _ (fun δ2 z => TMono.m (t := tt) _ _ _ (fun b δ3 z => ?_) z) (hs t (List.mem_of_getElem? e) (fun y δ4 => (((ts.take j).filter p).map F).length < sizeLine ∧ W (j + 1) (((ts.take j).filter p).map F ++ [y]) (dwipe δ4 vs)) (fun δ3 => W (j + 1) (((ts.take j).filter p).map F) (dwipe δ3 vs)) (fun hp δ4 e4 => ⟨hlen, hW _ _ _ ⟨e4, ?_⟩⟩) (fun hp δ3 e3 => hW _ _ _ ⟨e3, ?_⟩))
      · cases b with
        | true => exact EMono.m (t := te) _ _ _ (fun y δ4 z => z) z
        | false => exact z
      · rw [et, List.filter_append, List.filter_cons_of_pos hp, List.map_append]
        rfl
      · rw [et, List.filter_append, List.filter_cons_of_neg (by rw [hp]; decide), List.map_append]
        rw [show List.filter p [] = [] from rfl, List.map_nil, List.append_nil]
  · rintro acc δ ⟨rfl, rfl⟩
    rw [List.length_map, List.take_length]
    exact hd
theorem lc_map {α : Type} {g : DG} {tt : DT} {te : DE} {vs : List Nat} [GMono g] [TMono tt] [EMono te] {Q : List PyData → DSt → Prop} {ts : List α} {mk : α → PyData} {δ0 : DSt} (F : α → PyData) (hn : ts.length ≤ sizeLine)
    (hs : ∀ t ∈ ts, ∀ (R : PyData → DSt → Prop), (∀ δ4, dwipe δ4 vs = δ0 → R (F t) δ4) → g (mk t) δ0 fun δ2 => tt δ2 fun b δ3 => match b with
      | true => te δ3 R
      | false => False) (hd : Q (ts.map F) δ0) : dLcL g tt te vs Q (ts.map mk) [] δ0 := by
  refine lc_filt (fun _ => true) F hn (fun t ht R R' h1 _ => ?_) (by rw [List.filter_eq_self.mpr (fun _ _ => rfl)]; exact hd)
  refine GMono.m (t := g) _ _ _ _ (fun δ2 z => TMono.m (t := tt) _ _ _ (fun b δ3 z => ?_) z) (hs t ht R (h1 rfl))
  cases b with
  | true => exact z
  | false => exact z.elim
end DL

/-! zips of three and four lists (printed by mkzip.py) -/
namespace DZ
open PySem Sem
section
variable {prog : Program} {w : World} {A : Around} {E : Value → Shared → Prop} {s : Shared}
end
section
variable {prog : Program} {w : World} {A : Around} {E : Value → Shared → Prop} {s : Shared}
end
section
variable {prog : Program} {w : World} {A : Around} {E : Value → Shared → Prop} {s : Shared}
end
section
variable {prog : Program} {w : World} {A : Around} {E : Value → Shared → Prop} {s : Shared}
end
end DZ
namespace DL
open PySem PySem.Spec PyProof.Rows L2 DZ
end DL
namespace DL
open PySem PySem.Spec L2
section
variable {X : Cx} {Z : Ent} {pos : Pos}
end
section
variable {X : Cx} {Z : Ent} {pos : Pos}
end
end DL

/-! more rules: min of three, ranges with a step, list(range), stores to slices, displays times an int, keywords in any order -/
namespace DL
open PySem PySem.Spec PyProof.Rows L2 DM
section
variable {X : Cx} {Z : Ent} {pos : Pos} {tg : Expr}
/-! ### min of three -/
/-! ### range(a, b, -1) -/
/-! ### list(range(a, b)) -/
/-! ### a display times an int -/
/-! ### xs[::-1] of lists and tuples -/
open HT in
theorem pe_revB {e : Expr} {te : TE} {k} {p1 p2 p3 : Pos} (he : PE X e te) : PE X (.Subscript e (.Slice none none (some (.UnaryOp .USub (.Constant (.int 1) k p1) p2)) p3) pos) (fun σ H Q => te σ H fun x H1 => (∃ a xs, x = .ref a ∧ SqT X.K H1 a xs ∧ ∀ p, H1 p = none → Q (.ref p) (upd H1 p (.tup xs.reverse))) ∨ (∃ a xs, x = .ref a ∧ SqL X.K H1 a xs ∧ ∀ p, H1 p = none → Q (.ref p) (upd H1 p (.lst xs.reverse)))) := by
  refine ⟨fun pins s σ H Q I h => ?_⟩
  refine Subscript_ (thn (he.run pins s σ H _ I h) fun v s1 ⟨x, H1, I1, r1, q1⟩ => ?_)
  rcases q1 with ⟨a, xs, ex, hx, q⟩ | ⟨a, xs, ex, hx, q⟩
  · subst ex
    cases r1
    have hst : PO X (some (.UnaryOp .USub (.Constant (.int 1) k p1) p2)) (tPart (tUn (rU fun i => .int (-i)) (tC (.int 1)))) := po_some (pe_un un_neg pe_int)
    refine wpAny_Slice (thn (po_none.run pins s1 σ H1 (fun o H2 => o = none ∧ H2 = H1) I1 ⟨rfl, rfl⟩) fun vl s2 ⟨l, H2, I2, pl, el, e2⟩ => ?_)
    subst el e2
    refine thn (po_none.run pins s2 σ H2 (fun o H3 => o = none ∧ H3 = H2) I2 ⟨rfl, rfl⟩) fun vu s3 ⟨u, H3, I3, pu, eu, e3⟩ => ?_
    subst eu e3
    refine thn (hst.run pins s3 σ H3 (fun o H4 => o = some (-1) ∧ H4 = H3) I3 ⟨1, rfl, -1, rfl, rfl, rfl⟩) fun vs s4 ⟨o, H4, I4, ps, eo, e4⟩ => ?_
    subst eo e4
    have I5 : Inv X pins σ H4 { s4 with heap := s4.heap.push { cls := .type "slice", data := .fields #[vl, vu, vs] } } := I4.kept (t' := s4.toks) fun b ob q => Heap.get?_push_of_some _ q
    obtain ⟨its, r, ht, hz⟩ := I5.tuple hx
    have hlen : its.toArray.size = xs.length := by rw [List.size_toArray]; exact r.length.symm
    show wpAny (model X.prog X.w) X.A (subscriptTail e (.Slice none none (some (.UnaryOp .USub (.Constant (.int 1) k p1) p2)) p3) (.ref a) (.ref s4.heap.objs.size)) (EP X pins σ Q) X.xe { s4 with heap := s4.heap.push { cls := .type "slice", data := .fields #[vl, vu, vs] } }
    refine tail_any (ops := [.ref a, .ref s4.heap.objs.size]) ht.typeIs (PyProof.Rows.slot_tuple_getitem.lookup) ?_ (by with_unfolding_all rfl)
    refine getItem_rev ht (Heap.IsSliceOf.new _ vl vu vs) pl pu ps ?_ (by rw [hlen]; exact hz)
    refine ⟨.ref _, _, I5.laid (t' := s4.toks) (o := .tup xs.reverse) (fun b ob q => Heap.get?_push_of_some _ q) (Nat.le_refl _) ?_, rfl, q _ (I5.hok.fresh (Nat.le_refl _))⟩
    exact ⟨by rw [List.length_reverse]; exact hz, _, r.reverse, IsTup.new _ _⟩
  · subst ex
    cases r1
    have hst : PO X (some (.UnaryOp .USub (.Constant (.int 1) k p1) p2)) (tPart (tUn (rU fun i => .int (-i)) (tC (.int 1)))) := po_some (pe_un un_neg pe_int)
    refine wpAny_Slice (thn (po_none.run pins s1 σ H1 (fun o H2 => o = none ∧ H2 = H1) I1 ⟨rfl, rfl⟩) fun vl s2 ⟨l, H2, I2, pl, el, e2⟩ => ?_)
    subst el e2
    refine thn (po_none.run pins s2 σ H2 (fun o H3 => o = none ∧ H3 = H2) I2 ⟨rfl, rfl⟩) fun vu s3 ⟨u, H3, I3, pu, eu, e3⟩ => ?_
    subst eu e3
    refine thn (hst.run pins s3 σ H3 (fun o H4 => o = some (-1) ∧ H4 = H3) I3 ⟨1, rfl, -1, rfl, rfl, rfl⟩) fun vs s4 ⟨o, H4, I4, ps, eo, e4⟩ => ?_
    subst eo e4
    have I5 : Inv X pins σ H4 { s4 with heap := s4.heap.push { cls := .type "slice", data := .fields #[vl, vu, vs] } } := I4.kept (t' := s4.toks) fun b ob q => Heap.get?_push_of_some _ q
    obtain ⟨its, r, ht, hz⟩ := I5.list hx
    have hlen : its.toArray.size = xs.length := by rw [List.size_toArray]; exact r.length.symm
    show wpAny (model X.prog X.w) X.A (subscriptTail e (.Slice none none (some (.UnaryOp .USub (.Constant (.int 1) k p1) p2)) p3) (.ref a) (.ref s4.heap.objs.size)) (EP X pins σ Q) X.xe { s4 with heap := s4.heap.push { cls := .type "slice", data := .fields #[vl, vu, vs] } }
    refine tail_any (ops := [.ref a, .ref s4.heap.objs.size]) ht.isList.typeIs (slot_list_getitem.lookup) ?_ (by with_unfolding_all rfl)
    refine wpAny_getItem_list_slice ht.isList (Heap.IsSliceOf.new _ vl vu vs) pl pu ps (by decide) ?_ (by rw [hlen]; exact hz)
    rw [PySem.W.krv_pick]
    refine ⟨.ref _, _, I5.laid (t' := s4.toks) (o := .lst xs.reverse) (fun b ob q => Heap.get?_push_of_some _ q) (Nat.le_refl _) ?_, rfl, q _ (I5.hok.fresh (Nat.le_refl _))⟩
    exact ⟨by rw [List.length_reverse]; exact hz, _, _, r.reverse, Heap.get?_push_size _ rfl⟩
def rRevA (d : PyData) (Q : PyData → Prop) : Prop := match d with
  | .tuple xs => Q (.tuple xs.reverse)
  | .list xs => Q (.list xs.reverse)
  | _ => False
theorem rRevA_mono (d : PyData) (Q Q' : PyData → Prop) (h : ∀ z, Q z → Q' z) (q : rRevA d Q) : rRevA d Q' := by
  cases d <;> first | exact h _ q | exact q
theorem revA_t {xs : List PyData} {Q : PyData → Prop} : rRevA (.tuple xs) Q = Q (.tuple xs.reverse) := rfl
theorem revA_l {xs : List PyData} {Q : PyData → Prop} : rRevA (.list xs) Q = Q (.list xs.reverse) := rfl
def dRevA (t : DE) : DE := fun δ Q => t δ fun d δ' => rRevA d fun z => Q z δ'
theorem de_revA {e : Expr} {t : DE} {k} {p1 p2 p3 : Pos} (he : De X Z e t) : De X Z (.Subscript e (.Slice none none (some (.UnaryOp .USub (.Constant (.int 1) k p1) p2)) p3) pos) (dRevA t) := by
  refine ⟨⟨fun pins s σ H Q I ⟨Hs, δ, R, q⟩ => ?_⟩, fun δ Q Q' hq q => he.mono _ _ _ (fun d δ' z => rRevA_mono _ _ _ (fun _ z => hq _ _ z) z) q⟩
  have hA : PE X e (lE X.K Z t) := he.run
  -- the two kinds are told apart by what e gives
  have both : PE X (.Subscript e (.Slice none none (some (.UnaryOp .USub (.Constant (.int 1) k p1) p2)) p3) pos) (fun σ H Q => lE X.K Z t σ H fun x H1 => (∃ a xs, x = .ref a ∧ SqT X.K H1 a xs ∧ ∀ p, H1 p = none → Q (.ref p) (upd H1 p (.tup xs.reverse))) ∨ (∃ a xs, x = .ref a ∧ SqL X.K H1 a xs ∧ ∀ p, H1 p = none → Q (.ref p) (upd H1 p (.lst xs.reverse)))) := pe_revB hA
  refine both.run pins s σ H Q I ⟨Hs, δ, R, he.mono _ _ _ (fun d δ1 q v Hs1 H1 s1 R1 dp => ?_) q⟩
  cases d with
  | tuple xs =>
    cases dp with
    | tup hs ha =>
      rename_i a vs
      refine .inl ⟨a, vs, rfl, sqt_mono R1.sub hs, fun p np => ?_⟩
      have s4 : Same Hs1 (upd Hs1 p (.tup vs.reverse)) := same_new (R1.hsn np)
      exact q (.ref p) _ _ (s1.trans s4) (R1.alloc np) (.tup (SqT.of upd_same) (dpa_rev (ha.up s4)))
  | list xs =>
    cases dp with
    | lst hs ha =>
      rename_i a vs
      refine .inr ⟨a, vs, rfl, R1.sub.seq hs, fun p np => ?_⟩
      have s4 : Same Hs1 (upd Hs1 p (.lst vs.reverse)) := same_new (R1.hsn np)
      exact q (.ref p) _ _ (s1.trans s4) (R1.alloc np) (.lst (SqL.of upd_same) (dpa_rev (ha.up s4)))
  | _ => exact q.elim
instance {t : DE} [EMono t] : EMono (dRevA t) := ⟨fun δ Q Q' hq q => EMono.m (t := t) _ _ _ (fun d δ' z => rRevA_mono _ _ _ (fun _ z => hq _ _ z) z) q⟩
/-! ### xs[a:b] = a new list of one's own -/
end
end DL
namespace DL
open PySem PySem.Spec PyProof.Rows L2 DM
section
variable {K : Fg} {x qual : Str} {params : Arguments} {body : List Stmt} {scope : Scope} {kws : List (Str × V)} {f : Addr} {fd : FuncData} {ps : List Str}
end
end DL

/-! DMa: the ways family: gears, caps, entries as data -/
namespace DL
open PySem PySem.Spec L2 DM
/-- sizes that the program's defs want of a way's steps -/
def EnW : En → Prop
  | .hop b f => Bc 90 b ∧ Bc 90 f
  | .cut ct r => CtOk 90 r ct ∧ Bd 30 r ∧ ((hd0 r ct).1 * (hd0 r ct).1 + (hd0 r ct).2 * (hd0 r ct).2 = 1 ∧ Bd2 40 (hd0 r ct)) ∧ ((hd1 r ct).1 * (hd1 r ct).1 + (hd1 r ct).2 * (hd1 r ct).2 = 1 ∧ Bd2 40 (hd1 r ct))
def EtW (t : Et) : Prop := EnW t.e ∧ (0 ≤ t.pace ∧ t.pace ≤ 9) ∧ (0 ≤ t.num ∧ t.num < 1000)
theorem EnOk.w {e : En} (h : EnOk e) : EnW e := by
  cases e with
  | hop b f => exact ⟨h.1.mono (by decide), h.2.mono (by decide)⟩
  | cut ct r =>
    obtain ⟨h1, h2, ⟨h3, h4⟩, h5, h6⟩ := h
    refine ⟨?_, h2.mono (by decide), ⟨h3, h4.1.mono (by decide), h4.2.mono (by decide)⟩, h5, h6.1.mono (by decide), h6.2.mono (by decide)⟩
    cases ct with
    | line b f => exact ⟨⟨h1.1.1.mono (by decide), h1.1.2.mono (by decide)⟩, h1.2⟩
    | arc b f o w => exact ⟨⟨h1.1.1.mono (by decide), h1.1.2.1.mono (by decide), h1.1.2.2.mono (by decide)⟩, h1.2⟩
theorem EtOk.w {t : Et} (h : EtOk t) : EtW t := ⟨h.1.w, h.2⟩
theorem dI_pos {a b : Int} (ha : 0 < a) (hb : 0 < b) : 0 < Rat.divInt a b := by
  have := (dI_le (a := a) hb).mpr (by omega)
  have ne : Rat.divInt a b ≠ 0 := by
    rw [Rat.divInt_eq_div]
    have z := DL.rz hb
    have z' := DL.rz ha
    generalize (a : Rat) = A at *
    generalize (b : Rat) = B at *
    grind
  grind
def gearN : Nat → Rat → Rat → Nat
  | 0, _, _ => 0
  | k + 1, pt, bd => if ((k + 1 : Nat) : Rat) * ((k + 1 : Nat) : Rat) * pt ≤ bd then k + 1 else gearN k pt bd
def capOf (pl : Rat) (t : Et) : Int :=
  match t.e with
  | .hop _ _ => 0
  | .cut (.line _ _) _ => t.pace
  | .cut (.arc _ _ _ _) r => (gearN t.pace.toNat 1 (pl * r) : Nat)
theorem Gd.eqv {n : Nat} {d : PyData} (h : Gd n d) : PyData.eqv d d = true := SeqAt.eqv_refl d h.can.1
end DL

/-! DMb: gears at joints, plans: the plain law -/
namespace DL
open PySem PySem.Spec L2 DM
/-! ### lists by functions -/
/-! ### the greatest gears -/
structure Sol (n : Nat) (c r d S : Nat → Int) : Prop where
  le : ∀ i, i ≤ n → S i ≤ c i
  up : ∀ k, k < n → S (k + 1) ≤ S k + r k
  dn : ∀ k, k < n → S k ≤ S (k + 1) + d k
structure Grt (n : Nat) (c r d G : Nat → Int) : Prop where
  sol : Sol n c r d G
  top : ∀ S, Sol n c r d S → ∀ i, i ≤ n → S i ≤ G i
theorem Grt.uniq {n : Nat} {c r d G G' : Nat → Int} (h : Grt n c r d G) (h' : Grt n c r d G') {i : Nat} (hi : i ≤ n) : G i = G' i := by
  have := h.top G' h'.sol i hi
  have := h'.top G h.sol i hi
  omega
def gfw (c r : Nat → Int) : Nat → Int
  | 0 => c 0
  | k + 1 => min (c (k + 1)) (gfw c r k + r k)
/-- from n down: m steps -/
def bwk (F d : Nat → Int) (n : Nat) : Nat → Int
  | 0 => F n
  | m + 1 => min (F (n - (m + 1))) (bwk F d n m + d (n - (m + 1)))
def gbw (F d : Nat → Int) (n i : Nat) : Int := bwk F d n (n - i)
theorem gbw_n (F d : Nat → Int) (n : Nat) : gbw F d n n = F n := by rw [gbw, Nat.sub_self]; rfl
theorem gbw_k {F d : Nat → Int} {n k : Nat} (h : k < n) : gbw F d n k = min (F k) (gbw F d n (k + 1) + d k) := by
  obtain ⟨m, hm⟩ : ∃ m, n - k = m + 1 := ⟨n - k - 1, by omega⟩
  rw [gbw, gbw, hm, show n - (k + 1) = m by omega, bwk, show n - (m + 1) = k by omega]
def gr (n : Nat) (c r d : Nat → Int) : Nat → Int := gbw (gfw c r) d n
theorem gfw_le {c r : Nat → Int} (k : Nat) : gfw c r k ≤ c k := by
  cases k with
  | zero => exact Int.le_refl _
  | succ k => exact Int.min_le_left _ _
theorem gbw_le {F d : Nat → Int} {n k : Nat} (h : k ≤ n) : gbw F d n k ≤ F k := by
  rcases Nat.lt_or_ge k n with z | z
  · rw [gbw_k z]
    exact Int.min_le_left _ _
  · rw [show k = n by omega, gbw_n]
    exact Int.le_refl _
theorem gr_grt {n : Nat} {c r d : Nat → Int} (hr : ∀ k, k < n → 0 ≤ r k) (hd : ∀ k, k < n → 0 ≤ d k) : Grt n c r d (gr n c r d) := by
  refine ⟨⟨fun i hi => Int.le_trans (gbw_le hi) (gfw_le i), fun k hk => ?_, fun k hk => ?_⟩, fun S s i hi => ?_⟩
  · show gbw _ _ _ _ ≤ gbw _ _ _ _ + _
    rw [gbw_k hk]
    have h1 := gbw_le (F := gfw c r) (d := d) (n := n) (k := k + 1) (by omega)
    have h2 : gfw c r (k + 1) ≤ gfw c r k + r k := Int.min_le_right _ _
    have := hr k hk
    have := hd k hk
    omega
  · show gbw _ _ _ _ ≤ gbw _ _ _ _ + _
    rw [gbw_k hk]
    exact Int.min_le_right _ _
  · have f : ∀ k, k ≤ n → S k ≤ gfw c r k := by
      intro k
      induction k with
      | zero => intro _; exact s.le 0 (by omega)
      | succ k ih =>
        intro hk
        have := ih (by omega)
        have := s.up k (by omega)
        have := s.le (k + 1) hk
        show _ ≤ min _ _
        omega
    have b : ∀ m, m ≤ n → S (n - m) ≤ gbw (gfw c r) d n (n - m) := by
      intro m
      induction m with
      | zero => intro _; rw [Nat.sub_zero, gbw_n]; exact f n (Nat.le_refl _)
      | succ m ih =>
        intro hm
        have hk : n - (m + 1) < n := by omega
        rw [gbw_k hk, show n - (m + 1) + 1 = n - m by omega]
        have := ih (by omega)
        have := f (n - (m + 1)) (by omega)
        have := s.dn (n - (m + 1)) hk
        rw [show n - (m + 1) + 1 = n - m by omega] at this
        omega
    have := b (n - i) (by omega)
    rw [show n - (n - i) = i by omega] at this
    exact this
/-! sums -/
def sm (n : Nat) (f : Nat → Int) : Int := match n with
  | 0 => f 0
  | n + 1 => sm n f + f (n + 1)
/-! ### tops -/
def climb (p : Int → Bool) : Nat → Int → Int
  | 0, t => t
  | n + 1, t => if p (t + 1) = true then climb p n (t + 1) else t
theorem climb_hit {p : Int → Bool} {n : Nat} {t : Int} (h : p (t + 1) = true) : climb p (n + 1) t = climb p n (t + 1) := if_pos h
theorem climb_miss {p : Int → Bool} {n : Nat} {t : Int} (h : p (t + 1) = false) : climb p n t = t := by
  cases n with
  | zero => rfl
  | succ n => exact if_neg (by rw [h]; decide)
theorem climb_ge {p : Int → Bool} : ∀ {n : Nat} {t : Int}, t ≤ climb p n t ∧ climb p n t ≤ t + n
  | 0, t => ⟨Int.le_refl _, by show t ≤ _; omega⟩
  | n + 1, t => by
    cases h : p (t + 1)
    · rw [climb_miss h]
      omega
    · rw [climb_hit h]
      have := climb_ge (p := p) (n := n) (t := t + 1)
      omega
/-- the greatest one that is let, where what is let is let below -/
theorem climb_top {p : Int → Bool} : ∀ {n : Nat} {t : Int}, (∀ x, t ≤ x → p (x + 1) = true → p x = true) → ∀ x, t ≤ x → x ≤ t + n → p x = true → x ≤ climb p n t
  | 0, t, _, x, h1, h2, _ => by show x ≤ t; omega
  | n + 1, t, hd, x, h1, h2, hx => by
    cases e : p (t + 1)
    · rw [climb_miss e]
      apply Classical.byContradiction
      intro z
      have : ∀ m : Nat, ∀ y, t + 1 ≤ y → y = t + 1 + m → p y = true → False := by
        intro m
        induction m with
        | zero => intro y _ ey hy; rw [ey] at hy; simp at hy; rw [e] at hy; exact nomatch hy
        | succ m ih =>
          intro y h1 ey hy
          refine ih (y - 1) (by omega) (by omega) (hd (y - 1) (by omega) ?_)
          rw [show y - 1 + 1 = y by omega]
          exact hy
      exact this (x - (t + 1)).toNat x (by omega) (by omega) hx
    · rw [climb_hit e]
      rcases (show t < x ∨ x ≤ t by omega) with z | z
      · exact climb_top (n := n) (fun y hy => hd y (by omega)) x (by omega) (by omega) hx
      · have := climb_ge (p := p) (n := n) (t := t + 1)
        omega
end DL

/-! DMc: joints, plans: promises -/
namespace DL
open PySem PySem.Spec L2 DM
/-! ### floors -/
theorem floor_nn {u : Rat} (h : 0 ≤ u) : 0 ≤ u.floor := by
  rw [Rat.le_floor_iff]
  exact h
theorem div_nn {r b : Rat} (hr : 0 ≤ r) (hb : 0 < b) : 0 ≤ r / b := by
  rw [Rat.div_def]
  exact Rat.mul_nonneg hr (by have := Rat.inv_pos.mpr hb; grind)
/-! ### what is known of steps -/
structure Lim where
  pl : Rat
  jt : Rat
  up : Rat
  dn : Rat
def LimOk (l : Lim) : Prop := (0 < l.pl ∧ Bd 100 l.pl) ∧ (0 < l.jt ∧ Bd 100 l.jt) ∧ (0 < l.up ∧ Bd 100 l.up) ∧ (0 < l.dn ∧ Bd 100 l.dn)
def dotR (u v : Rat × Rat) : Rat := u.1 * v.1 + u.2 * v.2
def joltOf (jt : Rat) : En → En → Int
  | .cut c r, .cut c' r' => if hd1 r c = hd0 r' c' then 9 else ((gearN 9 (2 - 2 * dotR (hd1 r c) (hd0 r' c')) (jt * jt) : Nat) : Int)
  | _, _ => 0
def jcap (pl jt : Rat) (a b : Et) : Int := min (min (capOf pl a) (capOf pl b)) (joltOf jt a.e b.e)
def jcaps (pl jt : Rat) (ts : List Et) : Nat → Int
  | 0 => 0
  | k + 1 => match ts[k]?, ts[k + 1]? with
    | some a, some b => jcap pl jt a b
    | _, _ => 0
def chg (by_ : Rat) : En → Int
  | .cut (.line _ _) r => (r / by_).floor
  | _ => 0
def et0 : Et := ⟨.hop (0, 0) (0, 0), 0, 0⟩
def chgs (by_ : Rat) (ts : List Et) (k : Nat) : Int := chg by_ (ts.getD k et0).e
def fitR (r up dn : Rat) (a t l : Int) : Bool := decide (((t - a : Int) : Rat) * up + ((t - l : Int) : Rat) * dn ≤ r)
def fitE (up dn : Rat) (e : En) (a l t : Int) : Bool := match e with
  | .cut (.line _ _) r => decide (a ≤ t) && decide (l ≤ t) && fitR r up dn a t l
  | _ => decide (a = t) && decide (t = l)
def topE (up dn : Rat) (e : En) (cap a l : Int) : Int := climb (fitE up dn e a l) (cap - max a l).toNat (max a l)
/-- a plan by its joints' gears -/
def planG (l : Lim) (ts : List Et) (G : Nat → Int) : List (Int × Int × Int) := (List.range ts.length).map fun i => (G i, topE l.up l.dn (ts.getD i et0).e (capOf l.pl (ts.getD i et0)) (G i) (G (i + 1)), G (i + 1))
def gears (l : Lim) (ts : List Et) (c : Nat → Int) : Nat → Int := gr ts.length c (chgs l.up ts) (chgs l.dn ts)
def planL (l : Lim) (ts : List Et) : List (Int × Int × Int) := planG l ts (gears l ts (jcaps l.pl l.jt ts))
/-! ### bounds -/
theorem chg_nn {by_ : Rat} {e : En} (hb : 0 < by_) (h : EnW e) : 0 ≤ chg by_ e := by
  unfold chg
  split
  · exact floor_nn (div_nn (by have := h.1.2.1; grind) hb)
  · exact Int.le_refl _
theorem et0_w : EtW et0 := ⟨⟨⟨0, 0, 1, by decide, by decide, by decide, by decide, by decide, by decide⟩, ⟨0, 0, 1, by decide, by decide, by decide, by decide, by decide, by decide⟩⟩, ⟨by decide, by decide⟩, by decide, by decide⟩
theorem getD_w {ts : List Et} (h : ∀ t ∈ ts, EtW t) (k : Nat) : EtW (ts.getD k et0) := by
  rw [List.getD_eq_getElem?_getD]
  cases e : ts[k]? with
  | none => exact et0_w
  | some t => exact h t (List.mem_of_getElem? e)
theorem chgs_nn {by_ : Rat} {ts : List Et} (hb : 0 < by_) (h : ∀ t ∈ ts, EtW t) (k : Nat) : 0 ≤ chgs by_ ts k := chg_nn hb (getD_w h k).1
theorem getD_of {ts : List Et} {k : Nat} {t : Et} (h : ts[k]? = some t) : ts.getD k et0 = t := by
  rw [List.getD_eq_getElem?_getD, h]
  rfl
/-! ### promises -/
/-! the law's own -/
theorem bools_const {α : Type} (ts : List α) (b : Bool) : bools (ts.map fun _ => PyData.bool b) = some (ts.map fun _ => b) := by
  induction ts with
  | nil => rfl
  | cons t r ih =>
    show (bools (r.map fun _ => PyData.bool b)).map (b :: ·) = _
    rw [ih]
    rfl
theorem all_const {α : Type} (ts : List α) : (ts.map fun _ => true).all id = true := by
  induction ts with
  | nil => rfl
  | cons t r ih => rw [List.map_cons, List.all_cons, ih]; rfl
end DL

/-! DMd: plans: plain lemmas -/
namespace DL
open PySem PySem.Spec L2 DM
theorem fitR_down {r up dn : Rat} {a t l : Int} (hu : 0 < up) (hd : 0 < dn) (h : fitR r up dn a (t + 1) l = true) : fitR r up dn a t l = true := by
  unfold fitR at *
  have h := of_decide_eq_true h
  refine decide_eq_true ?_
  have e1 : ((t + 1 - a : Int) : Rat) = ((t - a : Int) : Rat) + 1 := by rw [show t + 1 - a = (t - a) + 1 by omega, Rat.intCast_add]; rfl
  have e2 : ((t + 1 - l : Int) : Rat) = ((t - l : Int) : Rat) + 1 := by rw [show t + 1 - l = (t - l) + 1 by omega, Rat.intCast_add]; rfl
  rw [e1, e2] at h
  grind
theorem half_num : (Rat.divInt 1 2).num = 1 ∧ (Rat.divInt 1 2).den = 2 := by decide
theorem planG_get {l : Lim} {ts : List Et} {G : Nat → Int} {j : Nat} {t : Et} (h : ts[j]? = some t) : (planG l ts G)[j]? = some (G j, topE l.up l.dn t.e (capOf l.pl t) (G j) (G (j + 1)), G (j + 1)) := by
  rw [planG, List.getElem?_map, List.getElem?_range (get_lt h)]
  show some (G j, topE l.up l.dn (ts.getD j et0).e (capOf l.pl (ts.getD j et0)) (G j) (G (j + 1)), G (j + 1)) = _
  rw [getD_of h]
theorem num_half : PyData.tuple [PyData.int 1, PyData.int 2] = numD (Rat.divInt 1 2) := by
  unfold numD
  rw [half_num.1, half_num.2]
  rfl
end DL

/-! DMe: ways turned about: the plain law of k76 -/
namespace DL
open PySem PySem.Spec L2 DM
/-! ### plans of ways that are alike -/
/-! ### led ways -/
/-! ### gone the other way about -/
/-! ### a hop put in -/
/-! ### promises -/
def LimS (l : Lim) : Prop := (0 < l.pl ∧ Bd 40 l.pl) ∧ (0 < l.jt ∧ Bd 40 l.jt) ∧ (0 < l.up ∧ Bd 40 l.up) ∧ (0 < l.dn ∧ Bd 40 l.dn)
theorem LimS.ok {l : Lim} (h : LimS l) : LimOk l := ⟨⟨h.1.1, h.1.2.mono (by decide)⟩, ⟨h.2.1.1, h.2.1.2.mono (by decide)⟩, ⟨h.2.2.1.1, h.2.2.1.2.mono (by decide)⟩, h.2.2.2.1, h.2.2.2.2.mono (by decide)⟩
end DL

/-! DXa: exceptions by data: raise, calls that may raise, try .. except C as e, what a def lets out. -/
namespace DL
open PySem PySem.Spec L2 PyProof.Rows
/-- what X wants of an exception -/
def canon (X : Cx) : WX := fun cls d σ H => ∀ u s', XE X (fun cls' d' σ' H' => cls' = cls ∧ d' = d ∧ σ' = σ ∧ H' = H) u s' → X.xe u s'
/-- an exception's fields stand in its dict -/
def XfAt (K : Fg) (Hs : Hp) (d : Option Addr) (x : Xd) : Prop := (x.fs = [] ∧ d = none) ∨ ∃ (dd : Addr) (vs : List (Str × V)), d = some dd ∧ Hs dd = some (.xd vs) ∧ ∀ f y, x.fs.lookup f = some y → ∃ v, vs.lookup f = some v ∧ Dp K Hs v y
/-- an exception of the class of that name, with its fields -/
def XAt (K : Fg) (Hs : Hp) (cls : Value) (d : Option Addr) (x : Xd) : Prop := cls = .ref (He.ga K x.C) ∧ XfAt K Hs d x
/-- a dict, where there is one, stands -/
def XdAt (H : Hp) (d : Option Addr) : Prop := d = none ∨ ∃ (dd : Addr) (vs : List (Str × V)), d = some dd ∧ H dd = some (.xd vs)
theorem XfAt.xd {K : Fg} {Hs : Hp} {d : Option Addr} {x : Xd} (h : XfAt K Hs d x) : XdAt Hs d := by
  rcases h with ⟨_, h⟩ | ⟨dd, vs, h1, h2, _⟩
  · exact .inl h
  · exact .inr ⟨dd, vs, h1, h2⟩
theorem XdAt.up {H H' : Hp} {d : Option Addr} (h : XdAt H d) (s : Same H H') : XdAt H' d := by
  rcases h with h | ⟨dd, vs, h1, h2⟩
  · exact .inl h
  · exact .inr ⟨dd, vs, h1, s _ _ h2⟩
/-- the wish ex is X's -/
def XOk (X : Cx) (Z : Ent) (ex : Xd → DSt → Prop) : Prop := ∀ (Hs H : Hp) (σ : L2.St) (δ : DSt) (cls : Value) (d : Option Addr) (x : Xd), Rl X.K Z Hs H σ δ → XAt X.K Hs cls d x → ex x δ → canon X cls d σ H
theorem XOk.none {X : Cx} {Z : Ent} : XOk X Z fun _ _ => False := fun _ _ _ _ _ _ _ _ _ z => z.elim
/-! ### promises -/
abbrev FX := List PyData → (Res → Prop) → (Xd → Prop) → Prop
class XMono (f : FX) : Prop where
  m : ∀ (ds : List PyData) (Q Q' : Res → Prop) (W W' : Xd → Prop), (∀ r, Q r → Q' r) → (∀ x, W x → W' x) → f ds Q W → f ds Q' W'
section
variable {X : Cx} {Z : Ent} {pos : Pos} {ex : Xd → DSt → Prop}
/-! ### raise C() -/
/-! ### calls that may raise -/
section
variable {k : Nat} {g : Addr} {fd : FuncData} {ps : List Str} {f : FX} {x : Str} {e : Expr} {es : List Expr} {t : DL'} {p : Pos} {dvs : List V} {dus : List Value} {dd : List PyData}
end
end
/-! ### a def that may raise keeps its promise -/
section
variable {P : Program} {w : World} {K : Fg} {mg : Str → Option Value} {base : Heap} {x qual : Str} {params : Arguments} {body : List Stmt} {scope : Scope} {dvs : List V} {kws : List (Str × V)} {f : Addr} {fd : FuncData} {N ps : List Str} {k : Nat}
end
end DL

namespace DL
open PySem PySem.Spec L2 PyProof.Rows
/-! ### try: body, except C as e: suite -/
def noxn : Option Sl → Option Sl
  | some (.xn _) => none
  | s => s
def unxn (δ : DSt) : DSt := δ.map noxn
theorem unxn_some {δ : DSt} {i : Nat} {s : Sl} (h : (unxn δ)[i]? = some (some s)) : δ[i]? = some (some s) ∧ ∀ C, s ≠ .xn C := by
  unfold unxn at h
  rw [List.getElem?_map] at h
  cases w : δ[i]? with
  | none => rw [w] at h; cases h
  | some o =>
    rw [w] at h
    cases o with
    | none => cases h
    | some t => cases t <;> first | (cases h; done) | (cases h; exact ⟨rfl, fun C e => nomatch e⟩)
theorem unxn_own {δ : DSt} {i : Nat} {s : Sl} (h : δ[i]? = some (some s)) (o : ∀ C, s ≠ .xn C) : (unxn δ)[i]? = some (some s) := by
  unfold unxn
  rw [List.getElem?_map, h]
  cases s with
  | xn C => exact absurd rfl (o C)
  | _ => rfl
theorem unxn_len {δ : DSt} : (unxn δ).length = δ.length := List.length_map _
section
variable {K : Fg} {Z : Ent} {Hs H : Hp} {σ : L2.St} {δ : DSt}
abbrev Ent.su (Z : Ent) (xa : Option (Addr × Str)) : Ent := ⟨Z.H0, Z.Hs0, Z.own, Z.G, Z.σ0, xa, Z.blk⟩
theorem Rl.unxn {xa : Option (Addr × Str)} (R : Rl K Z Hs H σ δ) : Rl K (Z.su xa) Hs H σ (unxn δ) := by
  refine ⟨by rw [unxn_len, R.len], R.sub, R.ext, R.fr, R.new, R.hid, fun i d e => R.shr i d (unxn_some e).1, ?_, R.grd, fun i s e => R.prm i s (unxn_some e).1, fun i C e => absurd rfl ((unxn_some e).2 C)⟩
  obtain ⟨f, F⟩ := R.fps
  refine ⟨f, ⟨fun i s e => F.at_ i s (unxn_some e).1, fun i h => F.emp i fun s e => ?_, F.hs, F.old, fun i s a e => F.mine i s a (unxn_some e).1, F.dis, F.g⟩⟩
  cases s with
  | xn C => rfl
  | sh d => rfl
  | ow p xs => exact h _ (unxn_own e fun C z => nomatch z)
  | ob p o => exact h _ (unxn_own e fun C z => nomatch z)
theorem FrA.unxn {xa : Option (Addr × Str)} {v : V} {s : Sl} {A : List Addr} (R : Rl K Z Hs H σ δ) (c : FrA K Z Hs H σ δ v s A) : FrA K (Z.su xa) Hs H σ (DL.unxn δ) v s A := by
  refine ⟨c.at_, c.hs, c.mine, fun f' F' j a m m' => ?_, c.g⟩
  obtain ⟨f, F⟩ := R.fps
  have e : f' j = f j := by
    cases ho : f j with
    | nil =>
      refine F'.emp j fun s e => ?_
      cases h : s.own with
      | false => rfl
      | true =>
        obtain ⟨v, k1, k2⟩ := F.at_ j s (unxn_some e).1 h
        obtain ⟨b, _, mb⟩ := k2.head
        rw [ho] at mb
        exact nomatch mb
    | cons b l =>
      have nx : ∀ s, δ[j]? = some (some s) → ∀ C, s ≠ .xn C := fun s e C z => by
        have := F.emp j (fun t et => by rw [e] at et; cases et; rw [z]; rfl)
        rw [ho] at this
        cases this
      rw [← ho]
      refine F.eqj F' j ?_ (fun _ z => z) fun _ _ => rfl
      cases w : δ[j]? with
      | none =>
        unfold DL.unxn
        rw [List.getElem?_map, w]
        rfl
      | some o =>
        cases o with
        | none =>
          unfold DL.unxn
          rw [List.getElem?_map, w]
          rfl
        | some s => exact unxn_own w (nx s w)
  rw [e] at m'
  exact c.dis f F j a m m'
/-- the suite begins -/
theorem Rl.suite {a : Addr} {C : Str} {i : Nat} (R : Rl K Z Hs H σ δ) : Rl K (Z.su (some (a, C))) Hs H (σ.set i (some (.ref a))) ((DL.unxn δ).set i (some (.xn C))) := by
  by_cases hi : i < σ.length
  · exact (R.unxn (xa := some (a, C))).put (A := []) (fun d e => nomatch e) (fun z => nomatch z) (fun a m => nomatch m) (fun a m => nomatch m) (fun _ a m => nomatch m) (fun _ _ _ a _ m => nomatch m) (fun a o m => nomatch m) (fun z => nomatch z)
      (fun C' e => by cases e; exact ⟨⟨a, rfl, rfl⟩, rfl⟩) hi
  · exact (R.unxn (xa := some (a, C))).set_out hi
/-- the shared part as the entry's -/
abbrev Ent.hs (Z : Ent) (Hs : Hp) : Ent := ⟨Z.H0, Hs, Z.own, Z.G, Z.σ0, Z.xa, Z.blk⟩
/-- a slot is let go -/
theorem Rl.gone (R : Rl K Z Hs H σ δ) (i : Nat) : Rl K Z Hs H (σ.set i none) (δ.set i none) := by
  have R1 := R.reslot (σ' := σ.set i none) (vs := [i]) (List.length_set) fun j h => by
    rw [List.getElem?_set_ne]
    intro e
    exact h (by rw [e]; exact List.mem_singleton_self _)
  exact R1
end
section
variable {X : Cx} {Z : Ent} {pos : Pos} {ex : Xd → DSt → Prop}
class XSMono (t : (Xd → DSt → Prop) → DS) : Prop where
  m : ∀ (ex ex' : Xd → DSt → Prop) (N N' : DEnds) (δ : DSt), (∀ x δ, ex x δ → ex' x δ) → N.Le N' → t ex N δ → t ex' N' δ
/-! ### isinstance of the exception -/
end
end DL

namespace DL
open PySem PySem.Spec L2 PyProof.Rows
theorem powB90 {i j : Int} (h1 : -1237940039285380274899124224 < i) (h2 : i < 1237940039285380274899124224) (h3 : 0 ≤ j) (h4 : j ≤ 1000000) : CPowB i j := by
  have e : (2 : Nat) ^ 90 = 1237940039285380274899124224 := by decide
  exact powB (b := 90) (by omega) h3 (by omega)
theorem noxn_sh {d : PyData} : noxn (some (.sh d)) = some (.sh d) := rfl
theorem noxn_ow {p : Bool} {xs : List PyData} : noxn (some (.ow p xs)) = some (.ow p xs) := rfl
theorem noxn_none : noxn none = none := rfl
theorem noxn_xn {C : Str} : noxn (some (.xn C)) = none := rfl
/-! ### facts about exception classes -/
/-- a class by its name: an own one, a built-in one -/
inductive CN where
  | own (x : Str)
  | ty (n : String)
def CN.val (K : Fg) : CN → Value
  | .own x => .ref (He.ga K x)
  | .ty n => .type n
def CN.v (K : Fg) : CN → V
  | .own x => .ref (He.ga K x)
  | .ty n => .ty n
theorem CN.cls {K : Fg} (c : CN) : ClsV (c.v K) (c.val K) := by
  cases c with
  | own x => exact .own _
  | ty n => exact .ty n
def excBases : List (String × List Value) := [("ValueError.__new__", [.type "ValueError", .type "Exception", .type "BaseException", .type "object"]),
  ("ZeroDivisionError.__new__", [.type "ZeroDivisionError", .type "ArithmeticError", .type "Exception", .type "BaseException", .type "object"]),
  ("IndexError.__new__", [.type "IndexError", .type "LookupError", .type "Exception", .type "BaseException", .type "object"])]
/-! ### tables of the module -/
/-- what a table's value is to the machine -/
def dvK (K : Fg) : PyData → V
  | .str x => .str x
  | .int i => .int i
  | .bool b => .bl b
  | .dict [(.bool true, .str f)] => .ref (He.fAd K (f, none))
  | _ => .non
def okV : PyData → Bool
  | .str _ => true
  | .int _ => true
  | .bool _ => true
  | .none => true
  | .dict [(.bool true, .str _)] => true
  | _ => false
def relB : V → Value → Bool
  | .str x, .str y _ => x == y
  | .int i, .int j _ => i == j
  | .bl b, .bool c => b == c
  | .ref a, .ref b => a == b
  | .non, .none => true
  | _, _ => false
inductive Fb where
  | tab (x : Str) (D : List (Str × PyData))
  | exd (x : Str)
  | exm (c : CN) (l : List (Str × Bool))
  | kit (c : CN) (l : List (Str × Bool))
  | kits (cs : List CN) (l : List (Str × Bool))
  | exi (l : List (Str × Bool))
  | ins (x : Str)
  | p (q : Fg → Bool)
def exiB (K : Fg) (x : Str) : Bool := decide (PySem.W.findIn K (.ref (He.ga K x)) "__getattribute__" = some (some (.builtin "BaseException.__getattribute__"))) && (decide (PySem.W.findIn K (.ref (He.ga K x)) "__getattr__" = some none) && (decide (PySem.W.subIn K (.ref (He.ga K x)) (.type "BaseException") = some true) && (PySem.W.hasDictIn K (He.ga K x) &&
      (decide (PySem.W.findIn K (.ref (He.ga K x)) "__class__" = some (some (.builtin "object.__class__"))) && (decide (PySem.W.specialIn K (.builtin "object.__class__") "__get__" = some (some (.builtin "getset_descriptor.__get__"))) && (decide (PySem.W.takesIn K (.builtin "object.__class__") = some true) && decide (PySem.W.mroIn K (He.ga K x) (.type "object") = some true)))))))
def Fb.ok (K : Fg) : Fb → Bool
  | .p q => q K
  | .tab x D => (match PySem.W.nsIn K mainGlobals x with
    | some (some (.ref a)) => PyProof.Rows.KTD.tabLook (fun d u => relB (dvK K d) u) (fun b => List.lookup b K) a D
    | _ => false) && D.all (fun p => okV p.2)
  | .exd x => excBases.any (fun p => PySem.W.excIn K (He.ga K x) p.2 p.1) && (PySem.W.keepIn K (.ref (He.ga K x)) && (decide (PySem.W.subIn K (.ref (He.ga K x)) (.type "BaseException") = some true) && decide (PySem.W.typeIn K (.ref (He.ga K x)) = some (.type "type"))))
  | .exm c l => l.all fun p => decide (PySem.W.exmOne K (.ref (He.ga K p.1)) (c.val K) = some p.2)
  | .kit c l => l.all fun p => decide (PySem.W.kitOne K (.ref (He.ga K p.1)) (c.val K) = some p.2)
  | .kits cs l => l.all fun p => decide (PySem.W.kitAny K (.ref (He.ga K p.1)) (cs.map (CN.val K)) = some p.2)
  | .exi l => l.all fun p => exiB K p.1
  | .ins x => (He.Fa.cls x).ok K && (decide (PySem.W.findIn K (.ref (He.ga K x)) "__class__" = some (some (.builtin "object.__class__"))) && (decide (PySem.W.specialIn K (.builtin "object.__class__") "__get__" = some (some (.builtin "getset_descriptor.__get__"))) && (decide (PySem.W.takesIn K (.builtin "object.__class__") = some true) &&
    (decide (PySem.W.mroIn K (He.ga K x) (.type "object") = some true) && sixT.all fun T => decide (PySem.W.kitOne K (.ref (He.ga K x)) (.type T) = some false)))))
section
variable {K : Fg}
end
/-! ### the hook -/
abbrev AlB : Type := AlC × Bool
def obsB (fa : List He.Fa) (fn : List He.DefD) (cs : List (Str × PyData)) (fb : List Fb) (K : PySem.W.Frag) : AlB := (obsC fa fn cs K, fb.all (Fb.ok K))
def SaysB (fa : List He.Fa) (fn : List He.DefD) (cs : List (Str × PyData)) (fb : List Fb) (K : PySem.W.Frag) : Prop := obsB fa fn cs fb K = ((He.valD fn, true), true)
/-- the same over all objects below n -/
def obsRG (n : Nat) (fa : List He.Fa) (fn : List He.DefD) (cs : List (Str × PyData)) (fb : List Fb) (g : Addr → Option Obj) : AlB := obsB fa fn cs fb (He.frG g (List.range n))
def hookR (n : Nat) (fa : List He.Fa) (fn : List He.DefD) (cs : List (Str × PyData)) (fb : List Fb) : PySem.W.Hook where
  α := AlB
  obs := fun s => obsRG n fa fn cs fb s.heap.get?
  val := fun _ => ((He.valD fn, true), true)
  says := fun _ h => ∃ K : PySem.W.Frag, K.In h ∧ SaysB fa fn cs fb K
  of := fun _ _ e => ⟨_, He.frG_in, e⟩
  keeps := fun _ _ _ ⟨K, hK, c⟩ k => ⟨K, PySem.W.Frag.In.keeps hK k, c⟩
theorem obsRG_eq {n : Nat} {fa : List He.Fa} {fn : List He.DefD} {cs : List (Str × PyData)} {fb : List Fb} {g : Addr → Option Obj} {s : Shared} (h : ∀ a, g a = s.heap.get? a) : obsRG n fa fn cs fb g = (hookR n fa fn cs fb).obs s := by
  have e : g = s.heap.get? := funext h
  rw [e] <;> rfl
section
variable {fa : List He.Fa} {fn : List He.DefD} {cs : List (Str × PyData)} {fb : List Fb} {K : PySem.W.Frag}
theorem SaysB.c (c : SaysB fa fn cs fb K) : SaysC fa fn cs K := congrArg (fun z : AlB => z.1) c
theorem SaysB.b (c : SaysB fa fn cs fb K) (i : Nat) {f : Fb} (e : fb[i]? = some f := by rfl) : f.ok K = true := List.all_eq_true.mp (show fb.all (Fb.ok K) = true from congrArg (fun z : AlB => z.2) c) _ (List.mem_of_getElem? e)
end
/-! ### isinstance(e, (A, B, ..)) of the exception -/
section
variable {X : Cx} {pos : Pos}
end
end DL

/-! DYa: lists of one's own lists. -/
namespace DL
open PySem PySem.Spec L2 PyProof.Rows
section
variable {K : Fg} {Hs H Hs' H' : Hp} {Z : Ent} {σ : L2.St} {δ : DSt}
theorem LsAt.len {vs : List V} {xss : List (List PyData)} {A : List Addr} (h : LsAt K Hs H vs xss A) : vs.length = xss.length ∧ A.length = xss.length := by
  induction h with
  | nil => exact ⟨rfl, rfl⟩
  | cons _ _ _ ih => simp only [List.length_cons]; omega
theorem LsAt.get {vs : List V} {xss : List (List PyData)} {A : List Addr} (h : LsAt K Hs H vs xss A) : ∀ (n : Nat) (xs : List PyData), xss[n]? = some xs → ∃ b ws, vs[n]? = some (.ref b) ∧ A[n]? = some b ∧ H b = some (.lst ws) ∧ DpAll K Hs ws xs := by
  induction h with
  | nil => exact fun n xs e => nomatch e
  | cons h1 h2 _ ih =>
    intro n xs e
    cases n with
    | zero => cases e; exact ⟨_, _, rfl, rfl, h1, h2⟩
    | succ n => exact ih n xs e
theorem LsAt.set {vs : List V} {xss : List (List PyData)} {A : List Addr} (h : LsAt K Hs H vs xss A) : A.Nodup → ∀ (n : Nat) (b : Addr), A[n]? = some b → ∀ (ws' : List V) (xs' : List PyData), DpAll K Hs ws' xs' → LsAt K Hs (upd H b (.lst ws')) vs (xss.set n xs') A := by
  induction h with
  | nil => exact fun _ n b e => nomatch e
  | @cons a ws vs xs xss A h1 h2 h3 ih =>
    intro nd n b e ws' xs' d
    obtain ⟨na, nd'⟩ := List.nodup_cons.mp nd
    cases n with
    | zero =>
      cases e
      exact .cons upd_same d (h3.fr (Same.refl _) fun c m => upd_ne fun q => na (q ▸ m))
    | succ n =>
      refine .cons ?_ h2 (ih nd' n b e ws' xs' d)
      have mb : b ∈ A := List.mem_of_getElem? e
      have ne : a ≠ b := fun q => na (by rw [q]; exact mb)
      rw [upd_ne ne]
      exact h1
theorem LsAt.app {vs us : List V} {xss yss : List (List PyData)} {A B : List Addr} (h : LsAt K Hs H vs xss A) (h' : LsAt K Hs H us yss B) : LsAt K Hs H (vs ++ us) (xss ++ yss) (A ++ B) := by
  induction h with
  | nil => exact h'
  | cons h1 h2 _ ih => exact .cons h1 h2 ih
theorem LsAt.dp {vs : List V} {xss : List (List PyData)} {A : List Addr} (h : LsAt K Hs H vs xss A) (e : Same Hs Hs') (k : ∀ a ∈ A, Hs' a = H a) : DpAll K Hs' vs (xss.map PyData.list) := by
  induction h with
  | nil => exact .nil
  | cons h1 h2 _ ih => exact .cons (.lst (SqL.of ((k _ (List.mem_cons_self ..)).trans h1)) (h2.up e)) (ih fun a m => k a (List.mem_cons_of_mem _ m))
end
section
variable {X : Cx} {Z : Ent} {pos : Pos}
/-! ### new lists of lists -/
abbrev DB := DSt → (List (List PyData) → DSt → Prop) → Prop
theorem FrA.grow {K : Fg} {Hs H H' : Hp} {σ : L2.St} {δ : DSt} {v : V} {s : Sl} {A : List Addr} (R : Rl K Z Hs H σ δ) (h : FrA K Z Hs H σ δ v s A) (keep : ∀ (b : Addr) (o : HO), H b = some o → H' b = some o) : FrA K Z Hs H' σ δ v s A := by
  refine ⟨h.at_.fr (Same.refl _) fun a m => ?_, h.hs, h.mine, fun f F j a m m' => ?_, h.g⟩
  · cases q : H a with
    | none => exact absurd q (h.at_.live a m)
    | some o => exact keep a o q
  · obtain ⟨f0, F0⟩ := R.fps
    rw [F0.eqj F j rfl (fun _ z => z) fun b mb => by
      cases q : H b with
      | none => exact absurd q (F0.live j mb)
      | some o => exact keep b o q] at m'
    exact h.dis f0 F0 j a m m'
/-! ### for x in a list of lists: x.append(c); x.reverse() -/
end
end DL
namespace DL
open PySem PySem.Spec L2 PyProof.Rows
section
variable {X : Cx} {Z : Ent} {pos : Pos}
class BNMono (t : DB) : Prop where
  m : ∀ (δ : DSt) (Q Q' : List (List PyData) → DSt → Prop), (∀ d δ', Q d δ' → Q' d δ') → t δ Q → t δ Q'
end
section
variable {K : PySem.W.Frag} {x qual : Str} {params : Arguments} {body : List Stmt} {scope : Scope} {kws : List (Str × V)} {f : Addr} {fd : FuncData} {ps : List Str}
end
end DL
namespace DL
open PySem PySem.Spec L2 PyProof.Rows
section
variable {X : Cx} {Z : Ent} {pos : Pos}
/-- a + b of two lists: a new list of one's own -/
def dCat (ta tb : DE) : DL' := fun δ Q => ta δ fun d δ1 => tb δ1 fun e δ2 => match d, e with
  | .list xs, .list ys => xs.length + ys.length ≤ sizeLine ∧ Q (xs ++ ys) δ2
  | _, _ => False
instance {ta tb : DE} [EMono ta] [EMono tb] : LMono (dCat ta tb) := ⟨fun δ Q Q' hq q => EMono.m (t := ta) _ _ _ (fun d δ1 z => EMono.m (t := tb) _ _ _ (fun e δ2 z => by
  split at z
  · exact ⟨z.1, hq _ _ z.2⟩
  · exact z.elim) z) q⟩
theorem do_add {a b : Expr} {ta tb : DE} (ha : De X Z a ta) (hb : De X Z b tb) : Do X Z (.BinOp a .Add b pos) (dCat ta tb) := by
  refine ⟨pe_imp (pe_op op_catS ha.run hb.run) fun σ H Q ⟨Hs, δ, R, q⟩ => ⟨Hs, δ, R, ha.mono _ _ _ (fun d δ1 q x Hs1 H1 s1 R1 dx => ⟨Hs1, δ1, R1, hb.mono _ _ _ (fun e δ2 q y Hs2 H2 s2 R2 dy => ?_) q⟩) q⟩, fun δ Q Q' hq q => ha.mono _ _ _ (fun d δ1 z => hb.mono _ _ _ (fun e δ2 z => by
    split at z
    · exact ⟨z.1, hq _ _ z.2⟩
    · exact z.elim) z) q⟩
  split at q
  · cases dx with
    | lst h1 a1 =>
      cases dy with
      | lst h2 a2 =>
        refine ⟨_, _, _, _, rfl, rfl, R2.sub.seq (s2.seq h1), R2.sub.seq h2, by rw [a1.len, a2.len]; exact q.1, fun p np => ?_⟩
        exact q.2 _ Hs2 _ (s1.trans s2) (R2.allocO np) (FrO.new R2 np ((a1.up s2).app a2))
  · exact q.elim
end
end DL

/-! DZa: objects: fields read and stored, places, promises with owned arguments. -/
namespace DL
open PySem PySem.Spec L2 PyProof.Rows
/-! ### fields -/
section
variable {K : Fg} {Hs H Hs' H' : Hp} {Z : Ent} {σ : L2.St} {δ : DSt}
theorem putF_set {f : Str} {y : V} : ∀ {xs : List Str} {vs : List V} {n : Nat}, xs.length = vs.length → xs[n]? = some f → f ∉ xs.take n → putF f y (xs.zip vs) = xs.zip (vs.set n y)
  | [], _, _, _, h, _ => by simp at h
  | _ :: _, [], _, h, _, _ => by simp at h
  | x :: xs, w :: vs, 0, _, h, _ => by
    simp at h
    subst h
    simp [putF]
  | x :: xs, w :: vs, n + 1, hl, h, hn => by
    have ne : ¬ x = f := fun e => hn (by rw [e, List.take_succ_cons]; exact List.mem_cons_self ..)
    rw [List.zip_cons_cons, putF, if_neg ne, List.set_cons_succ, List.zip_cons_cons, putF_set (by simpa using hl) (by simpa using h) (fun m => hn (by rw [List.take_succ_cons]; exact List.mem_cons_of_mem _ m))]
theorem putF_new {f : Str} {y : V} : ∀ {xs : List Str} {vs : List V}, xs.length = vs.length → f ∉ xs → putF f y (xs.zip vs) = (xs ++ [f]).zip (vs ++ [y])
  | [], [], _, _ => rfl
  | [], _ :: _, h, _ => by simp at h
  | _ :: _, [], h, _ => by simp at h
  | x :: xs, w :: vs, hl, hn => by
    have ne : ¬ x = f := fun e => hn (by rw [e]; exact List.mem_cons_self ..)
    rw [List.zip_cons_cons, putF, if_neg ne, List.cons_append, List.cons_append, List.zip_cons_cons, putF_new (by simpa using hl) (fun m => hn (List.mem_cons_of_mem _ m))]
theorem FsAt.len {vs : List V} {fs : List Fv} {A : List Addr} (h : FsAt K Hs H vs fs A) : vs.length = fs.length := by
  induction h with
  | nil => rfl
  | cons _ _ ih => simp only [List.length_cons, ih]
theorem FsAt.getD {vs : List V} {fs : List Fv} {A : List Addr} (h : FsAt K Hs H vs fs A) : ∀ {n : Nat} {d : PyData}, fs[n]? = some (.d d) → ∃ v, vs[n]? = some v ∧ Dp K Hs v d := by
  induction h with
  | nil => intro n d e; simp at e
  | @cons v f vs fs A B h1 h2 ih =>
    intro n d e
    cases n with
    | zero =>
      simp at e
      subst e
      cases h1 with
      | d h => exact ⟨v, rfl, h⟩
    | succ n => exact ih (by simpa using e)
theorem FsAt.getL {vs : List V} {fs : List Fv} {A : List Addr} (h : FsAt K Hs H vs fs A) : ∀ {n : Nat} {xs : List PyData}, fs[n]? = some (.l xs) → ∃ a ws, vs[n]? = some (.ref a) ∧ a ∈ A ∧ H a = some (.lst ws) ∧ DpAll K Hs ws xs := by
  induction h with
  | nil => intro n d e; simp at e
  | @cons v f vs fs A B h1 h2 ih =>
    intro n d e
    cases n with
    | zero =>
      simp at e
      subst e
      cases h1 with
      | @l a ws xs h h' => exact ⟨a, ws, rfl, List.mem_append_left _ (List.mem_singleton.mpr rfl), h, h'⟩
    | succ n =>
      obtain ⟨a, ws, k1, k2, k3⟩ := ih (n := n) (by simpa using e)
      exact ⟨a, ws, by simpa using k1, List.mem_append_right _ k2, k3⟩
/-- a field is put -/
theorem FsAt.set {vs : List V} {fs : List Fv} {A : List Addr} {v' : V} {f' : Fv} {B' : List Addr} (h : FsAt K Hs H vs fs A) (h' : FvAt K Hs H v' f' B') : ∀ {n : Nat}, n < fs.length → ∃ A', FsAt K Hs H (vs.set n v') (fs.set n f') A' ∧ (∀ a ∈ A', a ∈ A ∨ a ∈ B') ∧ (A.Nodup → B'.Nodup → (∀ a ∈ B', a ∉ A) → A'.Nodup) := by
  induction h with
  | nil => intro n hn; simp at hn
  | @cons v f vs fs A B h1 h2 ih =>
    intro n hn
    cases n with
    | zero =>
      refine ⟨B' ++ B, .cons h' h2, fun a m => ?_, fun n1 n2 dj => ?_⟩
      · rcases List.mem_append.mp m with z | z
        · exact .inr z
        · exact .inl (List.mem_append_right _ z)
      · obtain ⟨_, nB, _⟩ := List.nodup_append.mp n1
        exact List.nodup_append.mpr ⟨n2, nB, fun a m b m' e => dj a m (List.mem_append_right _ (e ▸ m'))⟩
    | succ n =>
      obtain ⟨A', k1, k2, k3⟩ := ih (n := n) (by simpa using hn)
      refine ⟨A ++ A', .cons h1 k1, fun a m => ?_, fun n1 n2 dj => ?_⟩
      · rcases List.mem_append.mp m with z | z
        · exact .inl (List.mem_append_left _ z)
        · rcases k2 a z with z | z
          · exact .inl (List.mem_append_right _ z)
          · exact .inr z
      · obtain ⟨nA, nB, nd⟩ := List.nodup_append.mp n1
        refine List.nodup_append.mpr ⟨nA, k3 nB n2 fun a m m' => dj a m (List.mem_append_right _ m'), fun a m b m' e => ?_⟩
        subst e
        rcases k2 a m' with z | z
        · exact nd a m a z rfl
        · exact dj a z (List.mem_append_left _ m)
theorem FsAt.app {vs : List V} {fs : List Fv} {A : List Addr} {v' : V} {f' : Fv} {B' : List Addr} (h : FsAt K Hs H vs fs A) (h' : FvAt K Hs H v' f' B') : FsAt K Hs H (vs ++ [v']) (fs ++ [f']) (A ++ B') := by
  induction h with
  | nil =>
    have := FsAt.cons h' FsAt.nil
    rw [List.append_nil] at this
    exact this
  | cons h1 h2 ih =>
    rw [List.cons_append, List.cons_append, List.append_assoc]
    exact .cons h1 ih
/-- a value for a field -/
structure FvFr (K : Fg) (Z : Ent) (Hs H : Hp) (σ : L2.St) (δ : DSt) (v : V) (f : Fv) (B : List Addr) : Prop where
  at_ : FvAt K Hs H v f B
  nd : B.Nodup
  nw : ∀ b ∈ B, Nw K Z Hs H σ δ b
  hs : ∀ b ∈ B, Hs b = none
theorem FvFr.d {v : V} {d : PyData} (h : Dp K Hs v d) : FvFr K Z Hs H σ δ v (.d d) [] := ⟨.d h, List.nodup_nil, fun b m => (nomatch m), fun b m => nomatch m⟩
theorem FvFr.l {v : V} {xs : List PyData} (h : FrO K Z Hs H σ δ v xs) : ∃ B, FvFr K Z Hs H σ δ v (.l xs) B := by
  obtain ⟨A, h⟩ := h
  obtain ⟨a, ws, rfl, rfl, h1, h3⟩ := h.lst
  exact ⟨[a], .l h1 h3, by simp, fun b m => h.nw m, h.hs⟩
/-- an owned object is to be seen -/
theorem Rl.obj (R : Rl K Z Hs H σ δ) {i : Nat} {p : Bool} {C : Str} {FS : List Str} {fs : List Fv} (h : δ[i]? = some (some (.ob p (.ins C FS fs)))) :
    ∃ a dx vs A, σ[i]? = some (some (.ref a)) ∧ H a = some (.ins (He.ga K C) dx (FS.zip vs)) ∧ FS.length = vs.length ∧ FsAt K Hs H vs fs A ∧ InsOk K C ∧ (∀ f, Fps K Z Hs H σ δ f → f i = a :: dx :: A) ∧ H dx = some (.own a) ∧ (a :: dx :: A).Nodup := by
  obtain ⟨f, F⟩ := R.fps
  obtain ⟨v, hv, hat⟩ := F.at_ i _ h rfl
  have hat0 := hat
  generalize hB : f i = B at hat
  cases hat with
  | @ins a dx _ _ _ vs _ A h5 h6 h1 h2 h3 h4 => exact ⟨a, dx, vs, A, hv, h1, h6, h3, h5, fun f' F' => by rw [← F.same F' i, hB], h2, h4⟩
end
end DL

/-! DZb: places, owned arguments. -/
namespace DL
open PySem PySem.Spec L2 PyProof.Rows
/-- a place: a slot; a field of a slot's object, a list -/
inductive Pc where
  | s (i : Nat)
  | f (i : Nat) (C : Str) (FS : List Str) (n : Nat)
def Pc.ix : Pc → Nat
  | .s i => i
  | .f i _ _ _ => i
/-- the owned thing at a place, as an argument -/
def Pc.get (δ : DSt) : Pc → Option Sl
  | .s i => match δ[i]? with
    | some (some (.ow _ xs)) => some (.ow true xs)
    | some (some (.ob _ o)) => some (.ob true o)
    | _ => none
  | .f i C FS n => match δ[i]? with
    | some (some (.ob _ (.ins C' FS' fs))) => if C' = C ∧ FS' = FS then (match fs[n]? with
      | some (.l xs) => some (.ow true xs)
      | _ => none) else none
    | _ => none
def Pc.put (δ : DSt) : Pc → Sl → DSt
  | .s i, .ow _ xs => match δ[i]? with
    | some (some (.ow p _)) => δ.set i (some (.ow p xs))
    | _ => δ
  | .s i, .ob _ o => match δ[i]? with
    | some (some (.ob p _)) => δ.set i (some (.ob p o))
    | _ => δ
  | .f i _ _ n, .ow _ xs => match δ[i]? with
    | some (some (.ob p (.ins C FS fs))) => δ.set i (some (.ob p (.ins C FS (fs.set n (.l xs)))))
    | _ => δ
  | _, _ => δ
inductive Ag where
  | d (d : PyData)
  | p (p : Pc)
def slots (δ : DSt) : List Ag → Option (List Sl)
  | [] => some []
  | .d d :: as => (slots δ as).map (.sh d :: ·)
  | .p p :: as => match p.get δ with
    | some s => (slots δ as).map (s :: ·)
    | none => none
/-- the owned arguments stay what they are -/
def KeepO : List Sl → List Sl → Prop
  | [], [] => True
  | .ow _ _ :: as, .ow true _ :: bs => KeepO as bs
  | .ob _ _ :: as, .ob true _ :: bs => KeepO as bs
  | .sh d :: as, .sh e :: bs => d = e ∧ KeepO as bs
  | _, _ => False
theorem KeepO.len : ∀ {as bs : List Sl}, KeepO as bs → bs.length = as.length
  | [], [], _ => rfl
  | [], _ :: _, h => h.elim
  | .ow _ _ :: as, .ow true _ :: bs, h => by rw [List.length_cons, List.length_cons, KeepO.len (as := as) (bs := bs) h]
  | .ob _ _ :: as, .ob true _ :: bs, h => by rw [List.length_cons, List.length_cons, KeepO.len (as := as) (bs := bs) h]
  | .sh d :: as, .sh e :: bs, h => by rw [List.length_cons, List.length_cons, KeepO.len h.2]
  | .ow _ _ :: _, [], h => h.elim
  | .ob _ _ :: _, [], h => h.elim
  | .sh _ :: _, [], h => h.elim
  | .ow _ _ :: _, .ow false _ :: _, h => h.elim
  | .ow _ _ :: _, .ob _ _ :: _, h => h.elim
  | .ow _ _ :: _, .sh _ :: _, h => h.elim
  | .ow _ _ :: _, .xn _ :: _, h => h.elim
  | .ob _ _ :: _, .ob false _ :: _, h => h.elim
  | .ob _ _ :: _, .ow _ _ :: _, h => h.elim
  | .ob _ _ :: _, .sh _ :: _, h => h.elim
  | .ob _ _ :: _, .xn _ :: _, h => h.elim
  | .sh _ :: _, .ow _ _ :: _, h => h.elim
  | .sh _ :: _, .ob _ _ :: _, h => h.elim
  | .sh _ :: _, .xn _ :: _, h => h.elim
  | .xn _ :: _, [], h => h.elim
  | .xn _ :: _, _ :: _, h => by cases ‹Sl› <;> exact h.elim
/-- of one kind -/
def SameK : Sl → Sl → Prop
  | .ow _ _, .ow true _ => True
  | .ob _ _, .ob true _ => True
  | .sh d, .sh e => d = e
  | _, _ => False
theorem KeepO.at : ∀ {as bs : List Sl}, KeepO as bs → ∀ {k : Nat} {a : Sl}, as[k]? = some a → ∃ b, bs[k]? = some b ∧ SameK a b
  | [], [], _, k, a, e => by simp at e
  | [], _ :: _, h, _, _, _ => h.elim
  | x :: as, [], h, _, _, _ => by cases x <;> exact h.elim
  | x :: as, y :: bs, h, k, a, e => by
    have hh : SameK x y ∧ KeepO as bs := by
      cases x with
      | sh d => cases y with
        | sh d' => exact h
        | _ => exact h.elim
      | ow p xs => cases y with
        | ow q ys => cases q with
          | true => exact ⟨trivial, h⟩
          | false => exact h.elim
        | _ => exact h.elim
      | ob p o => cases y with
        | ob q o' => cases q with
          | true => exact ⟨trivial, h⟩
          | false => exact h.elim
        | _ => exact h.elim
      | xn C => cases y <;> exact h.elim
    cases k with
    | zero =>
      simp at e
      subst e
      exact ⟨y, rfl, hh.1⟩
    | succ k => simpa using KeepO.at hh.2 (k := k) (by simpa using e)
section
variable {K : Fg} {Hs H Hs' H' : Hp} {Z : Ent} {σ : L2.St} {δ : DSt}
/-- the value at a place -/
def PcV (K : Fg) (σ : L2.St) (H : Hp) : Pc → V → Prop
  | .s i, v => σ[i]? = some (some v)
  | .f i C FS n, v => ∃ a dx vs, σ[i]? = some (some (.ref a)) ∧ H a = some (.ins (He.ga K C) dx (FS.zip vs)) ∧ FS.length = vs.length ∧ vs[n]? = some v
/-- what the arguments are -/
inductive AgV (K : Fg) (Hs H : Hp) (σ : L2.St) : List V → List Ag → Prop
  | nil : AgV K Hs H σ [] []
  | d {v : V} {d : PyData} {vs : List V} {as : List Ag} : Dp K Hs v d → AgV K Hs H σ vs as → AgV K Hs H σ (v :: vs) (.d d :: as)
  | p {v : V} {p : Pc} {vs : List V} {as : List Ag} : PcV K σ H p v → AgV K Hs H σ vs as → AgV K Hs H σ (v :: vs) (.p p :: as)
structure ArgsOk (K : Fg) (Hs H : Hp) (σ : L2.St) (δ : DSt) (as : List Ag) (vs : List V) (αs : List Sl) : Prop where
  l1 : vs.length = as.length
  l2 : αs.length = as.length
  d : ∀ (k : Nat) (d : PyData), as[k]? = some (.d d) → αs[k]? = some (.sh d) ∧ ∃ v, vs[k]? = some v ∧ Dp K Hs v d
  p : ∀ (k : Nat) (p : Pc), as[k]? = some (.p p) → ∃ s v, αs[k]? = some s ∧ vs[k]? = some v ∧ p.get δ = some s ∧ PcV K σ H p v
  nd : ∀ (k l : Nat) (p q : Pc), as[k]? = some (.p p) → as[l]? = some (.p q) → p.ix = q.ix → k = l
/-- the footprint of an argument -/
def fpA (f : Nat → List Addr) (as : List Ag) (vs : List V) (k : Nat) : List Addr := match as[k]?, vs[k]? with
  | some (.p (.s i)), _ => f i
  | some (.p (.f _ _ _ _)), some (.ref a) => [a]
  | _, _ => []
theorem Rl.pcAt {f : Nat → List Addr} (R : Rl K Z Hs H σ δ) (F : Fps K Z Hs H σ δ f) {as : List Ag} {vs : List V} {k : Nat} {p : Pc} {s : Sl} {v : V} (ek : as[k]? = some (.p p)) (ev : vs[k]? = some v) (hg : p.get δ = some s) (hv : PcV K σ H p v) :
    At K Hs H v s (fpA f as vs k) ∧ (∀ b ∈ fpA f as vs k, b ∈ f p.ix) ∧ s.prm = true ∧ s.own = true := by
  cases p with
  | s i =>
    have e : fpA f as vs k = f i := by simp only [fpA, ek]
    rw [e]
    simp only [Pc.get] at hg
    split at hg
    · rename_i q xs e0
      cases hg
      obtain ⟨u, h1, h2⟩ := F.at_ i _ e0 rfl
      rw [show σ[i]? = some (some v) from hv] at h1
      cases h1
      exact ⟨h2.as true, fun b m => m, rfl, rfl⟩
    · rename_i q o e0
      cases hg
      obtain ⟨u, h1, h2⟩ := F.at_ i _ e0 rfl
      rw [show σ[i]? = some (some v) from hv] at h1
      cases h1
      exact ⟨h2.as true, fun b m => m, rfl, rfl⟩
    · cases hg
  | f i C FS n =>
    simp only [Pc.get] at hg
    split at hg
    · rename_i q C' FS' fs e0
      split at hg
      · rename_i hc
        obtain ⟨rfl, rfl⟩ := hc
        split at hg
        · rename_i xs e1
          cases hg
          obtain ⟨a, dx, us, A, k1, k2, k3, k4, k5, k6, k7, k8⟩ := R.obj e0
          obtain ⟨a', dx', us', j1, j2, j3, j4⟩ := hv
          rw [k1] at j1
          cases j1
          rw [k2] at j2
          have e2 : FS'.zip us = FS'.zip us' := by injection (Option.some.inj j2)
          have e3 : us = us' := by
            have q := congrArg (List.map Prod.snd) e2
            rw [List.map_snd_zip (by omega), List.map_snd_zip (by omega)] at q
            exact q
          subst e3
          obtain ⟨b, ws, m1, m2, m3, m4⟩ := k4.getL e1
          rw [j4] at m1
          cases m1
          have e : fpA f as vs k = [b] := by simp only [fpA, ek, ev]
          rw [e]
          exact ⟨.ow m3 m4, fun c m => by rw [List.mem_singleton.mp m]; show b ∈ f i; rw [k6 f F]; exact List.mem_cons_of_mem _ (List.mem_cons_of_mem _ m2), rfl, rfl⟩
        · cases hg
      · cases hg
    · cases hg
theorem fpA_p {f : Nat → List Addr} {as : List Ag} {vs : List V} {k : Nat} {b : Addr} (m : b ∈ fpA f as vs k) : ∃ p, as[k]? = some (.p p) := by
  unfold fpA at m
  split at m
  · rename_i i e; exact ⟨_, e⟩
  · rename_i a e1 e2; exact ⟨_, e1⟩
  · exact nomatch m
open Classical in
/-- to which argument an address belongs -/
noncomputable def blkG (f : Nat → List Addr) (as : List Ag) (vs : List V) : Addr → Nat := fun a => if h : ∃ k, a ∈ fpA f as vs k then h.choose else 0
section
variable {as : List Ag} {vs : List V} {αs : List Sl} {f : Nat → List Addr}
theorem ArgsOk.uniq (ao : ArgsOk K Hs H σ δ as vs αs) (R : Rl K Z Hs H σ δ) (F : Fps K Z Hs H σ δ f) {k l : Nat} {b : Addr} (h1 : b ∈ fpA f as vs k) (h2 : b ∈ fpA f as vs l) : k = l := by
  obtain ⟨p, ep⟩ := fpA_p h1
  obtain ⟨q, eq⟩ := fpA_p h2
  obtain ⟨s, v, a1, a2, a3, a4⟩ := ao.p k p ep
  obtain ⟨s', v', b1, b2, b3, b4⟩ := ao.p l q eq
  have m1 := (R.pcAt F ep a2 a3 a4).2.1 b h1
  have m2 := (R.pcAt F eq b2 b3 b4).2.1 b h2
  by_cases e : p.ix = q.ix
  · exact ao.nd k l p q ep eq e
  · exact absurd m2 (F.dis _ _ b e m1)
theorem ArgsOk.blk (ao : ArgsOk K Hs H σ δ as vs αs) (R : Rl K Z Hs H σ δ) (F : Fps K Z Hs H σ δ f) {k : Nat} {b : Addr} (h1 : b ∈ fpA f as vs k) : blkG f as vs b = k := by
  have h : ∃ k, b ∈ fpA f as vs k := ⟨k, h1⟩
  unfold blkG
  rw [dif_pos h]
  exact ao.uniq R F h.choose_spec h1
end
end
end DL

/-! DZc: behind a call with owned arguments; promises of that kind. -/
namespace DL
open PySem PySem.Spec L2 PyProof.Rows
section
variable {K : Fg} {Hs H Hs' H' : Hp} {Z : Ent} {σ : L2.St} {δ : DSt}
variable {as : List Ag} {vs : List V} {αs βs : List Sl} {f : Nat → List Addr}
open Classical in
end
/-! ### promises -/
abbrev FG := List Sl → (Res → List Sl → Prop) → (Xd → List Sl → Prop) → Prop
class GFMono (f : FG) : Prop where
  m : ∀ (αs : List Sl) (Q Q' : Res → List Sl → Prop) (W W' : Xd → List Sl → Prop), (∀ r βs, Q r βs → Q' r βs) → (∀ x βs, W x βs → W' x βs) → f αs Q W → f αs Q' W'
end DL

/-! DZd: a def with owned arguments keeps its promise. -/
namespace DL
open PySem PySem.Spec L2 PyProof.Rows
def outG : List Sl → DSt → Option (List Sl)
  | [], _ => some []
  | .sh d :: as, _ :: δ => (outG as δ).map (.sh d :: ·)
  | .ow _ _ :: as, some (.ow true xs) :: δ => (outG as δ).map (.ow true xs :: ·)
  | .ob _ _ :: as, some (.ob true o) :: δ => (outG as δ).map (.ob true o :: ·)
  | _, _ => none
theorem outG_keep : ∀ {αs βs : List Sl} {δ : DSt}, outG αs δ = some βs → KeepO αs βs ∧ ∀ (k : Nat) (b : Sl), βs[k]? = some b → (∃ d, b = .sh d ∧ αs[k]? = some (.sh d)) ∨ (b.own = true ∧ b.prm = true ∧ δ[k]? = some (some b))
  | [], βs, δ, h => by
    unfold outG at h
    cases h
    exact ⟨trivial, fun k b e => by simp at e⟩
  | a :: as, βs, [], h => by cases a <;> simp [outG] at h
  | .sh d :: as, βs, o :: δ, h => by
    simp only [outG, Option.map_eq_some_iff] at h
    obtain ⟨r, h1, rfl⟩ := h
    obtain ⟨k1, k2⟩ := outG_keep h1
    refine ⟨⟨rfl, k1⟩, fun k b e => ?_⟩
    cases k with
    | zero => simp at e; subst e; exact .inl ⟨d, rfl, rfl⟩
    | succ k => simpa using k2 k b (by simpa using e)
  | .ow p xs :: as, βs, o :: δ, h => by
    unfold outG at h
    split at h
    · rename_i h0; cases h0
    · rename_i h0 _; cases h0
    · rename_i p' xs' as' q ys δ' h0 h0'
      cases h0
      cases h0'
      simp only [Option.map_eq_some_iff] at h
      obtain ⟨r, h1, rfl⟩ := h
      obtain ⟨k1, k2⟩ := outG_keep h1
      refine ⟨k1, fun k b e => ?_⟩
      cases k with
      | zero => simp at e; subst e; exact .inr ⟨rfl, rfl, rfl⟩
      | succ k => simpa using k2 k b (by simpa using e)
    · rename_i h0 _; cases h0
    · cases h
  | .ob p xs :: as, βs, o :: δ, h => by
    unfold outG at h
    split at h
    · rename_i h0; cases h0
    · rename_i h0 _; cases h0
    · rename_i h0 _; cases h0
    · rename_i p' xs' as' q ys δ' h0 h0'
      cases h0
      cases h0'
      simp only [Option.map_eq_some_iff] at h
      obtain ⟨r, h1, rfl⟩ := h
      obtain ⟨k1, k2⟩ := outG_keep h1
      refine ⟨k1, fun k b e => ?_⟩
      cases k with
      | zero => simp at e; subst e; exact .inr ⟨rfl, rfl, rfl⟩
      | succ k => simpa using k2 k b (by simpa using e)
    · cases h
  | .xn C :: as, βs, o :: δ, h => by simp [outG] at h
section
variable {K : Fg} {Hs H Hs' H' : Hp} {Z : Ent} {σ : L2.St} {δ : DSt}
theorem pad_get {δ : DSt} {n i : Nat} {s : Sl} (h : (δ ++ List.replicate n none)[i]? = some (some s)) : δ[i]? = some (some s) := by
  rcases Nat.lt_or_ge i δ.length with z | z
  · rw [List.getElem?_append_left z] at h
    exact h
  · rw [List.getElem?_append_right z, List.getElem?_replicate] at h
    split at h <;> cases h
theorem Rl.pad {τ : L2.St} (R : Rl K Z Hs H σ δ) : Rl K Z Hs H (σ ++ τ) (δ ++ List.replicate τ.length none) := by
  have up : ∀ {i : Nat} {s : Sl}, δ[i]? = some (some s) → (σ ++ τ)[i]? = σ[i]? := fun {i s} e => by rw [List.getElem?_append_left (by rw [R.len]; exact get_lt e)]
  refine ⟨by rw [List.length_append, List.length_append, List.length_replicate, R.len], R.sub, R.ext, R.fr, R.new, R.hid, fun i d e => ?_, ?_, R.grd, fun i s e p => ?_, fun i C e => ?_⟩
  · obtain ⟨v, h1, h2⟩ := R.shr i d (pad_get e)
    exact ⟨v, by rw [up (pad_get e)]; exact h1, h2⟩
  · obtain ⟨f, F⟩ := R.fps
    refine ⟨f, ⟨fun i s e o => ?_, fun i h => F.emp i fun s e => h s ?_, F.hs, F.old, fun i s a e => F.mine i s a (pad_get e), F.dis, F.g⟩⟩
    · obtain ⟨v, h1, h2⟩ := F.at_ i s (pad_get e) o
      exact ⟨v, by rw [up (pad_get e)]; exact h1, h2⟩
    · rw [List.getElem?_append_left (get_lt e)]
      exact e
  · rw [up (pad_get e)]
    exact R.prm i s (pad_get e) p
  · obtain ⟨a, h1, h2⟩ := R.exn i C (pad_get e)
    exact ⟨a, by rw [up (pad_get e)]; exact h1, h2⟩
theorem mapsome {α : Type} {l : List α} {k : Nat} {x : α} : (l.map some)[k]? = some (some x) ↔ l[k]? = some x := by
  rw [List.getElem?_map]
  cases l[k]? <;> simp
/-- what the caller sees of a body's end -/
theorem Rl.out {vs : List V} {αs βs : List Sl} (R : Rl K Z Hs' H' σ δ) (R0 : Rl K Z Hs H (vs.map some) (αs.map some)) (h0 : Z.σ0 = vs.map some) (sm : Same Hs Hs') (ho : outG αs δ = some βs) :
    Rl K Z Hs' H' (vs.map some) (βs.map some) ∧ ∀ {u : V} {s : Sl} {A : List Addr}, FrA K Z Hs' H' σ δ u s A → FrA K Z Hs' H' (vs.map some) (βs.map some) u s A := by
  obtain ⟨hk, hb⟩ := outG_keep ho
  obtain ⟨f, F⟩ := R.fps
  have own : ∀ {k : Nat} {b : Sl}, βs[k]? = some b → b.own = true → δ[k]? = some (some b) ∧ σ[k]? = (vs.map some)[k]? := fun {k b} e o => by
    rcases hb k b e with ⟨d, rfl, _⟩ | ⟨_, p, e'⟩
    · cases o
    · exact ⟨e', by rw [R.prm k b e' p, h0]⟩
  let f' : Nat → List Addr := fun k => match βs[k]? with
    | some b => if b.own = true then f k else []
    | none => []
  have f1 : ∀ {k : Nat} {a : Addr}, a ∈ f' k → a ∈ f k ∧ ∃ b, βs[k]? = some b ∧ b.own = true := fun {k a} m => by
    have m : a ∈ (match βs[k]? with
      | some b => if b.own = true then f k else []
      | none => []) := m
    split at m
    · rename_i b e
      split at m
      · rename_i o
        exact ⟨m, b, e, o⟩
      · exact nomatch m
    · exact nomatch m
  have f2 : ∀ {k : Nat} {b : Sl}, βs[k]? = some b → b.own = true → f' k = f k := fun {k b} e o => by
    show (match βs[k]? with
      | some b => if b.own = true then f k else []
      | none => []) = f k
    rw [e]
    exact if_pos o
  have FF : Fps K Z Hs' H' (vs.map some) (βs.map some) f' := by
    refine ⟨fun k b e o => ?_, fun k h => ?_, fun k a m => F.hs k a (f1 m).1, fun k a m => F.old k a (f1 m).1, fun k b a e p m => ?_, fun k l a n m m' => F.dis k l a n (f1 m).1 (f1 m').1, fun k a o m => F.g k a o (f1 m).1⟩
    · have e := mapsome.mp e
      obtain ⟨e1, e2⟩ := own e o
      obtain ⟨v, h1, h2⟩ := F.at_ k b e1 o
      exact ⟨v, by rw [← e2]; exact h1, by rw [f2 e o]; exact h2⟩
    · cases q : f' k with
      | nil => rfl
      | cons a r =>
        obtain ⟨_, b, e, o⟩ := f1 (k := k) (a := a) (by rw [q]; exact List.mem_cons_self ..)
        rw [h b (mapsome.mpr e)] at o
        cases o
    · obtain ⟨_, b', e', o'⟩ := f1 m
      have e := mapsome.mp e
      rw [e] at e'
      cases e'
      exact F.mine k b a (own e o').1 p (f1 m).1
  refine ⟨⟨by rw [List.length_map, List.length_map, hk.len, ← List.length_map (f := some) (as := αs), ← R0.len, List.length_map], R.sub, R.ext, R.fr, R.new, R.hid, fun k d e => ?_, ⟨f', FF⟩, R.grd, fun k b e p => by rw [h0], fun k C e => ?_⟩, fun {u s A} c => ⟨c.at_, c.hs, c.mine, fun g G k a m m' => ?_, c.g⟩⟩
  · have e := mapsome.mp e
    rcases hb k _ e with ⟨d', e1, e2⟩ | ⟨o, _⟩
    · cases e1
      obtain ⟨v, h1, h2⟩ := R0.shr k d (mapsome.mpr e2)
      exact ⟨v, h1, h2.up sm⟩
    · cases o
  · have e := mapsome.mp e
    rcases hb k _ e with ⟨d', e1, e2⟩ | ⟨o, _⟩
    · cases e1
    · cases o
  · rw [G.same FF k] at m'
    exact c.dis f F k a m (f1 m').1
end
section
variable {P : Program} {w : World} {K : Fg} {mg : Str → Option Value} {base : Heap} {x qual : Str} {params : Arguments} {body : List Stmt} {scope : Scope} {dvs : List V} {kws : List (Str × V)} {f : Addr} {fd : FuncData} {N ps : List Str} {k : Nat}
end
end DL

/-! DZe: a slot more; arguments; calls with owned arguments; objects made. -/
namespace DL
open PySem PySem.Spec L2 PyProof.Rows
section
variable {K : Fg} {Hs H Hs' H' : Hp} {Z : Ent} {σ : L2.St} {δ : DSt}
theorem Rl.cut {τ : L2.St} {n : Nat} (R : Rl K Z Hs H (σ ++ τ) (δ ++ List.replicate n none)) (hl : σ.length = δ.length) : Rl K Z Hs H σ δ ∧ ∀ {v : V} {s : Sl} {A : List Addr}, FrA K Z Hs H (σ ++ τ) (δ ++ List.replicate n none) v s A → FrA K Z Hs H σ δ v s A := by
  have up : ∀ {i : Nat} {s : Sl}, δ[i]? = some (some s) → (δ ++ List.replicate n none)[i]? = some (some s) ∧ (σ ++ τ)[i]? = σ[i]? := fun {i s} e => ⟨by rw [List.getElem?_append_left (get_lt e)]; exact e, by rw [List.getElem?_append_left (by rw [hl]; exact get_lt e)]⟩
  obtain ⟨f, F⟩ := R.fps
  have FF : Fps K Z Hs H σ δ f := by
    refine ⟨fun i s e o => ?_, fun i h => F.emp i fun s e => h s (pad_get e), F.hs, F.old, fun i s a e => F.mine i s a (up e).1, F.dis, F.g⟩
    obtain ⟨v, h1, h2⟩ := F.at_ i s (up e).1 o
    exact ⟨v, by rw [← (up e).2]; exact h1, h2⟩
  refine ⟨⟨hl, R.sub, R.ext, R.fr, R.new, R.hid, fun i d e => ?_, ⟨f, FF⟩, R.grd, fun i s e p => ?_, fun i C e => ?_⟩, fun {v s A} c => ⟨c.at_, c.hs, c.mine, fun g G j a m m' => ?_, c.g⟩⟩
  · obtain ⟨v, h1, h2⟩ := R.shr i d (up e).1
    exact ⟨v, by rw [← (up e).2]; exact h1, h2⟩
  · rw [← (up e).2]
    exact R.prm i s (up e).1 p
  · obtain ⟨a, h1, h2⟩ := R.exn i C (up e).1
    exact ⟨a, by rw [← (up e).2]; exact h1, h2⟩
  · rw [G.same FF j] at m'
    exact c.dis f F j a m m'
/-- a slot more, for a new thing -/
theorem Rl.push (R : Rl K Z Hs H σ δ) {v : V} {s : Sl} {A : List Addr} (c : FrA K Z Hs H σ δ v s A) (hp : s.prm = false) : Rl K Z Hs H (σ ++ [some v]) (δ ++ [some s]) := by
  have R1 : Rl K Z Hs H (σ ++ [none]) (δ ++ [none]) := R.pad (τ := [none])
  have c1 : FrA K Z Hs H (σ ++ [none]) (δ ++ [none]) v s A := by
    refine ⟨c.at_, c.hs, c.mine, fun g G j a m m' => ?_, c.g⟩
    obtain ⟨f, F⟩ := R.fps
    have G' : Fps K Z Hs H σ δ g := by
      have up : ∀ {i : Nat} {s : Sl}, δ[i]? = some (some s) → (δ ++ [none])[i]? = some (some s) ∧ (σ ++ [none])[i]? = σ[i]? := fun {i s} e => ⟨by rw [List.getElem?_append_left (get_lt e)]; exact e, by rw [List.getElem?_append_left (by rw [R.len]; exact get_lt e)]⟩
      refine ⟨fun i s e o => ?_, fun i h => G.emp i fun s e => h s (pad_get (n := 1) e), G.hs, G.old, fun i s a e => G.mine i s a (up e).1, G.dis, G.g⟩
      obtain ⟨v, h1, h2⟩ := G.at_ i s (up e).1 o
      exact ⟨v, by rw [← (up e).2]; exact h1, h2⟩
    exact c.dis g G' j a m m'
  have R2 := R1.setA (i := σ.length) c1 hp
  rw [List.set_append_right _ _ (Nat.le_refl _), Nat.sub_self, show σ.length = δ.length from R.len, List.set_append_right _ _ (Nat.le_refl _), Nat.sub_self] at R2
  exact R2
/-- the last slot let go -/
theorem Rl.pop {v : V} {s : Sl} (R : Rl K Z Hs H (σ ++ [some v]) (δ ++ [some s])) (hl : σ.length = δ.length) (ho : s.own = true) (hp : s.prm = false) : Rl K Z Hs H σ δ ∧ ∃ A, FrA K Z Hs H σ δ v s A := by
  obtain ⟨v', A, h1, R1, c⟩ := R.moveA (i := δ.length) (s := s) (by rw [List.getElem?_append_right (Nat.le_refl _), Nat.sub_self]; rfl) ho hp
  have e : (δ ++ [some s]).set δ.length none = δ ++ List.replicate 1 none := by
    rw [List.set_append_right _ _ (Nat.le_refl _), Nat.sub_self]
    rfl
  rw [e] at R1 c
  rw [← hl, List.getElem?_append_right (Nat.le_refl _), Nat.sub_self] at h1
  cases h1
  obtain ⟨R2, h⟩ := R1.cut hl
  exact ⟨R2, A, h c⟩
/-- a new object, without fields -/
theorem Rl.fresh (R : Rl K Z Hs H σ δ) {C : Str} (ic : InsOk K C) {x dx : Addr} (hx : H x = none) (hdx : H dx = none) (ne : dx ≠ x) :
    Rl K Z Hs (upd (upd H dx (.own x)) x (.ins (He.ga K C) dx [])) σ δ ∧ FrA K Z Hs (upd (upd H dx (.own x)) x (.ins (He.ga K C) dx [])) σ δ (.ref x) (.ob false (.ins C [] [])) [x, dx] := by
  have hx2 : upd H dx (.own x) x = none := by rw [upd_ne ne.symm]; exact hx
  have R2 := (R.allocO (o := .own x) hdx).allocO (o := .ins (He.ga K C) dx []) hx2
  refine ⟨R2, FrA.fresh R R2 (.ins (vs := []) (A := []) ic rfl upd_same (by rw [upd_ne ne, upd_same]) .nil (by simp [ne.symm])) (fun a m => ?_) (fun a m => ?_) fun f F => F.back R fun b o e => ?_⟩
  · simp only [List.mem_cons, List.not_mem_nil, or_false] at m
    rcases m with rfl | rfl
    · exact hx
    · exact hdx
  · simp only [List.mem_cons, List.not_mem_nil, or_false] at m
    rcases m with rfl | rfl
    · exact R.hsn hx
    · exact R.hsn hdx
  · rw [upd_ne (ne_of_none e hx), upd_ne (ne_of_none e hdx)]
    exact e
theorem AgV.app {vs zs : List V} {as : List Ag} {ds : List PyData} (h : AgV K Hs H σ vs as) (h' : DpAll K Hs zs ds) : AgV K Hs H σ (vs ++ zs) (as ++ ds.map .d) := by
  induction h with
  | nil =>
    show AgV K Hs H σ zs (ds.map .d)
    clear as vs
    induction ds generalizing zs with
    | nil => cases h'; exact .nil
    | cons d ds ih => cases h' with
      | cons a b => exact .d a (ih b)
  | d a _ ih => exact .d a ih
  | p a _ ih => exact .p a ih
theorem AgV.up {vs : List V} {as : List Ag} (h : AgV K Hs H σ vs as) (e : Same Hs Hs') (hp : ∀ p ∈ as.filterMap (fun a => match a with | .p p => some p | _ => none), ∀ v, PcV K σ H p v → PcV K σ H' p v) : AgV K Hs' H' σ vs as := by
  induction h with
  | nil => exact .nil
  | d a _ ih => exact .d (a.up e) (ih hp)
  | p a _ ih => exact .p (hp _ (List.mem_cons_self ..) _ a) (ih fun p m => hp p (List.mem_cons_of_mem _ m))
end
/-! ### arguments -/
abbrev DAg := DSt → (List Ag → DSt → Prop) → Prop
class AgMono (t : DAg) : Prop where
  m : ∀ (δ : DSt) (Q Q' : List Ag → DSt → Prop), (∀ d δ', Q d δ' → Q' d δ') → t δ Q → t δ Q'
section
variable {X : Cx} {Z : Ent} {pos : Pos}
end
end DL

/-! DZf: calls with owned arguments, methods, objects made. -/
namespace DL
open PySem PySem.Spec L2 PyProof.Rows
abbrev DR := DSt → (Res → DSt → Prop) → Prop
abbrev DBo := DSt → (Ob → DSt → Prop) → Prop
def lR (K : Fg) (Z : Ent) (t : DR) : TE := fun σ H Q => ∃ Hs δ, Rl K Z Hs H σ δ ∧ t δ fun r δ' => ∀ v Hs' H', Same Hs Hs' → Rl K Z Hs' H' σ δ' → ResOk K Z Hs' H' σ δ' v r → Q v H'
def lOb (K : Fg) (Z : Ent) (t : DBo) : TE := fun σ H Q => ∃ Hs δ, Rl K Z Hs H σ δ ∧ t δ fun o δ' => ∀ v Hs' H' A, Same Hs Hs' → Rl K Z Hs' H' σ δ' → FrA K Z Hs' H' σ δ' v (.ob false o) A → Q v H'
structure Dr (X : Cx) (Z : Ent) (e : Expr) (t : DR) : Prop where
  run : PE X e (lR X.K Z t)
  mono : ∀ (δ : DSt) (Q Q' : Res → DSt → Prop), (∀ d δ', Q d δ' → Q' d δ') → t δ Q → t δ Q'
structure Dob (X : Cx) (Z : Ent) (e : Expr) (t : DBo) : Prop where
  run : PE X e (lOb X.K Z t)
  mono : ∀ (δ : DSt) (Q Q' : Ob → DSt → Prop), (∀ d δ', Q d δ' → Q' d δ') → t δ Q → t δ Q'
class RMono (t : DR) : Prop where
  m : ∀ (δ : DSt) (Q Q' : Res → DSt → Prop), (∀ d δ', Q d δ' → Q' d δ') → t δ Q → t δ Q'
class OBMono (t : DBo) : Prop where
  m : ∀ (δ : DSt) (Q Q' : Ob → DSt → Prop), (∀ d δ', Q d δ' → Q' d δ') → t δ Q → t δ Q'
/-! ### what is done with what is told -/
def dAsD (t : DR) : DE := fun δ Q => t δ fun r δ' => Q (asD r) δ'
def resO (Q : List PyData → Prop) : Res → Prop
  | .o xs => Q xs
  | _ => False
def resB (Q : Ob → Prop) : Res → Prop
  | .b o => Q o
  | _ => False
theorem resO_o {Q : List PyData → Prop} {xs : List PyData} : resO Q (.o xs) = Q xs := rfl
theorem resB_b {Q : Ob → Prop} {o : Ob} : resB Q (.b o) = Q o := rfl
def dAsO (t : DR) : DL' := fun δ Q => t δ fun r δ' => resO (fun xs => Q xs δ') r
def dAsB (t : DR) : DBo := fun δ Q => t δ fun r δ' => resB (fun o => Q o δ') r
def dShB (t : DBo) : DE := fun δ Q => t δ fun o δ' => Q (frzD o) δ'
instance {t : DR} [RMono t] : EMono (dAsD t) := ⟨fun δ Q Q' hq q => RMono.m (t := t) _ _ _ (fun r δ' z => hq _ _ z) q⟩
instance {t : DR} [RMono t] : LMono (dAsO t) := ⟨fun δ Q Q' hq q => RMono.m (t := t) _ _ _ (fun r δ' z => by
  cases r with
  | o xs => exact hq _ _ z
  | d d => exact z
  | b o => exact z) q⟩
instance {t : DR} [RMono t] : OBMono (dAsB t) := ⟨fun δ Q Q' hq q => RMono.m (t := t) _ _ _ (fun r δ' z => by
  cases r with
  | b o => exact hq _ _ z
  | d d => exact z
  | o xs => exact z) q⟩
instance {t : DBo} [OBMono t] : EMono (dShB t) := ⟨fun δ Q Q' hq q => OBMono.m (t := t) _ _ _ (fun r δ' z => hq _ _ z) q⟩
section
variable {X : Cx} {Z : Ent} {pos : Pos} {ex : Xd → DSt → Prop}
theorem Dr.de {e : Expr} {t : DR} (h : Dr X Z e t) : De X Z e (dAsD t) := by
  refine ⟨pe_imp h.run fun σ H Q ⟨Hs, δ, R, q⟩ => ⟨Hs, δ, R, h.mono _ _ _ (fun r δ' q v Hs' H' s R' c => ?_) q⟩, fun δ Q Q' hq q => h.mono _ _ _ (fun r δ' z => hq _ _ z) q⟩
  cases r with
  | d d => exact q v Hs' H' s R' c
  | o xs =>
    obtain ⟨Hs2, s2, R2, dp⟩ := FrO.share R' c
    exact q v Hs2 H' (s.trans s2) R2 dp
  | b o =>
    obtain ⟨A, c⟩ := c
    obtain ⟨Hs2, s2, R2, dp⟩ := FrA.share R' c
    exact q v Hs2 H' (s.trans s2) R2 dp
theorem Dr.do {e : Expr} {t : DR} (h : Dr X Z e t) : Do X Z e (dAsO t) := by
  refine ⟨pe_imp h.run fun σ H Q ⟨Hs, δ, R, q⟩ => ⟨Hs, δ, R, h.mono _ _ _ (fun r δ' q v Hs' H' s R' c => ?_) q⟩, fun δ Q Q' hq q => h.mono _ _ _ (fun r δ' z => ?_) q⟩
  · cases r with
    | o xs => exact q v Hs' H' s R' c
    | d d => exact q.elim
    | b o => exact q.elim
  · cases r with
    | o xs => exact hq _ _ z
    | d d => exact z
    | b o => exact z
theorem Dr.ob {e : Expr} {t : DR} (h : Dr X Z e t) : Dob X Z e (dAsB t) := by
  refine ⟨pe_imp h.run fun σ H Q ⟨Hs, δ, R, q⟩ => ⟨Hs, δ, R, h.mono _ _ _ (fun r δ' q v Hs' H' s R' c => ?_) q⟩, fun δ Q Q' hq q => h.mono _ _ _ (fun r δ' z => ?_) q⟩
  · cases r with
    | b o => exact c.elim fun A c => q v Hs' H' A s R' c
    | d d => exact q.elim
    | o xs => exact q.elim
  · cases r with
    | b o => exact hq _ _ z
    | d d => exact z
    | o xs => exact z
theorem Dob.sh {e : Expr} {t : DBo} (h : Dob X Z e t) : De X Z e (dShB t) := by
  refine ⟨pe_imp h.run fun σ H Q ⟨Hs, δ, R, q⟩ => ⟨Hs, δ, R, h.mono _ _ _ (fun o δ' q v Hs' H' A s R' c => ?_) q⟩, fun δ Q Q' hq q => h.mono _ _ _ (fun r δ' z => hq _ _ z) q⟩
  obtain ⟨Hs2, s2, R2, dp⟩ := FrA.share R' c
  exact q v Hs2 H' (s.trans s2) R2 dp
/-! ### calls -/
section
variable {k : Nat} {g : Addr} {fd : FuncData} {ps : List Str} {f : FG} {x m : Str} {e o : Expr} {es : List Expr} {t : DAg} {p apos : Pos} {dvs : List V} {dus : List Value} {dd : List PyData}
/-! methods -/
theorem look_none {m : Str} : ∀ {FS : List Str} {vs : List V}, m ∉ FS → (FS.zip vs).lookup m = none
  | [], _, _ => rfl
  | _ :: _, [], _ => rfl
  | x :: xs, v :: vs, h => by
    have ne : (m == x) = false := by
      rw [beq_eq_false_iff_ne]
      exact fun e => h (by rw [e]; exact List.mem_cons_self ..)
    rw [List.zip_cons_cons, List.lookup, ne]
    exact look_none fun z => h (List.mem_cons_of_mem _ z)
end
end
end DL

/-! DZg: shared objects: fields and methods; fields of one's own objects. -/
namespace DL
open PySem PySem.Spec L2 PyProof.Rows
section
variable {K : Fg} {H : Hp}
end
section
variable {X : Cx} {Z : Ent} {pos : Pos} {ex : Xd → DSt → Prop}
/-! ### fields put -/
section
variable {i n : Nat} {C : Str} {FS FS1 : List Str} {t : DE} {tl : DL'}
variable {f x : Str} {e : Expr} {px pa : Pos}
end
end
end DL

/-! DZh: methods of shared objects; objects made; lists that are fields. -/
namespace DL
open PySem PySem.Spec L2 PyProof.Rows
section
variable {X : Cx} {Z : Ent} {pos : Pos} {ex : Xd → DSt → Prop}
section
variable {k : Nat} {g : Addr} {fd : FuncData} {ps : List Str} {f : FG} {x m : Str} {e o : Expr} {es : List Expr} {t : DAg} {to : DE} {p apos : Pos} {dvs : List V} {dus : List Value} {dd : List PyData}
/-! ### objects made -/
theorem AgV.len {K : Fg} {Hs H : Hp} {σ : L2.St} {vs : List V} {as : List Ag} (h : AgV K Hs H σ vs as) : vs.length = as.length := by
  induction h with
  | nil => rfl
  | d _ _ ih => simp [ih]
  | p _ _ ih => simp [ih]
end
end
end DL

/-! DZi: a class's body; reading rules for simp. -/
namespace DL
open PySem PySem.Spec L2 PyProof.Rows
/-! arguments evaluated -/
theorem slots_nil {δ : DSt} : slots δ [] = some [] := rfl
theorem slots_d {δ : DSt} {d : PyData} {as : List Ag} : slots δ (.d d :: as) = (slots δ as).map (.sh d :: ·) := rfl
theorem outG_nil {δ : DSt} : outG [] δ = some [] := rfl
theorem outG_sh {d : PyData} {as : List Sl} {o : Option Sl} {δ : DSt} : outG (.sh d :: as) (o :: δ) = (outG as δ).map (.sh d :: ·) := rfl
theorem outG_ow {p : Bool} {xs ys : List PyData} {as : List Sl} {δ : DSt} : outG (.ow p xs :: as) (some (.ow true ys) :: δ) = (outG as δ).map (.ow true ys :: ·) := rfl
theorem outG_ob {p : Bool} {o o' : Ob} {as : List Sl} {δ : DSt} : outG (.ob p o :: as) (some (.ob true o') :: δ) = (outG as δ).map (.ob true o' :: ·) := rfl
theorem nd_nil : ([] : List Nat).Nodup = True := eq_true List.nodup_nil
theorem nd_one {i : Nat} : [i].Nodup = True := eq_true (by simp)
theorem frzD_ins {C : Str} {FS : List Str} {fs : List Fv} : frzD (.ins C FS fs) = insD C FS (fs.map fvD) := rfl
end DL

/-! DPa: holders of joints' gears; promises of the papers' defs. -/
namespace DM
open PySem PySem.Spec L2 DL
/-! ### sums of the first ones -/
/-! ### promises -/
/-! the sum of a cut -/
end DM

/-! DZj: the greatest and the least of a tuple of three ints. -/
namespace DL
open PySem PySem.Spec L2 PyProof.Rows
section
variable {X : Cx} {Z : Ent}
end
end DL

/-! DPb: what keeps the limits: plans and papers of any kind. -/
namespace DM
open PySem PySem.Spec L2 DL
abbrev G3 := Int × Int × Int
/-! ### things that are gears -/
def In9 (p : G3) : Prop := (0 ≤ p.1 ∧ p.1 ≤ 9) ∧ (0 ≤ p.2.1 ∧ p.2.1 ≤ 9) ∧ (0 ≤ p.2.2 ∧ p.2.2 ≤ 9)
/-! ### lists zipped -/
/-! ### plans -/
/-- a plan's gears at joints -/
def jg (ps : List G3) : Nat → Int
  | 0 => 0
  | k + 1 => (ps.getD k (0, 0, 0)).2.2
structure JoinP (c : Nat → Int) (ps : List G3) : Prop where
  join : ∀ (k : Nat) p q, ps[k]? = some p → ps[k + 1]? = some q → p.2.2 = q.1
  fst : ∀ (k : Nat) p, ps[k]? = some p → p.1 ≤ c k
  lst : ∀ (k : Nat) p, ps[k]? = some p → p.2.2 ≤ c (k + 1)
structure PlanP (l : Lim) (ts : List Et) (ps : List G3) : Prop where
  len : ps.length = ts.length
  gear : ∀ p ∈ ps, In9 p
  cap : ∀ (k : Nat) t p, ts[k]? = some t → ps[k]? = some p → max (max p.1 p.2.1) p.2.2 ≤ capOf l.pl t
  jn : JoinP (jcaps l.pl l.jt ts) ps
  fit : ∀ (k : Nat) t p, ts[k]? = some t → ps[k]? = some p → fitE l.up l.dn t.e p.1 p.2.2 p.2.1 = true
theorem fitE_in {l : Lim} {e : En} {a b t : Int} (hlim : LimOk l) (he : EnW e) (h : fitE l.up l.dn e a b t = true) : max a b ≤ t ∧ b ≤ a + chg l.up e ∧ a ≤ b + chg l.dn e := by
  have key : ∀ {r w : Rat} {x : Int}, 0 < w → (x : Rat) * w ≤ r → x ≤ (r / w).floor := fun {r w x} hw h => by
    rw [Rat.le_floor_iff]
    have e : r / w * w = r := by
      have : w ≠ 0 := by grind
      grind
    apply Classical.byContradiction
    intro z
    have := Rat.mul_pos (show 0 < (x : Rat) - r / w by grind) hw
    grind
  have arc : (decide (a = t) && decide (t = b)) = true → max a b ≤ t ∧ b ≤ a + 0 ∧ a ≤ b + 0 := fun h => by
    rw [Bool.and_eq_true] at h
    have h1 := of_decide_eq_true h.1
    have h2 := of_decide_eq_true h.2
    omega
  rcases e with ⟨p, q⟩ | ⟨⟨p, q⟩ | ⟨p, q, o, w⟩, r⟩
  · exact arc h
  · have h : (decide (a ≤ t) && decide (b ≤ t) && fitR r l.up l.dn a t b) = true := h
    rw [Bool.and_eq_true, Bool.and_eq_true] at h
    have h1 := of_decide_eq_true h.1.1
    have h2 := of_decide_eq_true h.1.2
    have h3 := of_decide_eq_true h.2
    have u := hlim.2.2.1.1
    have d := hlim.2.2.2.1
    have ra : 0 ≤ ((t - a : Int) : Rat) := by have := Rat.intCast_le_intCast.mpr (show 0 ≤ t - a by omega); exact this
    have rb : 0 ≤ ((t - b : Int) : Rat) := by have := Rat.intCast_le_intCast.mpr (show 0 ≤ t - b by omega); exact this
    have m1 := Rat.mul_nonneg ra (show 0 ≤ l.up by grind)
    have m2 := Rat.mul_nonneg rb (show 0 ≤ l.dn by grind)
    have k1 := key u (show ((t - a : Int) : Rat) * l.up ≤ r by grind)
    have k2 := key d (show ((t - b : Int) : Rat) * l.dn ≤ r by grind)
    refine ⟨by omega, ?_, ?_⟩
    · show b ≤ a + (r / l.up).floor
      omega
    · show a ≤ b + (r / l.dn).floor
      omega
  · exact arc h
theorem fitE_top {l : Lim} {e : En} {cap a b t A B : Int} (hlim : LimOk l) (h : fitE l.up l.dn e a b t = true) (ha : a ≤ A) (hb : b ≤ B) (hc : t ≤ cap) : t ≤ topE l.up l.dn e cap A B := by
  have ge := (climb_ge (p := fitE l.up l.dn e A B) (n := (cap - max A B).toNat) (t := max A B)).1
  rcases (show t ≤ max A B ∨ max A B ≤ t by omega) with z | z
  · exact Int.le_trans z ge
  rcases e with ⟨p, q⟩ | ⟨⟨p, q⟩ | ⟨p, q, o, w⟩, r⟩
  · have h : (decide (a = t) && decide (t = b)) = true := h
    rw [Bool.and_eq_true] at h
    have h1 := of_decide_eq_true h.1
    have : t ≤ max A B := by omega
    exact Int.le_trans this ge
  · have h : (decide (a ≤ t) && decide (b ≤ t) && fitR r l.up l.dn a t b) = true := h
    rw [Bool.and_eq_true, Bool.and_eq_true] at h
    have h3 := of_decide_eq_true h.2
    have u := hlim.2.2.1.1
    have d := hlim.2.2.2.1
    refine climb_top (fun x hx hf => ?_) t z (by omega) ?_
    · have hf : (decide (A ≤ x + 1) && decide (B ≤ x + 1) && fitR r l.up l.dn A (x + 1) B) = true := hf
      rw [Bool.and_eq_true] at hf
      show (decide (A ≤ x) && decide (B ≤ x) && fitR r l.up l.dn A x B) = true
      rw [decide_eq_true (show A ≤ x by omega), decide_eq_true (show B ≤ x by omega)]
      exact fitR_down u d hf.2
    · show (decide (A ≤ t) && decide (B ≤ t) && fitR r l.up l.dn A t B) = true
      rw [decide_eq_true (show A ≤ t by omega), decide_eq_true (show B ≤ t by omega)]
      refine decide_eq_true ?_
      have e1 : ((t - A : Int) : Rat) = ((t - a : Int) : Rat) - ((A - a : Int) : Rat) := by rw [← Rat.intCast_sub, show t - a - (A - a) = t - A by omega]
      have e2 : ((t - B : Int) : Rat) = ((t - b : Int) : Rat) - ((B - b : Int) : Rat) := by rw [← Rat.intCast_sub, show t - b - (B - b) = t - B by omega]
      have ra : 0 ≤ ((A - a : Int) : Rat) := by have := Rat.intCast_le_intCast.mpr (show 0 ≤ A - a by omega); exact this
      have rb : 0 ≤ ((B - b : Int) : Rat) := by have := Rat.intCast_le_intCast.mpr (show 0 ≤ B - b by omega); exact this
      have m1 := Rat.mul_nonneg ra (show 0 ≤ l.up by grind)
      have m2 := Rat.mul_nonneg rb (show 0 ≤ l.dn by grind)
      rw [e1, e2]
      grind
  · have h : (decide (a = t) && decide (t = b)) = true := h
    rw [Bool.and_eq_true] at h
    have h1 := of_decide_eq_true h.1
    have : t ≤ max A B := by omega
    exact Int.le_trans this ge
section
variable {l : Lim} {ts : List Et} {ps : List G3}
theorem PlanP.at (P : PlanP l ts ps) {k : Nat} (h : k < ts.length) : ∃ t p, ts[k]? = some t ∧ ps[k]? = some p := ⟨_, _, List.getElem?_eq_getElem h, List.getElem?_eq_getElem (by rw [P.len]; exact h)⟩
theorem jg_s {k : Nat} {p : G3} (e : ps[k]? = some p) : jg ps (k + 1) = p.2.2 := by
  show (ps.getD k (0, 0, 0)).2.2 = _
  rw [List.getD_eq_getElem?_getD, e]
  rfl
theorem PlanP.fst (P : PlanP l ts ps) {k : Nat} {p : G3} (e : ps[k]? = some p) : p.1 = jg ps k := by
  cases k with
  | zero =>
    have h1 : p.1 ≤ 0 := P.jn.fst 0 p e
    have h2 := (P.gear p (List.mem_of_getElem? e)).1.1
    show p.1 = 0
    omega
  | succ k =>
    have hk := get_lt e
    obtain ⟨q, eq⟩ : ∃ q, ps[k]? = some q := ⟨_, List.getElem?_eq_getElem (by omega)⟩
    rw [jg_s eq]
    exact (P.jn.join k q p eq e).symm
theorem PlanP.sol (P : PlanP l ts ps) (hlim : LimOk l) (ht : ∀ t ∈ ts, EtW t) : Sol ts.length (jcaps l.pl l.jt ts) (chgs l.up ts) (chgs l.dn ts) (jg ps) := by
  refine ⟨fun i hi => ?_, fun k hk => ?_, fun k hk => ?_⟩
  · cases i with
    | zero => exact Int.le_refl 0
    | succ k =>
      obtain ⟨t, p, e1, e2⟩ := P.at (k := k) (by omega)
      rw [jg_s e2]
      exact P.jn.lst k p e2
  · obtain ⟨t, p, e1, e2⟩ := P.at hk
    have f := fitE_in hlim (ht t (List.mem_of_getElem? e1)).1 (P.fit k t p e1 e2)
    rw [jg_s e2, ← P.fst e2, chgs, getD_of e1]
    exact f.2.1
  · obtain ⟨t, p, e1, e2⟩ := P.at hk
    have f := fitE_in hlim (ht t (List.mem_of_getElem? e1)).1 (P.fit k t p e1 e2)
    rw [jg_s e2, ← P.fst e2, chgs, getD_of e1]
    exact f.2.2
/-- nowhere greater than the quickest -/
theorem PlanP.le (P : PlanP l ts ps) (hlim : LimOk l) (ht : ∀ t ∈ ts, EtW t) {k : Nat} {p q : G3} (e : ps[k]? = some p) (e' : (planL l ts)[k]? = some q) : p.1 ≤ q.1 ∧ p.2.1 ≤ q.2.1 ∧ p.2.2 ≤ q.2.2 := by
  have hk : k < ts.length := by rw [← P.len]; exact get_lt e
  obtain ⟨t, et⟩ : ∃ t, ts[k]? = some t := ⟨_, List.getElem?_eq_getElem hk⟩
  rw [planL, planG_get et] at e'
  cases e'
  have hr : ∀ k, k < ts.length → 0 ≤ chgs l.up ts k := fun k _ => chgs_nn hlim.2.2.1.1 ht k
  have hd : ∀ k, k < ts.length → 0 ≤ chgs l.dn ts k := fun k _ => chgs_nn hlim.2.2.2.1 ht k
  have g := gr_grt (c := jcaps l.pl l.jt ts) hr hd
  have a := g.top _ (P.sol hlim ht) k (by omega)
  have b := g.top _ (P.sol hlim ht) (k + 1) (by omega)
  rw [← P.fst e] at a
  rw [jg_s e] at b
  have c := P.cap k t p et e
  exact ⟨a, fitE_top hlim (P.fit k t p et e) a b (by omega), b⟩
/-! ### papers -/
end
/-! holders -/
/-! ### promises -/
/-! ### lists of gears -/
/-! ### nowhere greater -/
/-! a plan that keeps all, some joints held lower -/
/-! a plan with one gear more: somewhere greater -/
end DM

/-! DVa: zip of two tuples. -/
namespace DL
open PySem PySem.Spec L2
section
variable {X : Cx} {Z : Ent} {pos : Pos} {tg : Expr}
end
/-! ### a, b = e1, e2, the first one a new list of one's own -/
section
variable {X : Cx} {Z : Ent} {pos : Pos}
end
end DL

/-! DVb: enumerate(zip(xs, ys)) -/
namespace DZ
open PySem Sem
section
variable {prog : Program} {w : World} {A : Around} {E : Value → Shared → Prop} {s : Shared}
/-! the enumerate around it -/
end
end DZ
namespace DZ
open PySem Sem
section
variable {prog : Program} {w : World} {A : Around} {E : Value → Shared → Prop} {s : Shared}
end
end DZ
namespace DL
open PySem PySem.Spec PyProof.Rows L2 DZ
section
variable {X : Cx} {Z : Ent} {pos : Pos}
end
end DL

/-! DVc: lists that are fields of one's own objects: seen, cut, lengthened; len of an object. -/
namespace DL
open PySem PySem.Spec L2
section
variable {K : Fg} {Z : Ent} {Hs Hs' H H' : Hp} {σ : L2.St} {δ : DSt}
end
/-! ### a list of one's own, seen -/
section
variable {X : Cx} {Z : Ent} {pos : Pos}
/-! len -/
/-! one item, by a written place -/
end
/-! reversed -/
section
variable {X : Cx} {Z : Ent} {pos : Pos} {tg : Expr}
end
/-! ### parts, and one item more: what is between may look at the object -/
section
variable {K : Fg} {Z : Ent} {Hs Hs' H H' : Hp} {σ : L2.St} {δ : DSt}
end
section
variable {X : Cx} {Z : Ent} {pos : Pos}
end
end DL

/-! DVd: len of an object of one's own. -/
namespace DL
open PySem PySem.Spec L2
section
variable {X : Cx} {Z : Ent} {pos : Pos}
variable {k : Nat} {g : Addr} {fd : FuncData} {ps : List Str} {dvs : List V} {dus : List Value}
end
end DL

/-! DPc: gears told with some steps known ahead. -/
namespace DM
open PySem PySem.Spec L2 DL
def cutF (n : Nat) (c : Nat → Int) : Nat → Int := fun i => if i < n then c i else 0
/-- the greatest gear at joint k from which it can stand behind n entries -/
def rchF (l : Lim) (ts : List Et) (n k : Nat) : Int := gbw (cutF n (jcaps l.pl l.jt ts)) (chgs l.dn ts) n k
section
variable {l : Lim} {ts : List Et} {n : Nat}
end
/-! ### the objects -/
/-! ### promises -/
/-! the law's -/
end DM

/-! DVe: extend of a list of one's own; a new list by `.. if .. else ..`. -/
namespace DL
open PySem PySem.Spec L2
section
variable {X : Cx} {Z : Ent} {pos : Pos}
end
end DL

/-! DVf: an object of one's own and others told at once: o, xs = C(..), [] and o, i, j = C(..), 0, 0. -/
namespace DL
open PySem PySem.Spec L2
section
variable {X : Cx} {Z : Ent} {pos : Pos}
end
end DL

/-! DPd: what an Ahead tells, put together. -/
namespace DM
open PySem PySem.Spec L2 DL
/-! ### what is told, bit by bit -/
section
variable {l : Lim} {ts : List Et}
def entG (l : Lim) (ts : List Et) (G : Nat → Int) (i : Nat) : G3 := (G i, topE l.up l.dn (ts.getD i et0).e (capOf l.pl (ts.getD i et0)) (G i) (G (i + 1)), G (i + 1))
structure TF (l : Lim) (ts : List Et) (n m : Nat) (g : Int) (acc : List G3) (G : Nat → Int) : Prop where
  g0 : G 0 = 0
  gm : G m = g
  cap : ∀ i, i ≤ m → 0 ≤ G i ∧ G i ≤ jcaps l.pl l.jt ts i
  up : ∀ k, k < m → G (k + 1) ≤ G k + chgs l.up ts k
  dn : ∀ k, k < m → G k ≤ G (k + 1) + chgs l.dn ts k
  ac : acc = (List.range m).map (entG l ts G)
  rc : g ≤ rchF l ts n m
  mn : m ≤ n
  nl : n ≤ ts.length
theorem TF.sol {n m : Nat} {g : Int} {acc : List G3} {G : Nat → Int} (f : TF l ts n m g acc G) (hm : m = ts.length) : Sol ts.length (jcaps l.pl l.jt ts) (chgs l.up ts) (chgs l.dn ts) G := by
  subst hm
  exact ⟨fun i hi => (f.cap i hi).2, f.up, f.dn⟩
/-! ### a run by a window -/
end
end DM

/-! DVg: monotony of DVe's and DVf's readings. -/
namespace DL
open PySem PySem.Spec L2
end DL
namespace DM
open PySem PySem.Spec L2 DL
end DM

/-! DPe: ways parted by hops; what is told by windows, compared. -/
namespace DM
open PySem PySem.Spec L2 DL
section
variable {l : Lim}
end
end DM

/-! DVh: a method, or len, of an object that was just made: a slot more for it. -/
namespace DL
open PySem PySem.Spec L2
section
variable {K : Fg} {Z : Ent} {Hs H Hs' H' : Hp} {σ : L2.St} {δ : DSt}
theorem gd_snoc {α : Type} {l : List (Option α)} {i : Nat} {y : α} (h : (l ++ [none])[i]? = some (some y)) : l[i]? = some (some y) := by
  rcases Nat.lt_or_ge i l.length with z | z
  · rw [List.getElem?_append_left z] at h
    exact h
  · rw [List.getElem?_append_right z] at h
    rcases Nat.eq_zero_or_pos (i - l.length) with e | e
    · rw [e] at h
      cases h
    · rw [List.getElem?_eq_none (by simp; omega)] at h
      cases h
theorem gs_snoc {α : Type} {l : List α} {i : Nat} {x y : α} (h : l[i]? = some y) : (l ++ [x])[i]? = some y := by
  rw [List.getElem?_append_left (get_lt' h)]
  exact h
where get_lt' {α : Type} {l : List α} {i : Nat} {y : α} (h : l[i]? = some y) : i < l.length := (List.getElem?_eq_some_iff.mp h).1
theorem Fps.pad {f : Nat → List Addr} {x : Option V} (F : Fps K Z Hs H σ δ f) : Fps K Z Hs H (σ ++ [x]) (δ ++ [none]) f :=
  ⟨fun i s e o => let ⟨v, a, b⟩ := F.at_ i s (gd_snoc e) o; ⟨v, gs_snoc a, b⟩, fun i h => F.emp i fun s e => h s (gs_snoc e), F.hs, F.old, fun i s a e => F.mine i s a (gd_snoc e), F.dis, F.g⟩
theorem Fps.unpad {f : Nat → List Addr} {x : Option V} (hl : σ.length = δ.length) (F : Fps K Z Hs H (σ ++ [x]) (δ ++ [none]) f) : Fps K Z Hs H σ δ f := by
  refine ⟨fun i s e o => ?_, fun i h => F.emp i fun s e => h s (gd_snoc e), F.hs, F.old, fun i s a e => F.mine i s a (gs_snoc e), F.dis, F.g⟩
  obtain ⟨v, a, b⟩ := F.at_ i s (gs_snoc e) o
  have := (List.getElem?_eq_some_iff.mp e).1
  rw [List.getElem?_append_left (by omega)] at a
  exact ⟨v, a, b⟩
theorem Rl.pad1 {x : Option V} (R : Rl K Z Hs H σ δ) : Rl K Z Hs H (σ ++ [x]) (δ ++ [none]) := by
  refine ⟨by rw [List.length_append, List.length_append, R.len]; rfl, R.sub, R.ext, R.fr, R.new, R.hid, fun i d e => ?_, ?_, R.grd, fun i s e p => ?_, fun i C e => ?_⟩
  · obtain ⟨v, a, b⟩ := R.shr i d (gd_snoc e)
    exact ⟨v, gs_snoc a, b⟩
  · obtain ⟨f, F⟩ := R.fps
    exact ⟨f, F.pad⟩
  · have e := gd_snoc e
    have hi := (List.getElem?_eq_some_iff.mp e).1
    rw [← R.prm i s e p, List.getElem?_append_left (by rw [R.len]; exact hi)]
  · obtain ⟨a, e1, e2⟩ := R.exn i C (gd_snoc e)
    exact ⟨a, gs_snoc e1, e2⟩
theorem Rl.unpad {x : Option V} (hl : σ.length = δ.length) (R : Rl K Z Hs H (σ ++ [x]) (δ ++ [none])) : Rl K Z Hs H σ δ := by
  refine ⟨hl, R.sub, R.ext, R.fr, R.new, R.hid, fun i d e => ?_, ?_, R.grd, fun i s e p => ?_, fun i C e => ?_⟩
  · obtain ⟨v, a, b⟩ := R.shr i d (gs_snoc e)
    have hi := (List.getElem?_eq_some_iff.mp e).1
    rw [List.getElem?_append_left (by omega)] at a
    exact ⟨v, a, b⟩
  · obtain ⟨f, F⟩ := R.fps
    exact ⟨f, F.unpad hl⟩
  · have hi := (List.getElem?_eq_some_iff.mp e).1
    rw [← R.prm i s (gs_snoc e) p, List.getElem?_append_left (by omega)]
  · obtain ⟨a, e1, e2⟩ := R.exn i C (gs_snoc e)
    have hi := (List.getElem?_eq_some_iff.mp e).1
    rw [List.getElem?_append_left (by omega)] at e1
    exact ⟨a, e1, e2⟩
theorem FrA.pad {w : V} {s : Sl} {A : List Addr} {x : Option V} (hl : σ.length = δ.length) (c : FrA K Z Hs H σ δ w s A) : FrA K Z Hs H (σ ++ [x]) (δ ++ [none]) w s A :=
  ⟨c.at_, c.hs, c.mine, fun f F => c.dis f (F.unpad hl), c.g⟩
theorem FrA.unpad {w : V} {s : Sl} {A : List Addr} {x : Option V} {y : Option Sl} (hl : σ.length = δ.length) (R : Rl K Z Hs H (σ ++ [x]) (δ ++ [y])) (c : FrA K Z Hs H (σ ++ [x]) (δ ++ [y]) w s A) : FrA K Z Hs H σ δ w s A := by
  refine ⟨c.at_, c.hs, c.mine, fun f F j a m m' => ?_, c.g⟩
  obtain ⟨f', F'⟩ := R.fps
  by_cases hj : j < δ.length
  · have e := F'.eqj F j (by rw [List.getElem?_append_left hj]) (fun v h => by rw [List.getElem?_append_left (by omega)] at h; exact h) fun a _ => rfl
    rw [e] at m'
    exact c.dis f' F' j a m m'
  · rw [F.emp j fun s e => absurd (List.getElem?_eq_some_iff.mp e).1 hj] at m'
    cases m'
/-- a new object is put in a slot behind all others -/
theorem Rl.snoc (R : Rl K Z Hs H σ δ) {v : V} {s : Sl} {A : List Addr} (c : FrA K Z Hs H σ δ v s A) (hp : s.prm = false) : Rl K Z Hs H (σ ++ [some v]) (δ ++ [some s]) := by
  have := (R.pad1 (x := none)).setA (i := σ.length) (c.pad R.len) hp
  rw [List.set_append_right _ _ (Nat.le_refl _), Nat.sub_self, List.set_append_right _ _ (by rw [R.len]; exact Nat.le_refl _), R.len, Nat.sub_self] at this
  exact this
end
section
variable {X : Cx} {Z : Ent} {pos : Pos} {k : Nat} {g : Addr} {fd : FuncData} {ps : List Str} {dvs : List V} {dus : List Value} {dd : List PyData} {f : FG} {ex : Xd → DSt → Prop}
end
end DL

/-! DPf: which gears are told (k63). -/
namespace DM
open PySem PySem.Spec L2 DL
section
variable {l : Lim} {ts : List Et}
end
end DM

/-! DQa: a loop over an own list, which stays as it is while the loop goes (it may be changed behind it). -/
namespace DL
open PySem PySem.Spec L2
section
variable {K : Fg} {Z : Ent} {Hs H Hs' H' : Hp} {σ σ0 : St} {δ δ0 : DSt}
end
section
variable {X : Cx} {Z : Ent} {pos : Pos} {tg : Expr}
end
section
variable {g : DG} {s : DS}
end
end DL

/-! DSa: texts: comparisons, int() and str(), methods, f-strings, walks. -/
namespace DL
open PySem PySem.Spec L2
section
variable {X : Cx} {Z : Ent} {pos : Pos}
/-- a text of one sign -/
def sgn (c : Nat) : Str := ⟨#[c]⟩
/-! ### int(text), str(thing) -/
/-! ### methods of one text -/
end
end DL

/-! DPg: when gears are told (k62). -/
namespace DM
open PySem PySem.Spec L2 DL
section
variable {l : Lim} {ts : List Et}
end
end DM

/-! DTa: tables of the module, dicts (shared and one's own), defs held in slots. -/
namespace DL
open PySem PySem.Spec L2
/-! ### a table of the module, by texts -/
section
open PyProof.Rows PyProof.Rows.KTD PySem.Calls PyProof.V
variable {prog : Program} {w : World} {A : Around} {E : Value → Shared → Prop} {s : Shared} {a : Addr} {R : PyData → Value → Prop} {D : List (Str × PyData)} {k : Str} {tk : Tok}
end
section
variable {X : Cx} {Z : Ent} {pos : Pos}
/-! ### defs held in slots -/
end
end DL

/-! DTb: zip of a text and a list of as many things, strict. -/
namespace DZ
open PySem Sem
section
variable {prog : Program} {w : World} {A : Around} {E : Value → Shared → Prop} {s : Shared}
end
section
variable {prog : Program} {w : World} {A : Around} {E : Value → Shared → Prop} {s : Shared}
end
end DZ

/-! DTc: walks of a strict zip of a text and a list; of a text. -/
namespace DL
open PySem PySem.Spec L2 DZ
section
variable {M : Model} {A : Around} {E : Value → Shared → Prop} {s : Shared} {env : Env}
end
/-! ### by data -/
/-- a text's signs -/
def signs (x : Str) : List PyData := x.cps.toList.map fun c => .str (sgn c)
end DL

/-! DTd: dicts by data (shared, one's own), a sign of a text. -/
namespace DL
open PySem PySem.Spec L2
def obD (kds : List (Key × PyData)) : Ob := .dct (kds.map (·.1)) (kds.map (·.2))
def lookK (kds : List (Key × PyData)) (k : Key) : Option PyData := (kds.find? fun kd => decide (kd.1 = k)).map (·.2)
def putD (kds : List (Key × PyData)) (k : Key) (d : PyData) : List (Key × PyData) := if (kds.any fun kd => decide (kd.1 = k)) = true then kds.map (fun kd => if kd.1 = k then (kd.1, d) else kd) else kds ++ [(k, d)]
theorem pairs_inj {α β : Type} : ∀ {a b : List (α × β)}, a.map (·.1) = b.map (·.1) → a.map (·.2) = b.map (·.2) → a = b
  | [], [], _, _ => rfl
  | [], _ :: _, h, _ => nomatch h
  | _ :: _, [], h, _ => nomatch h
  | (x, y) :: a, (x', y') :: b, h1, h2 => by
    rw [List.map_cons, List.map_cons] at h1 h2
    injection h1 with h1 h1'
    injection h2 with h2 h2'
    rw [pairs_inj h1' h2']
    simp only at h1 h2
    rw [h1, h2]
theorem obD_inj {a b : List (Key × PyData)} : obD a = obD b ↔ a = b := ⟨fun h => by
  unfold obD at h
  injection h with h1 h2
  exact pairs_inj h1 h2, fun h => by rw [h]⟩
/-- entries, keys alike -/
inductive KD (K : Fg) (H : Hp) : List (Key × V) → List (Key × PyData) → Prop
  | nil : KD K H [] []
  | cons {k : Key} {v : V} {d : PyData} {r : List (Key × V)} {s : List (Key × PyData)} : Dp K H v d → KD K H r s → KD K H ((k, v) :: r) ((k, d) :: s)
section
variable {K : Fg} {H : Hp}
theorem KD.of : ∀ {ks : List Key} {vs : List V} {kds : List (Key × PyData)}, ks = kds.map (·.1) → ks.length = vs.length → DpAll K H vs (kds.map (·.2)) → KD K H (ks.zip vs) kds
  | [], [], [], _, _, _ => .nil
  | [], [], _ :: _, h, _, _ => nomatch h
  | [], _ :: _, _, _, h, _ => nomatch h
  | _ :: _, [], _, _, h, _ => nomatch h
  | k :: ks, v :: vs, [], h, _, _ => nomatch h
  | k :: ks, v :: vs, (k', d) :: r, h, l, .cons a t => by
    rw [List.map_cons] at h
    injection h with h1 h2
    simp only at h1
    subst h1
    exact .cons a (KD.of h2 (by simpa using l) t)
theorem KD.keys {kvs : List (Key × V)} {kds : List (Key × PyData)} (h : KD K H kvs kds) : kvs.map (·.1) = kds.map (·.1) := by
  induction h with
  | nil => rfl
  | cons _ _ ih => rw [List.map_cons, List.map_cons, ih]
theorem KD.vals {kvs : List (Key × V)} {kds : List (Key × PyData)} (h : KD K H kvs kds) : DpAll K H (kvs.map (·.2)) (kds.map (·.2)) := by
  induction h with
  | nil => exact .nil
  | cons a _ ih => exact .cons a ih
theorem zip_fs {α β : Type} : ∀ (l : List (α × β)), (l.map (·.1)).zip (l.map (·.2)) = l
  | [] => rfl
  | (a, b) :: r => by
    show (a, b) :: (r.map (·.1)).zip (r.map (·.2)) = _
    rw [zip_fs r]
theorem KD.any {kvs : List (Key × V)} {kds : List (Key × PyData)} (h : KD K H kvs kds) (k : Key) : (kvs.any fun kv => decide (kv.1 = k)) = kds.any fun kd => decide (kd.1 = k) := by
  induction h with
  | nil => rfl
  | cons _ _ ih => rw [List.any_cons, List.any_cons, ih]
theorem KD.put {kvs : List (Key × V)} {kds : List (Key × PyData)} (h : KD K H kvs kds) (k : Key) {v : V} {d : PyData} (dp : Dp K H v d) : KD K H (putK kvs k v) (putD kds k d) := by
  have e := h.any k
  unfold putK putD
  rw [e]
  split
  · clear e
    rename_i hx
    clear hx
    induction h with
    | nil => exact .nil
    | @cons k' v' d' r s a _ ih =>
      rw [List.map_cons, List.map_cons]
      by_cases q : k' = k
      · rw [if_pos q, if_pos q]
        exact .cons dp ih
      · rw [if_neg q, if_neg q]
        exact .cons a ih
  · clear e
    rename_i hx
    clear hx
    induction h with
    | nil => exact .cons dp .nil
    | cons a _ ih => exact .cons a ih
theorem KD.look {kvs : List (Key × V)} {kds : List (Key × PyData)} (h : KD K H kvs kds) (k : Key) : (∀ d, lookK kds k = some d → ∃ v, valV kvs k = some v ∧ Dp K H v d) ∧ (lookK kds k = none → valV kvs k = none) := by
  induction h with
  | nil => exact ⟨fun d e => (nomatch e), fun _ => rfl⟩
  | @cons k' v' d' r s a _ ih =>
    by_cases q : k' = k
    · have e1 : lookK ((k', d') :: s) k = some d' := by unfold lookK; rw [List.find?_cons, decide_eq_true q]; rfl
      have e2 : valV ((k', v') :: r) k = some v' := valV_pos q
      rw [e1, e2]
      exact ⟨fun d e => by cases e; exact ⟨v', rfl, a⟩, fun e => nomatch e⟩
    · have e1 : lookK ((k', d') :: s) k = lookK s k := by unfold lookK; rw [List.find?_cons, decide_eq_false q]
      have e2 : valV ((k', v') :: r) k = valV r k := valV_neg q
      rw [e1, e2]
      exact ih
theorem KD.up {H' : Hp} {kvs : List (Key × V)} {kds : List (Key × PyData)} (h : KD K H kvs kds) (e : Same H H') : KD K H' kvs kds := by
  induction h with
  | nil => exact .nil
  | cons a _ ih => exact .cons (a.up e) ih
end
section
variable {X : Cx} {Z : Ent} {pos : Pos} {k : Nat}
/-! ### d[k], k in d of a shared dict -/
/-! ### dicts of one's own -/
theorem Rl.putD {K : Fg} {Hs H : Hp} {σ : L2.St} {δ : DSt} (R : Rl K Z Hs H σ δ) {i : Nat} {p : Bool} {kds : List (Key × PyData)} (h : δ[i]? = some (some (.ob p (obD kds)))) {kk : Key} {v : V} {d : PyData} (dp : Dp K Hs v d) :
    ∃ a kvs, σ[i]? = some (some (V.ref a)) ∧ H a = some (.dK kvs) ∧ KD K Hs kvs kds ∧ Rl K Z Hs (upd H a (.dK (putK kvs kk v))) σ (δ.set i (some (.ob p (obD (DL.putD kds kk d))))) := by
  obtain ⟨a, vs, h1, h2, h3, h4, h5⟩ := R.ownD i p _ _ h
  have kd := KD.of rfl h4 h5
  refine ⟨a, _, h1, h2, kd, ?_⟩
  have kd2 := kd.put kk dp
  have fi : ∀ f, Fps K Z Hs H σ δ f → f i = [a] := fun f F => by
    obtain ⟨v, k1, k2⟩ := F.at_ i _ h rfl
    rw [h1] at k1
    cases k1
    exact k2.uniq (.dct h2 h4 h5)
  have at2 : At K Hs (upd H a (.dK (putK ((kds.map (·.1)).zip vs) kk v))) (.ref a) (.ob p (obD (DL.putD kds kk d))) [a] := by
    refine .dct (vs := (putK ((kds.map (·.1)).zip vs) kk v).map (·.2)) ?_ (by rw [← kd2.keys, List.length_map, List.length_map]) kd2.vals
    rw [upd_same, ← kd2.keys, zip_fs]
  refine R.chg (A := [a]) (s' := .ob p (obD (DL.putD kds kk d))) h rfl h1 rfl (Same.refl _) (fun b x e => ?_) (fun f F b o n e => ?_) (fun b n => ?_) (fun b n => .inl n) at2 (fun f F b m => .inl (by rw [fi f F]; exact m)) (fun b m => by rw [List.mem_singleton.mp m]; exact h3)
  · rw [upd_ne (ne_of_none e h3)]
    exact R.sub b x e
  · rw [fi f F] at n
    rw [upd_ne (fun q => n (List.mem_singleton.mpr q))]
    exact e
  · by_cases q : b = a
    · subst q
      rw [upd_same]
      exact fun z => nomatch z
    · rw [upd_ne q]
      exact n
/-! ### a sign of a text -/
end
end DL

/-! DTe: [e for x in xs if .. for y in ys if ..]. -/
namespace DL
open PySem PySem.Spec L2
section
variable {K : Fg} {Z : Ent} {Hs H : Hp} {σ : L2.St} {δ : DSt}
end
section
variable {X : Cx} {Z : Ent} {pos : Pos} {tg tg1 : Expr}
end
end DL

/-! DTf: str(..), f-strings; readings of texts told apart. -/
namespace DL
open PySem PySem.Spec L2
section
variable {X : Cx} {Z : Ent} {pos : Pos}
/-! ### f-strings -/
end
end DL

/-! DTg: a dict of one's own lent to a test; monotony. -/
namespace DL
open PySem PySem.Spec L2
section
variable {X : Cx} {Z : Ent} {pos : Pos}
end
section
variable {g g1 : DG} {tt tt1 : DT} {ti ti1 : DL'} {te : DE} {vs vs1 : List Nat}
end
end DL

/-! DUa: rows of programs and their texts, by plain law. -/
namespace DR
open PySem PySem.Spec L2 DL SX
/-! ### words -/
inductive Wd where
  | hop | cut | run | left | right | by_ | from_ | pace | side | shift | turn | flip | back | piece | end_ | call
  deriving DecidableEq
def Wd.s : Wd → Str
  | .hop => "hop" | .cut => "cut" | .run => "run" | .left => "left" | .right => "right" | .by_ => "by" | .from_ => "from" | .pace => "pace"
  | .side => "side" | .shift => "shift" | .turn => "turn" | .flip => "flip" | .back => "back" | .piece => "piece" | .end_ => "end" | .call => "call"
def Wd.sh : Wd → Str
  | .hop => "xx" | .cut => "xx" | .run => "ppl" | .left => "xxpp" | .right => "xxpp" | .by_ => "" | .from_ => "" | .pace => "g"
  | .side => "r" | .shift => "rr" | .turn => "pp" | .flip => "" | .back => "" | .piece => "n" | .end_ => "" | .call => "nt"
theorem wd_free (w : Wd) : 32 ∉ w.s.cps.toList ∧ 10 ∉ w.s.cps.toList ∧ w.s.length ≤ 5 := by
  cases w <;> (unfold Wd.s; decide +kernel)
/-- where the heading's numbers stand -/
def Wd.at_ : Wd → Option Nat
  | .run => some 0
  | .left => some 2
  | .right => some 2
  | .turn => some 0
  | _ => none
/-! ### values -/
inductive Rv where
  | pt
  | nu (u : Rat)
  | wh (i : Int)
  | nm (l : List Nat)
  deriving DecidableEq
def Rv.d : Rv → PyData
  | .pt => .none
  | .nu u => numD u
  | .wh i => .int i
  | .nm l => .str (S l)
/-- a whole number's text -/
def intT (i : Int) : List Nat := if i < 0 then 45 :: TL.numL i.natAbs else TL.numL i.natAbs
def numT (u : Rat) : List Nat := if u.den = 1 then intT u.num else intT u.num ++ 47 :: TL.numL u.den
def Rv.t : Rv → List Nat
  | .pt => [46]
  | .nu u => numT u
  | .wh i => intT i
  | .nm l => l
def NumOk (u : Rat) : Prop := u.num.natAbs ≤ 9999 ∧ u.den ≤ 999
def NameOk (l : List Nat) : Prop := l ≠ [] ∧ l.length ≤ 8 ∧ ∀ c ∈ l, 97 ≤ c ∧ c ≤ 122
/-- what a sign of a shape lets stand -/
inductive OkV : Nat → Rv → Prop
  | xp : OkV 120 .pt
  | xn {u : Rat} : NumOk u → OkV 120 (.nu u)
  | r {u : Rat} : NumOk u → OkV 114 (.nu u)
  | l {u : Rat} : NumOk u → 0 < u → OkV 108 (.nu u)
  | p {i : Int} : -99 ≤ i → i ≤ 99 → OkV 112 (.wh i)
  | g {i : Int} : 0 ≤ i → i ≤ 9 → OkV 103 (.wh i)
  | t {i : Int} : 1 ≤ i → i ≤ 99 → OkV 116 (.wh i)
  | n {l : List Nat} : NameOk l → OkV 110 (.nm l)
structure Rw where
  w : Wd
  vs : List Rv
  deriving DecidableEq
def Rw.d (r : Rw) : PyData := .tuple (.str r.w.s :: r.vs.map Rv.d)
def Rw.words (r : Rw) : List (List Nat) := r.w.s.cps.toList :: r.vs.map Rv.t
def Rw.t (r : Rw) : List Nat := TL.joinL [32] r.words
structure RwOk (r : Rw) : Prop where
  len : r.vs.length = r.w.sh.cps.size
  ok : ∀ (i : Nat) (c : Nat) (v : Rv), r.w.sh.cps[i]? = some c → r.vs[i]? = some v → OkV c v
  hd : ∀ k, r.w.at_ = some k → ∃ p q, r.vs[k]? = some (.wh p) ∧ r.vs[k + 1]? = some (.wh q) ∧ ¬ (p = 0 ∧ q = 0)
/-! ### signs of texts -/
theorem intT_mem {i : Int} {c : Nat} (h : c ∈ intT i) : c = 45 ∨ (48 ≤ c ∧ c ≤ 57) := by
  unfold intT at h
  split at h
  · rcases List.mem_cons.mp h with z | z
    · exact .inl z
    · exact .inr (TL.numL_digits _ c z)
  · exact .inr (TL.numL_digits _ c h)
theorem numT_mem {u : Rat} {c : Nat} (h : c ∈ numT u) : c = 45 ∨ c = 47 ∨ (48 ≤ c ∧ c ≤ 57) := by
  unfold numT at h
  split at h
  · rcases intT_mem h with z | z
    · exact .inl z
    · exact .inr (.inr z)
  · rcases List.mem_append.mp h with z | z
    · rcases intT_mem z with z | z
      · exact .inl z
      · exact .inr (.inr z)
    · rcases List.mem_cons.mp z with z | z
      · exact .inr (.inl z)
      · exact .inr (.inr (TL.numL_digits _ c z))
theorem numL_len4 {n : Nat} (h : n ≤ 9999) : (TL.numL n).length ≤ 4 := TL.numL_len (by decide) (by omega)
theorem intT_len {i : Int} (h : i.natAbs ≤ 9999) : (intT i).length ≤ 5 := by
  have := numL_len4 h
  unfold intT
  split
  · rw [List.length_cons]; omega
  · omega
theorem numT_len {u : Rat} (h : NumOk u) : (numT u).length ≤ 10 := by
  have a := intT_len h.1
  have b := numL_len4 (n := u.den) (by have := h.2; omega)
  unfold numT
  split
  · omega
  · rw [List.length_append, List.length_cons]; omega
/-- a word of a value: signs, size -/
theorem okv_word {c : Nat} {v : Rv} (h : OkV c v) : 32 ∉ v.t ∧ 10 ∉ v.t ∧ v.t.length ≤ 10 ∧ v.t ≠ [] := by
  have num : ∀ {u : Rat}, NumOk u → 32 ∉ numT u ∧ 10 ∉ numT u ∧ (numT u).length ≤ 10 ∧ numT u ≠ [] := fun {u} h => by
    refine ⟨fun m => by have := numT_mem m; omega, fun m => by have := numT_mem m; omega, numT_len h, fun e => ?_⟩
    unfold numT intT at e
    split at e
    · split at e
      · cases e
      · exact TL.numL_ne _ e
    · have := List.append_eq_nil_iff.mp e
      cases this.2
  have int : ∀ {i : Int}, i.natAbs ≤ 9999 → 32 ∉ intT i ∧ 10 ∉ intT i ∧ (intT i).length ≤ 10 ∧ intT i ≠ [] := fun {i} h => by
    refine ⟨fun m => by have := intT_mem m; omega, fun m => by have := intT_mem m; omega, by have := intT_len h; omega, fun e => ?_⟩
    unfold intT at e
    split at e
    · cases e
    · exact TL.numL_ne _ e
  cases h with
  | xp => exact ⟨by decide, by decide, by decide, by decide⟩
  | xn h => exact num h
  | r h => exact num h
  | l h _ => exact num h
  | p h1 h2 => exact int (by omega)
  | g h1 h2 => exact int (by omega)
  | t h1 h2 => exact int (by omega)
  | n h => exact ⟨fun m => by have := h.2.2 _ m; omega, fun m => by have := h.2.2 _ m; omega, Nat.le_trans h.2.1 (by decide), h.1⟩
theorem sh_len (w : Wd) : w.sh.cps.size ≤ 4 := by
  cases w <;> (unfold Wd.sh; decide +kernel)
theorem RwOk.at {r : Rw} (h : RwOk r) {v : Rv} (m : v ∈ r.vs) : ∃ c, OkV c v := by
  obtain ⟨i, e⟩ := List.mem_iff_getElem?.mp m
  have hi : i < r.vs.length := (List.getElem?_eq_some_iff.mp e).1
  exact ⟨_, h.ok i _ v (Array.getElem?_eq_getElem (by rw [← h.len]; exact hi)) e⟩
theorem RwOk.free {r : Rw} (h : RwOk r) : ∀ p ∈ r.words, 32 ∉ p ∧ 10 ∉ p ∧ p.length ≤ 10 := fun p m => by
  rcases List.mem_cons.mp m with rfl | m
  · have := wd_free r.w
    exact ⟨this.1, this.2.1, by have := this.2.2; rw [TL.len_tl] at this; exact Nat.le_trans this (by decide)⟩
  · obtain ⟨v, mv, rfl⟩ := List.mem_map.mp m
    obtain ⟨c, o⟩ := h.at mv
    have := okv_word o
    exact ⟨this.1, this.2.1, this.2.2.1⟩
theorem join_mem {s : List Nat} {c : Nat} : ∀ {ps : List (List Nat)}, c ∈ TL.joinL s ps → c ∈ s ∨ ∃ p ∈ ps, c ∈ p
  | [], h => nomatch h
  | [p], h => .inr ⟨p, List.mem_cons_self .., h⟩
  | p :: q :: r, h => by
    have h : c ∈ p ++ (s ++ TL.joinL s (q :: r)) := h
    rcases List.mem_append.mp h with z | z
    · exact .inr ⟨p, List.mem_cons_self .., z⟩
    · rcases List.mem_append.mp z with z | z
      · exact .inl z
      · rcases join_mem z with z | ⟨p', m, z⟩
        · exact .inl z
        · exact .inr ⟨p', List.mem_cons_of_mem _ m, z⟩
theorem join_len {s : List Nat} {n : Nat} : ∀ {ps : List (List Nat)}, (∀ p ∈ ps, p.length ≤ n) → (TL.joinL s ps).length ≤ ps.length * (n + s.length)
  | [], _ => Nat.zero_le _
  | [p], h => by
    show p.length ≤ 1 * _
    have := h p (List.mem_cons_self ..)
    omega
  | p :: q :: r, h => by
    show (p ++ (s ++ TL.joinL s (q :: r))).length ≤ (r.length + 1 + 1) * (n + s.length)
    have a := h p (List.mem_cons_self ..)
    have b := join_len (s := s) (ps := q :: r) fun p m => h p (List.mem_cons_of_mem _ m)
    have b : (TL.joinL s (q :: r)).length ≤ (r.length + 1) * (n + s.length) := b
    rw [List.length_append, List.length_append, Nat.succ_mul (r.length + 1)]
    omega
theorem RwOk.line {r : Rw} (h : RwOk r) : 10 ∉ r.t ∧ r.t.length ≤ 55 ∧ r.t ≠ [] := by
  refine ⟨fun m => ?_, ?_, fun e => ?_⟩
  · rcases join_mem m with z | ⟨p, mp, z⟩
    · exact absurd z (by decide)
    · exact (h.free p mp).2.1 z
  · have := join_len (s := [32]) (n := 10) fun p m => (h.free p m).2.2
    have l : r.words.length ≤ 5 := by
      show (r.vs.map Rv.t).length + 1 ≤ 5
      rw [List.length_map, h.len]
      have := sh_len r.w
      omega
    have e : r.t.length = (TL.joinL [32] r.words).length := rfl
    rw [e]
    have this : (TL.joinL [32] r.words).length ≤ r.words.length * 11 := this
    omega
  · have ne : r.w.s.cps.toList ≠ [] := by cases r.w <;> (unfold Wd.s; decide +kernel)
    unfold Rw.t Rw.words at e
    cases q : r.vs.map Rv.t with
    | nil => rw [q] at e; exact ne e
    | cons a b =>
      rw [q] at e
      have e : r.w.s.cps.toList ++ ([32] ++ TL.joinL [32] (a :: b)) = [] := e
      exact ne (List.append_eq_nil_iff.mp e).1
end DR

/-! DUb: what reading rows promises, of right texts. -/
namespace DR
open PySem PySem.Spec L2 DL SX DM
theorem intT_nn {i : Int} (h : 0 ≤ i) : intT i = TL.numL i.natAbs := if_neg (by omega)
theorem intT_neg {i : Int} (h : i < 0) : intT i = 45 :: TL.numL i.natAbs := if_pos h
theorem S_int (i : Int) (h : 0 ≤ i) : S (intT i) = Str.ofString (toString i) := by
  obtain ⟨n, rfl⟩ := Int.eq_ofNat_of_zero_le h
  rw [intT_nn h]
  exact (SX.num_S n).symm
theorem int_text {i : Int} (h : i.natAbs ≤ 9999) : intText? (S (intT i)) = some i := by
  by_cases z : i < 0
  · have := PySem.intText_neg (x := S (intT i)) (cs := TL.numL i.natAbs) (by rw [intT_neg z]) (TL.numL_digits _) (TL.numL_ne _) (by rw [SX.S_len]; have := intT_len h; omega)
    rw [this, TL.numL_val]
    congr 1
    omega
  · rw [S_int i (by omega)]
    obtain ⟨n, rfl⟩ := Int.eq_ofNat_of_zero_le (show 0 ≤ i by omega)
    exact TL.int_num (by have := numL_len4 (n := n) (by omega); omega)
/-! ### promises -/
/-- the name of a piece's begin, of a call -/
def Rw.name (r : Rw) : List Nat := match r.vs with
  | .nm l :: _ => l
  | _ => []
/-- whether a row may stand where a piece is opened, or none, and pieces of some names stand ahead -/
def fitR (r : Rw) (o : Bool) (ns : List (List Nat)) : Bool := if r.w = .piece then !o && !decide (r.name ∈ ns) else decide (r.w ≠ .end_) || o
/-- pieces stand well -/
def Fits : Bool → List (List Nat) → List Rw → Prop
  | o, _, [] => o = false
  | o, ns, r :: rs => fitR r o ns = true ∧ Fits (if r.w = .piece then true else if r.w = .end_ then false else o) (if r.w = .piece then ns ++ [r.name] else ns) rs
structure PrOk (rs : List Rw) : Prop where
  len : rs.length ≤ 80
  ok : ∀ r ∈ rs, RwOk r
  fits : Fits false [] rs
  calls : ∀ r ∈ rs, r.w = .call → ∃ q ∈ rs, q.w = .piece ∧ q.name = r.name
end DR

/-! DUc: programs put together at random (k13), by plain law; promises. -/
namespace DR
open PySem PySem.Spec L2 DL SX DM
/-! ### rows by their shape -/
inductive AllV : List Nat → List Rv → Prop
  | nil : AllV [] []
  | cons {c : Nat} {v : Rv} {cs : List Nat} {vs : List Rv} : OkV c v → AllV cs vs → AllV (c :: cs) (v :: vs)
theorem AllV.len {cs : List Nat} {vs : List Rv} (h : AllV cs vs) : vs.length = cs.length := by
  induction h with
  | nil => rfl
  | cons _ _ ih => simp [ih]
theorem AllV.at {cs : List Nat} {vs : List Rv} (h : AllV cs vs) : ∀ (i c : Nat) (v : Rv), cs[i]? = some c → vs[i]? = some v → OkV c v := by
  induction h with
  | nil => intro i c v h; simp at h
  | cons a _ ih =>
    intro i c v h1 h2
    cases i with
    | zero =>
      simp at h1 h2
      subst h1 h2
      exact a
    | succ i => exact ih i c v (by simpa using h1) (by simpa using h2)
theorem rw_ok {w : Wd} {vs : List Rv} {sh : List Nat} (e : w.sh.cps = sh.toArray) (h : AllV sh vs) (hd : ∀ k, w.at_ = some k → ∃ p q, vs[k]? = some (.wh p) ∧ vs[k + 1]? = some (.wh q) ∧ ¬ (p = 0 ∧ q = 0)) : RwOk ⟨w, vs⟩ := by
  refine ⟨by rw [e, h.len]; simp, fun i c v h1 h2 => ?_, hd⟩
  have h1 : w.sh.cps[i]? = some c := h1
  rw [e] at h1
  exact h.at i c v (by simpa using h1) h2
def pcR (l : List Nat) : Rw := ⟨.piece, [.nm l]⟩
def enR : Rw := ⟨.end_, []⟩
theorem pc_ok {l : List Nat} (h : NameOk l) : RwOk (pcR l) := rw_ok (sh := [110]) (by decide +kernel) (.cons (.n h) .nil) (fun k e => nomatch e)
theorem en_ok : RwOk enR := rw_ok (sh := []) (by decide +kernel) .nil (fun k e => nomatch e)
/-! ### pieces -/
def pnames : List Rw → List (List Nat)
  | [] => []
  | r :: rs => if r.w = .piece then r.name :: pnames rs else pnames rs
def runO : Bool → List Rw → Option Bool
  | o, [] => some o
  | o, r :: rs => if r.w = .piece then (if o then none else runO true rs) else if r.w = .end_ then (if o then runO false rs else none) else runO o rs
def cntW (w : Wd) : List Rw → Nat
  | [] => 0
  | r :: rs => (if r.w = w then 1 else 0) + cntW w rs
theorem runO_cons (o : Bool) (r : Rw) (rs : List Rw) : runO o (r :: rs) = if r.w = .piece then (if o then none else runO true rs) else if r.w = .end_ then (if o then runO false rs else none) else runO o rs := rfl
theorem pnames_cons (r : Rw) (rs : List Rw) : pnames (r :: rs) = if r.w = .piece then r.name :: pnames rs else pnames rs := rfl
theorem runO_app : ∀ (a b : List Rw) (o : Bool), runO o (a ++ b) = (runO o a).bind fun o' => runO o' b
  | [], b, o => rfl
  | r :: a, b, o => by
    rw [List.cons_append, runO_cons, runO_cons, runO_app a b, runO_app a b, runO_app a b]
    split
    · split <;> rfl
    · split
      · split <;> rfl
      · rfl
theorem pnames_app : ∀ (a b : List Rw), pnames (a ++ b) = pnames a ++ pnames b
  | [], b => rfl
  | r :: a, b => by
    rw [List.cons_append, pnames_cons, pnames_cons, pnames_app a b]
    split <;> rfl
theorem runO_plain : ∀ {a : List Rw} {o : Bool}, (∀ r ∈ a, r.w ≠ .piece ∧ r.w ≠ .end_) → runO o a = some o
  | [], o, _ => rfl
  | r :: a, o, h => by
    unfold runO
    have := h r (List.mem_cons_self ..)
    rw [if_neg this.1, if_neg this.2]
    exact runO_plain fun x m => h x (List.mem_cons_of_mem _ m)
theorem pnames_plain : ∀ {a : List Rw}, (∀ r ∈ a, r.w ≠ .piece ∧ r.w ≠ .end_) → pnames a = []
  | [], _ => rfl
  | r :: a, h => by
    unfold pnames
    rw [if_neg (h r (List.mem_cons_self ..)).1]
    exact pnames_plain fun x m => h x (List.mem_cons_of_mem _ m)
theorem runO_cnt : ∀ {a : List Rw} {o o' : Bool}, runO o a = some o' → o.toNat + cntW .piece a = o'.toNat + cntW .end_ a
  | [], o, o', h => by cases h; rfl
  | r :: a, o, o', h => by
    unfold runO at h
    unfold cntW
    split at h
    · rename_i e
      split at h
      · cases h
      · rename_i ho
        have := runO_cnt h
        cases o with
        | true => exact absurd rfl ho
        | false =>
          rw [if_pos e, if_neg (by rw [e]; decide)]
          simp only [Bool.toNat_true, Bool.toNat_false] at this ⊢
          omega
    · rename_i e
      split at h
      · rename_i e2
        split at h
        · rename_i ho
          subst ho
          have := runO_cnt h
          rw [if_neg e, if_pos e2]
          simp only [Bool.toNat_true, Bool.toNat_false] at this ⊢
          omega
        · cases h
      · rename_i e2
        have := runO_cnt h
        rw [if_neg e, if_neg e2]
        omega
theorem fits_of : ∀ {rs : List Rw} {o : Bool} {ns : List (List Nat)}, runO o rs = some false → (ns ++ pnames rs).Nodup → Fits o ns rs
  | [], o, ns, h, _ => by cases h; rfl
  | r :: rs, o, ns, h, hn => by
    unfold runO at h
    unfold pnames at hn
    unfold Fits fitR
    by_cases e : r.w = .piece
    · rw [if_pos e] at h hn
      cases o with
      | true => cases h
      | false =>
        rw [if_pos e, if_pos e, if_pos e]
        have h : runO true rs = some false := h
        refine ⟨?_, fits_of h (by rw [List.append_assoc]; exact hn)⟩
        have : r.name ∉ ns := fun m => (List.nodup_append.mp hn).2.2 _ m _ (List.mem_cons_self ..) rfl
        rw [decide_eq_false this]
        rfl
    · rw [if_neg e] at h hn
      rw [if_neg e, if_neg e, if_neg e]
      by_cases e2 : r.w = .end_
      · rw [if_pos e2] at h
        cases o with
        | false => cases h
        | true => exact ⟨by simp, by rw [if_pos e2]; exact fits_of h hn⟩
      · rw [if_neg e2] at h
        exact ⟨by rw [decide_eq_true e2]; rfl, by rw [if_neg e2]; exact fits_of h hn⟩
/-- a row that stands anywhere -/
structure PlR (ns : List (List Nat)) (r : Rw) : Prop where
  ok : RwOk r
  np : r.w ≠ .piece
  ne : r.w ≠ .end_
  cl : r.w = .call → r.name ∈ ns
/-- a program into which the pieces of the first names were put -/
structure PrB (ns : List (List Nat)) (j : Nat) (rs : List Rw) : Prop where
  ok : ∀ r ∈ rs, RwOk r
  run : runO false rs = some false
  pn : (pnames rs).Perm (ns.take j)
  cl : ∀ r ∈ rs, r.w = .call → r.name ∈ ns
  len : rs.length ≤ 40 + 8 * j
def outAt (rs : List Rw) (k : Nat) : Prop := cntW .piece (rs.take k) = cntW .end_ (rs.take k)
instance (rs : List Rw) (k : Nat) : Decidable (outAt rs k) := inferInstanceAs (Decidable (_ = _))
theorem PrB.start {ns : List (List Nat)} {rs : List Rw} (h : ∀ r ∈ rs, PlR ns r) (l : rs.length ≤ 40) : PrB ns 0 rs :=
  ⟨fun r m => (h r m).ok, runO_plain fun r m => ⟨(h r m).np, (h r m).ne⟩, by rw [pnames_plain fun r m => ⟨(h r m).np, (h r m).ne⟩]; exact .nil, fun r m => (h r m).cl, by omega⟩
theorem PrB.put {ns : List (List Nat)} {j k : Nat} {rs inn : List Rw} {l : List Nat} (h : PrB ns j rs) (hj : ns[j]? = some l) (hl : NameOk l) (hk : outAt rs k) (hi : ∀ r ∈ inn, PlR ns r) (li : inn.length ≤ 6) :
    PrB ns (j + 1) (rs.take k ++ [pcR l] ++ inn ++ [enR] ++ rs.drop k) := by
  have e := List.take_append_drop k rs
  have hr := h.run
  rw [← e, runO_app] at hr
  cases ho : runO false (rs.take k) with
  | none => rw [ho] at hr; cases hr
  | some o =>
    rw [ho] at hr
    have hr : runO o (rs.drop k) = some false := hr
    have c := runO_cnt ho
    unfold outAt at hk
    rw [hk] at c
    have eo : o = false := by
      cases o with
      | false => rfl
      | true => simp only [Bool.toNat_true, Bool.toNat_false] at c; omega
    subst eo
    refine ⟨fun r m => ?_, ?_, ?_, fun r m => ?_, ?_⟩
    · simp only [List.mem_append, List.mem_singleton] at m
      rcases m with (((m | rfl) | m) | rfl) | m
      · exact h.ok r (List.mem_of_mem_take m)
      · exact pc_ok hl
      · exact (hi r m).ok
      · exact en_ok
      · exact h.ok r (List.mem_of_mem_drop m)
    · rw [runO_app, runO_app, runO_app, runO_app, ho]
      show ((runO true inn).bind fun o' => runO o' [enR]).bind (fun o' => runO o' (rs.drop k)) = _
      rw [runO_plain fun r m => ⟨(hi r m).np, (hi r m).ne⟩]
      exact hr
    · have e1 : pnames (rs.take k ++ [pcR l] ++ inn ++ [enR] ++ rs.drop k) = pnames (rs.take k) ++ l :: pnames (rs.drop k) := by
        rw [pnames_app, pnames_app, pnames_app, pnames_app, pnames_plain (a := inn) fun r m => ⟨(hi r m).np, (hi r m).ne⟩]
        show pnames (rs.take k) ++ [l] ++ [] ++ [] ++ pnames (rs.drop k) = _
        simp
      have e2 : pnames rs = pnames (rs.take k) ++ pnames (rs.drop k) := by rw [← pnames_app, e]
      have hp := h.pn
      rw [e2] at hp
      rw [e1]
      have e3 : ns.take (j + 1) = ns.take j ++ [l] := by rw [List.take_add_one, hj]; rfl
      rw [e3]
      exact List.perm_middle.trans ((hp.cons l).trans (List.perm_append_comm (l₁ := [l]) (l₂ := ns.take j)))
    · simp only [List.mem_append, List.mem_singleton] at m
      rcases m with (((m | rfl) | m) | rfl) | m
      · exact h.cl r (List.mem_of_mem_take m)
      · intro z; cases z
      · exact (hi r m).cl
      · intro z; cases z
      · exact h.cl r (List.mem_of_mem_drop m)
    · have := h.len
      have l2 : (rs.take k).length + (rs.drop k).length = rs.length := by rw [← List.length_append, e]
      simp only [List.length_append, List.length_singleton]
      omega
theorem pname_mem : ∀ {rs : List Rw} {l : List Nat}, l ∈ pnames rs → ∃ q ∈ rs, q.w = .piece ∧ q.name = l
  | [], l, h => nomatch h
  | r :: rs, l, h => by
    unfold pnames at h
    split at h
    · rename_i e
      rcases List.mem_cons.mp h with rfl | h
      · exact ⟨r, List.mem_cons_self .., e, rfl⟩
      · obtain ⟨q, m, z⟩ := pname_mem h
        exact ⟨q, List.mem_cons_of_mem _ m, z⟩
    · obtain ⟨q, m, z⟩ := pname_mem h
      exact ⟨q, List.mem_cons_of_mem _ m, z⟩
theorem PrB.done {ns : List (List Nat)} {rs : List Rw} (h : PrB ns ns.length rs) (hn : ns.Nodup) (l : ns.length ≤ 4) : PrOk rs := by
  have hp := h.pn
  rw [List.take_length] at hp
  refine ⟨by have := h.len; omega, h.ok, fits_of h.run (by rw [List.nil_append]; exact hp.nodup_iff.mpr hn), fun r m e => ?_⟩
  exact pname_mem (hp.mem_iff.mpr (h.cl r m e))
/-! ### promises -/
end DR

/-! DUd: small laws of rows and texts for the readers' walks. -/
namespace DR
open PySem PySem.Spec L2 DL SX DM
theorem vs1 {r : Rw} (h : RwOk r) {a : Nat} (e : r.w.sh.cps = #[a]) : ∃ v, r.vs = [v] ∧ OkV a v := by
  have l := h.len
  rw [e] at l
  match q : r.vs, l with
  | [v], _ => exact ⟨v, rfl, h.ok 0 a v (by rw [e]; rfl) (by rw [q]; rfl)⟩
def Rw.its (r : Rw) : List (PyData × List Nat) := (.str r.w.s, r.w.s.cps.toList) :: r.vs.map fun v => (v.d, v.t)
class SgMono (S : Str → Option FP) : Prop where
  m : ∀ f fn, S f = some fn → FMono fn
/-! ### shapes -/
def Lay (n : Nat) (d : PyData) : Prop := PyData.canLay0 d = true ∧ PyData.depth d ≤ n
end DR

/-! DUe: programs written; texts tell rows apart (k16). -/
namespace DR
open PySem PySem.Spec L2 DL SX DM
theorem int_inj {i j : Int} (hi : i.natAbs ≤ 9999) (hj : j.natAbs ≤ 9999) (e : intT i = intT j) : i = j := by
  have a := int_text hi
  rw [e, int_text hj] at a
  injection a with a
  exact a.symm
/-! ### equality of rows' data -/
theorem Lay.mono {m n : Nat} {d : PyData} (h : Lay m d) (e : m ≤ n) : Lay n d := ⟨h.1, Nat.le_trans h.2 e⟩
/-! ### promises -/
end DR

/-! DUf: tops with tables of texts: a text's hash asks how a world follows the reference at one point, so the top is run for both answers. -/
noncomputable section
namespace DL
open PySem PySem.W HandSHeadRun
end DL

/-! DWa: an object's list fields: the last item taken off. -/
namespace DL
open PySem PySem.Spec L2
section
variable {X : Cx} {Z : Ent} {pos : Pos}
end
end DL

/-! DWb: an object lent to an expression that tells things without lists; f(x, ..) through a slot, owned things handed on; f(C(..)); list(x) of a slot. -/
namespace DL
open PySem PySem.Spec L2
/-! ### things without lists, dicts, objects -/
mutual
def nlD : PyData → Bool
  | .none => true
  | .bool _ => true
  | .int _ => true
  | .str _ => true
  | .tuple ds => nlAll ds
  | .list _ => false
  | .dict _ => false
def nlAll : List PyData → Bool
  | [] => true
  | d :: r => nlD d && nlAll r
end
theorem nlD_t {ds : List PyData} : nlD (.tuple ds) = nlAll ds := by rw [nlD]
theorem nlAll_c {d : PyData} {r : List PyData} : nlAll (d :: r) = (nlD d && nlAll r) := by rw [nlAll]
theorem Dp.nl {K : Fg} {H H' : Hp} (keep : ∀ a xs, Rd H a (.tup xs) → Rd H' a (.tup xs)) {v : V} {d : PyData} (h : Dp K H v d) : nlD d = true → Dp K H' v d :=
  Dp.rec (motive_1 := fun v d _ => nlD d = true → Dp K H' v d) (motive_2 := fun vs ds _ => nlAll ds = true → DpAll K H' vs ds) (fun _ => .non) (fun b _ => .bl b) (fun i _ => .int i) (fun x _ => .str x) (fun _ _ _ c => by rw [nlD] at c; cases c)
    (fun s _ a c => .tup (s.imp (keep _ _) id) (a (by rw [nlD_t] at c; exact c))) (fun _ _ _ _ _ _ c => by rw [insD, nlD] at c; cases c) (fun _ _ _ _ c => by rw [dctD, nlD] at c; cases c) (fun _ c => by rw [fnD, nlD] at c; cases c) (fun _ c => by rw [nlD] at c; cases c) (fun _ c => by rw [nlD] at c; cases c) (fun _ => .nil)
    (fun _ _ a b c => by
      rw [nlAll_c] at c
      have c' := Bool.and_eq_true_iff.mp c
      exact .cons (a c'.1) (b c'.2)) h
/-- no tuple stands there -/
def NT (H : Hp) (b : Addr) : Prop := ∀ xs, ¬ Rd H b (.tup xs)
theorem nt_of {H : Hp} {b : Addr} {o : HO} (h : H b = some o) (h1 : ∀ xs, o ≠ .tup xs) (h2 : ∀ q xs, o ≠ .frz q (.tup xs)) : NT H b := fun xs z => by
  rcases z with z | ⟨q, z⟩
  · rw [h] at z
    exact h1 xs (Option.some.inj z)
  · rw [h] at z
    exact h2 q xs (Option.some.inj z)
section
variable {K : Fg} {Z : Ent} {Hs H : Hp} {σ : L2.St} {δ : DSt}
theorem FvAt.nt {v : V} {f : Fv} {A : List Addr} (h : FvAt K Hs H v f A) : ∀ a ∈ A, NT H a := by
  cases h with
  | d h => exact fun a m => nomatch m
  | l h1 h2 =>
    intro a m
    rw [List.mem_singleton.mp m]
    exact nt_of h1 (fun _ z => nomatch z) fun _ _ z => nomatch z
  | la h1 h2 =>
    intro a m
    rw [List.mem_singleton.mp m]
    exact nt_of h1 (fun _ z => nomatch z) fun _ _ z => nomatch z
theorem FsAt.nt {vs : List V} {fs : List Fv} {A : List Addr} (h : FsAt K Hs H vs fs A) : ∀ a ∈ A, NT H a := by
  induction h with
  | nil => exact fun a m => nomatch m
  | cons h _ ih =>
    intro a m
    rcases List.mem_append.mp m with z | z
    · exact h.nt a z
    · exact ih a z
open Classical in
end
section
variable {X : Cx} {Z : Ent} {pos : Pos}
/-! ### f(x, ..) through a slot, owned things handed on -/
class SgMonoG (S : Str → Option FG) : Prop where
  m : ∀ (f : Str) (fn : FG), S f = some fn → GFMono fn
section
variable {k : Nat} {e : Expr} {es : List Expr} {t : DAg} {ex : Xd → DSt → Prop}
end
/-! ### f(C(..)) -/
section
variable {k : Nat} {g : Addr} {fd : FuncData} {ps : List Str} {f : FG} {x : Str} {e : Expr} {p : Pos} {dvs : List V} {dus : List Value} {dd : List PyData} {ex : Xd → DSt → Prop}
end
/-! ### list(x) of a slot, whatever holds the list -/
/-! ### isinstance(e, (T1, T2)) of built-in types -/
end
end DL

/-! DWc: programs run: rows by their kinds, the runner's state, what a row does, runs; the promises. -/
namespace DR
open PySem PySem.Spec L2 DL DM SX
/-! ### rows by their kinds -/
inductive Rc where
  | hop (x y : Option Rat)
  | cut (x y : Option Rat)
  | run (p q : Int) (l : Rat)
  | arc (left : Bool) (x y : Option Rat) (p q : Int)
  | mode (b : Bool)
  | pace (g : Int)
  | side (u : Rat)
  | frame (f : Fr)
  | back
  | piece (l : List Nat)
  | end_
  | call (l : List Nat) (n : Nat)
def coD : Option Rat → PyData
  | none => .none
  | some u => numD u
def modeD (b : Bool) : PyData := .str (if b then "by" else "from")
def Rc.d : Rc → PyData
  | .hop x y => .tuple [.str "hop", coD x, coD y]
  | .cut x y => .tuple [.str "cut", coD x, coD y]
  | .run p q l => .tuple [.str "run", .int p, .int q, numD l]
  | .arc left x y p q => .tuple [.str (if left then "left" else "right"), coD x, coD y, .int p, .int q]
  | .mode b => .tuple [modeD b]
  | .pace g => .tuple [.str "pace", .int g]
  | .side u => .tuple [.str "side", numD u]
  | .frame f => frD f
  | .back => .tuple [.str "back"]
  | .piece l => .tuple [.str "piece", .str (S l)]
  | .end_ => .tuple [.str "end"]
  | .call l n => .tuple [.str "call", .str (S l), .int (n : Int)]
def coOk : Option Rat → Prop
  | none => True
  | some u => Bd 14 u
def hdOk (p q : Int) : Prop := (p ≠ 0 ∨ q ≠ 0) ∧ p.natAbs < 2 ^ 7 ∧ q.natAbs < 2 ^ 7
def RcOk : Rc → Prop
  | .hop x y => coOk x ∧ coOk y
  | .cut x y => coOk x ∧ coOk y
  | .run p q l => hdOk p q ∧ Bd 14 l
  | .arc _ x y p q => (coOk x ∧ coOk y) ∧ hdOk p q
  | .mode _ => True
  | .pace g => 0 ≤ g ∧ g ≤ 9
  | .side u => Bd 14 u
  | .frame f => FrOk f
  | .back => True
  | .piece _ => True
  | .end_ => True
  | .call _ n => 1 ≤ n ∧ n ≤ 99
/-- rows that make a step -/
def Rc.isStep : Rc → Bool
  | .hop _ _ => true
  | .cut _ _ => true
  | .run _ _ _ => true
  | .arc _ _ _ _ _ => true
  | _ => false
def Rc.isCall : Rc → Bool
  | .call _ _ => true
  | _ => false
/-- neither a piece's begin nor an end -/
def Rc.plain : Rc → Bool
  | .piece _ => false
  | .end_ => false
  | _ => true
def Rc.isEnd : Rc → Bool
  | .end_ => true
  | _ => false
/-! ### pieces -/
/-- the first end from a row on -/
def endAt (rs : List Rc) (k : Nat) : Nat := k + (rs.drop k).findIdx Rc.isEnd
def spsFrom : List Rc → List Rc → Nat → List (List Nat × Nat × Nat)
  | _, [], _ => []
  | rs, .piece l :: r, k => (l, k + 1, endAt rs k) :: spsFrom rs r (k + 1)
  | rs, _ :: r, k => spsFrom rs r (k + 1)
def sps (rs : List Rc) : List (List Nat × Nat × Nat) := spsFrom rs rs 0
structure SpOk (rs : List Rc) : Prop where
  nd : ((sps rs).map (·.1)).Nodup
  en : ∀ k l, rs[k]? = some (.piece l) → endAt rs k < rs.length
  len : rs.length ≤ 80
/-! ### steps -/
inductive Stp where
  | hop (b f : Rat × Rat)
  | line (b f : Rat × Rat)
  | arc (b f c : Rat × Rat) (w : Int)
def Stp.d : Stp → PyData
  | .hop b f => .tuple [.str "hop", plD b, plD f]
  | .line b f => .tuple [.str "line", plD b, plD f]
  | .arc b f c w => .tuple [.str "arc", plD b, plD f, plD c, .int w]
def Stp.fin : Stp → Rat × Rat
  | .hop _ f => f
  | .line _ f => f
  | .arc _ f _ _ => f
abbrev Tr := List (Nat × Nat)
def trD (t : Nat × Nat) : PyData := .tuple [.int (t.1 : Int), .int (t.2 : Int)]
structure Ey where
  st : Stp
  pace : Int
  side : Rat
  trail : Tr
def Ey.d (e : Ey) : PyData := .tuple [e.st.d, .int e.pace, numD e.side, .tuple (e.trail.map trD)]
/-! ### the runner -/
/-- out, fout: the levels without, the innermost first -/
structure Rn where
  out : Tr
  row : Nat
  turn : Nat
  place : Rat × Rat
  by_ : Bool
  pace : Int
  side : Rat
  fout : List (List Fr)
  fl : List Fr
  many : Nat
  made : List Ey
def Rn.trail (s : Rn) : Tr := s.out.reverse ++ [(s.row, s.turn)]
def Rn.frs (s : Rn) : List (List Fr) := s.fout.reverse ++ [s.fl]
def Rn.fs (s : Rn) : List Fr := s.frs.flatten
def rn0 : Rn := ⟨[], 0, 0, (0, 0), false, 0, 0, [], [], 0, []⟩
/-- what always holds of a runner -/
structure RnOk (rs : List Rc) (s : Rn) : Prop where
  sp : SpOk rs
  rc : ∀ r ∈ rs, RcOk r
  fr : ∀ f ∈ s.fs, FrOk f
  f8 : s.fs.length ≤ 8
  dep : s.out.length ≤ 8
  fdep : s.fout.length = s.out.length
  mny : s.many ≤ 2000
  md : s.made.length ≤ 100
def AtEnd (rs : List Rc) (s : Rn) : Prop := s.out = [] ∧ s.row = rs.length
instance (rs : List Rc) (s : Rn) : Decidable (AtEnd rs s) := inferInstanceAs (Decidable (_ ∧ _))
/-! ### what a row does -/
def abB (fs : List Fr) : Bool := ((nfl fs : Nat) : Int).fmod 2 == 1
def spotR (s : Rn) (x y : Option Rat) : Rat × Rat :=
  if s.by_ then (s.place.1 + (led false s.fs (x.getD 0, y.getD 0)).1, s.place.2 + (led false s.fs (x.getD 0, y.getD 0)).2)
  else led true s.fs (x.getD (unled s.fs s.place).1, y.getD (unled s.fs s.place).2)
def mkR (s : Rn) (st : Stp) : Rn := { s with made := s.made ++ [⟨st, s.pace, if abB s.fs then -s.side else s.side, s.trail⟩], place := st.fin }
inductive Xr where
  | uneven (k : Nat)
  | noframe (k : Nat)
  | deep (k : Nat)
  | many (n : Nat)
noncomputable def farP (p q : Rat × Rat) : Bool := farB (dt (sb2 p q) (sb2 p q))
def enterR (s : Rn) (b : Nat) : Rn := { s with out := (s.row, s.turn) :: s.out, row := b, turn := 0, fout := s.fl :: s.fout, fl := [] }
def lookP (rs : List Rc) (l : List Nat) : Option (Nat × Nat) := ((sps rs).find? fun e => decide (e.1 = l)).map (·.2)
def arcW (left : Bool) (fs : List Fr) : Int := if left != abB fs then 1 else -1
noncomputable def arcE (s : Rn) (c : Rat × Rat) (w p q : Int) : Rat × Rat :=
  (c.1 + ((s.place.1 - c.1) * hdc (w * p) q - (s.place.2 - c.2) * hds (w * p) q), c.2 + ((s.place.1 - c.1) * hds (w * p) q + (s.place.2 - c.2) * hdc (w * p) q))
def runE (s : Rn) (p q : Int) (l : Rat) : Rat × Rat := (s.place.1 + (led false s.fs (hdc p q, hds p q)).1 * l, s.place.2 + (led false s.fs (hdc p q, hds p q)).2 * l)
noncomputable def deedR (rs : List Rc) (s : Rn) : Rc → Except Xr Rn
  | .hop x y => .ok (mkR s (.hop s.place (spotR s x y)))
  | .cut x y => if farP s.place (spotR s x y) then .ok (mkR s (.line s.place (spotR s x y))) else .error (.uneven s.row)
  | .run p q l => .ok (mkR s (.line s.place (runE s p q l)))
  | .arc left x y p q => if farP (spotR s x y) s.place then .ok (mkR s (.arc s.place (arcE s (spotR s x y) (arcW left s.fs) p q) (spotR s x y) (arcW left s.fs))) else .error (.uneven s.row)
  | .mode b => .ok { s with by_ := b }
  | .pace g => .ok { s with pace := g }
  | .side u => .ok { s with side := u }
  | .frame f => if s.fs.length = 8 then .error (.noframe s.row) else .ok { s with fl := s.fl ++ [f] }
  | .back => if s.fl = [] then .error (.noframe s.row) else .ok { s with fl := s.fl.dropLast }
  | .piece _ => .ok s
  | .end_ => .ok s
  | .call l _ => if 8 ≤ s.out.length then .error (.deep s.row) else match lookP rs l with
    | some (b, _) => .ok (enterR s b)
    | none => .ok s
/-- sizes that a row asks -/
def SpotOk (s : Rn) : Prop := ∃ n, n + 58 * s.fs.length + 30 ≤ 1800 ∧ Bc n s.place
def Fit (s : Rn) : Rc → Prop
  | .hop _ _ => SpotOk s
  | .cut x y => SpotOk s ∧ Bd2 900 s.place ∧ Bd2 900 (spotR s x y)
  | .run _ _ _ => Bd2 1900 s.place
  | .arc _ x y _ _ => SpotOk s ∧ Bc 900 s.place ∧ Bc 900 (spotR s x y)
  | _ => True
/-! ### runs -/
def leaveR (s : Rn) (r t n b : Nat) (o : Tr) (f : List Fr) (fo : List (List Fr)) : Rn :=
  if t + 1 < n then { s with out := (r, t + 1) :: o, row := b, turn := 0, fout := f :: fo, fl := [] } else { s with out := o, row := r + 1, turn := 0, fout := fo, fl := f }
inductive Stl (rs : List Rc) : Nat → Rn → Rn → Prop
  | fin {s : Rn} : AtEnd rs s → Stl rs 0 s s
  | row {s : Rn} {r : Rc} : ¬ AtEnd rs s → rs[s.row]? = some r → r.plain = true → Stl rs 0 s s
  | piece {n : Nat} {s u : Rn} {l : List Nat} {b e : Nat} : ¬ AtEnd rs s → rs[s.row]? = some (.piece l) → lookP rs l = some (b, e) → Stl rs n { s with row := e + 1, turn := 0 } u → Stl rs (n + 1) s u
  | leave {m : Nat} {s u : Rn} {l : List Nat} {r t n b e : Nat} {o : Tr} {f : List Fr} {fo : List (List Fr)} : ¬ AtEnd rs s → rs[s.row]? = some .end_ → s.out = (r, t) :: o → s.fout = f :: fo → rs[r]? = some (.call l n) → lookP rs l = some (b, e) →
    Stl rs m (leaveR s r t n b o f fo) u → Stl rs (m + 1) s u
inductive Dn (rs : List Rc) : Rn → Except Xr Rn → Prop
  | many {s : Rn} : s.many = 2000 → Dn rs s (.error (.many 2000))
  | steps {s : Rn} {r : Rc} : s.many ≠ 2000 → rs[s.row]? = some r → r.isStep = true → s.made.length = 100 → Dn rs s (.error (.many 100))
  | err {s : Rn} {r : Rc} {x : Xr} : s.many ≠ 2000 → rs[s.row]? = some r → r.plain = true → (r.isStep = true → s.made.length ≠ 100) → Fit s r → (∀ l n, r = .call l n → lookP rs l ≠ none) → deedR rs s r = .error x → Dn rs s (.error x)
  | ok {k : Nat} {s t u : Rn} {r : Rc} : s.many ≠ 2000 → rs[s.row]? = some r → r.plain = true → (r.isStep = true → s.made.length ≠ 100) → Fit s r → (∀ l n, r = .call l n → lookP rs l ≠ none) → deedR rs s r = .ok t →
    Stl rs k (if r.isCall then { t with many := t.many + 1 } else { t with many := t.many + 1, row := t.row + 1, turn := 0 }) u → Dn rs s (.ok u)
/-- on to the next row that makes a step -/
inductive Go (rs : List Rc) : Nat → Rn → Except Xr Rn → Prop
  | fin {s : Rn} : AtEnd rs s → Go rs 0 s (.ok s)
  | step {s : Rn} {r : Rc} : ¬ AtEnd rs s → rs[s.row]? = some r → r.isStep = true → Go rs 0 s (.ok s)
  | err {s : Rn} {r : Rc} {x : Xr} : ¬ AtEnd rs s → rs[s.row]? = some r → r.isStep = false → Dn rs s (.error x) → Go rs 1 s (.error x)
  | on {n : Nat} {s t : Rn} {r : Rc} {e : Except Xr Rn} : ¬ AtEnd rs s → rs[s.row]? = some r → r.isStep = false → Dn rs s (.ok t) → Go rs n t e → Go rs (n + 1) s e
inductive Run (rs : List Rc) : Nat → Rn → Except Xr Rn → Prop
  | fin {s : Rn} : AtEnd rs s → Run rs 0 s (.ok s)
  | err {s : Rn} {r : Rc} {x : Xr} : ¬ AtEnd rs s → rs[s.row]? = some r → Dn rs s (.error x) → Run rs 1 s (.error x)
  | on {n : Nat} {s t : Rn} {r : Rc} {e : Except Xr Rn} : ¬ AtEnd rs s → rs[s.row]? = some r → Dn rs s (.ok t) → Run rs n t e → Run rs (n + 1) s e
/-- a run goes on to a step, does it, and so on -/
theorem Run.cut {rs : List Rc} {n : Nat} {s : Rn} {e : Except Xr Rn} (h : Run rs n s e) : ∃ m g, Go rs m s g ∧ ((∃ u, g = .ok u ∧ AtEnd rs u ∧ e = .ok u) ∨ (∃ x, g = .error x ∧ e = .error x) ∨
    (∃ u, g = .ok u ∧ ¬ AtEnd rs u ∧ ((∃ x, Dn rs u (.error x) ∧ e = .error x) ∨ ∃ v k, Dn rs u (.ok v) ∧ Run rs k v e ∧ k < n))) := by
  induction h with
  | fin h => exact ⟨0, _, .fin h, .inl ⟨_, rfl, h, rfl⟩⟩
  | @err s r x h1 h2 h3 =>
    cases hs : r.isStep with
    | true => exact ⟨0, _, .step h1 h2 hs, .inr (.inr ⟨_, rfl, h1, .inl ⟨_, h3, rfl⟩⟩)⟩
    | false => exact ⟨1, _, .err h1 h2 hs h3, .inr (.inl ⟨_, rfl, rfl⟩)⟩
  | @on n s t r e h1 h2 h3 h4 ih =>
    cases hs : r.isStep with
    | true => exact ⟨0, _, .step h1 h2 hs, .inr (.inr ⟨_, rfl, h1, .inr ⟨_, _, h3, h4, Nat.lt_succ_self _⟩⟩)⟩
    | false =>
      obtain ⟨m, g, hg, z⟩ := ih
      refine ⟨m + 1, g, .on h1 h2 hs h3 hg, ?_⟩
      rcases z with z | z | ⟨u, a, b, z⟩
      · exact .inl z
      · exact .inr (.inl z)
      · refine .inr (.inr ⟨u, a, b, ?_⟩)
        rcases z with z | ⟨v, k, c, d, f⟩
        · exact .inl z
        · exact .inr ⟨v, k, c, d, by omega⟩
/-- a whole run: the entries told, or what it is refused with -/
def Runs (rs : List Rc) (e : Except Xr Rn) : Prop := ∃ k n s, Stl rs k rn0 s ∧ Run rs n s e
/-! ### promises -/
/-- the rows of a text, by their kinds -/
def rcOf (r : Rw) : Option Rc := match r.w, r.vs with
  | .hop, [x, y] => (match x, y with | .pt, .pt => some (.hop none none) | .pt, .nu v => some (.hop none (some v)) | .nu u, .pt => some (.hop (some u) none) | .nu u, .nu v => some (.hop (some u) (some v)) | _, _ => none)
  | .cut, [x, y] => (match x, y with | .pt, .pt => some (.cut none none) | .pt, .nu v => some (.cut none (some v)) | .nu u, .pt => some (.cut (some u) none) | .nu u, .nu v => some (.cut (some u) (some v)) | _, _ => none)
  | .run, [.wh p, .wh q, .nu l] => some (.run p q l)
  | .left, [x, y, .wh p, .wh q] => (match x, y with | .pt, .pt => some (.arc true none none p q) | .pt, .nu v => some (.arc true none (some v) p q) | .nu u, .pt => some (.arc true (some u) none p q) | .nu u, .nu v => some (.arc true (some u) (some v) p q) | _, _ => none)
  | .right, [x, y, .wh p, .wh q] => (match x, y with | .pt, .pt => some (.arc false none none p q) | .pt, .nu v => some (.arc false none (some v) p q) | .nu u, .pt => some (.arc false (some u) none p q) | .nu u, .nu v => some (.arc false (some u) (some v) p q) | _, _ => none)
  | .by_, [] => some (.mode true)
  | .from_, [] => some (.mode false)
  | .pace, [.wh g] => some (.pace g)
  | .side, [.nu u] => some (.side u)
  | .shift, [.nu a, .nu b] => some (.frame (.shift a b))
  | .turn, [.wh p, .wh q] => some (.frame (.turn p q))
  | .flip, [] => some (.frame .flip)
  | .back, [] => some .back
  | .piece, [.nm l] => some (.piece l)
  | .end_, [] => some .end_
  | .call, [.nm l, .wh n] => some (.call l n.toNat)
  | _, _ => none
end DR

/-! DWd: what the readings of the runner lean on. -/
namespace DR
open PySem PySem.Spec L2 DL DM SX
/-! ### a row's word -/
def frV : Fr → List PyData
  | .shift a b => [numD a, numD b]
  | .turn p q => [.int p, .int q]
  | .flip => []
def Rc.vs : Rc → List PyData
  | .hop x y => [coD x, coD y]
  | .cut x y => [coD x, coD y]
  | .run p q l => [.int p, .int q, numD l]
  | .arc _ x y p q => [coD x, coD y, .int p, .int q]
  | .mode _ => []
  | .pace g => [.int g]
  | .side u => [numD u]
  | .frame f => frV f
  | .back => []
  | .piece l => [.str (S l)]
  | .end_ => []
  | .call l n => [.str (S l), .int (n : Int)]
/-! ### places at the end -/
/-! ### pieces -/
end DR

/-! DWe: what runs keep; runs of programs without pieces. -/
namespace DR
open PySem PySem.Spec L2 DL DM SX
/-! ### what is kept -/
theorem fs_enter (s : Rn) (b : Nat) : (enterR s b).fs = s.fs := by
  unfold Rn.fs Rn.frs enterR
  simp
theorem RnOk.enter {rs : List Rc} {s : Rn} (h : RnOk rs s) (hd : s.out.length ≤ 7) (b : Nat) : RnOk rs (enterR s b) := by
  refine ⟨h.sp, h.rc, by rw [fs_enter]; exact h.fr, by rw [fs_enter]; exact h.f8, ?_, ?_, h.mny, h.md⟩
  · show s.out.length + 1 ≤ 8
    omega
  · show s.fout.length + 1 = s.out.length + 1
    rw [h.fdep]
theorem RnOk.row {rs : List Rc} {s : Rn} (h : RnOk rs s) (k t : Nat) : RnOk rs { s with row := k, turn := t } := ⟨h.sp, h.rc, h.fr, h.f8, h.dep, h.fdep, h.mny, h.md⟩
theorem fs_pop {s : Rn} {f : List Fr} {fo : List (List Fr)} (h : s.fout = f :: fo) : s.fs = (fo.reverse ++ [f]).flatten ++ s.fl := by
  unfold Rn.fs Rn.frs
  rw [h]
  simp
theorem RnOk.pop {rs : List Rc} {s : Rn} (h : RnOk rs s) {r t k u : Nat} {o : Tr} {f : List Fr} {fo : List (List Fr)} (h1 : s.out = (r, t) :: o) (h2 : s.fout = f :: fo) : RnOk rs { s with out := o, row := k, turn := u, fout := fo, fl := f } := by
  have e := fs_pop h2
  have e2 : ({ s with out := o, row := k, turn := u, fout := fo, fl := f } : Rn).fs = (fo.reverse ++ [f]).flatten := rfl
  refine ⟨h.sp, h.rc, fun g m => h.fr g ?_, ?_, ?_, ?_, h.mny, h.md⟩
  · rw [e]
    exact List.mem_append_left _ (by rw [← e2]; exact m)
  · rw [e2]
    have := h.f8
    rw [e, List.length_append] at this
    omega
  · show o.length ≤ 8
    have := h.dep
    rw [h1, List.length_cons] at this
    omega
  · show fo.length = o.length
    have := h.fdep
    rw [h1, h2, List.length_cons, List.length_cons] at this
    omega
theorem RnOk.leave {rs : List Rc} {s : Rn} (h : RnOk rs s) {r t n b : Nat} {o : Tr} {f : List Fr} {fo : List (List Fr)} (h1 : s.out = (r, t) :: o) (h2 : s.fout = f :: fo) : RnOk rs (leaveR s r t n b o f fo) := by
  unfold leaveR
  have hd := h.dep
  rw [h1, List.length_cons] at hd
  split
  · exact RnOk.enter (s := { s with out := o, row := r, turn := t + 1, fout := fo, fl := f }) (h.pop h1 h2) (by show o.length ≤ 7; omega) b
  · exact h.pop h1 h2
theorem Stl.ok {rs : List Rc} {n : Nat} {s t : Rn} (h : Stl rs n s t) : RnOk rs s → RnOk rs t := by
  induction h with
  | fin _ => exact id
  | row _ _ _ => exact id
  | piece _ _ _ _ ih => exact fun ok => ih (ok.row _ _)
  | leave _ _ h1 h2 _ _ _ ih => exact fun ok => ih (ok.leave h1 h2)
theorem RnOk.mkr {rs : List Rc} {s : Rn} (h : RnOk rs s) (hm : s.made.length < 100) (st : Stp) : RnOk rs (mkR s st) := by
  refine ⟨h.sp, h.rc, h.fr, h.f8, h.dep, h.fdep, h.mny, ?_⟩
  show (s.made ++ [_]).length ≤ 100
  rw [List.length_append]
  show s.made.length + 1 ≤ 100
  omega
/-- settled: at the end, or at a row that is done -/
def Settled (rs : List Rc) (s : Rn) : Prop := AtEnd rs s ∨ (¬ AtEnd rs s ∧ ∃ r, rs[s.row]? = some r ∧ r.plain = true)
theorem Settled.stl {rs : List Rc} {s : Rn} (h : Settled rs s) : Stl rs 0 s s := by
  rcases h with h | ⟨h1, r, h2, h3⟩
  · exact .fin h
  · exact .row h1 h2 h3
/-- a run goes on to a step, does it, and so on -/
theorem Run.parts {rs : List Rc} {n : Nat} {s : Rn} {e : Except Xr Rn} (h : Run rs n s e) : ∀ t, e = .ok t → ∃ m u, Go rs m s (.ok u) ∧ (AtEnd rs u ∧ u = t ∨ ¬ AtEnd rs u ∧ ∃ v k, Dn rs u (.ok v) ∧ Run rs k v (.ok t) ∧ k < n) := by
  induction h with
  | fin h => intro t q; cases q; exact ⟨0, _, .fin h, .inl ⟨h, rfl⟩⟩
  | err _ _ _ => intro t q; cases q
  | @on n s t r e h1 h2 h3 h4 ih =>
    intro t' q
    subst q
    by_cases hs : r.isStep = true
    · exact ⟨0, s, .step h1 h2 hs, .inr ⟨h1, t, n, h3, h4, by omega⟩⟩
    · obtain ⟨m, u, g, z⟩ := ih t' rfl
      refine ⟨m + 1, u, .on h1 h2 (by cases q : r.isStep with | true => exact absurd q hs | false => rfl) h3 g, ?_⟩
      rcases z with z | ⟨z1, v, k, z2, z3, z4⟩
      · exact .inl z
      · exact .inr ⟨z1, v, k, z2, z3, by omega⟩
/-! ### programs without pieces -/
/-- what a row that is no call does -/
structure Does (s : Rn) (r : Rc) (t : Rn) : Prop where
  np : r.plain = true
  nc : r.isCall = false
  ok : RcOk r
  fit : Fit s r
  st : r.isStep = true → s.made.length < 100
  mn : s.many < 2000
  de : ∀ rs, deedR rs s r = .ok t
inductive FlatR : List Rc → Rn → Prop
  | nil : FlatR [] rn0
  | snoc {rs : List Rc} {s t : Rn} {r : Rc} : FlatR rs s → Does s r t → FlatR (rs ++ [r]) { t with many := t.many + 1, row := t.row + 1, turn := 0 }
theorem deed_out {s t : Rn} {r : Rc} (d : Does s r t) : t.out = s.out ∧ t.row = s.row ∧ t.turn = s.turn ∧ t.many = s.many ∧ t.fout = s.fout := by
  have e := d.de []
  cases r with
  | hop x y => cases e; exact ⟨rfl, rfl, rfl, rfl, rfl⟩
  | cut x y =>
    unfold deedR at e
    simp only at e
    split at e
    · cases e; exact ⟨rfl, rfl, rfl, rfl, rfl⟩
    · cases e
  | run p q l => cases e; exact ⟨rfl, rfl, rfl, rfl, rfl⟩
  | arc left x y p q =>
    unfold deedR at e
    simp only at e
    split at e
    · cases e; exact ⟨rfl, rfl, rfl, rfl, rfl⟩
    · cases e
  | mode b => cases e; exact ⟨rfl, rfl, rfl, rfl, rfl⟩
  | pace g => cases e; exact ⟨rfl, rfl, rfl, rfl, rfl⟩
  | side u => cases e; exact ⟨rfl, rfl, rfl, rfl, rfl⟩
  | frame f =>
    unfold deedR at e
    simp only at e
    split at e
    · cases e
    · cases e; exact ⟨rfl, rfl, rfl, rfl, rfl⟩
  | back =>
    unfold deedR at e
    simp only at e
    split at e
    · cases e
    · cases e; exact ⟨rfl, rfl, rfl, rfl, rfl⟩
  | piece l => cases d.np
  | end_ => cases d.np
  | call l n => cases d.nc
structure FlatIs (rs : List Rc) (s : Rn) : Prop where
  row : s.row = rs.length
  turn : s.turn = 0
  out : s.out = []
  fout : s.fout = []
  many : s.many = rs.length
  ok : ∀ r ∈ rs, RcOk r ∧ r.plain = true ∧ r.isCall = false
theorem FlatR.is {rs : List Rc} {s : Rn} (h : FlatR rs s) : FlatIs rs s := by
  induction h with
  | nil => exact ⟨rfl, rfl, rfl, rfl, rfl, fun r m => nomatch m⟩
  | @snoc rs s t r h d ih =>
    obtain ⟨o1, o2, o3, o4, o5⟩ := deed_out d
    refine ⟨?_, rfl, o1.trans ih.out, o5.trans ih.fout, ?_, fun q m => ?_⟩
    · show t.row + 1 = (rs ++ [r]).length
      rw [o2, ih.row, List.length_append]
      rfl
    · show t.many + 1 = (rs ++ [r]).length
      rw [o4, ih.many, List.length_append]
      rfl
    · rcases List.mem_append.mp m with z | z
      · exact ih.ok q z
      · rw [List.mem_singleton.mp z]
        exact ⟨d.ok, d.np, d.nc⟩
theorem flat_settled {rs x : List Rc} {s : Rn} (h : FlatIs rs s) (hx : ∀ r ∈ x, r.plain = true) : Settled (rs ++ x) s := by
  cases x with
  | nil => exact .inl ⟨h.out, by rw [h.row, List.append_nil]⟩
  | cons r x =>
    refine .inr ⟨fun z => ?_, r, ?_, hx r (List.mem_cons_self ..)⟩
    · have := z.2
      rw [h.row, List.length_append, List.length_cons] at this
      omega
    · rw [h.row, List.getElem?_append_right (Nat.le_refl _), Nat.sub_self]
      rfl
theorem FlatR.run {rs : List Rc} {s : Rn} (h : FlatR rs s) : ∀ (x : List Rc), (∀ r ∈ x, r.plain = true) → ∀ (n : Nat) (e : Except Xr Rn), Run (rs ++ x) n s e → Run (rs ++ x) (n + rs.length) rn0 e := by
  induction h with
  | nil => exact fun x hx n e h => h
  | @snoc rs s t r h d ih =>
    intro x hx n e hr
    have hi := h.is
    have a : rs ++ [r] ++ x = rs ++ (r :: x) := by simp
    have hx' : ∀ q ∈ r :: x, q.plain = true := fun q m => by
      rcases List.mem_cons.mp m with z | z
      · rw [z]; exact d.np
      · exact hx q z
    have hset : Settled (rs ++ [r] ++ x) { t with many := t.many + 1, row := t.row + 1, turn := 0 } := flat_settled (h.snoc d).is hx
    rw [a] at hr hset ⊢
    have er : (rs ++ (r :: x))[s.row]? = some r := by
      rw [hi.row, List.getElem?_append_right (Nat.le_refl _), Nat.sub_self]
      rfl
    have ne : ¬ AtEnd (rs ++ (r :: x)) s := fun z => by
      have := z.2
      rw [hi.row, List.length_append, List.length_cons] at this
      omega
    have dn : Dn (rs ++ (r :: x)) s (.ok { t with many := t.many + 1, row := t.row + 1, turn := 0 }) := by
      refine .ok (k := 0) (t := t) (by have := d.mn; omega) er d.np (fun z => by have := d.st z; omega) d.fit (fun l n q => by have := d.nc; rw [q] at this; cases this) (d.de _) ?_
      rw [d.nc]
      exact hset.stl
    have := ih (r :: x) hx' (n + 1) e (.on ne er dn hr)
    rw [show n + (rs ++ [r]).length = n + 1 + rs.length by simp; omega]
    exact this
theorem FlatR.runs {rs : List Rc} {s : Rn} (h : FlatR rs s) : Runs rs (.ok s) := by
  have hi := h.is
  have := h.run [] (fun r m => nomatch m) 0 (.ok s) (.fin ⟨hi.out, by rw [hi.row, List.append_nil]⟩)
  rw [List.append_nil] at this
  have hs : Settled rs rn0 := by
    cases rs with
    | nil => exact .inl ⟨rfl, rfl⟩
    | cons r x => exact .inr ⟨fun z => (nomatch z.2), r, rfl, (hi.ok r (List.mem_cons_self ..)).2.1⟩
  exact ⟨0, _, rn0, hs.stl, this⟩
end DR

/-! DWf: rows of texts by their kinds; what the laws of roads share. -/
namespace DR
open PySem PySem.Spec L2 DL DM SX
/-! ### rows of texts -/
theorem num_bd {u : Rat} (h : NumOk u) : Bd 14 u := ⟨Nat.lt_of_le_of_lt h.1 (by decide), Nat.lt_of_le_of_lt h.2 (by decide)⟩
theorem okx {v : Rv} {c : Nat} (h : OkV c v) : (∀ u, v = .nu u → Bd 14 u) ∧ (∀ i, c = 112 → v = .wh i → i.natAbs < 2 ^ 7) ∧ (∀ i, c = 103 → v = .wh i → 0 ≤ i ∧ i ≤ 9) ∧ (∀ i, c = 116 → v = .wh i → 1 ≤ i ∧ i ≤ 99) := by
  cases h with
  | xp => exact ⟨nofun, nofun, nofun, nofun⟩
  | xn h => exact ⟨fun u e => (by cases e; exact num_bd h), nofun, nofun, nofun⟩
  | r h => exact ⟨fun u e => (by cases e; exact num_bd h), nofun, nofun, nofun⟩
  | l h _ => exact ⟨fun u e => (by cases e; exact num_bd h), nofun, nofun, nofun⟩
  | p h1 h2 => exact ⟨nofun, fun i _ e => (by cases e; omega), nofun, nofun⟩
  | g h1 h2 => exact ⟨nofun, nofun, fun i _ e => (by cases e; exact ⟨h1, h2⟩), nofun⟩
  | t h1 h2 => exact ⟨nofun, nofun, nofun, fun i _ e => (by cases e; exact ⟨h1, h2⟩)⟩
  | n h => exact ⟨nofun, nofun, nofun, nofun⟩
/-- a value of a row, by its place -/
theorem RwOk.v {w : Wd} {vs : List Rv} (ok : RwOk ⟨w, vs⟩) (i c : Nat) (hc : w.sh.cps[i]? = some c) {v : Rv} (hv : vs[i]? = some v) : (∀ u, v = .nu u → Bd 14 u) ∧ (∀ i, c = 112 → v = .wh i → i.natAbs < 2 ^ 7) ∧ (∀ i, c = 103 → v = .wh i → 0 ≤ i ∧ i ≤ 9) ∧ (∀ i, c = 116 → v = .wh i → 1 ≤ i ∧ i ≤ 99) := okx (ok.ok i c v hc hv)
theorem RwOk.h {w : Wd} {vs : List Rv} (ok : RwOk ⟨w, vs⟩) (k : Nat) (hk : w.at_ = some k) (c1 : w.sh.cps[k]? = some 112) (c2 : w.sh.cps[k + 1]? = some 112) {p q : Int} (hp : vs[k]? = some (.wh p)) (hq : vs[k + 1]? = some (.wh q)) : hdOk p q := by
  obtain ⟨p', q', e1, e2, n⟩ := ok.hd k hk
  have e1 : vs[k]? = some (.wh p') := e1
  have e2 : vs[k + 1]? = some (.wh q') := e2
  rw [hp] at e1
  rw [hq] at e2
  cases e1
  cases e2
  refine ⟨by omega, (ok.v k 112 c1 hp).2.1 _ rfl rfl, (ok.v (k + 1) 112 c2 hq).2.1 _ rfl rfl⟩
theorem rcOf_ok {r : Rw} {c : Rc} (h : rcOf r = some c) (ok : RwOk r) : r.d = c.d ∧ RcOk c := by
  obtain ⟨w, vs⟩ := r
  unfold rcOf at h
  simp only at h
  split at h
  · split at h <;> cases h
    · exact ⟨rfl, trivial, trivial⟩
    · exact ⟨rfl, trivial, (ok.v 1 120 (by decide +kernel) rfl).1 _ rfl⟩
    · exact ⟨rfl, (ok.v 0 120 (by decide +kernel) rfl).1 _ rfl, trivial⟩
    · exact ⟨rfl, (ok.v 0 120 (by decide +kernel) rfl).1 _ rfl, (ok.v 1 120 (by decide +kernel) rfl).1 _ rfl⟩
  · split at h <;> cases h
    · exact ⟨rfl, trivial, trivial⟩
    · exact ⟨rfl, trivial, (ok.v 1 120 (by decide +kernel) rfl).1 _ rfl⟩
    · exact ⟨rfl, (ok.v 0 120 (by decide +kernel) rfl).1 _ rfl, trivial⟩
    · exact ⟨rfl, (ok.v 0 120 (by decide +kernel) rfl).1 _ rfl, (ok.v 1 120 (by decide +kernel) rfl).1 _ rfl⟩
  · cases h
    exact ⟨rfl, ok.h 0 rfl (by decide +kernel) (by decide +kernel) rfl rfl, (ok.v 2 108 (by decide +kernel) rfl).1 _ rfl⟩
  · have hh := ok.h 2 rfl (by decide +kernel) (by decide +kernel) rfl rfl
    split at h <;> cases h
    · exact ⟨rfl, ⟨trivial, trivial⟩, hh⟩
    · exact ⟨rfl, ⟨trivial, (ok.v 1 120 (by decide +kernel) rfl).1 _ rfl⟩, hh⟩
    · exact ⟨rfl, ⟨(ok.v 0 120 (by decide +kernel) rfl).1 _ rfl, trivial⟩, hh⟩
    · exact ⟨rfl, ⟨(ok.v 0 120 (by decide +kernel) rfl).1 _ rfl, (ok.v 1 120 (by decide +kernel) rfl).1 _ rfl⟩, hh⟩
  · have hh := ok.h 2 rfl (by decide +kernel) (by decide +kernel) rfl rfl
    split at h <;> cases h
    · exact ⟨rfl, ⟨trivial, trivial⟩, hh⟩
    · exact ⟨rfl, ⟨trivial, (ok.v 1 120 (by decide +kernel) rfl).1 _ rfl⟩, hh⟩
    · exact ⟨rfl, ⟨(ok.v 0 120 (by decide +kernel) rfl).1 _ rfl, trivial⟩, hh⟩
    · exact ⟨rfl, ⟨(ok.v 0 120 (by decide +kernel) rfl).1 _ rfl, (ok.v 1 120 (by decide +kernel) rfl).1 _ rfl⟩, hh⟩
  · cases h
    exact ⟨rfl, trivial⟩
  · cases h
    exact ⟨rfl, trivial⟩
  · cases h
    exact ⟨rfl, (ok.v 0 103 (by decide +kernel) rfl).2.2.1 _ rfl rfl⟩
  · cases h
    exact ⟨rfl, (ok.v 0 114 (by decide +kernel) rfl).1 _ rfl⟩
  · cases h
    exact ⟨rfl, (ok.v 0 114 (by decide +kernel) rfl).1 _ rfl, (ok.v 1 114 (by decide +kernel) rfl).1 _ rfl⟩
  · cases h
    exact ⟨rfl, ok.h 0 rfl (by decide +kernel) (by decide +kernel) rfl rfl⟩
  · cases h
    exact ⟨rfl, trivial⟩
  · cases h
    exact ⟨rfl, trivial⟩
  · cases h
    exact ⟨rfl, trivial⟩
  · cases h
    exact ⟨rfl, trivial⟩
  · rename_i l n
    cases h
    have := (ok.v 1 116 (by decide +kernel) rfl).2.2.2 n rfl rfl
    refine ⟨?_, by omega, by omega⟩
    show PyData.tuple [.str "call", .str (S l), .int n] = .tuple [.str "call", .str (S l), .int ((n.toNat : Nat) : Int)]
    rw [Int.toNat_of_nonneg (by omega)]
  · cases h
/-! ### laws of roads -/
def LenOk (u : Rat) : Prop := 0 < u ∧ NumOk u
end DR

/-! DWg: enumerate(t) of a tuple; a list of tuples made flat. -/
namespace DZ
open PySem Sem PyProof.Rows
section
variable {prog : Program} {w : World} {A : Around} {E : Value → Shared → Prop} {s : Shared}
end
end DZ
namespace DL
open PySem PySem.Spec PyProof.Rows L2 DZ
section
variable {X : Cx} {Z : Ent} {pos : Pos}
end
end DL

/-! DWh: steps of the runner's readings. -/
namespace DR
open PySem PySem.Spec L2 DL DM SX
end DR
namespace DR
open PySem PySem.Spec L2 DL DM SX
end DR

namespace DR
open PySem PySem.Spec L2 DL DM SX
end DR
namespace DR
open PySem PySem.Spec L2 DL DM SX
end DR
namespace DR
open PySem PySem.Spec L2 DL DM SX
end DR
namespace DL
open PySem PySem.Spec L2
end DL
namespace DR
open PySem PySem.Spec L2 DL DM SX
end DR
namespace DR
open PySem PySem.Spec L2 DL DM SX
end DR
namespace DR
open PySem PySem.Spec L2 DL DM SX
end DR
namespace DR
open PySem PySem.Spec L2 DL DM SX
end DR
namespace DR
open PySem PySem.Spec L2 DL DM SX
end DR

/-! DWi: rows by their kinds as they are written; flat programs row by row. -/
namespace DR
open PySem PySem.Spec L2 DL DM SX
/-! ### rows written -/
def coV : Option Rat → Rv
  | none => .pt
  | some u => .nu u
def Rc.w : Rc → Rw
  | .hop x y => ⟨.hop, [coV x, coV y]⟩
  | .cut x y => ⟨.cut, [coV x, coV y]⟩
  | .run p q l => ⟨.run, [.wh p, .wh q, .nu l]⟩
  | .arc left x y p q => ⟨if left then .left else .right, [coV x, coV y, .wh p, .wh q]⟩
  | .mode b => ⟨if b then .by_ else .from_, []⟩
  | .pace g => ⟨.pace, [.wh g]⟩
  | .side u => ⟨.side, [.nu u]⟩
  | .frame (.shift a b) => ⟨.shift, [.nu a, .nu b]⟩
  | .frame (.turn p q) => ⟨.turn, [.wh p, .wh q]⟩
  | .frame .flip => ⟨.flip, []⟩
  | .back => ⟨.back, []⟩
  | .piece l => ⟨.piece, [.nm l]⟩
  | .end_ => ⟨.end_, []⟩
  | .call l n => ⟨.call, [.nm l, .wh (n : Int)]⟩
def coW : Option Rat → Prop
  | none => True
  | some u => NumOk u
def hdW (p q : Int) : Prop := (-99 ≤ p ∧ p ≤ 99) ∧ (-99 ≤ q ∧ q ≤ 99) ∧ ¬ (p = 0 ∧ q = 0)
def RcW : Rc → Prop
  | .hop x y => coW x ∧ coW y
  | .cut x y => coW x ∧ coW y
  | .run p q l => hdW p q ∧ NumOk l ∧ 0 < l
  | .arc _ x y p q => (coW x ∧ coW y) ∧ hdW p q
  | .mode _ => True
  | .pace g => 0 ≤ g ∧ g ≤ 9
  | .side u => NumOk u
  | .frame (.shift a b) => NumOk a ∧ NumOk b
  | .frame (.turn p q) => hdW p q
  | .frame .flip => True
  | .back => True
  | .piece l => NameOk l
  | .end_ => True
  | .call l n => NameOk l ∧ 1 ≤ n ∧ n ≤ 99
theorem rcOf_w (c : Rc) : rcOf c.w = some c := by
  cases c with
  | hop x y => cases x <;> cases y <;> rfl
  | cut x y => cases x <;> cases y <;> rfl
  | arc l x y p q => cases l <;> cases x <;> cases y <;> rfl
  | mode b => cases b <;> rfl
  | frame f => cases f <;> rfl
  | _ => rfl
theorem co_ok {x : Option Rat} (h : coW x) : OkV 120 (coV x) := by
  cases x with
  | none => exact .xp
  | some u => exact .xn h
theorem w_ok {c : Rc} (h : RcW c) : RwOk c.w := by
  cases c with
  | hop x y => exact rw_ok (sh := [120, 120]) (by decide +kernel) (.cons (co_ok h.1) (.cons (co_ok h.2) .nil)) (fun k e => nomatch e)
  | cut x y => exact rw_ok (sh := [120, 120]) (by decide +kernel) (.cons (co_ok h.1) (.cons (co_ok h.2) .nil)) (fun k e => nomatch e)
  | run p q l => exact rw_ok (sh := [112, 112, 108]) (by decide +kernel) (.cons (.p h.1.1.1 h.1.1.2) (.cons (.p h.1.2.1.1 h.1.2.1.2) (.cons (.l h.2.1 h.2.2) .nil))) (fun k e => by cases e; exact ⟨p, q, rfl, rfl, h.1.2.2⟩)
  | arc l x y p q =>
    cases l
    · exact rw_ok (sh := [120, 120, 112, 112]) (by decide +kernel) (.cons (co_ok h.1.1) (.cons (co_ok h.1.2) (.cons (.p h.2.1.1 h.2.1.2) (.cons (.p h.2.2.1.1 h.2.2.1.2) .nil)))) (fun k e => by cases e; exact ⟨p, q, rfl, rfl, h.2.2.2⟩)
    · exact rw_ok (sh := [120, 120, 112, 112]) (by decide +kernel) (.cons (co_ok h.1.1) (.cons (co_ok h.1.2) (.cons (.p h.2.1.1 h.2.1.2) (.cons (.p h.2.2.1.1 h.2.2.1.2) .nil)))) (fun k e => by cases e; exact ⟨p, q, rfl, rfl, h.2.2.2⟩)
  | mode b => cases b <;> exact rw_ok (sh := []) (by decide +kernel) .nil (fun k e => nomatch e)
  | pace g => exact rw_ok (sh := [103]) (by decide +kernel) (.cons (.g h.1 h.2) .nil) (fun k e => nomatch e)
  | side u => exact rw_ok (sh := [114]) (by decide +kernel) (.cons (.r h) .nil) (fun k e => nomatch e)
  | frame f =>
    cases f with
    | shift a b => exact rw_ok (sh := [114, 114]) (by decide +kernel) (.cons (.r h.1) (.cons (.r h.2) .nil)) (fun k e => nomatch e)
    | turn p q => exact rw_ok (sh := [112, 112]) (by decide +kernel) (.cons (.p h.1.1 h.1.2) (.cons (.p h.2.1.1 h.2.1.2) .nil)) (fun k e => by cases e; exact ⟨p, q, rfl, rfl, h.2.2⟩)
    | flip => exact rw_ok (sh := []) (by decide +kernel) .nil (fun k e => nomatch e)
  | back => exact rw_ok (sh := []) (by decide +kernel) .nil (fun k e => nomatch e)
  | piece l => exact pc_ok h
  | end_ => exact en_ok
  | call l n =>
    have h : NameOk l ∧ 1 ≤ n ∧ n ≤ 99 := h
    exact rw_ok (sh := [110, 116]) (by decide +kernel) (.cons (.n h.1) (.cons (.t (by omega) (by omega)) .nil)) (fun k e => nomatch e)
theorem rc_ok {c : Rc} (h : RcW c) : RcOk c := (rcOf_ok (rcOf_w c) (w_ok h)).2
/-! ### the laws' own helpers -/
/-! ### flat programs, row by row -/
def nxR (t : Rn) : Rn := { t with many := t.many + 1, row := t.row + 1, turn := 0 }
theorem FlatR.step {rs : List Rc} {s t : Rn} {r : Rc} (h : FlatR rs s) (np : r.plain = true) (nc : r.isCall = false) (ok : RcOk r) (fit : Fit s r) (hm : r.isStep = true → s.made.length < 100) (hl : rs.length < 2000) (de : ∀ rs, deedR rs s r = .ok t) : FlatR (rs ++ [r]) (nxR t) :=
  h.snoc ⟨np, nc, ok, fit, hm, by rw [h.is.many]; exact hl, de⟩
end DR
namespace DR
open PySem PySem.Spec L2 DL DM SX
end DR

/-! DWj: flat programs step by step; the laws' own tellings of places. -/
namespace DR
open PySem PySem.Spec L2 DL DM SX
/-- rows without pieces and calls, done to a state whose place is within a size -/
structure Fl (c : Nat) (rs : List Rc) (s : Rn) : Prop where
  fl : FlatR rs s
  ok : ∀ r ∈ rs, RcW r ∧ r.plain = true ∧ r.isCall = false
  bc : Bc c s.place
theorem Fl.nil : Fl 1 [] rn0 := ⟨.nil, fun _ m => (nomatch m), ⟨0, 0, 1, by decide, rfl, rfl, by decide, by decide, by decide⟩⟩
theorem Fl.mono {c d : Nat} {rs : List Rc} {s : Rn} (h : Fl c rs s) (e : c ≤ d) : Fl d rs s := ⟨h.fl, h.ok, h.bc.mono e⟩
theorem Fl.snoc {c d : Nat} {rs : List Rc} {s t : Rn} {r : Rc} (h : Fl c rs s) (hr : RcW r) (np : r.plain = true) (nc : r.isCall = false) (fit : Fit s r) (hm : r.isStep = true → s.made.length < 100) (hl : rs.length < 2000) (de : ∀ rs, deedR rs s r = .ok t) (bc : Bc d t.place) : Fl d (rs ++ [r]) (nxR t) := by
  refine ⟨h.fl.step np nc (rc_ok hr) fit hm hl de, fun q m => ?_, bc⟩
  rcases List.mem_append.mp m with z | z
  · exact h.ok q z
  · rw [List.mem_singleton.mp z]
    exact ⟨hr, np, nc⟩
section
variable {c : Nat} {rs : List Rc} {s : Rn}
theorem Fl.mode (h : Fl c rs s) (hl : rs.length < 2000) (b : Bool) : Fl c (rs ++ [.mode b]) (nxR { s with by_ := b }) := h.snoc (r := .mode b) trivial rfl rfl trivial (fun z => nomatch z) hl (fun _ => rfl) h.bc
theorem Fl.pace (h : Fl c rs s) (hl : rs.length < 2000) {g : Int} (hg : 0 ≤ g ∧ g ≤ 9) : Fl c (rs ++ [.pace g]) (nxR { s with pace := g }) := h.snoc (r := .pace g) hg rfl rfl trivial (fun z => nomatch z) hl (fun _ => rfl) h.bc
theorem Fl.side (h : Fl c rs s) (hl : rs.length < 2000) {u : Rat} (hu : NumOk u) : Fl c (rs ++ [.side u]) (nxR { s with side := u }) := h.snoc (r := .side u) hu rfl rfl trivial (fun z => nomatch z) hl (fun _ => rfl) h.bc
theorem Fl.frame (h : Fl c rs s) (hl : rs.length < 2000) {f : Fr} (hf : RcW (.frame f)) (h8 : s.fs.length ≠ 8) : Fl c (rs ++ [.frame f]) (nxR { s with fl := s.fl ++ [f] }) := h.snoc (r := .frame f) hf rfl rfl trivial (fun z => nomatch z) hl (fun _ => if_neg h8) h.bc
theorem Fl.back (h : Fl c rs s) (hl : rs.length < 2000) (h8 : s.fl ≠ []) : Fl c (rs ++ [.back]) (nxR { s with fl := s.fl.dropLast }) := h.snoc (r := .back) trivial rfl rfl trivial (fun z => nomatch z) hl (fun _ => if_neg h8) h.bc
theorem Fl.hop {d : Nat} (h : Fl c rs s) (hl : rs.length < 2000) (hm : s.made.length < 100) {x y : Option Rat} (hx : coW x) (hy : coW y) (hc : c + 58 * s.fs.length + 30 ≤ 1800) (bc : Bc d (spotR s x y)) : Fl d (rs ++ [.hop x y]) (nxR (mkR s (.hop s.place (spotR s x y)))) :=
  h.snoc (r := .hop x y) ⟨hx, hy⟩ rfl rfl ⟨c, hc, h.bc⟩ (fun _ => hm) hl (fun _ => rfl) bc
theorem bd2_of {n m : Nat} {p : Rat × Rat} (h : Bc n p) (e : n ≤ m) : Bd2 m p := ⟨h.bd.1.mono e, h.bd.2.mono e⟩
theorem Fl.cut {d : Nat} (h : Fl c rs s) (hl : rs.length < 2000) (hm : s.made.length < 100) {x y : Option Rat} (hx : coW x) (hy : coW y) (hc : c + 58 * s.fs.length + 30 ≤ 1800) (hc2 : c ≤ 900) (bc : Bc d (spotR s x y)) (hd : d ≤ 900) (far : farP s.place (spotR s x y) = true) :
    Fl d (rs ++ [.cut x y]) (nxR (mkR s (.line s.place (spotR s x y)))) :=
  h.snoc (r := .cut x y) ⟨hx, hy⟩ rfl rfl ⟨⟨c, hc, h.bc⟩, bd2_of h.bc hc2, bd2_of bc hd⟩ (fun _ => hm) hl (fun _ => if_pos far) bc
theorem Fl.run {d : Nat} (h : Fl c rs s) (hl : rs.length < 2000) (hm : s.made.length < 100) {p q : Int} {l : Rat} (hh : hdW p q) (hu : LenOk l) (hc2 : c ≤ 1900) (bc : Bc d (runE s p q l)) : Fl d (rs ++ [.run p q l]) (nxR (mkR s (.line s.place (runE s p q l)))) :=
  h.snoc (r := .run p q l) ⟨hh, hu.2, hu.1⟩ rfl rfl (bd2_of h.bc hc2) (fun _ => hm) hl (fun _ => rfl) bc
theorem Fl.arc {d e : Nat} (h : Fl c rs s) (hl : rs.length < 2000) (hm : s.made.length < 100) {left : Bool} {x y : Option Rat} {p q : Int} (hx : coW x) (hy : coW y) (hh : hdW p q) (hc : c + 58 * s.fs.length + 30 ≤ 1800) (hc2 : c ≤ 900) (be : Bc e (spotR s x y)) (he : e ≤ 900) (far : farP (spotR s x y) s.place = true)
    (bc : Bc d (arcE s (spotR s x y) (arcW left s.fs) p q)) : Fl d (rs ++ [.arc left x y p q]) (nxR (mkR s (.arc s.place (arcE s (spotR s x y) (arcW left s.fs) p q) (spotR s x y) (arcW left s.fs)))) :=
  h.snoc (r := .arc left x y p q) ⟨⟨hx, hy⟩, hh⟩ rfl rfl ⟨⟨c, hc, h.bc⟩, h.bc.mono hc2, be.mono he⟩ (fun _ => hm) hl (fun _ => if_pos far) bc
theorem Fl.trail (h : Fl c rs s) : s.trail = [(rs.length, 0)] := by
  unfold Rn.trail
  rw [h.fl.is.out, h.fl.is.row, h.fl.is.turn]
  rfl
end
/-! ### places without frames -/
/-! ### the laws' own helpers -/
instance (x : Option Rat) : Decidable (coW x) := by
  cases x with
  | none => exact isTrue trivial
  | some u => exact inferInstanceAs (Decidable (_ ∧ _))
end DR
noncomputable section
namespace DL
open PySem PySem.W HandSHeadRun
end DL

/-! DWk: runs of programs with pieces, step by step; places over one bottom. -/
namespace DR
open PySem PySem.Spec L2 DL DM SX
/-- behind a row's deed, not yet settled -/
def aftR (r : Rc) (t : Rn) : Rn := if r.isCall then { t with many := t.many + 1 } else nxR t
/-- from a state to one that a run comes to (neither needs to be settled) -/
inductive Rch (rs : List Rc) : Rn → Rn → Prop
  | refl (s : Rn) : Rch rs s s
  | act {s t u : Rn} {r : Rc} : ¬ AtEnd rs s → rs[s.row]? = some r → r.plain = true → s.many ≠ 2000 → (r.isStep = true → s.made.length ≠ 100) → Fit s r → (∀ l n, r = .call l n → lookP rs l ≠ none) → deedR rs s r = .ok t → Rch rs (aftR r t) u → Rch rs s u
  | skip {s u : Rn} {l : List Nat} {b e : Nat} : ¬ AtEnd rs s → rs[s.row]? = some (.piece l) → lookP rs l = some (b, e) → Rch rs { s with row := e + 1, turn := 0 } u → Rch rs s u
  | leave {s u : Rn} {l : List Nat} {r t n b e : Nat} {o : Tr} {f : List Fr} {fo : List (List Fr)} : ¬ AtEnd rs s → rs[s.row]? = some .end_ → s.out = (r, t) :: o → s.fout = f :: fo → rs[r]? = some (.call l n) → lookP rs l = some (b, e) → Rch rs (leaveR s r t n b o f fo) u → Rch rs s u
theorem Rch.trans {rs : List Rc} {s t u : Rn} (h : Rch rs s t) (k : Rch rs t u) : Rch rs s u := by
  induction h with
  | refl _ => exact k
  | act a b c d e f g h _ ih => exact .act a b c d e f g h (ih k)
  | skip a b c _ ih => exact .skip a b c (ih k)
  | leave a b c d e f _ ih => exact .leave a b c d e f (ih k)
theorem Rch.run {rs : List Rc} {s t t' : Rn} {k : Nat} (h : Rch rs s t) (hs : Stl rs k t t') (he : AtEnd rs t') : ∃ k n s0, Stl rs k s s0 ∧ Run rs n s0 (.ok t') := by
  induction h with
  | refl _ => exact ⟨k, 0, _, hs, .fin he⟩
  | act a b c d e f g h _ ih =>
    obtain ⟨k1, n1, s1, h1, h2⟩ := ih hs
    exact ⟨0, n1 + 1, _, .row a b c, .on a b (.ok d b c e f g h h1) h2⟩
  | skip a b c _ ih =>
    obtain ⟨k1, n1, s1, h1, h2⟩ := ih hs
    exact ⟨k1 + 1, n1, s1, .piece a b c h1, h2⟩
  | leave a b c d e f _ ih =>
    obtain ⟨k1, n1, s1, h1, h2⟩ := ih hs
    exact ⟨k1 + 1, n1, s1, .leave a b c d e f h1, h2⟩
theorem Rch.runs {rs : List Rc} {t t' : Rn} {k : Nat} (h : Rch rs rn0 t) (hs : Stl rs k t t') (he : AtEnd rs t') : Runs rs (.ok t') := h.run hs he
/-- one plain row -/
theorem Rch.one {rs : List Rc} {s t : Rn} {r : Rc} (h : rs[s.row]? = some r) (np : r.plain = true) (hm : s.many < 2000) (hs : r.isStep = true → s.made.length < 100) (fit : Fit s r) (hc : ∀ l n, r = .call l n → lookP rs l ≠ none) (de : deedR rs s r = .ok t) : Rch rs s (aftR r t) := by
  refine .act (fun z => ?_) h np (by omega) (fun z => by have := hs z; omega) fit hc de (.refl _)
  have := (List.getElem?_eq_some_iff.mp h).1
  have := z.2
  omega
/-! ### places over one bottom -/
def InD (D M : Nat) (p : Rat × Rat) : Prop := ∃ a b : Int, p.1 = Rat.divInt a D ∧ p.2 = Rat.divInt b D ∧ a.natAbs ≤ M ∧ b.natAbs ≤ M
theorem InD.bc {D M n : Nat} {p : Rat × Rat} (h : InD D M p) (h0 : 0 < D) (hD : D < 2 ^ n) (hM : M < 2 ^ n) : Bc n p := by
  obtain ⟨a, b, h1, h2, h3, h4⟩ := h
  exact ⟨a, b, D, by omega, h1, h2, by omega, by omega, by omega⟩
theorem InD.mono {D M M' : Nat} {p : Rat × Rat} (h : InD D M p) (e : M ≤ M') : InD D M' p := by
  obtain ⟨a, b, h1, h2, h3, h4⟩ := h
  exact ⟨a, b, h1, h2, by omega, by omega⟩
theorem InD.zero {D : Nat} : InD D 0 (0, 0) := ⟨0, 0, by rw [Rat.zero_divInt], by rw [Rat.zero_divInt], by decide, by decide⟩
theorem InD.add {D M M' : Nat} {p q : Rat × Rat} (hD : 0 < D) (h : InD D M p) (k : InD D M' q) : InD D (M + M') (p.1 + q.1, p.2 + q.2) := by
  obtain ⟨a, b, h1, h2, h3, h4⟩ := h
  obtain ⟨c, d, k1, k2, k3, k4⟩ := k
  have hd : (D : Int) ≠ 0 := by omega
  have e : ∀ x y : Int, Rat.divInt x D + Rat.divInt y D = Rat.divInt (x + y) D := fun x y => by
    rw [Rat.divInt_eq_div, Rat.divInt_eq_div, Rat.divInt_eq_div, Rat.intCast_add]
    grind
  refine ⟨a + c, b + d, ?_, ?_, by omega, by omega⟩
  · show p.1 + q.1 = _
    rw [h1, k1, e]
  · show p.2 + q.2 = _
    rw [h2, k2, e]
end DR

/-! DXd: the fields of a caught exception. -/
namespace DL
open PySem PySem.Spec L2 PyProof.Rows
section
variable {X : Cx} {pos : Pos}
end
end DL

/-! DXe: an exception of one field is raised. -/
namespace DL
open PySem PySem.Spec L2 PyProof.Rows
section
variable {X : Cx} {Z : Ent} {ex : Xd → DSt → Prop} {pos : Pos} {t : DE} {e : Expr}
end
/-! ### the facts of such a class -/
end DL

/-! DXf: l.index(x) and l.count(x) of shared lists; try over a call with arguments of one's own. -/
namespace DL
open PySem PySem.Spec L2 PyProof.Rows
section
variable {X : Cx} {Z : Ent} {pos : Pos}
/-! ### methods of a shared list -/
end
/-! ### try over a call -/
end DL

/-! DWl: programs with one piece; no root of two. -/
namespace DR
open PySem PySem.Spec L2 DL DM SX
/-! programs with one piece -/
end DR

/-! DOa: the hand layer over shared data: growth of a heap, readings by data within hand-made proofs, targets that are fields, zip of a list and a shorter one. -/
namespace DL
open PySem PySem.Spec L2 PyProof.Rows
/-- from (Hs, H) on all that was there stands as it stood -/
structure Gro (Hs H Hs' H' : Hp) : Prop where
  s : Same Hs Hs'
  h : Same H H'
  sub : Same Hs' H'
  nw : ∀ b, Hs' b ≠ none → Hs b ≠ none ∨ H b = none
section
variable {K : Fg} {Hs H Hs' H' Hs2 H2 : Hp} {σ : L2.St} {δ : DSt}
theorem Gro.refl (e : Same Hs H) : Gro Hs H Hs H := ⟨Same.refl _, Same.refl _, e, fun _ n => .inl n⟩
theorem Gro.trans (a : Gro Hs H Hs' H') (b : Gro Hs' H' Hs2 H2) : Gro Hs H Hs2 H2 := ⟨a.s.trans b.s, a.h.trans b.h, b.sub, fun c n => by
  rcases b.nw c n with z | z
  · exact a.nw c z
  · exact .inr (a.h.free z)⟩
theorem Gro.of {δ' : DSt} {σ0 : L2.St} (C : Rl K (.at H Hs [] σ0) Hs' H' σ δ') : Gro Hs H Hs' H' := ⟨C.ext, fun b o e => C.fr b o e (fun z => nomatch z), C.sub, C.new⟩
/-- a new thing that isn't shared -/
theorem Gro.put (e : Same Hs H) {p : Addr} {o : HO} (h : H p = none) : Gro Hs H Hs (upd H p o) := ⟨Same.refl _, same_new h, e.trans (same_new h), fun _ n => .inl n⟩
/-- a new thing that is shared -/
theorem Gro.shr (e : Same Hs H) {p : Addr} {o : HO} (h : H p = none) : Gro Hs H (upd Hs p o) (upd H p o) := by
  refine ⟨same_new (e.free h), same_new h, fun b x q => ?_, fun b n => ?_⟩
  · by_cases hb : b = p
    · subst hb
      rw [upd_same] at q ⊢
      exact q
    · rw [upd_ne hb] at q ⊢
      exact e b x q
  · by_cases hb : b = p
    · subst hb
      exact .inr h
    · rw [upd_ne hb] at n
      exact .inl n
/-- slots that hold shared data -/
structure ShS (K : Fg) (Hs : Hp) (σ : L2.St) (δ : DSt) : Prop where
  len : σ.length = δ.length
  at_ : ∀ (i : Nat) (s : Sl), δ[i]? = some (some s) → ∃ d v, s = .sh d ∧ σ[i]? = some (some v) ∧ Dp K Hs v d
theorem ShS.up (h : ShS K Hs σ δ) (e : Same Hs Hs') : ShS K Hs' σ δ := ⟨h.len, fun i s q => by
  obtain ⟨d, v, e1, e2, e3⟩ := h.at_ i s q
  exact ⟨d, v, e1, e2, e3.up e⟩⟩
theorem ShS.nil (n : Nat) : ShS K Hs (List.replicate n none) (List.replicate n none) := ⟨by simp, fun i s q => by
  rw [List.getElem?_replicate] at q
  split at q <;> cases q⟩
theorem ShS.set (h : ShS K Hs σ δ) {i : Nat} {v : V} {d : PyData} (p : Dp K Hs v d) : ShS K Hs (σ.set i (some v)) (δ.set i (some (.sh d))) := by
  refine ⟨by rw [List.length_set, List.length_set, h.len], fun j s q => ?_⟩
  rcases get_set q with ⟨rfl, e⟩ | ⟨ne, q⟩
  · cases e
    have hj := set_lt q
    exact ⟨d, v, rfl, by rw [List.getElem?_set_self (by rw [h.len]; exact hj)], p⟩
  · obtain ⟨d, v, e1, e2, e3⟩ := h.at_ j s q
    exact ⟨d, v, e1, by rw [List.getElem?_set_ne ne]; exact e2, e3⟩
theorem ShS.get (h : ShS K Hs σ δ) {i : Nat} {d : PyData} (e : δ[i]? = some (some (.sh d))) : ∃ v, σ[i]? = some (some v) ∧ Dp K Hs v d := by
  obtain ⟨d', v, e1, e2, e3⟩ := h.at_ i _ e
  cases e1
  exact ⟨v, e2, e3⟩
end
section
variable {X : Cx} {e : Expr} {pos : Pos}
end
end DL

/-! DOb: cuts by their headings; the tool led beside them: joints, led cuts as objects. -/
namespace DR
open PySem PySem.Spec L2 DL DM SX
/-! ### cuts by their headings -/
def Stp.isLn : Stp → Bool
  | .line _ _ => true
  | _ => false
def Stp.isHop : Stp → Bool
  | .hop _ _ => true
  | _ => false
def CutH : Stp → Rat → Rat × Rat → Rat × Rat → Prop
  | .line b f, r, u, v => v = u ∧ f = (b.1 + u.1 * r, b.2 + u.2 * r)
  | .arc b f c w, r, u, v => (w = 1 ∨ w = -1) ∧ b = (c.1 + (w : Rat) * u.2 * r, c.2 - (w : Rat) * u.1 * r) ∧ f = (c.1 + (w : Rat) * v.2 * r, c.2 - (w : Rat) * v.1 * r)
  | .hop _ _, _, _, _ => False
def Stp.bd : Stp → Prop
  | .hop b f => Bd2 900 b ∧ Bd2 900 f
  | .line b f => Bd2 900 b ∧ Bd2 900 f
  | .arc b f c _ => Bd2 900 b ∧ Bd2 900 f ∧ Bd2 900 c
/-- a cut with its length or radius and its headings at its begin and its end -/
structure CutG (st : Stp) (r : Rat) (u v : Rat × Rat) : Prop where
  r0 : 0 < r
  u1 : dt u u = 1
  v1 : dt v v = 1
  h : CutH st r u v
  bd : st.bd
  rb : Bd 100 r
  ub : Bd2 100 u
  vb : Bd2 100 v
theorem CutG.ne {st : Stp} {r : Rat} {u v : Rat × Rat} (h : CutG st r u v) : r ≠ 0 := fun z => by
  have := h.r0
  rw [z] at this
  exact absurd this (by decide)
/-! ### promises -/
/-! ### joints -/
/-- 0 where they meet, 1 where the tool is without, 2 where it is within -/
def jkind (u v : Rat × Rat) (s : Rat) : Int := if cr u v = 0 then (if 0 < dt u v then 0 else 1) else if 0 < cr u v * s then 2 else 1
def backR (u v : Rat × Rat) (s : Rat) : Rat := s * ((1 - dt u v) / cr u v)
/-! ### led cuts as objects -/
abbrev FSL : List Str := ["cut", "pace", "side", "number", "first", "last", "begin_back", "end_back", "is_unmet", "after"]
structure LR where
  dx : Addr
  st : Stp
  pace : Int
  side : Rat
  n : Nat
  u : Rat × Rat
  v : Rat × Rat
  bb : Rat
  eb : Rat
  um : Bool
  af : Option Addr
def afD : Option Addr → PyData
  | none => .none
  | some b => adrD b
def LR.ds (l : LR) : List PyData := [l.st.d, .int l.pace, numD l.side, .int (l.n : Int), plD l.u, plD l.v, numD l.bb, numD l.eb, .bool l.um, afD l.af]
structure LdAt (K : Fg) (Hs H : Hp) (a : Addr) (l : LR) : Prop where
  ow : H l.dx = some (.own a)
  ins : ∃ vs, H a = some (.ins (He.ga K "Led") l.dx (FSL.zip vs)) ∧ DL.DpAll K Hs vs l.ds
section
variable {K : Fg} {Hs H Hs' H' : Hp} {a : Addr} {l : LR}
theorem LdAt.up (h : LdAt K Hs H a l) (e : Same Hs Hs') (k : Same H H') : LdAt K Hs' H' a l := by
  obtain ⟨vs, h1, h2⟩ := h.ins
  exact ⟨k _ _ h.ow, vs, k _ _ h1, h2.up e⟩
theorem LdAt.gro (h : LdAt K Hs H a l) (g : Gro Hs H Hs' H') : LdAt K Hs' H' a l := h.up g.s g.h
theorem LdAt.ne (h : LdAt K Hs H a l) : a ≠ l.dx := fun z => by
  obtain ⟨vs, h1, _⟩ := h.ins
  have := h.ow
  rw [← z, h1] at this
  cases this
/-- no method stands among the fields -/
theorem LdAt.no (h : LdAt K Hs H a l) {m : Str} (hm : m ∉ FSL) : ∃ fs, H a = some (.ins (He.ga K "Led") l.dx fs) ∧ fs.lookup m = none := by
  obtain ⟨vs, h1, h2⟩ := h.ins
  exact ⟨_, h1, look_none hm⟩
/-- a field is given something else -/
theorem LdAt.put (h : LdAt K Hs H a l) (ha : Hs a = none) (n : Nat) {x : Str} {d : PyData} {w : V} {l' : LR} (hx : FSL[n]? = some x) (hn : x ∉ FSL.take n) (hw : DL.Dp K Hs w d) (e1 : l'.dx = l.dx) (e2 : l'.ds = l.ds.set n d) :
    ∃ fs, H a = some (.ins (He.ga K "Led") l.dx fs) ∧ fs.length < 1000 ∧ LdAt K Hs (upd H a (.ins (He.ga K "Led") l.dx (putF x w fs))) a l' := by
  obtain ⟨vs, h1, h2⟩ := h.ins
  have hl : FSL.length = vs.length := by rw [h2.len]; rfl
  refine ⟨_, h1, ?_, ?_, vs.set n w, ?_, by rw [e2]; exact h2.set hw n⟩
  · rw [List.length_zip, ← hl]
    decide
  · rw [e1, upd_ne h.ne.symm]
    exact h.ow
  · rw [e1, upd_same, putF_set hl hx hn]
end
/-! an object with its first fields -/
structure PlAt (K : Fg) (Hs H : Hp) (a dx : Addr) (k : Nat) (ds : List PyData) : Prop where
  ow : H dx = some (.own a)
  ln : ds.length = k
  ins : ∃ vs, H a = some (.ins (He.ga K "Led") dx ((FSL.take k).zip vs)) ∧ DL.DpAll K Hs vs ds
section
variable {K : Fg} {Hs H Hs' H' : Hp} {σ : L2.St} {a dx : Addr} {k i : Nat} {ds : List PyData}
theorem PlAt.ne (h : PlAt K Hs H a dx k ds) : a ≠ dx := fun z => by
  obtain ⟨vs, h1, _⟩ := h.ins
  have := h.ow
  rw [← z, h1] at this
  cases this
theorem PlAt.up (h : PlAt K Hs H a dx k ds) (e : Same Hs Hs') (g : Same H H') : PlAt K Hs' H' a dx k ds := by
  obtain ⟨vs, h1, h2⟩ := h.ins
  exact ⟨g _ _ h.ow, h.ln, vs, g _ _ h1, h2.up e⟩
theorem PlAt.put (h : PlAt K Hs H a dx k ds) (hk : k < 10) {x : Str} {d : PyData} {w : V} (hx : FSL.take (k + 1) = FSL.take k ++ [x]) (hn : x ∉ FSL.take k) (hw : DL.Dp K Hs w d) : ∃ fs, H a = some (.ins (He.ga K "Led") dx fs) ∧ fs.length < 1000 ∧ PlAt K Hs (upd H a (.ins (He.ga K "Led") dx (putF x w fs))) a dx (k + 1) (ds ++ [d]) := by
  obtain ⟨vs, h1, h2⟩ := h.ins
  have hl : (FSL.take k).length = vs.length := by
    rw [h2.len, h.ln, List.length_take]
    show min k 10 = k
    omega
  refine ⟨_, h1, ?_, ?_, ?_, vs ++ [w], ?_, h2.app (.cons hw .nil)⟩
  · rw [List.length_zip, ← hl, List.length_take]
    show min (min k 10) (min k 10) < 1000
    omega
  · rw [upd_ne h.ne.symm]
    exact h.ow
  · rw [List.length_append, h.ln]
    rfl
  · rw [upd_same, putF_new hl hn, hx]
end
/-- an object under way, and what stands beside it -/
structure MkAt (K : Fg) (Hs0 H0 Hs H : Hp) (a dx : Addr) (k : Nat) (ds : List PyData) : Prop where
  pl : PlAt K Hs H a dx k ds
  s : Same Hs0 Hs
  sub : Same Hs H
  na : Hs a = none
  kp : ∀ c o, H0 c = some o → c ≠ a → H c = some o
  nw : ∀ c, Hs c ≠ none → Hs0 c ≠ none ∨ H0 c = none
section
variable {K : Fg} {Hs0 H0 Hs H Hs' H' : Hp} {σ : L2.St} {a dx : Addr} {k i : Nat} {ds : List PyData}
theorem MkAt.gro (h : MkAt K Hs0 H0 Hs H a dx k ds) (ha : H0 a ≠ none) (g : Gro Hs H Hs' H') : MkAt K Hs0 H0 Hs' H' a dx k ds := by
  obtain ⟨vs, w, _⟩ := h.pl.ins
  have n : H a ≠ none := by rw [w]; exact fun z => nomatch z
  refine ⟨h.pl.up g.s g.h, h.s.trans g.s, g.sub, ?_, fun c o e ne => g.h c o (h.kp c o e ne), fun c z => ?_⟩
  · cases q : Hs' a with
    | none => rfl
    | some o =>
      rcases g.nw a (by rw [q]; exact fun z => nomatch z) with z | z
      · exact absurd h.na z
      · exact absurd z n
  · rcases g.nw c z with z | z
    · exact h.nw c z
    · by_cases e : c = a
      · rw [e] at z
        exact absurd z n
      · cases q : H0 c with
        | none => exact .inr rfl
        | some o =>
          rw [h.kp c o q e] at z
          cases z
theorem MkAt.put (h : MkAt K Hs0 H0 Hs H a dx k ds) {o : HO} {k' : Nat} {es : List PyData} (p : PlAt K Hs (upd H a o) a dx k' es) : MkAt K Hs0 H0 Hs (upd H a o) a dx k' es := by
  refine ⟨p, h.s, fun b x e => ?_, h.na, fun c o' e ne => by rw [upd_ne ne]; exact h.kp c o' e ne, h.nw⟩
  rw [upd_ne (ne_of_none e h.na)]
  exact h.sub b x e
end
/-! readings of the hand layer over led cuts -/
section
variable {K : Fg} {Hs H : Hp} {σ : L2.St} {δ : DSt} {a : Addr} {l : LR} {i : Nat}
/-- another one stands where one is changed -/
theorem LdAt.other {b : Addr} {lb : LR} {o : HO} (h : LdAt K Hs H a l) (k : LdAt K Hs H b lb) (e : a ≠ b) : LdAt K Hs (upd H a o) b lb := by
  obtain ⟨vs, h1, h2⟩ := k.ins
  obtain ⟨ws, g1, _⟩ := h.ins
  have n : lb.dx ≠ a := fun z => by
    have := k.ow
    rw [z, g1] at this
    cases this
  exact ⟨by rw [upd_ne n]; exact k.ow, vs, by rw [upd_ne e.symm]; exact h1, h2⟩
theorem LdAt.hs {Hs' H' : Hp} (h : LdAt K Hs H a l) (n : Hs a = none) (G : Gro Hs H Hs' H') : Hs' a = none := by
  cases q : Hs' a with
  | none => rfl
  | some o =>
    rcases G.nw a (by rw [q]; exact fun z => nomatch z) with z | z
    · exact absurd n z
    · obtain ⟨vs, w, _⟩ := h.ins
      rw [z] at w
      cases w
theorem same_put {o : HO} (sub : Same Hs H) (n : Hs a = none) : Same Hs (upd H a o) := fun b x e => by
  rw [upd_ne (ne_of_none e n)]
  exact sub b x e
end
/-- what a joint makes of both led cuts -/
def joinA (b : Addr) (la lb : LR) : LR :=
  if jkind la.v lb.u la.side = 1 then { la with af := some b }
  else if jkind la.v lb.u la.side = 2 then (if la.st.isLn && lb.st.isLn then { la with eb := backR la.v lb.u la.side } else { la with um := true }) else la
def joinB (la lb : LR) : LR := if jkind la.v lb.u la.side = 2 ∧ (la.st.isLn && lb.st.isLn) = true then { lb with bb := backR la.v lb.u la.side } else lb
end DR

/-! DOc: the contours of a road: led cuts by their numbers, joined; the arena in which they are made. -/
namespace DL
open PySem PySem.Spec L2 PyProof.Rows
end DL
namespace DR
open PySem PySem.Spec L2 DL DM SX
/-- an entry with its length or radius and its headings -/
structure Ec where
  e : Ey
  r : Rat
  u : Rat × Rat
  v : Rat × Rat
def Ec.ok (c : Ec) : Prop := c.e.st.bd ∧ (c.e.st.isHop = false → CutG c.e.st c.r c.u c.v ∧ Bd 100 c.e.side)
def jnL (L : Nat → LR) (i j : Nat) : Nat → LR := fun n => if n = j then (if i = j then joinA j (L i) (L j) else joinB (L i) (L j)) else if n = i then joinA j (L i) (L j) else L n
def LR.d1 (l : LR) (a : PyData) : PyData := insD "Led" FSL [l.st.d, .int l.pace, numD l.side, .int (l.n : Int), plD l.u, plD l.v, numD l.bb, numD l.eb, .bool l.um, a]
def LR.at (l : LR) (as dx : Nat → Addr) : LR := { l with dx := dx l.n, af := l.af.map as }
/-- a led cut by its number in the arena -/
structure OneAt (K : Fg) (H0 Hs H : Hp) (as dx : Nat → Addr) (L : Nat → LR) (n : Nat) : Prop where
  ld : LdAt K Hs H (as n) ((L n).at as dx)
  hs : Hs (as n) = none
  h0 : H0 (as n) = none
  d0 : H0 (dx n) = none
  nn : (L n).n = n
/-- f: the contours, the last one first; each by its address and its numbers, the last one first -/
structure Ar (K : Fg) (H0 Hs H : Hp) (fa : Addr) (as dx : Nat → Addr) (L : Nat → LR) (f : List (Addr × List Nat)) : Prop where
  fd : H fa = some (.lst (f.reverse.map fun c => .ref c.1))
  fs : Hs fa = none
  f0 : H0 fa = none
  nf : ∀ c ∈ f, c.1 ≠ fa
  nd : (f.map (·.1)).Nodup
  ct : ∀ c ∈ f, H c.1 = some (.lst (c.2.reverse.map fun n => .ref (as n))) ∧ Hs c.1 = none ∧ H0 c.1 = none
  on : ∀ c ∈ f, ∀ n ∈ c.2, OneAt K H0 Hs H as dx L n
  inj : ∀ c ∈ f, ∀ d ∈ f, ∀ n ∈ c.2, ∀ m ∈ d.2, as n = as m → n = m
/-! ### how the arena stands and grows -/
section
variable {K : Fg} {Hs0 H0 Hs H Hs' H' : Hp} {σ : L2.St} {fa a : Addr} {as dx : Nat → Addr} {L : Nat → LR} {f : List (Addr × List Nat)} {n : Nat}
theorem _root_.DL.Gro.hs (G : Gro Hs H Hs' H') {o : HO} (h : H a = some o) (e : Hs a = none) : Hs' a = none := by
  cases q : Hs' a with
  | none => rfl
  | some o' =>
    rcases G.nw a (by rw [q]; exact fun z => nomatch z) with z | z
    · exact absurd e z
    · rw [z] at h
      cases h
theorem _root_.DL.Gro.upd (G : Gro Hs0 H0 Hs H) {o : HO} (e : Hs a = none) (z : H0 a = none) : Gro Hs0 H0 Hs (upd H a o) := ⟨G.s, fun c x q => by
  rw [upd_ne (ne_of_none q z)]
  exact G.h c x q, same_put G.sub e, G.nw⟩
theorem OneAt.ins (h : OneAt K H0 Hs H as dx L n) : ∃ C d fs, H (as n) = some (.ins C d fs) := by
  obtain ⟨vs, w, _⟩ := h.ld.ins
  exact ⟨_, _, _, w⟩
theorem OneAt.gro (h : OneAt K H0 Hs H as dx L n) (G : Gro Hs H Hs' H') : OneAt K H0 Hs' H' as dx L n := by
  obtain ⟨C, d, fs, w⟩ := h.ins
  exact ⟨h.ld.gro G, G.hs w h.hs, h.h0, h.d0, h.nn⟩
theorem OneAt.own (h : OneAt K H0 Hs H as dx L n) : H (dx n) = some (.own (as n)) := by
  have := h.ld.ow
  rw [show ((L n).at as dx).dx = dx n by show dx (L n).n = dx n; rw [h.nn]] at this
  exact this
/-- a list beside it is changed -/
theorem OneAt.putL (h : OneAt K H0 Hs H as dx L n) {ys : List V} {o : HO} (e : H a = some (.lst ys)) : OneAt K H0 Hs (upd H a o) as dx L n := by
  obtain ⟨C, d, fs, w⟩ := h.ins
  have n1 : as n ≠ a := fun z => by rw [z, e] at w; cases w
  have n2 : ((L n).at as dx).dx ≠ a := fun z => by have := h.ld.ow; rw [z, e] at this; cases this
  obtain ⟨vs, w1, w2⟩ := h.ld.ins
  exact ⟨⟨by rw [upd_ne n2]; exact h.ld.ow, vs, by rw [upd_ne n1]; exact w1, w2⟩, h.hs, h.h0, h.d0, h.nn⟩
theorem Ar.gro (h : Ar K H0 Hs H fa as dx L f) (G : Gro Hs H Hs' H') : Ar K H0 Hs' H' fa as dx L f :=
  ⟨G.h _ _ h.fd, G.hs h.fd h.fs, h.f0, h.nf, h.nd, fun c m => ⟨G.h _ _ (h.ct c m).1, G.hs (h.ct c m).1 (h.ct c m).2.1, (h.ct c m).2.2⟩, fun c m n z => (h.on c m n z).gro G, h.inj⟩
theorem Ar.start {p : Addr} (sub : Same Hs H) (h : H p = none) : Ar K H Hs (upd H p (.lst [])) p as dx L [] := by
  exact ⟨by rw [upd_same]; rfl, sub.free h, h, fun c m => (nomatch m), .nil, fun c m => (nomatch m), fun c m => (nomatch m), fun c m => (nomatch m)⟩
/-- a new contour -/
theorem Ar.new (h : Ar K H0 Hs H fa as dx L f) (sub : Same Hs H) (k0 : Same H0 H) {p : Addr} (hp : H p = none) : Ar K H0 Hs (upd (upd H p (.lst [])) fa (.lst (f.reverse.map (fun c => .ref c.1) ++ [.ref p]))) fa as dx L ((p, []) :: f) := by
  have pf : p ≠ fa := fun z => by rw [z, h.fd] at hp; cases hp
  have np : ∀ c ∈ f, c.1 ≠ p := fun c m z => by have := (h.ct c m).1; rw [z, hp] at this; cases this
  have G : Gro Hs H Hs (upd H p (.lst [])) := Gro.put sub hp
  refine ⟨?_, h.fs, h.f0, ?_, ?_, ?_, ?_, ?_⟩
  · rw [upd_same]
    simp
  · intro c m
    rcases List.mem_cons.mp m with rfl | m
    · exact pf
    · exact h.nf c m
  · refine List.nodup_cons.mpr ⟨fun z => ?_, h.nd⟩
    obtain ⟨c, m, e⟩ := List.mem_map.mp z
    exact np c m e
  · intro c m
    rcases List.mem_cons.mp m with rfl | m
    · exact ⟨by rw [upd_ne pf, upd_same]; rfl, sub.free hp, k0.free hp⟩
    · obtain ⟨c1, c2, c3⟩ := h.ct c m
      exact ⟨by rw [upd_ne (h.nf c m), upd_ne (np c m)]; exact c1, c2, c3⟩
  · intro c m n z
    rcases List.mem_cons.mp m with rfl | m
    · cases z
    · exact ((h.on c m n z).gro G).putL (G.h _ _ h.fd)
  · intro c m d m' n z n' z'
    rcases List.mem_cons.mp m with rfl | m
    · cases z
    rcases List.mem_cons.mp m' with rfl | m'
    · cases z'
    exact h.inj c m d m' n z n' z'
/-- a new led cut in the last contour -/
theorem Ar.push {ca : Addr} {g : List Nat} {k : Nat} {as' dx' : Nat → Addr} (h : Ar K H0 Hs H fa as dx L ((ca, g) :: f)) (ha : ∀ c ∈ (ca, g) :: f, ∀ n ∈ c.2, OneAt K H0 Hs H as' dx' L n ∧ as' n = as n ∧ as n ≠ as' k) (h1 : OneAt K H0 Hs H as' dx' L k) : Ar K H0 Hs (upd H ca (.lst (g.reverse.map (fun n => .ref (as n)) ++ [.ref (as' k)]))) fa as' dx' L ((ca, k :: g) :: f) := by
  have hm : (ca, g) ∈ (ca, g) :: f := List.mem_cons_self
  obtain ⟨c1, c2, c3⟩ := h.ct _ hm
  have nd := List.nodup_cons.mp h.nd
  have cf : fa ≠ ca := fun z => h.nf _ hm z.symm
  have nc : ∀ c ∈ f, c.1 ≠ ca := fun c m z => nd.1 (List.mem_map.mpr ⟨c, m, z⟩)
  have eq : ∀ l : List Nat, (∀ n ∈ l, as' n = as n) → l.reverse.map (fun n => V.ref (as n)) = l.reverse.map (fun n => V.ref (as' n)) := fun l e => List.map_congr_left fun n m => by rw [e n (List.mem_reverse.mp m)]
  refine ⟨?_, h.fs, h.f0, ?_, ?_, ?_, ?_, ?_⟩
  · rw [upd_ne cf, h.fd]
    simp
  · intro c m
    rcases List.mem_cons.mp m with rfl | m
    · exact h.nf (ca, g) hm
    · exact h.nf c (List.mem_cons_of_mem _ m)
  · exact h.nd
  · intro c m
    rcases List.mem_cons.mp m with rfl | m
    · exact ⟨by rw [upd_same, eq g fun n z => (ha _ hm n z).2.1]; simp, c2, c3⟩
    · obtain ⟨d1, d2, d3⟩ := h.ct c (List.mem_cons_of_mem _ m)
      exact ⟨by rw [upd_ne (nc c m), d1, eq c.2 fun n z => (ha _ (List.mem_cons_of_mem _ m) n z).2.1], d2, d3⟩
  · intro c m n z
    rcases List.mem_cons.mp m with rfl | m
    · rcases List.mem_cons.mp z with rfl | z
      · exact h1.putL c1
      · exact (ha _ hm n z).1.putL c1
    · exact (ha _ (List.mem_cons_of_mem _ m) n z).1.putL c1
  · have old : ∀ c ∈ (ca, k :: g) :: f, ∀ n ∈ c.2, n = k ∨ ∃ d ∈ (ca, g) :: f, n ∈ d.2 := by
      intro c m n z
      rcases List.mem_cons.mp m with rfl | m
      · rcases List.mem_cons.mp z with rfl | z
        · exact .inl rfl
        · exact .inr ⟨_, hm, z⟩
      · exact .inr ⟨c, List.mem_cons_of_mem _ m, z⟩
    intro c m d m' n z n' z' e
    rcases old c m n z with rfl | ⟨d1, e1, e2⟩
    · rcases old d m' n' z' with rfl | ⟨d2, e3, e4⟩
      · rfl
      · obtain ⟨_, q1, q2⟩ := ha _ e3 _ e4
        rw [q1] at e
        exact absurd e.symm q2
    · obtain ⟨_, q1, q2⟩ := ha _ e1 _ e2
      rcases old d m' n' z' with rfl | ⟨d2, e3, e4⟩
      · rw [q1] at e
        exact absurd e q2
      · obtain ⟨_, q3, q4⟩ := ha _ e3 _ e4
        rw [q1, q3] at e
        exact h.inj _ e1 _ e3 _ e2 _ e4 e
/-! ### readings -/
end
/-! ### the numbers -/
section
variable {K : Fg} {Hs0 H0 Hs H Hs' H' : Hp} {σ : L2.St} {fa a : Addr} {as dx : Nat → Addr} {L : Nat → LR} {f : List (Addr × List Nat)} {n : Nat}
/-! ### joining -/
structure SameL (l m : LR) : Prop where
  st : l.st = m.st
  u : l.u = m.u
  v : l.v = m.v
  side : l.side = m.side
  n : l.n = m.n
  pace : l.pace = m.pace
theorem SameL.refl (l : LR) : SameL l l := ⟨rfl, rfl, rfl, rfl, rfl, rfl⟩
theorem SameL.trans {a b c : LR} (h : SameL a b) (k : SameL b c) : SameL a c := ⟨h.1.trans k.1, h.2.trans k.2, h.3.trans k.3, h.4.trans k.4, h.5.trans k.5, h.6.trans k.6⟩
/-! ### at the end the arena is shared -/
theorem eqv_pl (a b : Rat × Rat) : PyData.eqv (plD a) (plD b) = decide (a = b) := by
  unfold plD
  rw [eqv_tt, eqvAll_cons, eqvAll_cons, eqvAll_nil, eqv_num, eqv_num, Bool.and_true]
  rw [Bool.eq_iff_iff]
  simp [Prod.ext_iff]
def AfIn (f : List (Addr × List Nat)) (L : Nat → LR) : Prop := ∀ n m, (L n).af = some m → ∃ d ∈ f, m ∈ d.2
theorem af_joinA {f : List (Addr × List Nat)} {la lb : LR} {j : Nat} (h : ∀ m, la.af = some m → ∃ d ∈ f, m ∈ d.2) (hj : ∃ d ∈ f, j ∈ d.2) : ∀ m, (joinA j la lb).af = some m → ∃ d ∈ f, m ∈ d.2 := by
  intro m e
  unfold joinA at e
  split at e
  · cases e
    exact hj
  · split at e
    · split at e <;> exact h m e
    · exact h m e
theorem AfIn.jn {i j : Nat} (h : AfIn f L) (hj : ∃ d ∈ f, j ∈ d.2) : AfIn f (jnL L i j) := by
  intro n m e
  unfold jnL at e
  split at e
  · rename_i hn
    split at e
    · exact af_joinA (h i) hj m e
    · have : (joinB (L i) (L j)).af = (L j).af := by unfold joinB; split <;> rfl
      rw [this] at e
      exact h j m e
  · split at e
    · exact af_joinA (h i) hj m e
    · exact h n m e
end
end DR

/-! DVi: insert into a list of one's own. -/
namespace DL
open PySem PySem.Spec L2
section
variable {X : Cx} {Z : Ent} {pos : Pos}
end
end DL

namespace DM
/-! units of the first quarter -/
theorem sq_le {a b : Rat} (ha : 0 ≤ a) (hb : 0 ≤ b) : a ≤ b ↔ a * a ≤ b * b := by
  constructor
  · intro h
    have := Rat.mul_nonneg (show 0 ≤ b - a by grind) (show 0 ≤ b + a by grind)
    grind
  · intro h
    apply Classical.byContradiction
    intro z
    have := Rat.mul_pos (show 0 < a - b by grind) (show 0 < a + b by grind)
    grind
theorem sq_lt {a b : Rat} (ha : 0 ≤ a) (hb : 0 ≤ b) : a < b ↔ a * a < b * b := by
  have := sq_le hb ha
  grind
theorem qd_le {a b c d : Rat} (h1 : a * a + b * b = 1) (h2 : c * c + d * d = 1) (ha : 0 ≤ a) (hb : 0 ≤ b) (hc : 0 ≤ c) (hd : 0 ≤ d) : a ≤ c ↔ d ≤ b := by
  rw [sq_le ha hc, sq_le hd hb]
  grind
theorem qd_lt {a b c d : Rat} (h1 : a * a + b * b = 1) (h2 : c * c + d * d = 1) (ha : 0 ≤ a) (hb : 0 ≤ b) (hc : 0 ≤ c) (hd : 0 ≤ d) : a < c ↔ d < b := by
  rw [sq_lt ha hc, sq_lt hd hb]
  grind
/-- p ahead of e, e no later than x -/
theorem qd_chord {a b c d x y : Rat} (hp : a * a + b * b = 1) (he : c * c + d * d = 1) (hx : x * x + y * y = 1)
    (h1 : 0 ≤ a) (h2 : 0 ≤ b) (h3 : 0 ≤ c) (h4 : 0 ≤ d) (h5 : 0 ≤ x) (h6 : 0 ≤ y) (hpe : c < a) (hex : x ≤ c) :
    0 < a * d - b * c ∧ a * x + b * y ≤ a * c + b * d := by
  have e1 : b < d := (qd_lt he hp h3 h4 h1 h2).mp hpe
  have e2 : d ≤ y := (qd_le hx he h5 h6 h3 h4).mp hex
  have k1 := Rat.mul_pos (show 0 < a by grind) (show 0 < d - b by grind)
  have k2 := Rat.mul_nonneg h2 (show 0 ≤ a - c by grind)
  have k3 : 0 < a * d - b * c := by grind
  refine ⟨k3, ?_⟩
  have k4 := Rat.mul_nonneg (show 0 ≤ a by grind) (show 0 ≤ y - d by grind)
  have k5 := Rat.mul_nonneg h2 (show 0 ≤ c - x by grind)
  have k6 : 0 ≤ a * y - b * x := by grind
  have k7 := Rat.mul_nonneg (show 0 ≤ c - x by grind) (show 0 ≤ (a * y - b * x) + (a * d - b * c) by grind)
  have k8 : 0 < y + d := by grind
  have k9 : (y + d) * (a * c + b * d - (a * x + b * y)) = (c - x) * ((a * y - b * x) + (a * d - b * c)) := by
    have : y * y - d * d = c * c - x * x := by grind
    grind
  have := (mul_le_z k8).mp (by rw [k9]; exact k7)
  grind
/-! steps of half an angle -/
theorem nn_pos {n i : Int} (hn : 0 < n) : (0 : Rat) < (n : Rat) * n + (i : Rat) * i := by
  have h0 : (0 : Rat) < (n : Rat) := by
    rw [show (0 : Rat) = ((0 : Int) : Rat) from rfl]
    exact Rat.intCast_lt_intCast.mpr hn
  have := Rat.mul_pos h0 h0
  have := rsq_nn (i : Rat)
  grind
theorem hdc_eq {n i : Int} (hn : 0 < n) : ((n : Rat) * n + (i : Rat) * i) * hdc i n = (n : Rat) * n - (i : Rat) * i := by
  have h0 := nn_pos (i := i) hn
  unfold hdc
  rw [Rat.divInt_eq_div]
  simp only [Rat.intCast_sub, Rat.intCast_mul, Rat.intCast_add]
  grind
theorem hds_eq {n i : Int} (hn : 0 < n) : ((n : Rat) * n + (i : Rat) * i) * hds i n = 2 * ((i : Rat) * n) := by
  have h0 := nn_pos (i := i) hn
  unfold hds
  rw [Rat.divInt_eq_div]
  simp only [Rat.intCast_sub, Rat.intCast_mul, Rat.intCast_add]
  rw [show (((2 : Int) : Rat)) = 2 from rfl]
  grind
theorem hx_nn {n i : Int} (hn : 0 < n) (h0 : 0 ≤ i) (h1 : i ≤ n) : 0 ≤ hdc i n ∧ 0 ≤ hds i n := by
  have p := nn_pos (i := i) hn
  have hN : (0 : Rat) ≤ (n : Rat) := by
    rw [show (0 : Rat) = ((0 : Int) : Rat) from rfl]
    exact Rat.intCast_le_intCast.mpr (by omega)
  have hI : (0 : Rat) ≤ (i : Rat) := by
    rw [show (0 : Rat) = ((0 : Int) : Rat) from rfl]
    exact Rat.intCast_le_intCast.mpr (by omega)
  have hNI : (i : Rat) ≤ (n : Rat) := Rat.intCast_le_intCast.mpr h1
  refine ⟨(mul_le_z p).mp ?_, (mul_le_z p).mp ?_⟩
  · rw [hdc_eq hn]
    have := (sq_le hI hN).mp hNI
    grind
  · rw [hds_eq hn]
    have := Rat.mul_nonneg hI hN
    grind
theorem hx_z {n : Int} (hn : 0 < n) : hdc 0 n = 1 ∧ hds 0 n = 0 := by
  have p := nn_pos (i := 0) hn
  have e1 := hdc_eq (i := 0) hn
  have e2 := hds_eq (i := 0) hn
  rw [show (((0 : Int) : Rat)) = 0 from rfl] at *
  generalize (n : Rat) = N at *
  constructor
  · have : (N * N + 0 * 0) * (hdc 0 n - 1) = 0 := by grind
    have := (mul_eq_z p).mp this
    grind
  · have : (N * N + 0 * 0) * hds 0 n = 0 := by grind
    exact (mul_eq_z p).mp this
theorem hx_n {n : Int} (hn : 0 < n) : hdc n n = 0 ∧ hds n n = 1 := by
  have p := nn_pos (i := n) hn
  have e1 := hdc_eq (i := n) hn
  have e2 := hds_eq (i := n) hn
  constructor
  · exact (mul_eq_z p).mp (by rw [e1]; grind)
  · have : ((n : Rat) * n + (n : Rat) * n) * (hds n n - 1) = 0 := by grind
    have := (mul_eq_z p).mp this
    grind
theorem hx_dec {n i : Int} (hn : 0 < n) (h0 : 0 ≤ i) (h1 : i < n) : hdc (i + 1) n < hdc i n := by
  have p := nn_pos (i := i) hn
  have q := nn_pos (i := i + 1) hn
  have e1 := hdc_eq (i := i) hn
  have e2 := hdc_eq (i := i + 1) hn
  have hN : (0 : Rat) < (n : Rat) := by
    rw [show (0 : Rat) = ((0 : Int) : Rat) from rfl]
    exact Rat.intCast_lt_intCast.mpr (by omega)
  have hI : (0 : Rat) ≤ (i : Rat) := by
    rw [show (0 : Rat) = ((0 : Int) : Rat) from rfl]
    exact Rat.intCast_le_intCast.mpr (by omega)
  have hI1 : ((i + 1 : Int) : Rat) = (i : Rat) + 1 := by
    rw [Rat.intCast_add]
    rfl
  rw [hI1] at q e2
  generalize hdc (i + 1) n = x at *
  generalize hdc i n = y at *
  generalize (n : Rat) = N at *
  generalize (i : Rat) = I at *
  have h2 := Rat.mul_pos p q
  have h3 : ((N * N + I * I) * (N * N + (I + 1) * (I + 1))) * (x - y) = - (2 * (N * N) * (2 * I + 1)) := by grind
  have h4 := Rat.mul_pos (Rat.mul_pos hN hN) (show 0 < 2 * I + 1 by grind)
  have h5 := (mul_lt_z h2).mp (show ((N * N + I * I) * (N * N + (I + 1) * (I + 1))) * (x - y) < 0 by rw [h3]; grind)
  grind
theorem hx_dot {n i : Int} (hn : 0 < n) (h0 : 0 ≤ i) : 2 * ((n : Rat) * n) ≤ (1 + (hdc i n * hdc (i + 1) n + hds i n * hds (i + 1) n)) * (1 + (n : Rat) * n) := by
  have p := nn_pos (i := i) hn
  have q := nn_pos (i := i + 1) hn
  have e1 := hdc_eq (i := i) hn
  have e2 := hdc_eq (i := i + 1) hn
  have e3 := hds_eq (i := i) hn
  have e4 := hds_eq (i := i + 1) hn
  have hN : (0 : Rat) < (n : Rat) := by
    rw [show (0 : Rat) = ((0 : Int) : Rat) from rfl]
    exact Rat.intCast_lt_intCast.mpr (by omega)
  have hI : (0 : Rat) ≤ (i : Rat) := by
    rw [show (0 : Rat) = ((0 : Int) : Rat) from rfl]
    exact Rat.intCast_le_intCast.mpr (by omega)
  have hI1 : ((i + 1 : Int) : Rat) = (i : Rat) + 1 := by
    rw [Rat.intCast_add]
    rfl
  rw [hI1] at q e2 e4
  generalize hdc (i + 1) n = cx at *
  generalize hdc i n = cy at *
  generalize hds (i + 1) n = sx at *
  generalize hds i n = sy at *
  generalize (n : Rat) = N at *
  generalize (i : Rat) = I at *
  have h2 := Rat.mul_pos p q
  obtain ⟨D, hD⟩ : ∃ D, D = N * N + I * I := ⟨_, rfl⟩
  obtain ⟨E, hE⟩ : ∃ E, E = N * N + (I + 1) * (I + 1) := ⟨_, rfl⟩
  obtain ⟨X, hX⟩ : ∃ X, X = N * N + I * (I + 1) := ⟨_, rfl⟩
  rw [← hD] at p e1 e3 h2
  rw [← hE] at q e2 e4 h2
  have k1 : D * E = X * X + N * N := by grind
  have k2 : (D * E) * (1 + (cy * cx + sy * sx)) = 2 * (X * X) := by
    have : (D * E) * (1 + (cy * cx + sy * sx)) = D * E + (D * cy) * (E * cx) + (D * sy) * (E * sx) := by grind
    rw [this, e1, e2, e3, e4, k1]
    grind
  have hII := Rat.mul_nonneg hI (show 0 ≤ I + 1 by grind)
  have hNN := Rat.mul_pos hN hN
  have k3 : (N * N) * (N * N) ≤ X * X := (sq_le (by grind) (by grind)).mp (show N * N ≤ X by grind)
  have k4 : (D * E) * ((1 + (cy * cx + sy * sx)) * (1 + N * N) - 2 * (N * N)) = ((D * E) * (1 + (cy * cx + sy * sx))) * (1 + N * N) - 2 * (N * N) * (D * E) := by grind
  have k5 := (mul_le_z h2).mp (show 0 ≤ (D * E) * ((1 + (cy * cx + sy * sx)) * (1 + N * N) - 2 * (N * N)) by
    rw [k4, k2, k1]
    grind)
  grind
/-! marks of units -/
def U (u : Rat × Rat) : Prop := u.1 * u.1 + u.2 * u.2 = 1
def mkr (u : Rat × Rat) : Rat := if 0 ≤ u.2 then 1 - u.1 else 3 + u.1
theorem U.le {u : Rat × Rat} (h : U u) : -1 ≤ u.1 ∧ u.1 ≤ 1 := by
  unfold U at h
  have := rsq_nn u.2
  generalize u.1 = a at *
  generalize u.2 = b at *
  constructor
  · apply Classical.byContradiction
    intro z
    have := (sq_lt (a := 1) (b := -a) (by grind) (by grind)).mp (by grind)
    grind
  · apply Classical.byContradiction
    intro z
    have := (sq_lt (a := 1) (b := a) (by grind) (by grind)).mp (by grind)
    grind
theorem U.one {u : Rat × Rat} (h : U u) (e : u.2 = 0) : u.1 = 1 ∨ u.1 = -1 := by
  unfold U at h
  rw [e] at h
  exact sq_one (by grind)
theorem U.two {u : Rat × Rat} (h : U u) (e : u.1 = 1 ∨ u.1 = -1) : u.2 = 0 := by
  unfold U at h
  have : u.2 * u.2 = 0 := by rcases e with e | e <;> rw [e] at h <;> grind
  rcases Rat.mul_eq_zero.mp this with h | h <;> exact h
theorem mk_lt4 {u : Rat × Rat} (h : U u) : mkr u < 4 := by
  have h1 := h.le
  have h2 := h.two
  unfold mkr
  split
  · grind
  · have : u.1 ≠ 1 := fun e => by
      have := h2 (.inl e)
      grind
    grind
theorem mk_inj {u v : Rat × Rat} (h : U u) (k : U v) (e : mkr u = mkr v) : u = v := by
  have h1 := h.le
  have h2 := h.two
  have k1 := k.le
  have k2 := k.two
  unfold U at h k
  unfold mkr at e
  obtain ⟨a, b⟩ := u
  obtain ⟨c, d⟩ := v
  simp only at *
  by_cases z1 : 0 ≤ b <;> by_cases z2 : 0 ≤ d
  · rw [if_pos z1, if_pos z2] at e
    have e1 : a = c := by grind
    have e2 := (sq_le z1 z2).mpr (by grind)
    have e3 := (sq_le z2 z1).mpr (by grind)
    rw [e1, show b = d by grind]
  · rw [if_pos z1, if_neg z2] at e
    have : c = -1 := by grind
    have := k2 (.inr this)
    grind
  · rw [if_neg z1, if_pos z2] at e
    have : a = -1 := by grind
    have := h2 (.inr this)
    grind
  · rw [if_neg z1, if_neg z2] at e
    have e1 : a = c := by grind
    have e2 := (sq_le (a := -b) (b := -d) (by grind) (by grind)).mpr (by grind)
    have e3 := (sq_le (a := -d) (b := -b) (by grind) (by grind)).mpr (by grind)
    rw [e1, show b = d by grind]
theorem mk_pos {u : Rat × Rat} (h : U u) (e : u ≠ (1, 0)) : 0 < mkr u := by
  have h1 := h.le
  have h2 := h.two
  unfold mkr
  split
  · have : u.1 ≠ 1 := fun z => e (Prod.ext z (h2 (.inl z)))
    grind
  · grind
theorem mk_one : mkr (1, 0) = 0 := by
  unfold mkr
  rw [if_pos (by simp only; grind)]
  grind
/-- both in the first half -/
theorem up_iff {x y a b : Rat} (hx : x * x + y * y = 1) (he : a * a + b * b = 1) (h1 : 0 < y ∨ (y = 0 ∧ x = 1)) (h2 : 0 < b ∨ (b = 0 ∧ a = 1)) : 0 ≤ x * b - y * a ↔ a ≤ x := by
  have lx := U.le (u := (x, y)) hx
  have le := U.le (u := (a, b)) he
  simp only at lx le
  by_cases z : 0 < y + b
  · have e1 : (y + b) * (x * b - y * a) = (1 + (x * a + y * b)) * (x - a) := by grind
    have e2 : 0 < 1 + (x * a + y * b) := by
      have k1 : 2 * (1 + (x * a + y * b)) = (x + a) * (x + a) + (y + b) * (y + b) := by grind
      have := rsq_nn (x + a)
      have := Rat.mul_pos z z
      grind
    rw [← mul_le_z z, e1, mul_le_z e2]
    grind
  · have e1 : y = 0 := by grind
    have e2 : b = 0 := by grind
    have e3 : x = 1 := by grind
    have e4 : a = 1 := by grind
    rw [e1, e2, e3, e4]
    grind
theorem soon_mk {x e : Rat × Rat} (hx : U x) (he : U e) : soon x.2 x.1 e.2 e.1 (cr x e) = decide (mkr x ≤ mkr e) := by
  have lx := hx.le
  have le := he.le
  have ox := hx.one
  have oe := he.one
  have tx := hx.two
  have te := he.two
  unfold U at hx he
  unfold cr soon
  have bm : ∀ {u : Rat × Rat}, (u.2 = 0 → u.1 = 1 ∨ u.1 = -1) → (behind u.2 u.1 = true ∧ (u.2 < 0 ∨ (u.2 = 0 ∧ u.1 = -1))) ∨ (behind u.2 u.1 = false ∧ (0 < u.2 ∨ (u.2 = 0 ∧ u.1 = 1))) := by
    intro u ou
    by_cases z : u.2 < 0 ∨ (u.2 = 0 ∧ u.1 < 0)
    · refine .inl ⟨behind_iff.mpr z, ?_⟩
      grind
    · refine .inr ⟨behind_not z, ?_⟩
      grind
  have mb : ∀ {u : Rat × Rat}, (u.2 < 0 ∨ (u.2 = 0 ∧ u.1 = -1)) → mkr u = 3 + u.1 := by
    intro u h
    unfold mkr
    split <;> grind
  have mf : ∀ {u : Rat × Rat}, (0 < u.2 ∨ (u.2 = 0 ∧ u.1 = 1)) → mkr u = 1 - u.1 := by
    intro u h
    unfold mkr
    rw [if_pos (by grind)]
  rcases bm ox with ⟨b1, h1⟩ | ⟨b1, h1⟩ <;> rcases bm oe with ⟨b2, h2⟩ | ⟨b2, h2⟩
  · rw [b1, b2, if_pos rfl, mb h1, mb h2]
    have := up_iff (x := -x.1) (y := -x.2) (a := -e.1) (b := -e.2) (by grind) (by grind) (by grind) (by grind)
    refine decide_eq_decide.mpr ?_
    rw [show x.1 * e.2 - x.2 * e.1 = -x.1 * -e.2 - -x.2 * -e.1 by grind, this]
    grind
  · rw [b1, b2, if_neg (by decide), mb h1, mf h2]
    have : e.1 ≠ -1 := fun z => by
      have := te (.inr z)
      grind
    exact (decide_eq_false (by grind)).symm
  · rw [b1, b2, if_neg (by decide), mf h1, mb h2]
    have : x.1 ≠ -1 := fun z => by
      have := tx (.inr z)
      grind
    exact (decide_eq_true (by grind)).symm
  · rw [b1, b2, if_pos rfl, mf h1, mf h2]
    have := up_iff hx he h1 h2
    refine decide_eq_decide.mpr ?_
    rw [this]
    grind
/-! quarters -/
def qr : Nat → Rat × Rat → Rat × Rat
  | 0, p => p
  | q + 1, p => (-(qr q p).2, (qr q p).1)
theorem qr_in (q : Nat) (p : Rat × Rat) : qr (q + 1) p = qr q (-p.2, p.1) := by
  induction q with
  | zero => rfl
  | succ q ih => rw [qr, ih]; rfl
theorem qr_dt (q : Nat) (u v : Rat × Rat) : dt (qr q u) (qr q v) = dt u v := by
  induction q with
  | zero => rfl
  | succ q ih => rw [← ih]; simp only [qr, dt]; grind
theorem qr_cr (q : Nat) (u v : Rat × Rat) : cr (qr q u) (qr q v) = cr u v := by
  induction q with
  | zero => rfl
  | succ q ih => rw [← ih]; simp only [qr, cr]; grind
theorem qr_U {q : Nat} {u : Rat × Rat} (h : U u) : U (qr q u) := by
  have := qr_dt q u u
  unfold dt at this
  unfold U at *
  rw [this, h]
def mq : Nat → Rat × Rat → Rat
  | 0, u => 1 - u.1
  | 1, u => 1 + u.2
  | 2, u => 3 - u.1
  | _, u => 3 + u.2
theorem mkr_up {u : Rat × Rat} (h : 0 ≤ u.2) : mkr u = 1 - u.1 := by
  unfold mkr
  rw [if_pos h]
theorem mkr_dn {u : Rat × Rat} (h : u.2 < 0) : mkr u = 3 + u.1 := by
  unfold mkr
  rw [if_neg (by grind)]
theorem mkr_qr {q : Nat} {u : Rat × Rat} (hq : q < 4) (hu : U u) (h1 : 0 < u.1) (h2 : 0 ≤ u.2) : mkr (qr q u) = mq q u := by
  have hl := hu.le
  have ho := hu.one
  match q, hq with
  | 0, _ => exact mkr_up h2
  | 1, _ =>
    show mkr (-u.2, u.1) = 1 + u.2
    rw [mkr_up (by simp only; grind)]
    grind
  | 2, _ =>
    show mkr (-u.1, -u.2) = 3 - u.1
    by_cases z : u.2 = 0
    · rw [mkr_up (by simp only; grind)]
      grind
    · rw [mkr_dn (by simp only; grind)]
      grind
  | 3, _ =>
    show mkr (- -u.2, -u.1) = 3 + u.2
    rw [mkr_dn (by simp only; grind)]
    grind
theorem mq_lt {q : Nat} {p x : Rat × Rat} (h1 : x.1 < p.1) (h2 : p.2 < x.2) : mq q p < mq q x := by
  unfold mq
  split <;> grind
theorem mq_next {q : Nat} (hq : q < 3) : mq (q + 1) (1, 0) = mq q (0, 1) := by
  match q, hq with
  | 0, _ => simp only [mq]; grind
  | 1, _ => simp only [mq]; grind
  | 2, _ => simp only [mq]; grind
/-- an end between two marks of a quarter -/
theorem last_q {q : Nat} {p x e : Rat × Rat} {M : Rat} (hq : q < 4) (hp : U p) (hx : U x) (he : U e) (p1 : 0 < p.1) (p2 : 0 ≤ p.2) (x1 : 0 ≤ x.1) (x2 : 0 ≤ x.2) (hM : M = mkr e ∨ (M = 4 ∧ e = (1, 0)))
    (m1 : mq q p < M) (m2 : M ≤ mq q x) : ∃ f : Rat × Rat, U f ∧ 0 ≤ f.1 ∧ 0 ≤ f.2 ∧ e = qr q f ∧ f.1 < p.1 ∧ x.1 ≤ f.1 := by
  have lp := hp.le
  have lx := hx.le
  have le := he.le
  have te := he.two
  have x3 : x.2 ≤ 1 := (sq_le x2 (by grind)).mpr (by have := rsq_nn x.1; unfold U at hx; grind)
  have hM' : (0 ≤ e.2 ∧ M = 1 - e.1) ∨ (e.2 < 0 ∧ M = 3 + e.1) ∨ (M = 4 ∧ e.1 = 1 ∧ e.2 = 0) := by
    rcases hM with h | ⟨h, z⟩
    · unfold mkr at h
      by_cases z : 0 ≤ e.2
      · rw [if_pos z] at h
        exact .inl ⟨z, h⟩
      · rw [if_neg z] at h
        exact .inr (.inl ⟨by grind, h⟩)
    · exact .inr (.inr ⟨h, by rw [z], by rw [z]⟩)
  clear hM
  have key : ∀ (f : Rat × Rat), U f → 0 ≤ f.1 → 0 ≤ f.2 → ((f.1 < p.1 ∧ x.1 ≤ f.1) ∨ (p.2 < f.2 ∧ f.2 ≤ x.2)) → f.1 < p.1 ∧ x.1 ≤ f.1 := by
    intro f hf f1 f2 h
    rcases h with h | ⟨a, b⟩
    · exact h
    · exact ⟨(qd_lt hf hp f1 f2 (by grind) p2).mpr a, (qd_le hx hf x1 x2 f1 f2).mpr b⟩
  unfold U at *
  match q, hq with
  | 0, _ =>
    simp only [mq] at m1 m2
    have : 0 ≤ e.2 ∧ M = 1 - e.1 := by grind
    obtain ⟨a, b⟩ := this
    exact ⟨e, he, by grind, a, rfl, by grind, by grind⟩
  | 1, _ =>
    simp only [mq] at m1 m2
    have : 0 ≤ e.2 ∧ M = 1 - e.1 := by grind
    obtain ⟨a, b⟩ := this
    have k := key (e.2, -e.1) (by simp only; grind) (by simp only; grind) (by simp only; grind) (.inr (by simp only; grind))
    exact ⟨(e.2, -e.1), by simp only; grind, by simp only; grind, by simp only; grind, by simp only [qr]; rw [Rat.neg_neg], k.1, k.2⟩
  | 2, _ =>
    simp only [mq] at m1 m2
    have : e.2 < 0 ∧ M = 3 + e.1 := by grind
    obtain ⟨a, b⟩ := this
    exact ⟨(-e.1, -e.2), by simp only; grind, by simp only; grind, by simp only; grind, by simp only [qr]; rw [Rat.neg_neg, Rat.neg_neg], by simp only; grind, by simp only; grind⟩
  | 3, _ =>
    simp only [mq] at m1 m2
    have h3 : (e.2 < 0 ∧ M = 3 + e.1) ∨ (M = 4 ∧ e.1 = 1 ∧ e.2 = 0) := by grind
    have k := key (-e.2, e.1) (by simp only; grind) (by simp only; grind) (by simp only; grind) (.inr (by simp only; grind))
    exact ⟨(-e.2, e.1), by simp only; grind, by simp only; grind, by simp only; grind, by simp only [qr]; rw [Rat.neg_neg, Rat.neg_neg], k.1, k.2⟩
/-! the units of the parts -/
def hd (n i : Nat) : Rat × Rat := (hdc i n, hds i n)
def un (n t : Nat) : Rat × Rat := qr (t / n) (hd n (t % n))
theorem hd_U {n i : Nat} (hn : 0 < n) : U (hd n i) := hd_one (p := (i : Int)) (q := (n : Int)) (.inr (by omega))
theorem hd_zero {n : Nat} (hn : 0 < n) : hd n 0 = (1, 0) := by
  have := hx_z (n := n) (by omega)
  exact Prod.ext this.1 this.2
theorem hd_full {n : Nat} (hn : 0 < n) : hd n n = (0, 1) := by
  have := hx_n (n := n) (by omega)
  exact Prod.ext this.1 this.2
theorem un_zero {n : Nat} (hn : 0 < n) : un n 0 = (1, 0) := by
  unfold un
  rw [Nat.zero_div, Nat.zero_mod, hd_zero hn]
  rfl
theorem un_U {n t : Nat} (hn : 0 < n) : U (un n t) := qr_U (hd_U hn)
theorem un_at {n t : Nat} (hn : 0 < n) (ht : t < 4 * n) : ∃ (q : Nat) (p x : Rat × Rat), q < 4 ∧ U p ∧ U x ∧ 0 < p.1 ∧ 0 ≤ p.2 ∧ 0 ≤ x.1 ∧ 0 ≤ x.2 ∧ x.1 < p.1 ∧ un n t = qr q p ∧ un n (t + 1) = qr q x ∧
    mkr (un n t) = mq q p ∧ ((t + 1 < 4 * n ∧ mkr (un n (t + 1)) = mq q x) ∨ (t + 1 = 4 * n ∧ mq q x = 4 ∧ un n (t + 1) = (1, 0))) ∧ 2 * ((n : Rat) * n) ≤ (1 + dt p x) * (1 + (n : Rat) * n) := by
  have hq : t / n < 4 := (Nat.div_lt_iff_lt_mul hn).mpr (by omega)
  have hi : t % n < n := Nat.mod_lt _ hn
  have hl := hx_nn (n := n) (i := (t % n : Nat)) (by omega) (by omega) (by omega)
  have hl2 := hx_nn (n := n) (i := (t % n : Nat) + 1) (by omega) (by omega) (by omega)
  have hd1 := hx_dec (n := n) (i := (t % n : Nat)) (by omega) (by omega) (by omega)
  have hdt := hx_dot (n := n) (i := (t % n : Nat)) (by omega) (by omega)
  have p1 : 0 < (hd n (t % n)).1 := by
    show 0 < hdc (t % n : Nat) n
    grind
  have e0 : un n (t + 1) = qr (t / n) (hd n (t % n + 1)) ∧ ((t + 1 < 4 * n ∧ mkr (un n (t + 1)) = mq (t / n) (hd n (t % n + 1))) ∨ (t + 1 = 4 * n ∧ mq (t / n) (hd n (t % n + 1)) = 4 ∧ un n (t + 1) = (1, 0))) := by
    have hm := Nat.div_add_mod t n
    by_cases z : t % n + 1 < n
    · have a1 : (t + 1) / n = t / n := by
        rw [← hm, Nat.add_assoc, Nat.mul_add_div hn, Nat.mul_add_div hn, Nat.div_eq_of_lt hi, Nat.div_eq_of_lt z]
      have a2 : (t + 1) % n = t % n + 1 := by
        conv => lhs; rw [← hm, Nat.add_assoc, Nat.mul_add_mod, Nat.mod_eq_of_lt z]
      have a3 : un n (t + 1) = qr (t / n) (hd n (t % n + 1)) := by
        unfold un
        rw [a1, a2]
      have a4 : t + 1 < 4 * n := by
        have := Nat.mul_le_mul_right n (show t / n ≤ 3 by omega)
        rw [Nat.mul_comm] at hm
        omega
      refine ⟨a3, .inl ⟨a4, ?_⟩⟩
      rw [a3]
      refine mkr_qr hq (hd_U hn) ?_ hl2.2
      show 0 < hdc ((t % n + 1 : Nat) : Int) n
      have hd3 := hx_dec (n := n) (i := (t % n : Nat) + 1) (by omega) (by omega) (by omega)
      have hl3 := hx_nn (n := n) (i := (t % n : Nat) + 1 + 1) (by omega) (by omega) (by omega)
      rw [Int.natCast_add]
      show 0 < hdc (((t % n : Nat) : Int) + 1) n
      grind
    · have z2 : t % n + 1 = n := by omega
      have hm2 : t + 1 = n * (t / n + 1) := by
        rw [Nat.mul_add]
        omega
      have a1 : (t + 1) / n = t / n + 1 := by rw [hm2, Nat.mul_div_cancel_left _ hn]
      have a2 : (t + 1) % n = 0 := by rw [hm2, Nat.mul_mod_right]
      have a3 : un n (t + 1) = qr (t / n) (hd n (t % n + 1)) := by
        unfold un
        rw [a1, a2, z2, hd_zero hn, hd_full hn, qr_in]
        simp only [Rat.neg_zero]
      refine ⟨a3, ?_⟩
      by_cases y : t / n = 3
      · refine .inr ⟨by rw [hm2, y, Nat.mul_comm], ?_, ?_⟩
        · rw [z2, hd_full hn, y]
          simp only [mq]
          grind
        · rw [a3, z2, hd_full hn, y]
          simp only [qr]
          grind
      · refine .inl ⟨?_, ?_⟩
        · have := Nat.mul_le_mul_left n (show t / n + 1 ≤ 3 by omega)
          omega
        · unfold un
          rw [a1, a2, z2, hd_zero hn, hd_full hn, mkr_qr (by omega) (by unfold U; simp only; grind) (by simp only; grind) (by simp only; grind)]
          exact mq_next (by omega)
  refine ⟨t / n, hd n (t % n), hd n (t % n + 1), hq, hd_U hn, hd_U hn, p1, hl.2, hl2.1, hl2.2, hd1, rfl, e0.1, mkr_qr hq (hd_U hn) p1 hl.2, e0.2, hdt⟩
/-- less than half round, and near enough -/
def chd (n : Nat) (p e : Rat × Rat) : Prop := 0 < cr p e ∧ 2 * ((n : Rat) * n) ≤ (1 + dt p e) * (1 + (n : Rat) * n)
theorem chd_q {n q : Nat} {p e : Rat × Rat} : chd n (qr q p) (qr q e) ↔ chd n p e := by
  unfold chd
  rw [qr_cr, qr_dt]
theorem un_step {n t : Nat} (hn : 0 < n) (ht : t < 4 * n) : chd n (un n t) (un n (t + 1)) ∧ (t + 1 < 4 * n → mkr (un n t) < mkr (un n (t + 1))) := by
  obtain ⟨q, p, x, hq, hp, hx, p1, p2, x1, x2, hxp, e1, e2, e3, e4, e5⟩ := un_at hn ht
  have hpx := (qd_lt hx hp x1 x2 (by grind) p2).mp hxp
  have hch := qd_chord hp hx hx (by grind) p2 x1 x2 x1 x2 hxp (by grind)
  refine ⟨?_, fun h => ?_⟩
  · rw [e1, e2, chd_q]
    exact ⟨hch.1, e5⟩
  · rcases e4 with ⟨_, e4⟩ | ⟨z, _⟩
    · rw [e3, e4]
      exact mq_lt hxp hpx
    · omega
/-- where the parts stop -/
structure Stop (n m : Nat) (e : Rat × Rat) : Prop where
  n0 : 0 < n
  m0 : 0 < m
  m1 : m ≤ 4 * n
  u : U e
  on : ∀ t, 0 < t → t < m → un n t ≠ e ∧ (e = (1, 0) ∨ mkr (un n t) ≤ mkr e)
  off : m = 4 * n ∨ un n m = e ∨ ¬ (e = (1, 0) ∨ mkr (un n m) ≤ mkr e)
noncomputable def mke (e : Rat × Rat) : Rat := if e = (1, 0) then 4 else mkr e
theorem Stop.last {n m : Nat} {e : Rat × Rat} (h : Stop n m e) : mkr (un n (m - 1)) < mke e ∧ chd n (un n (m - 1)) e := by
  have h1 := h.m0
  have h2 := h.m1
  have hM : mke e = mkr e ∨ (mke e = 4 ∧ e = (1, 0)) := by
    unfold mke
    by_cases z : e = (1, 0)
    · rw [if_pos z]
      exact .inr ⟨rfl, z⟩
    · rw [if_neg z]
      exact .inl rfl
  have lt : mkr (un n (m - 1)) < mke e := by
    by_cases z : e = (1, 0)
    · unfold mke
      rw [if_pos z]
      exact mk_lt4 (un_U h.n0)
    · unfold mke
      rw [if_neg z]
      by_cases y : m - 1 = 0
      · rw [y, un_zero h.n0, mk_one]
        exact mk_pos h.u z
      · obtain ⟨a, b⟩ := h.on (m - 1) (by omega) (by omega)
        have b' : mkr (un n (m - 1)) ≤ mkr e := by
          rcases b with b | b
          · exact absurd b z
          · exact b
        have c : mkr (un n (m - 1)) ≠ mkr e := fun c => a (mk_inj (un_U h.n0) h.u c)
        grind
  refine ⟨lt, ?_⟩
  obtain ⟨q, p, x, hq, hp, hx, p1, p2, x1, x2, hxp, e1, e2, e3, e4, e5⟩ := un_at (t := m - 1) h.n0 (by omega)
  rw [show m - 1 + 1 = m by omega] at e2 e4
  by_cases z : un n m = e
  · have := (un_step (t := m - 1) h.n0 (by omega)).1
    rw [show m - 1 + 1 = m by omega, z] at this
    exact this
  have le : mke e ≤ mq q x := by
    rcases e4 with ⟨a, b⟩ | ⟨a, b, c⟩
    · rcases h.off with y | y | y
      · omega
      · exact absurd y z
      · have y1 : e ≠ (1, 0) := fun y1 => y (.inl y1)
        have y2 : ¬ mkr (un n m) ≤ mkr e := fun y1 => y (.inr y1)
        unfold mke
        rw [if_neg y1, ← b]
        grind
    · rw [b]
      unfold mke
      split
      · grind
      · have := mk_lt4 h.u
        grind
  rw [e3] at lt
  obtain ⟨f, f0, f1, f2, rfl, f3, f4⟩ := last_q hq hp hx h.u p1 p2 x1 x2 hM lt le
  rw [e1, chd_q]
  have hch := qd_chord hp f0 hx (by grind) p2 f1 f2 x1 x2 f3 f4
  refine ⟨hch.1, ?_⟩
  have hN := rsq_nn (n : Rat)
  have := Rat.mul_nonneg (show 0 ≤ dt p f - dt p x by unfold dt; grind) (show 0 ≤ 1 + (n : Rat) * n by grind)
  grind
/-! spokes by units -/
def plc (a : Rat × Rat) (w : Int) (u : Rat × Rat) : Rat × Rat := (a.1 * u.1 - a.2 * (w * u.2), a.1 * (w * u.2) + a.2 * u.1)
theorem plc_dt {a : Rat × Rat} {w : Int} (hw : w = 1 ∨ w = -1) (u v : Rat × Rat) : dt (plc a w u) (plc a w v) = dt a a * dt u v := by
  have := w_sq hw
  unfold plc dt
  simp only
  generalize (w : Rat) = W at *
  grind
theorem plc_cr {a : Rat × Rat} {w : Int} (hw : w = 1 ∨ w = -1) (u v : Rat × Rat) : cr (plc a w u) (plc a w v) * w = dt a a * cr u v := by
  have := w_sq hw
  unfold plc dt cr
  simp only
  generalize (w : Rat) = W at *
  grind
theorem plc_one (a : Rat × Rat) (w : Int) : plc a w (1, 0) = a := Prod.ext (by simp only [plc]; grind) (by simp only [plc]; grind)
theorem plc_dt1 {a : Rat × Rat} {w : Int} (hw : w = 1 ∨ w = -1) (u : Rat × Rat) : dt a (plc a w u) = dt a a * u.1 := by
  have := plc_dt (a := a) hw (1, 0) u
  rw [plc_one] at this
  rw [this]
  unfold dt
  simp only
  grind
theorem plc_cr1 {a : Rat × Rat} {w : Int} (hw : w = 1 ∨ w = -1) (u : Rat × Rat) : cr a (plc a w u) * w = dt a a * u.2 := by
  have := plc_cr (a := a) hw (1, 0) u
  rw [plc_one] at this
  rw [this]
  unfold cr
  simp only
  grind
theorem plc_ex {a b : Rat × Rat} {w : Int} (hw : w = 1 ∨ w = -1) (h0 : 0 < dt a a) (h : dt b b = dt a a) : ∃ e, U e ∧ b = plc a w e := by
  have ww := w_sq hw
  refine ⟨(dt a b / dt a a, w * (cr a b / dt a a)), ?_, ?_⟩
  · unfold U dt cr at *
    simp only
    generalize (w : Rat) = W at *
    have e : (a.1 * b.1 + a.2 * b.2) * (a.1 * b.1 + a.2 * b.2) + (a.1 * b.2 - a.2 * b.1) * (a.1 * b.2 - a.2 * b.1) = (a.1 * a.1 + a.2 * a.2) * (b.1 * b.1 + b.2 * b.2) := by grind
    rw [h] at e
    generalize a.1 * b.1 + a.2 * b.2 = X at *
    generalize a.1 * b.2 - a.2 * b.1 = Y at *
    generalize a.1 * a.1 + a.2 * a.2 = R at *
    have : X / R * (X / R) + W * (Y / R) * (W * (Y / R)) = X / R * (X / R) + (Y / R) * (Y / R) := by grind
    rw [this]
    grind
  · unfold plc
    simp only
    unfold dt cr at *
    generalize (w : Rat) = W at *
    refine Prod.ext ?_ ?_
    · simp only
      have : W * (W * ((a.1 * b.2 - a.2 * b.1) / (a.1 * a.1 + a.2 * a.2))) = (a.1 * b.2 - a.2 * b.1) / (a.1 * a.1 + a.2 * a.2) := by grind
      rw [this]
      grind
    · simp only
      have : W * (W * ((a.1 * b.2 - a.2 * b.1) / (a.1 * a.1 + a.2 * a.2))) = (a.1 * b.2 - a.2 * b.1) / (a.1 * a.1 + a.2 * a.2) := by grind
      rw [this]
      grind
theorem plc_inj {a u v : Rat × Rat} {w : Int} (hw : w = 1 ∨ w = -1) (h0 : 0 < dt a a) (h : plc a w u = plc a w v) : u = v := by
  have e1 := plc_dt1 (a := a) hw u
  have e2 := plc_cr1 (a := a) hw u
  rw [h, plc_dt1 hw v] at e1
  rw [h, plc_cr1 hw v] at e2
  refine Prod.ext ?_ ?_
  · have : dt a a * (v.1 - u.1) = 0 := by grind
    have := (mul_eq_z h0).mp this
    grind
  · have : dt a a * (v.2 - u.2) = 0 := by grind
    have := (mul_eq_z h0).mp this
    grind
/-- turned by a heading, a quarter on -/
theorem plc_tn {a : Rat × Rat} {w : Int} (hw : w = 1 ∨ w = -1) (q n i : Nat) : tn2 (plc a w (qr q (1, 0))) (hdc (w * i) n, hds (w * i) n) = plc a w (qr q (hd n i)) := by
  have ww := w_sq hw
  rw [hdc_w hw, hds_w hw]
  have e : qr q (hd n i) = ((qr q (1, 0)).1 * hdc i n - (qr q (1, 0)).2 * hds i n, (qr q (1, 0)).1 * hds i n + (qr q (1, 0)).2 * hdc i n) := by
    induction q with
    | zero => exact Prod.ext (by simp only [qr, hd]; grind) (by simp only [qr, hd]; grind)
    | succ q ih =>
      simp only [qr]
      rw [ih]
      exact Prod.ext (by simp only; grind) (by simp only; grind)
  rw [e]
  generalize qr q (1, 0) = p
  generalize hdc i n = c
  generalize hds i n = s
  unfold plc tn2
  generalize (w : Rat) = W at *
  exact Prod.ext (by simp only; grind) (by simp only; grind)
theorem plc_lf {a : Rat × Rat} {w : Int} (hw : w = 1 ∨ w = -1) (q : Nat) : sc2 (-(plc a w (qr q (1, 0))).2, (plc a w (qr q (1, 0))).1) w = plc a w (qr (q + 1) (1, 0)) := by
  have ww := w_sq hw
  simp only [qr]
  generalize qr q (1, 0) = p
  unfold plc sc2
  generalize (w : Rat) = W at *
  exact Prod.ext (by simp only; grind) (by simp only; grind)
/-! on the arc, by marks -/
theorem sb_dt (p q : Rat × Rat) : dt (sb2 p q) (sb2 p q) = dt (sb2 q p) (sb2 q p) := by
  unfold sb2 dt
  simp only
  grind
theorem onArc_mk {B E C P x e : Rat × Rat} {w : Int} (hw : w = 1 ∨ w = -1) (h0 : 0 < dt (sb2 B C) (sb2 B C)) (hx : U x) (he : U e) (hP : sb2 P C = plc (sb2 B C) w x) (hE : sb2 E C = plc (sb2 B C) w e) :
    onArc B E C w P = (decide (e = (1, 0)) || decide (mkr x ≤ mkr e)) := by
  have hb : decide (B = E) = decide (e = (1, 0)) := by
    refine decide_eq_decide.mpr ⟨fun h => ?_, fun h => ?_⟩
    · refine plc_inj hw h0 (w := w) ?_
      rw [← hE, plc_one, h]
    · rw [h, plc_one] at hE
      unfold sb2 at hE
      have e1 := (Prod.mk.inj hE).1
      have e2 := (Prod.mk.inj hE).2
      exact Prod.ext (by grind) (by grind)
  unfold onArc
  rw [hb, sb_dt C P, sb_dt C B, hP, hE, plc_dt hw, plc_cr1 hw, plc_cr1 hw, plc_dt1 hw, plc_dt1 hw, plc_cr hw, soon_mul h0, soon_mk hx he]
  have : dt x x = 1 := hx
  rw [this, show dt (sb2 B C) (sb2 B C) * 1 = dt (sb2 B C) (sb2 B C) by grind, decide_eq_true rfl, Bool.true_and]
/-- the law's mark -/
def mkp (B C : Rat × Rat) (w : Int) (P : Rat × Rat) : Rat := if 0 ≤ cr (sb2 B C) (sb2 P C) * w then 1 - dt (sb2 B C) (sb2 P C) / dt (sb2 B C) (sb2 B C) else 3 + dt (sb2 B C) (sb2 P C) / dt (sb2 B C) (sb2 B C)
theorem mkp_mk {B C P x : Rat × Rat} {w : Int} (hw : w = 1 ∨ w = -1) (h0 : 0 < dt (sb2 B C) (sb2 B C)) (hP : sb2 P C = plc (sb2 B C) w x) : mkp B C w P = mkr x := by
  unfold mkp mkr
  rw [hP, plc_cr1 hw, plc_dt1 hw]
  have e : dt (sb2 B C) (sb2 B C) * x.1 / dt (sb2 B C) (sb2 B C) = x.1 := by
    generalize dt (sb2 B C) (sb2 B C) = R at *
    grind
  rw [e]
  by_cases z : 0 ≤ x.2
  · rw [if_pos z, if_pos ((mul_le_z h0).mpr z)]
  · rw [if_neg z, if_neg (fun y => z ((mul_le_z h0).mp y))]
/-! the list told -/
def mid2 (f s : Rat × Rat) : Rat × Rat := ((f.1 + s.1) * (1 / 2), (f.2 + s.2) * (1 / 2))
/-- fine enough -/
def Fine (r m : Rat) (n : Nat) : Prop := m < r → (1 - m / r) * (1 - m / r) * (1 + (n : Rat) * n) ≤ (n : Rat) * n
def near (r m : Rat) (f s : Rat × Rat) : Prop := r - m ≤ 0 ∨ (r - m) * (r - m) ≤ dt (mid2 f s) (mid2 f s)
theorem near_of {a u v : Rat × Rat} {w : Int} {n : Nat} {r m : Rat} (hw : w = 1 ∨ w = -1) (hu : U u) (hv : U v) (hr : 0 < r) (hR : dt a a = r * r) (hf : Fine r m n) (h : chd n u v) : near r m (plc a w u) (plc a w v) := by
  by_cases z : r - m ≤ 0
  · exact .inl z
  right
  have h1 := hf (by grind)
  have h2 := h.2
  have hN := rsq_nn (n : Rat)
  have e1 := plc_dt (a := a) hw u u
  have e2 := plc_dt (a := a) hw u v
  have e3 := plc_dt (a := a) hw v v
  have hu' : dt u u = 1 := hu
  have hv' : dt v v = 1 := hv
  rw [hu', hR] at e1
  rw [hv', hR] at e3
  rw [hR] at e2
  have e4 : 4 * dt (mid2 (plc a w u) (plc a w v)) (mid2 (plc a w u) (plc a w v)) = 2 * (r * r) * (1 + dt u v) := by
    unfold dt mid2 at *
    simp only
    grind
  obtain ⟨s, hs⟩ : ∃ s, s = 1 - m / r := ⟨_, rfl⟩
  rw [← hs] at h1
  have e5 : r - m = r * s := by
    rw [hs]
    grind
  rw [e5]
  generalize dt (mid2 (plc a w u) (plc a w v)) (mid2 (plc a w u) (plc a w v)) = D at *
  generalize dt u v = d at *
  generalize (n : Rat) * n = N at *
  have k1 := Rat.mul_nonneg (show 0 ≤ r * r by exact rsq_nn r) (show 0 ≤ (1 + d) * (1 + N) - 2 * (s * s * (1 + N)) by grind)
  have k2 : 0 < 1 + N := by grind
  have k3 : (1 + N) * (2 * (2 * D - 2 * (r * s * (r * s)))) = 2 * (r * r * ((1 + d) * (1 + N) - 2 * (s * s * (1 + N)))) := by grind
  have := (mul_le_z k2).mp (by rw [k3]; grind)
  grind
def pt (B C : Rat × Rat) (w : Int) (n t : Nat) : Rat × Rat := ad2 C (plc (sb2 B C) w (un n t))
theorem pt_sb (B C : Rat × Rat) (w : Int) (n t : Nat) : sb2 (pt B C w n t) C = plc (sb2 B C) w (un n t) := Prod.ext (by simp only [pt, sb2, ad2]; grind) (by simp only [pt, sb2, ad2]; grind)
theorem pt_zero {B C : Rat × Rat} {w : Int} {n : Nat} (hn : 0 < n) : pt B C w n 0 = B := by
  unfold pt
  rw [un_zero hn, plc_one]
  exact Prod.ext (by simp only [sb2, ad2]; grind) (by simp only [sb2, ad2]; grind)
def chL (B E C : Rat × Rat) (w : Int) (n m : Nat) : List (Rat × Rat) := (List.range m).map (pt B C w n) ++ [E]
/-- where the program stops -/
structure StopP (B E C : Rat × Rat) (w : Int) (n m : Nat) : Prop where
  n0 : 0 < n
  m0 : 0 < m
  m1 : m ≤ 4 * n
  on : ∀ t, 0 < t → t < m → pt B C w n t ≠ E ∧ onArc B E C w (pt B C w n t) = true
  off : m = 4 * n ∨ pt B C w n m = E ∨ onArc B E C w (pt B C w n m) = false
theorem StopP.stop {B E C e : Rat × Rat} {w : Int} {n m : Nat} (h : StopP B E C w n m) (hw : w = 1 ∨ w = -1) (h0 : 0 < dt (sb2 B C) (sb2 B C)) (he : U e) (hE : sb2 E C = plc (sb2 B C) w e) : Stop n m e := by
  have eqE : ∀ t, pt B C w n t = E ↔ un n t = e := by
    intro t
    constructor
    · intro z
      refine plc_inj hw h0 (w := w) ?_
      rw [← pt_sb, z, hE]
    · intro z
      have h1 := pt_sb B C w n t
      rw [z, ← hE] at h1
      unfold sb2 at h1
      have e1 := (Prod.mk.inj h1).1
      have e2 := (Prod.mk.inj h1).2
      exact Prod.ext (by grind) (by grind)
  have on : ∀ t, onArc B E C w (pt B C w n t) = (decide (e = (1, 0)) || decide (mkr (un n t) ≤ mkr e)) := fun t => onArc_mk hw h0 (un_U h.n0) he (pt_sb ..) hE
  refine ⟨h.n0, h.m0, h.m1, he, fun t t0 t1 => ?_, ?_⟩
  · obtain ⟨a, b⟩ := h.on t t0 t1
    rw [on] at b
    exact ⟨fun z => a ((eqE t).mpr z), by simpa using b⟩
  · rcases h.off with a | a | a
    · exact .inl a
    · exact .inr (.inl ((eqE m).mp a))
    · rw [on] at a
      exact .inr (.inr (by simpa using a))
def mks (B E C : Rat × Rat) (w : Int) (L : List (Rat × Rat)) : List Rat := L.dropLast.map (mkp B C w) ++ [if B = E then 4 else mkp B C w E]
structure LawCh (B E C : Rat × Rat) (w : Int) (r m : Rat) (L : List (Rat × Rat)) : Prop where
  len : 2 ≤ L.length
  fst : L[0]? = some B
  last : L[L.length - 1]? = some E
  marks : ∀ j x y, (mks B E C w L)[j]? = some x → (mks B E C w L)[j + 1]? = some y → x < y
  sq : ∀ p ∈ L, dt (sb2 p C) (sb2 p C) = r * r
  ch : ∀ j x y, L[j]? = some x → L[j + 1]? = some y → 0 < cr (sb2 x C) (sb2 y C) * w ∧ near r m (sb2 x C) (sb2 y C)
theorem StopP.law {B E C : Rat × Rat} {w : Int} {n m : Nat} {r k : Rat} (h : StopP B E C w n m) (hw : w = 1 ∨ w = -1) (hr : 0 < r) (hB : dt (sb2 B C) (sb2 B C) = r * r) (hE : dt (sb2 E C) (sb2 E C) = r * r) (hf : Fine r k n) :
    LawCh B E C w r k (chL B E C w n m) := by
  have h0 : 0 < dt (sb2 B C) (sb2 B C) := by
    rw [hB]
    exact Rat.mul_pos hr hr
  obtain ⟨e, he, hE2⟩ := plc_ex hw h0 (by rw [hE, hB])
  have st := h.stop hw h0 he hE2
  have hm := h.m0
  have l := st.last
  have step : ∀ t, t < 4 * n → _ := fun t ht => un_step h.n0 ht
  have hbe : B = E ↔ e = (1, 0) := by
    constructor
    · intro z
      refine plc_inj hw h0 (w := w) ?_
      rw [← hE2, plc_one, z]
    · intro z
      rw [z, plc_one] at hE2
      unfold sb2 at hE2
      have e1 := (Prod.mk.inj hE2).1
      have e2 := (Prod.mk.inj hE2).2
      exact Prod.ext (by grind) (by grind)
  have at1 : ∀ j, j < m → (chL B E C w n m)[j]? = some (pt B C w n j) := by
    intro j hj
    unfold chL
    rw [List.getElem?_append_left (by rw [List.length_map, List.length_range]; exact hj), List.getElem?_map, List.getElem?_range hj]
    rfl
  have at2 : (chL B E C w n m)[m]? = some E := by
    unfold chL
    rw [List.getElem?_append_right (by rw [List.length_map, List.length_range]; omega), List.length_map, List.length_range, Nat.sub_self]
    rfl
  have ln : (chL B E C w n m).length = m + 1 := by
    unfold chL
    rw [List.length_append, List.length_map, List.length_range]
    rfl
  have mk1 : mks B E C w (chL B E C w n m) = (List.range m).map (fun t => mkr (un n t)) ++ [mke e] := by
    unfold mks chL
    rw [List.dropLast_concat, List.map_map]
    congr 1
    · refine List.map_congr_left fun t _ => ?_
      exact mkp_mk hw h0 (pt_sb ..)
    · unfold mke
      by_cases z : B = E
      · rw [if_pos z, if_pos (hbe.mp z)]
      · rw [if_neg z, if_neg (fun y => z (hbe.mpr y)), mkp_mk hw h0 hE2]
  refine ⟨by omega, ?_, ?_, ?_, ?_, ?_⟩
  · rw [at1 0 hm, pt_zero h.n0]
  · rw [ln]
    exact at2
  · intro j x y hx hy
    rw [mk1] at hx hy
    have hj : j + 1 < m + 1 := by
      have := (List.getElem?_eq_some_iff.mp hy).1
      rw [List.length_append, List.length_map, List.length_range] at this
      exact this
    rw [List.getElem?_append_left (by rw [List.length_map, List.length_range]; omega), List.getElem?_map, List.getElem?_range (by omega)] at hx
    injection hx with hx
    by_cases z : j + 1 < m
    · rw [List.getElem?_append_left (by rw [List.length_map, List.length_range]; omega), List.getElem?_map, List.getElem?_range (by omega)] at hy
      injection hy with hy
      rw [← hx, ← hy]
      exact (step j (by have := h.m1; omega)).2 (by have := h.m1; omega)
    · have z2 : j + 1 = m := by omega
      rw [List.getElem?_append_right (by rw [List.length_map, List.length_range]; omega), List.length_map, List.length_range, z2, Nat.sub_self] at hy
      injection hy with hy
      rw [← hx, ← hy, show j = m - 1 by omega]
      exact l.1
  · intro p hp
    unfold chL at hp
    rcases List.mem_append.mp hp with hp | hp
    · obtain ⟨t, _, rfl⟩ := List.mem_map.mp hp
      rw [pt_sb, plc_dt hw, hB]
      have : dt (un n t) (un n t) = 1 := un_U h.n0
      rw [this]
      grind
    · rw [List.mem_singleton.mp hp]
      exact hE
  · intro j x y hx hy
    have hj : j + 1 < m + 1 := by
      have := (List.getElem?_eq_some_iff.mp hy).1
      omega
    rw [at1 j (by omega)] at hx
    injection hx with hx
    have key : ∃ v, U v ∧ sb2 y C = plc (sb2 B C) w v ∧ chd n (un n j) v := by
      by_cases z : j + 1 < m
      · rw [at1 (j + 1) z] at hy
        injection hy with hy
        refine ⟨un n (j + 1), un_U h.n0, by rw [← hy, pt_sb], (step j (by have := h.m1; omega)).1⟩
      · have z2 : j + 1 = m := by omega
        rw [z2, at2] at hy
        injection hy with hy
        refine ⟨e, he, by rw [← hy, hE2], ?_⟩
        rw [show j = m - 1 by omega]
        exact l.2
    obtain ⟨v, hv, e1, e2⟩ := key
    rw [← hx, pt_sb, e1]
    refine ⟨?_, near_of hw (un_U h.n0) hv hr hB hf e2⟩
    rw [plc_cr hw]
    exact Rat.mul_pos h0 e2.1
end DM

namespace DL
open PySem PySem.Spec L2 DM
/-! chords: sizes and promises -/
structure ArcK (B E C : Rat × Rat) (w : Int) (r : Rat) : Prop where
  b : Bd2 60 B
  e : Bd2 60 E
  c : Bd2 60 C
  w : w = 1 ∨ w = -1
  r0 : 0 < r
  rb : Bd 60 r
  rB : dt (sb2 B C) (sb2 B C) = r * r
  rE : dt (sb2 E C) (sb2 E C) = r * r
def RoomK (r m : Rat) : Prop := 0 < m ∧ Bd 60 m ∧ r ≤ 1000 * m
def arcP (B E C : Rat × Rat) (w : Int) : PyData := .tuple [.str "arc", .tuple [numD B.1, numD B.2], .tuple [numD E.1, numD E.2], .tuple [numD C.1, numD C.2], .int w]
theorem ArcK.ok {B E C : Rat × Rat} {w : Int} {r : Rat} (h : ArcK B E C w r) : ArcOk B.1 B.2 E.1 E.2 C.1 C.2 w r := by
  refine ⟨⟨h.b.1.mono (by decide), h.b.2.mono (by decide), h.e.1.mono (by decide), h.e.2.mono (by decide), h.c.1.mono (by decide), h.c.2.mono (by decide)⟩, h.w, ?_, ?_⟩
  · have := h.r0
    grind
  · refine rt_of (by have := h.r0; grind) ?_
    have := h.rB
    unfold sb2 dt at this
    simp only at this
    grind
def f_fine : FP := fun ds Q => ∃ r m : Rat, ds = [numD r, numD m] ∧ (Bd 60 r ∧ 0 < r ∧ RoomK r m) ∧ ∀ n : Nat, 0 < n → n ≤ 23 → Fine r m n → Q (.d (.int n))
theorem fm_fine : FMono f_fine := ⟨fun ds Q Q' hq ⟨r, m, h1, h2, h3⟩ => ⟨r, m, h1, h2, fun n a b c => hq _ (h3 n a b c)⟩⟩
instance : FMono f_fine := fm_fine
theorem ln_fine : ∀ ds Q, f_fine ds Q → ds.length = 2 := fun ds Q ⟨r, m, h1, _⟩ => by rw [h1]; rfl
def f_chords : FP := fun ds Q => ∃ (B E C : Rat × Rat) (w : Int) (r m : Rat), ds = [arcP B E C w, numD m] ∧ (ArcK B E C w r ∧ RoomK r m) ∧ ∀ n k : Nat, n ≤ 23 → Fine r m n → StopP B E C w n k → Q (.o ((chL B E C w n k).map plD))
theorem fm_chords : FMono f_chords := ⟨fun ds Q Q' hq ⟨B, E, C, w, r, m, h1, h2, h3⟩ => ⟨B, E, C, w, r, m, h1, h2, fun n k a b c => hq _ (h3 n k a b c)⟩⟩
instance : FMono f_chords := fm_chords
theorem ln_chords : ∀ ds Q, f_chords ds Q → ds.length = 2 := fun ds Q ⟨B, E, C, w, r, m, h1, _⟩ => by rw [h1]; rfl
/-! the law's own -/
def f_pheading : FP := fn1 prD (fun p => (p.1 ≠ 0 ∨ p.2 ≠ 0) ∧ p.1.natAbs < 2 ^ 64 ∧ p.2.natAbs < 2 ^ 64) (fun p => plD (hdc p.1 p.2, hds p.1 p.2))
def f_turn4 : FB := bg0 2 prD (fun p => -4 ≤ p.1 ∧ p.1 ≤ 4 ∧ -4 ≤ p.2 ∧ p.2 ≤ 4 ∧ (p.1 ≠ 0 ∨ p.2 ≠ 0))
instance : BMono f_turn4 := bm0
instance : FMono f_pheading := fm1
theorem ap_pheading {p q : Int} {Q : Res → Prop} : f_pheading [.tuple [.int p, .int q]] Q = (((p ≠ 0 ∨ q ≠ 0) ∧ p.natAbs < 2 ^ 64 ∧ q.natAbs < 2 ^ 64) ∧ Q (.d (.tuple [numD (hdc p q), numD (hds p q)]))) := fn1_ap (x := (p, q)) fun a b h => by
  unfold DL.prD at h
  injection h with h
  injection h with h1 h2
  injection h2 with h2 _
  injection h1 with h1
  injection h2 with h2
  exact Prod.ext h1 h2
theorem turn4_at {xs : List PyData} {n : Nat} {Q : Res → List PyData → Prop} (hb : BagOk n xs) (hn : n + 2 ≤ mostDraws) (h : ∀ (p q : Int) xs', -4 ≤ p → p ≤ 4 → -4 ≤ q → q ≤ 4 → (p ≠ 0 ∨ q ≠ 0) → BagOk (n + 2) xs' → Q (.d (.tuple [.int p, .int q])) xs') : f_turn4 xs [] Q :=
  ⟨n, hb, hn, rfl, fun a xs' e b => h a.1 a.2 xs' e.1 e.2.1 e.2.2.1 e.2.2.2.1 e.2.2.2.2 b⟩
def f_arcb : FB := fun xs ds Q => ∃ (n : Nat) (m : Int), BagOk n xs ∧ n + 12 ≤ mostDraws ∧ ds = [.int m] ∧ (1 ≤ m ∧ m ≤ 1000) ∧ ∀ B E C w r xs', ArcK B E C w r → Bd 22 r → BagOk (n + 12) xs' → Q (.d (.tuple [arcP B E C w, numD r])) xs'
theorem fm_arcb : BMono f_arcb := ⟨fun xs ds Q Q' hq ⟨n, m, h1, h2, h3, h4, h5⟩ => ⟨n, m, h1, h2, h3, h4, fun B E C w r xs' a b c => hq _ _ (h5 B E C w r xs' a b c)⟩⟩
instance : BMono f_arcb := fm_arcb
theorem ln_arcb : ∀ xs ds Q, f_arcb xs ds Q → ds.length + 1 = 2 := fun xs ds Q ⟨n, m, _, _, h, _⟩ => by rw [h]; rfl
def f_roomb : FB := fun xs ds Q => ∃ (n : Nat) (r : Rat), BagOk n xs ∧ n + 6 ≤ mostDraws ∧ ds = [numD r] ∧ (0 < r ∧ Bd 22 r) ∧ ∀ m xs', RoomK r m → BagOk (n + 6) xs' → Q (.d (numD m)) xs'
theorem fm_roomb : BMono f_roomb := ⟨fun xs ds Q Q' hq ⟨n, m, h1, h2, h3, h4, h5⟩ => ⟨n, m, h1, h2, h3, h4, fun r xs' a b => hq _ _ (h5 r xs' a b)⟩⟩
instance : BMono f_roomb := fm_roomb
theorem ln_roomb : ∀ xs ds Q, f_roomb xs ds Q → ds.length + 1 = 2 := fun xs ds Q ⟨n, m, _, _, h, _⟩ => by rw [h]; rfl
def f_lisplc : FP := fn1 plD (Bd2 4000) (fun _ => .bool true)
instance : FMono f_lisplc := fm1
/-! sizes of the places told -/
theorem hd_bd5 {n i : Nat} (hn : 0 < n) (h : n ≤ 23) (hi : i ≤ n) : Bd2 11 (hd n i) := hd_bd (k := 5) (p := (i : Int)) (q := (n : Int)) (.inr (by omega)) (by omega) (by omega)
theorem qr_bd {k q : Nat} {p : Rat × Rat} (h : Bd2 k p) : Bd2 k (qr q p) := by
  induction q with
  | zero => exact h
  | succ q ih => exact ⟨ih.2.neg, ih.1⟩
theorem un_bd {n t : Nat} (hn : 0 < n) (h : n ≤ 23) : Bd2 11 (un n t) := qr_bd (hd_bd5 hn h (Nat.le_of_lt (Nat.mod_lt _ hn)))
theorem plc_bd {a u : Rat × Rat} {w : Int} (hw : w = 1 ∨ w = -1) (ha : Bd2 122 a) (hu : Bd2 11 u) : Bd2 270 (plc a w u) := by
  have h1 := ha.1
  have h2 := ha.2
  have h3 := hu.1
  have h4 := hu.2
  have h5 := w_bd hw
  unfold plc
  exact ⟨((h1.mul h3).sub (h2.mul (h5.mul h4))).mono (by decide), ((h1.mul (h5.mul h4)).add (h2.mul h3)).mono (by decide)⟩
theorem sb_bd60 {p q : Rat × Rat} (hp : Bd2 60 p) (hq : Bd2 60 q) : Bd2 122 (sb2 p q) := by
  have h1 := hp.1
  have h2 := hp.2
  have h3 := hq.1
  have h4 := hq.2
  unfold sb2
  exact ⟨(h1.sub h3).mono (by decide), (h2.sub h4).mono (by decide)⟩
theorem pt_bd {B C : Rat × Rat} {w : Int} {n t : Nat} (hw : w = 1 ∨ w = -1) (hB : Bd2 60 B) (hC : Bd2 60 C) (hn : 0 < n) (h : n ≤ 23) : Bd2 340 (pt B C w n t) := by
  have h1 := plc_bd hw (sb_bd60 hB hC) (un_bd (t := t) hn h)
  have h2 := h1.1
  have h3 := h1.2
  have h4 := hC.1
  have h5 := hC.2
  unfold pt ad2
  exact ⟨(h4.add h2).mono (by decide), (h5.add h3).mono (by decide)⟩
theorem chL_bd {B E C : Rat × Rat} {w : Int} {r m : Rat} {n k : Nat} (h : ArcK B E C w r) (hn : n ≤ 23) (hs : StopP B E C w n k) : ∀ p ∈ chL B E C w n k, Bd2 400 p := by
  intro p hp
  unfold chL at hp
  rcases List.mem_append.mp hp with hp | hp
  · obtain ⟨t, _, rfl⟩ := List.mem_map.mp hp
    have := pt_bd (t := t) h.w h.b h.c hs.n0 hn
    exact ⟨this.1.mono (by decide), this.2.mono (by decide)⟩
  · rw [List.mem_singleton.mp hp]
    exact ⟨h.e.1.mono (by decide), h.e.2.mono (by decide)⟩
/-! fineness -/
theorem fine_one {r m : Rat} (h : ¬ m < r) : Fine r m 1 := fun z => absurd z h
/-- the share left out -/
theorem share_in {r m : Rat} (h0 : 0 < r) (hm : 0 < m) (hk : r ≤ 1000 * m) (h : m < r) : 0 < 1 - m / r ∧ 1000 * (1 - m / r) ≤ 999 := by
  have e : r * (m / r) = m := by grind
  generalize m / r = x at *
  have h1 := (mul_lt_z h0 (c := x - 1)).mp (by grind)
  have h2 := (mul_le_z h0 (c := 1000 * x - 1)).mp (by grind)
  exact ⟨by grind, by grind⟩
theorem square_in {s : Rat} (h : 0 < s ∧ 1000 * s ≤ 999) : 0 < s * s ∧ 1000 * (s * s) ≤ 999 ∧ 0 < 1 - s * s ∧ 530 * (s * s) < 529 := by
  have h1 := Rat.mul_pos h.1 h.1
  have h2 := Rat.mul_nonneg (show 0 ≤ s by grind) (show 0 ≤ 999 - 1000 * s by grind)
  exact ⟨h1, by grind, by grind, by grind⟩
theorem least_in {q : Rat} (h0 : 0 < q) (h1 : 0 < 1 - q) (h2 : 530 * q < 529) : 0 ≤ q / (1 - q) ∧ q / (1 - q) < 529 := by
  have e : (1 - q) * (q / (1 - q)) = q := by grind
  generalize q / (1 - q) = l at *
  have k1 := (mul_le_z h1 (c := l)).mp (by grind)
  have k2 := (mul_lt_z h1 (c := l - 529)).mp (by grind)
  exact ⟨k1, by grind⟩
theorem fine_of {r m : Rat} {n : Nat} (h1 : 0 < 1 - (1 - m / r) * (1 - m / r)) (h : ¬ (((n : Int) * n : Int) : Rat) < (1 - m / r) * (1 - m / r) / (1 - (1 - m / r) * (1 - m / r))) : Fine r m n := by
  intro _
  generalize (1 - m / r) * (1 - m / r) = q at *
  have e : (1 - q) * (q / (1 - q)) = q := by grind
  generalize q / (1 - q) = l at *
  have e2 : (((n : Int) * n : Int) : Rat) = (n : Rat) * n := by
    rw [Rat.intCast_mul]
    rfl
  rw [e2] at h
  generalize (n : Rat) * n = N at *
  have := (mul_le_z h1 (c := N - l)).mpr (by grind)
  grind
theorem parts_lt {x : Int} {l : Rat} (h : l < 529) (h0 : 0 ≤ x) (hx : ((x * x : Int) : Rat) < l) : x ≤ 22 := by
  have : ((x * x : Int) : Rat) < ((529 : Int) : Rat) := by
    rw [show ((529 : Int) : Rat) = 529 from rfl]
    grind
  have h1 := Rat.intCast_lt_intCast.mp this
  apply Classical.byContradiction
  intro z
  have : 23 * 23 ≤ x * x := Int.mul_le_mul (by omega) (by omega) (by omega) h0
  omega
theorem side_lt {x : Int} {l : Rat} (h : l < 529) (h0 : 0 ≤ x) (hx : x * x ≤ l.floor) : x ≤ 22 := by
  rw [Rat.le_floor_iff] at hx
  have : ((x * x : Int) : Rat) < ((529 : Int) : Rat) := by
    rw [show ((529 : Int) : Rat) = 529 from rfl]
    grind
  have h1 := Rat.intCast_lt_intCast.mp this
  apply Classical.byContradiction
  intro z
  have : 23 * 23 ≤ x * x := Int.mul_le_mul (by omega) (by omega) (by omega) h0
  omega
theorem floor_sm {l : Rat} (h0 : 0 ≤ l) (h : l < 529) : l.floor.natAbs < 2 ^ 8000 := by
  have h1 := floor_nn h0
  have h2 := Rat.floor_le l
  have : ((l.floor : Int) : Rat) < ((529 : Int) : Rat) := by
    rw [show ((529 : Int) : Rat) = 529 from rfl]
    grind
  have h3 := Rat.intCast_lt_intCast.mp this
  have h4 : (2 : Nat) ^ 10 ≤ 2 ^ 8000 := Nat.pow_le_pow_right (by omega) (by omega)
  omega
/-! numbers told by signs -/
theorem half_eq : Rat.divInt 1 2 = 1 / 2 := by
  rw [Rat.divInt_eq_div]
  rfl
theorem room_in {r : Rat} {z : Int} (r0 : 0 < r) (rb : Bd 22 r) (h1 : 1 ≤ z) (h2 : z ≤ 4000) : RoomK r (Rat.divInt (r.num * z) (r.den * 1000)) := by
  have hd : 0 < r.den := Nat.pos_of_ne_zero r.den_nz
  have hd2 : r.den < 4194304 := rb.2
  have rn : r.num.natAbs < 4194304 := rb.1
  have e : 1000 * Rat.divInt (r.num * z) (r.den * 1000) = r * z := by
    rw [Rat.divInt_eq_div, Rat.intCast_mul, Rat.intCast_mul]
    have e1 : (r.num : Rat) = r * (r.den : Rat) := by
      have := Rat.num_divInt_den r
      rw [Rat.divInt_eq_div] at this
      have hn : ((r.den : Int) : Rat) ≠ 0 := by
        rw [show (0 : Rat) = ((0 : Int) : Rat) from rfl]
        intro z
        have := Rat.intCast_inj.mp z
        omega
      have e5 : ((r.den : Int) : Rat) = (r.den : Rat) := rfl
      rw [e5] at this hn
      generalize (r.den : Rat) = d at *
      generalize (r.num : Rat) = n at *
      grind
    rw [e1]
    have hn : ((r.den : Int) : Rat) ≠ 0 := by
      rw [show (0 : Rat) = ((0 : Int) : Rat) from rfl]
      intro z
      have := Rat.intCast_inj.mp z
      omega
    have e5 : ((r.den : Int) : Rat) = (r.den : Rat) := rfl
    rw [e5] at hn ⊢
    rw [show ((1000 : Int) : Rat) = 1000 from rfl]
    generalize (r.den : Rat) = d at *
    grind
  have hz : (1 : Rat) ≤ (z : Rat) := by
    rw [show (1 : Rat) = ((1 : Int) : Rat) from rfl]
    exact Rat.intCast_le_intCast.mpr h1
  have b : Bd 60 (Rat.divInt (r.num * z) (r.den * 1000)) := by
    refine bd_divInt ?_ (by omega) (by omega)
    have : (r.num * z).natAbs = r.num.natAbs * z.natAbs := Int.natAbs_mul _ _
    have := Nat.mul_le_mul (show r.num.natAbs ≤ 4194304 by omega) (show z.natAbs ≤ 4000 by omega)
    omega
  generalize Rat.divInt (r.num * z) (r.den * 1000) = m at *
  generalize (z : Rat) = y at *
  have := Rat.mul_nonneg (show 0 ≤ r by grind) (show 0 ≤ y - 1 by grind)
  exact ⟨by grind, b, by grind⟩
theorem bd_half : Bd 2 (1 / 2 : Rat) := by
  rw [← half_eq]
  exact bd_divInt (by decide) (by decide) (by decide)
theorem prime_at {i : Int} (h0 : 0 ≤ i) (h1 : i < 7) : ∃ p : Int, atI [PyData.int 2147483647, PyData.int 2147483629, PyData.int 2147483587, PyData.int 2147483579, PyData.int 2147483563, PyData.int 2147483549, PyData.int 2147483543] i = some (.int p) ∧ 2147483543 ≤ p ∧ p ≤ 2147483647 := by
  obtain ⟨z, e, f⟩ := atI_of (xs := [PyData.int 2147483647, PyData.int 2147483629, PyData.int 2147483587, PyData.int 2147483579, PyData.int 2147483563, PyData.int 2147483549, PyData.int 2147483543]) h0 h1
  have hi : i.toNat < 7 := by omega
  generalize i.toNat = j at *
  rw [e]
  match j, f with
  | 0, f => exact ⟨_, f.symm, by decide, by decide⟩
  | 1, f => exact ⟨_, f.symm, by decide, by decide⟩
  | 2, f => exact ⟨_, f.symm, by decide, by decide⟩
  | 3, f => exact ⟨_, f.symm, by decide, by decide⟩
  | 4, f => exact ⟨_, f.symm, by decide, by decide⟩
  | 5, f => exact ⟨_, f.symm, by decide, by decide⟩
  | 6, f => exact ⟨_, f.symm, by decide, by decide⟩
  | j + 7, f => omega
theorem chL_len (B E C : Rat × Rat) (w : Int) (n k : Nat) : (chL B E C w n k).length = k + 1 := by
  unfold chL
  rw [List.length_append, List.length_map, List.length_range]
  rfl
def ptL (B C : Rat × Rat) (w : Int) (n k : Nat) : List (Rat × Rat) := (List.range k).map (pt B C w n)
theorem ptL_succ (B C : Rat × Rat) (w : Int) (n k : Nat) : ptL B C w n (k + 1) = ptL B C w n k ++ [pt B C w n k] := by
  unfold ptL
  rw [List.range_succ, List.map_append]
  rfl
theorem sq_16 {a : Int} (h0 : -4 ≤ a) (h1 : a ≤ 4) : 0 ≤ a * a ∧ a * a ≤ 16 := by
  have : a = -4 ∨ a = -3 ∨ a = -2 ∨ a = -1 ∨ a = 0 ∨ a = 1 ∨ a = 2 ∨ a = 3 ∨ a = 4 := by omega
  rcases this with e | e | e | e | e | e | e | e | e <;> subst e <;> decide
theorem pt_eq {B C : Rat × Rat} {w : Int} {n q i : Nat} {sx sy : Rat} (hw : w = 1 ∨ w = -1) (hi : i < n) (hS : plc (sb2 B C) w (qr q (1, 0)) = (sx, sy)) :
    pt B C w n (n * q + i) = (C.1 + (sx * hdc ((i : Int) * w) n - sy * hds ((i : Int) * w) n), C.2 + (sx * hds ((i : Int) * w) n + sy * hdc ((i : Int) * w) n)) := by
  unfold pt un
  rw [Nat.mul_add_div (by omega), Nat.mul_add_mod, Nat.div_eq_of_lt hi, Nat.mod_eq_of_lt hi, Nat.add_zero, ← plc_tn hw q n i, hS, Int.mul_comm w]
  rfl
theorem ptL_one {B C : Rat × Rat} {w : Int} {n : Nat} (hn : 0 < n) : ptL B C w n 1 = [B] := by
  unfold ptL
  rw [show List.range 1 = [0] from rfl, List.map_cons, List.map_nil, pt_zero hn]
theorem plc_zero (B C : Rat × Rat) (w : Int) : plc (sb2 B C) w (qr 0 (1, 0)) = (B.1 - C.1, B.2 - C.2) := by
  simp only [qr]
  rw [plc_one]
  rfl
theorem atI_first {α : Type} {xs : List α} {z : α} (h : xs[0]? = some z) : atI xs 0 = some z := by
  cases xs with
  | nil => cases h
  | cons a r =>
    cases h
    exact atI_0
theorem sh_plD (a : Rat × Rat) : SeqAt.shaped (plD a) = true := sh_nn
theorem eqv_plD (a b : Rat × Rat) : PyData.eqv (plD a) (plD b) = decide (a = b) := DR.eqv_pl a b
theorem zipD_map {α β : Type} (f : α → PyData) (g : β → PyData) : ∀ (xs : List α) (ys : List β), zipD (xs.map f) (ys.map g) = (xs.zip ys).map fun p => .tuple [f p.1, g p.2]
  | [], ys => by cases ys <;> rfl
  | x :: xs, [] => rfl
  | x :: xs, y :: ys => by
    show PyData.tuple [f x, g y] :: zipD (xs.map f) (ys.map g) = _
    rw [zipD_map f g xs ys]
    rfl
theorem cut_dl {xs : List PyData} (h : 0 < xs.length) : cutD xs none (some (-1)) = xs.dropLast := by
  unfold cutD
  show (xs.drop 0).take ((if (-1 : Int) < 0 then (-1 + (xs.length : Int)).toNat else min (-1 : Int).toNat xs.length) - 0) = _
  rw [if_pos (by decide), List.drop_zero, Nat.sub_zero, List.dropLast_eq_take]
  congr 1
  omega
theorem mks_len {B E C : Rat × Rat} {w : Int} {L : List (Rat × Rat)} (h : 0 < L.length) : (mks B E C w L).length = L.length := by
  unfold mks
  rw [List.length_append, List.length_map, List.length_dropLast]
  simp only [List.length_cons, List.length_nil]
  omega
end DL

namespace DM
/-! DRc: lists of chords looked at: what the program asks is what the law asks; gone the other way; led. -/
/-! marks that are taken away from one another -/
def FH (u : Rat × Rat) : Prop := 0 < u.2 ∨ (u.2 = 0 ∧ u.1 = 1)
def SH (u : Rat × Rat) : Prop := u.2 < 0 ∨ (u.2 = 0 ∧ u.1 = -1)
theorem half_of {u : Rat × Rat} (h : U u) : (behind u.2 u.1 = true ∧ SH u) ∨ (behind u.2 u.1 = false ∧ FH u) := by
  have ou := h.one
  by_cases z : u.2 < 0 ∨ (u.2 = 0 ∧ u.1 < 0)
  · refine .inl ⟨behind_iff.mpr z, ?_⟩
    unfold SH
    grind
  · refine .inr ⟨behind_not z, ?_⟩
    unfold FH
    grind
def sbu (u e : Rat × Rat) : Rat × Rat := (dt u e, cr u e)
theorem sbu_U {u e : Rat × Rat} (h : U u) (k : U e) : U (sbu u e) := by
  unfold U sbu dt cr at *
  simp only
  grind
theorem sbu_cr {u v e : Rat × Rat} (k : U e) : cr (sbu u e) (sbu v e) = cr v u := by
  unfold U sbu dt cr at *
  simp only
  grind
theorem sbu_self {e : Rat × Rat} (k : U e) : sbu e e = (1, 0) := by
  unfold U sbu dt cr at *
  exact Prod.ext (by simp only; grind) (by simp only; grind)
theorem lt_of_soon {x y : Rat × Rat} (hx : U x) (hy : U y) : mkr y < mkr x ↔ soon x.2 x.1 y.2 y.1 (cr x y) = false := by
  rw [soon_mk hx hy]
  constructor
  · intro h
    exact decide_eq_false (by grind)
  · intro h
    have := of_decide_eq_false h
    grind
theorem le_of_soon {x y : Rat × Rat} (hx : U x) (hy : U y) : mkr x ≤ mkr y ↔ soon x.2 x.1 y.2 y.1 (cr x y) = true := by
  rw [soon_mk hx hy]
  exact (decide_eq_true_iff).symm
theorem trip {u v e : Rat × Rat} : cr u v * e.2 + cr v e * u.2 - cr u e * v.2 = 0 := by
  unfold cr
  grind
theorem opp_sum {v e : Rat × Rat} (hv : U v) (he : U e) (h : dt v e = -1) : v.1 + e.1 = 0 ∧ v.2 + e.2 = 0 := by
  unfold U dt at *
  have k1 := rsq_nn (v.1 + e.1)
  have k2 := rsq_nn (v.2 + e.2)
  have k3 : (v.1 + e.1) * (v.1 + e.1) + (v.2 + e.2) * (v.2 + e.2) = 0 := by grind
  refine ⟨?_, ?_⟩
  · have : (v.1 + e.1) * (v.1 + e.1) = 0 := by grind
    rcases Rat.mul_eq_zero.mp this with h | h <;> exact h
  · have : (v.2 + e.2) * (v.2 + e.2) = 0 := by grind
    rcases Rat.mul_eq_zero.mp this with h | h <;> exact h
theorem opp_no {v e : Rat × Rat} (hv : U v) (he : U e) (c2 : SH v) (c3 : SH e) (h : 0 ≤ cr v e) (f : SH (sbu v e)) : False := by
  have hd : dt v e = -1 := by
    unfold SH sbu at f
    simp only at f
    grind
  have := opp_sum hv he hd
  unfold SH at c2 c3
  grind
theorem opp_no2 {v e : Rat × Rat} (hv : U v) (he : U e) (c2 : FH v) (c3 : FH e) (h : 0 ≤ cr v e) (f : SH (sbu v e)) : False := by
  have hd : dt v e = -1 := by
    unfold SH sbu at f
    simp only at f
    grind
  have := opp_sum hv he hd
  unfold FH at c2 c3
  grind
theorem same_u {u e : Rat × Rat} (hu : U u) (he : U e) (h : dt u e = 1) : u.1 = e.1 ∧ u.2 = e.2 := by
  unfold U dt at *
  have k1 := rsq_nn (u.1 - e.1)
  have k2 := rsq_nn (u.2 - e.2)
  have k3 : (u.1 - e.1) * (u.1 - e.1) + (u.2 - e.2) * (u.2 - e.2) = 0 := by grind
  refine ⟨?_, ?_⟩
  · have : (u.1 - e.1) * (u.1 - e.1) = 0 := by grind
    rcases Rat.mul_eq_zero.mp this with h | h <;> grind
  · have : (u.2 - e.2) * (u.2 - e.2) = 0 := by grind
    rcases Rat.mul_eq_zero.mp this with h | h <;> grind
theorem nn_np {a b : Rat} (ha : 0 ≤ a) (hb : b ≤ 0) : a * b ≤ 0 := by
  have := Rat.mul_nonneg ha (show 0 ≤ -b by grind)
  grind
theorem caseA {u v e : Rat × Rat} (c1 : FH u) (c2 : FH v) (c3 : SH e) (hp : 0 < cr u v) (f1 : FH (sbu u e)) (f2 : SH (sbu v e)) : False := by
  have t := trip (u := u) (v := v) (e := e)
  unfold FH SH sbu at *
  simp only at f1 f2
  have s0 : 0 ≤ cr u e := by grind
  have q0 : cr v e ≤ 0 := by grind
  have b0 : 0 ≤ u.2 := by grind
  have d0 : 0 ≤ v.2 := by grind
  have y0 : e.2 ≤ 0 := by grind
  have m1 := nn_np (Rat.le_of_lt hp) y0
  have m2 := nn_np b0 q0
  have m3 := Rat.mul_nonneg s0 d0
  have m4 : cr u v * e.2 = 0 := by grind
  have y1 : e.2 = 0 := by
    rcases Rat.mul_eq_zero.mp m4 with h | h
    · grind
    · exact h
  have x1 : e.1 = -1 := by grind
  unfold cr at *
  rw [y1, x1] at q0
  have d1 : v.2 = 0 := by grind
  have c1' : v.1 = 1 := by grind
  rw [d1, c1'] at hp
  grind
theorem caseB {u v e : Rat × Rat} (hu : U u) (hv : U v) (he : U e) (c1 : FH u) (c2 : SH v) (c3 : SH e) (hq : 0 ≤ cr v e) (f1 : FH (sbu u e)) : 0 < cr u v := by
  have t := trip (u := u) (v := v) (e := e)
  have sm := same_u hu he
  unfold FH SH sbu at *
  simp only at f1
  have s0 : 0 < cr u e := by
    rcases f1 with f1 | f1
    · exact f1
    · have := sm f1.2
      grind
  have b0 : 0 ≤ u.2 := by grind
  have d0 : v.2 ≤ 0 := by grind
  have y0 : e.2 ≤ 0 := by grind
  have m1 := nn_np (Rat.le_of_lt s0) d0
  have m2 := Rat.mul_nonneg hq b0
  by_cases y1 : e.2 = 0
  · have x1 : e.1 = -1 := by grind
    unfold cr at *
    rw [y1, x1] at hq s0
    have d1 : v.2 = 0 := by grind
    have e1 : v.1 = -1 := by grind
    rw [d1, e1]
    grind
  · apply Classical.byContradiction
    intro z
    have m3 := Rat.mul_nonneg (show 0 ≤ - cr u v by grind) (show 0 ≤ -e.2 by grind)
    have m4 : cr u e * v.2 = 0 := by grind
    have m5 : cr v e * u.2 = 0 := by grind
    have d1 : v.2 = 0 := by
      rcases Rat.mul_eq_zero.mp m4 with h | h
      · grind
      · exact h
    have e1 : v.1 = -1 := by grind
    unfold cr at *
    rw [d1, e1] at m5
    have b1 : u.2 = 0 := by
      rcases Rat.mul_eq_zero.mp m5 with h | h
      · grind
      · exact h
    have a1 : u.1 = 1 := by grind
    rw [b1, a1] at s0
    grind
theorem sub_lt {u v e : Rat × Rat} (hu : U u) (hv : U v) (he : U e) (h1 : mkr u < mkr v) (h2 : mkr v ≤ mkr e) : mkr (sbu v e) < mkr (sbu u e) := by
  have k1 := (lt_of_soon hv hu).mp h1
  have k2 := (le_of_soon hv he).mp h2
  rw [lt_of_soon (sbu_U hu he) (sbu_U hv he), sbu_cr he]
  have d1 := half_of (sbu_U hu he)
  have d2 := half_of (sbu_U hv he)
  have t := trip (u := u) (v := v) (e := e)
  have a1 : cr v u = - cr u v := by
    unfold cr
    grind
  have o1 := hu.one
  have o2 := hv.one
  have o3 := he.one
  rw [a1] at k1 ⊢
  unfold soon at k1 k2 ⊢
  have su : (sbu u e).2 = cr u e := rfl
  have sv : (sbu v e).2 = cr v e := rfl
  have su1 : (sbu u e).1 = dt u e := rfl
  have sv1 : (sbu v e).1 = dt v e := rfl
  rcases half_of hu with ⟨b1, c1⟩ | ⟨b1, c1⟩ <;> rcases half_of hv with ⟨b2, c2⟩ | ⟨b2, c2⟩ <;> rcases half_of he with ⟨b3, c3⟩ | ⟨b3, c3⟩ <;> rw [b1, b2] at k1 <;> rw [b2, b3] at k2 <;> simp only [if_true, Bool.false_eq_true, Bool.true_eq_false, if_false, reduceCtorEq] at k1 k2
  · -- all behind
    rcases d1 with ⟨g1, f1⟩ | ⟨g1, f1⟩ <;> rcases d2 with ⟨g2, f2⟩ | ⟨g2, f2⟩ <;> rw [g1, g2]
    · rw [if_pos rfl]
      exact k1
    · rw [if_neg (by decide)]
    · exact (opp_no hv he c2 c3 (of_decide_eq_true k2) f2).elim
    · rw [if_pos rfl]
      exact k1
  · have pp : 0 ≤ cr v e := of_decide_eq_true k2
    rcases d2 with ⟨g2, f2⟩ | ⟨g2, f2⟩
    · exact (opp_no hv he c2 c3 pp f2).elim
    · rcases d1 with ⟨g1, f1⟩ | ⟨g1, f1⟩ <;> rw [g1, g2]
      · rw [if_neg (by decide)]
      · rw [if_pos rfl]
        have := caseB hu hv he c1 c2 c3 pp f1
        exact decide_eq_false (by grind)
  · have pp := of_decide_eq_false k1
    rcases d1 with ⟨g1, f1⟩ | ⟨g1, f1⟩ <;> rcases d2 with ⟨g2, f2⟩ | ⟨g2, f2⟩ <;> rw [g1, g2]
    · rw [if_pos rfl]
      exact k1
    · rw [if_neg (by decide)]
    · exact (caseA c1 c2 c3 (by grind) f1 f2).elim
    · rw [if_pos rfl]
      exact k1
  · rcases d1 with ⟨g1, f1⟩ | ⟨g1, f1⟩ <;> rcases d2 with ⟨g2, f2⟩ | ⟨g2, f2⟩ <;> rw [g1, g2]
    · rw [if_pos rfl]
      exact k1
    · rw [if_neg (by decide)]
    · exact (opp_no2 hv he c2 c3 (of_decide_eq_true k2) f2).elim
    · rw [if_pos rfl]
      exact k1
theorem conj_mk {u : Rat × Rat} (h : U u) (e : u ≠ (1, 0)) : mkr (sbu u (1, 0)) = 4 - mkr u := by
  have e1 : sbu u (1, 0) = (u.1, -u.2) := by
    unfold sbu dt cr
    exact Prod.ext (by simp only; grind) (by simp only; grind)
  have h1 := h.one
  have h2 := h.two
  have h3 : ¬ (u.1 = 1 ∧ u.2 = 0) := fun z => e (Prod.ext z.1 z.2)
  rw [e1]
  unfold mkr
  simp only
  split <;> split <;> grind
theorem plc_sub {a u e : Rat × Rat} {w : Int} (hw : w = 1 ∨ w = -1) (he : U e) : plc (plc a w e) (-w) (sbu u e) = plc a w u := by
  have ww := w_sq hw
  have hm : ((-w : Int) : Rat) = -(w : Rat) := Rat.intCast_neg w
  unfold U at he
  unfold plc sbu dt cr
  rw [hm]
  generalize (w : Rat) = W at *
  exact Prod.ext (by simp only; grind) (by simp only; grind)
/-! marks of places on the circle -/
section
variable {B C : Rat × Rat} {w : Int}
theorem mkp_unit {P : Rat × Rat} (hw : w = 1 ∨ w = -1) (h0 : 0 < dt (sb2 B C) (sb2 B C)) (hP : dt (sb2 P C) (sb2 P C) = dt (sb2 B C) (sb2 B C)) : ∃ u, U u ∧ sb2 P C = plc (sb2 B C) w u ∧ mkp B C w P = mkr u := by
  obtain ⟨u, h1, h2⟩ := plc_ex hw h0 hP
  exact ⟨u, h1, h2, mkp_mk hw h0 h2⟩
theorem sb_inj {P Q C : Rat × Rat} (h : sb2 P C = sb2 Q C) : P = Q := by
  unfold sb2 at h
  have e1 := (Prod.mk.inj h).1
  have e2 := (Prod.mk.inj h).2
  exact Prod.ext (by grind) (by grind)
theorem mkp_self (hw : w = 1 ∨ w = -1) (h0 : 0 < dt (sb2 B C) (sb2 B C)) : mkp B C w B = 0 := by
  rw [mkp_mk (x := (1, 0)) hw h0 (plc_one _ _).symm, mk_one]
theorem mkp_inj {P Q : Rat × Rat} (hw : w = 1 ∨ w = -1) (h0 : 0 < dt (sb2 B C) (sb2 B C)) (hP : dt (sb2 P C) (sb2 P C) = dt (sb2 B C) (sb2 B C)) (hQ : dt (sb2 Q C) (sb2 Q C) = dt (sb2 B C) (sb2 B C)) (h : mkp B C w P = mkp B C w Q) : P = Q := by
  obtain ⟨u, u1, u2, u3⟩ := mkp_unit hw h0 hP
  obtain ⟨v, v1, v2, v3⟩ := mkp_unit hw h0 hQ
  rw [u3, v3] at h
  have := mk_inj u1 v1 h
  exact sb_inj (C := C) (by rw [u2, v2, this])
theorem mkp_pos {P : Rat × Rat} (hw : w = 1 ∨ w = -1) (h0 : 0 < dt (sb2 B C) (sb2 B C)) (hP : dt (sb2 P C) (sb2 P C) = dt (sb2 B C) (sb2 B C)) (h : P ≠ B) : 0 < mkp B C w P := by
  obtain ⟨u, u1, u2, u3⟩ := mkp_unit hw h0 hP
  rw [u3]
  refine mk_pos u1 fun e => h (sb_inj (C := C) ?_)
  rw [u2, e, plc_one]
theorem mkp_lt4 {P : Rat × Rat} (hw : w = 1 ∨ w = -1) (h0 : 0 < dt (sb2 B C) (sb2 B C)) (hP : dt (sb2 P C) (sb2 P C) = dt (sb2 B C) (sb2 B C)) : mkp B C w P < 4 := by
  obtain ⟨u, u1, u2, u3⟩ := mkp_unit hw h0 hP
  rw [u3]
  exact mk_lt4 u1
/-- no later than, as the program asks it -/
def soonC (a x y : Rat × Rat) (w : Int) : Bool := soon (cr a x * w) (dt a x) (cr a y * w) (dt a y) (cr x y * w)
theorem soonC_mk {P Q : Rat × Rat} (hw : w = 1 ∨ w = -1) (h0 : 0 < dt (sb2 B C) (sb2 B C)) (hP : dt (sb2 P C) (sb2 P C) = dt (sb2 B C) (sb2 B C)) (hQ : dt (sb2 Q C) (sb2 Q C) = dt (sb2 B C) (sb2 B C)) :
    soonC (sb2 B C) (sb2 P C) (sb2 Q C) w = decide (mkp B C w P ≤ mkp B C w Q) := by
  obtain ⟨u, u1, u2, u3⟩ := mkp_unit hw h0 hP
  obtain ⟨v, v1, v2, v3⟩ := mkp_unit hw h0 hQ
  rw [u3, v3, u2, v2]
  unfold soonC
  rw [plc_cr1 hw, plc_cr1 hw, plc_dt1 hw, plc_dt1 hw, plc_cr hw, soon_mul h0, soon_mk u1 v1]
theorem onArc_mkp {E P : Rat × Rat} (hw : w = 1 ∨ w = -1) (h0 : 0 < dt (sb2 B C) (sb2 B C)) (hE : dt (sb2 E C) (sb2 E C) = dt (sb2 B C) (sb2 B C)) :
    onArc B E C w P = true ↔ dt (sb2 P C) (sb2 P C) = dt (sb2 B C) (sb2 B C) ∧ (B = E ∨ mkp B C w P ≤ mkp B C w E) := by
  by_cases hP : dt (sb2 P C) (sb2 P C) = dt (sb2 B C) (sb2 B C)
  · have hs := soonC_mk hw h0 hP hE
    unfold soonC at hs
    unfold onArc
    rw [hs, sb_dt C P, sb_dt C B, hP, decide_eq_true rfl, Bool.true_and, Bool.or_eq_true, decide_eq_true_iff, decide_eq_true_iff]
    exact ⟨fun h => ⟨rfl, h⟩, fun h => h.2⟩
  · unfold onArc
    rw [sb_dt C P, sb_dt C B, decide_eq_false hP, Bool.false_and]
    exact ⟨fun h => Bool.noConfusion h, fun h => absurd h.1 hP⟩
end
/-! lists of chords -/
def inner {α : Type} (L : List α) : List α := (L.drop 1).dropLast
theorem inner_at {α : Type} {L : List α} {j : Nat} (h : j + 2 < L.length) : (inner L)[j]? = L[j + 1]? := by
  unfold inner
  rw [List.getElem?_dropLast, List.length_drop, if_pos (by omega), List.getElem?_drop, Nat.add_comm]
theorem inner_len {α : Type} (L : List α) : (inner L).length = L.length - 2 := by
  unfold inner
  rw [List.length_dropLast, List.length_drop]
  omega
theorem inner_mem {α : Type} {L : List α} {p : α} : p ∈ inner L ↔ ∃ j, 0 < j ∧ j + 1 < L.length ∧ L[j]? = some p := by
  constructor
  · intro h
    obtain ⟨j, hj⟩ := List.mem_iff_getElem?.mp h
    have h1 := (List.getElem?_eq_some_iff.mp hj).1
    rw [inner_len] at h1
    rw [inner_at (by omega)] at hj
    exact ⟨j + 1, by omega, by omega, hj⟩
  · rintro ⟨j, h0, h1, h2⟩
    refine List.mem_iff_getElem?.mpr ⟨j - 1, ?_⟩
    rw [inner_at (by omega), show j - 1 + 1 = j by omega]
    exact h2
def prAll {α : Type} (f : α → α → Bool) (L : List α) : Bool := (L.zip (L.drop 1)).all fun p => f p.1 p.2
theorem prAll_iff {α : Type} {f : α → α → Bool} {L : List α} : prAll f L = true ↔ ∀ j x y, L[j]? = some x → L[j + 1]? = some y → f x y = true := by
  unfold prAll
  rw [List.all_eq_true]
  constructor
  · intro h j x y hx hy
    refine h (x, y) (List.mem_iff_getElem?.mpr ⟨j, ?_⟩)
    rw [List.getElem?_zip_eq_some, List.getElem?_drop, Nat.add_comm]
    exact ⟨hx, hy⟩
  · intro h p hp
    obtain ⟨j, hj⟩ := List.mem_iff_getElem?.mp hp
    rw [List.getElem?_zip_eq_some, List.getElem?_drop, Nat.add_comm] at hj
    exact h j _ _ hj.1 hj.2
noncomputable def chB (C : Rat × Rat) (w : Int) (r m : Rat) (x y : Rat × Rat) : Bool := decide (0 < cr (sb2 x C) (sb2 y C) * w) && (decide (r ≤ m) || decide ((r - m) * (r - m) ≤ dt (mid2 (sb2 x C) (sb2 y C)) (mid2 (sb2 x C) (sb2 y C))))
theorem chB_iff {C : Rat × Rat} {w : Int} {r m : Rat} {x y : Rat × Rat} : chB C w r m x y = true ↔ 0 < cr (sb2 x C) (sb2 y C) * w ∧ near r m (sb2 x C) (sb2 y C) := by
  unfold chB near
  rw [Bool.and_eq_true, Bool.or_eq_true, decide_eq_true_iff, decide_eq_true_iff, decide_eq_true_iff]
  have : r ≤ m ↔ r - m ≤ 0 := by grind
  rw [this]
noncomputable def areB (B E C : Rat × Rat) (w : Int) (r m : Rat) (L : List (Rat × Rat)) : Bool :=
  decide (2 ≤ L.length) && (decide (L[0]? = some B) && (decide (L[L.length - 1]? = some E) && (!decide (B ∈ inner L) && (!decide (E ∈ inner L) &&
    ((inner L).all (onArc B E C w) && (prAll (fun x y => soonC (sb2 B C) (sb2 x C) (sb2 y C) w) (inner L) && prAll (chB C w r m) L))))))
theorem mono_step {M : List Rat} (h : ∀ j x y, M[j]? = some x → M[j + 1]? = some y → x < y) : ∀ (d j : Nat) x y, M[j]? = some x → M[j + d + 1]? = some y → x < y := by
  intro d
  induction d with
  | zero => exact fun j x y hx hy => h j x y hx hy
  | succ d ih =>
    intro j x y hx hy
    have hl := (List.getElem?_eq_some_iff.mp hy).1
    obtain ⟨z, hz⟩ : ∃ z, M[j + d + 1]? = some z := ⟨_, List.getElem?_eq_getElem (by omega)⟩
    have h1 := ih j x z hx hz
    have h2 := h (j + d + 1) z y hz (by rw [← hy]; congr 1)
    grind
theorem mks_at {B E C : Rat × Rat} {w : Int} {L : List (Rat × Rat)} {j : Nat} (h : j + 1 < L.length) : (mks B E C w L)[j]? = (L[j]?).map (mkp B C w) := by
  unfold mks
  rw [List.getElem?_append_left (by rw [List.length_map, List.length_dropLast]; omega), List.getElem?_map, List.getElem?_dropLast, if_pos (by omega)]
theorem mks_last {B E C : Rat × Rat} {w : Int} {L : List (Rat × Rat)} {j : Nat} (h : j + 1 = L.length) : (mks B E C w L)[j]? = some (if B = E then 4 else mkp B C w E) := by
  unfold mks
  rw [List.getElem?_append_right (by rw [List.length_map, List.length_dropLast]; omega), List.length_map, List.length_dropLast, show j - (L.length - 1) = 0 by omega]
  rfl
theorem ch_ne {x y C : Rat × Rat} {w : Int} (h : 0 < cr (sb2 x C) (sb2 y C) * w) : x ≠ y := by
  intro e
  rw [e] at h
  have : cr (sb2 y C) (sb2 y C) = 0 := by
    unfold cr
    grind
  rw [this] at h
  grind
section
variable {B E C : Rat × Rat} {w : Int} {r m : Rat} {L : List (Rat × Rat)}
theorem are_law (hw : w = 1 ∨ w = -1) (hr : 0 < r) (hB : dt (sb2 B C) (sb2 B C) = r * r) (hE : dt (sb2 E C) (sb2 E C) = r * r) (h : areB B E C w r m L = true) : LawCh B E C w r m L := by
  have h0 : 0 < dt (sb2 B C) (sb2 B C) := by
    rw [hB]
    exact Rat.mul_pos hr hr
  have hE2 : dt (sb2 E C) (sb2 E C) = dt (sb2 B C) (sb2 B C) := by rw [hE, hB]
  unfold areB at h
  simp only [Bool.and_eq_true, decide_eq_true_iff, Bool.not_eq_true', decide_eq_false_iff_not, List.all_eq_true] at h
  obtain ⟨a1, a2, a3, a4, a5, a6, a7, a8⟩ := h
  rw [prAll_iff] at a7 a8
  have arc : ∀ j p, 0 < j → j + 1 < L.length → L[j]? = some p → onArc B E C w p = true ∧ p ≠ B ∧ p ≠ E := fun j p j0 j1 hp => by
    have hm := inner_mem.mpr ⟨j, j0, j1, hp⟩
    exact ⟨a6 p hm, fun e => a4 (e ▸ hm), fun e => a5 (e ▸ hm)⟩
  have circ : ∀ j p, L[j]? = some p → dt (sb2 p C) (sb2 p C) = dt (sb2 B C) (sb2 B C) := fun j p hp => by
    have hl := (List.getElem?_eq_some_iff.mp hp).1
    by_cases z : j = 0
    · subst z
      rw [a2] at hp
      cases hp
      rfl
    · by_cases y : j + 1 < L.length
      · exact ((onArc_mkp hw h0 hE2).mp (arc j p (by omega) y hp).1).1
      · rw [show j = L.length - 1 by omega, a3] at hp
        cases hp
        exact hE2
  have ch := fun j x y hx hy => chB_iff.mp (a8 j x y hx hy)
  refine ⟨a1, a2, a3, ?_, ?_, ch⟩
  · intro j x y hx hy
    have hj : j + 1 < L.length := by
      have := (List.getElem?_eq_some_iff.mp hy).1
      rw [DL.mks_len (by omega)] at this
      exact this
    rw [mks_at hj] at hx
    obtain ⟨P, hP⟩ : ∃ P, L[j]? = some P := ⟨_, List.getElem?_eq_getElem (by omega)⟩
    rw [hP] at hx
    injection hx with hx
    subst hx
    have cP := circ j P hP
    by_cases z : j + 1 + 1 < L.length
    · rw [mks_at z] at hy
      obtain ⟨R, hR⟩ : ∃ R, L[j + 1]? = some R := ⟨_, List.getElem?_eq_getElem (by omega)⟩
      rw [hR] at hy
      injection hy with hy
      subst hy
      have cR := circ _ R hR
      by_cases j0 : j = 0
      · subst j0
        rw [a2] at hP
        cases hP
        rw [mkp_self hw h0]
        exact mkp_pos hw h0 cR (arc _ R (by omega) z hR).2.1
      · have hs := a7 (j - 1) P R (by rw [inner_at (by omega), show j - 1 + 1 = j by omega]; exact hP) (by rw [inner_at (by omega), show j - 1 + 1 + 1 = j + 1 by omega]; exact hR)
        rw [soonC_mk hw h0 cP cR] at hs
        have h1 := of_decide_eq_true hs
        have h2 : mkp B C w P ≠ mkp B C w R := fun e => ch_ne (ch j P R hP hR).1 (mkp_inj hw h0 cP cR e)
        grind
    · rw [mks_last (by omega)] at hy
      injection hy with hy
      subst hy
      by_cases e : B = E
      · rw [if_pos e]
        exact mkp_lt4 hw h0 cP
      · rw [if_neg e]
        by_cases j0 : j = 0
        · subst j0
          rw [a2] at hP
          cases hP
          rw [mkp_self hw h0]
          exact mkp_pos hw h0 hE2 (fun z => e z.symm)
        · have ha := arc j P (by omega) (by omega) hP
          have h1 := ((onArc_mkp hw h0 hE2).mp ha.1).2.resolve_left e
          have h2 : mkp B C w P ≠ mkp B C w E := fun z => ha.2.2 (mkp_inj hw h0 cP hE2 z)
          grind
  · intro p hp
    obtain ⟨j, hj⟩ := List.mem_iff_getElem?.mp hp
    rw [circ j p hj, hB]
theorem law_are (hw : w = 1 ∨ w = -1) (hr : 0 < r) (hB : dt (sb2 B C) (sb2 B C) = r * r) (hE : dt (sb2 E C) (sb2 E C) = r * r) (h : LawCh B E C w r m L) : areB B E C w r m L = true := by
  have h0 : 0 < dt (sb2 B C) (sb2 B C) := by
    rw [hB]
    exact Rat.mul_pos hr hr
  have hE2 : dt (sb2 E C) (sb2 E C) = dt (sb2 B C) (sb2 B C) := by rw [hE, hB]
  have circ : ∀ j p, L[j]? = some p → dt (sb2 p C) (sb2 p C) = dt (sb2 B C) (sb2 B C) := fun j p hp => by
    rw [h.sq p (List.mem_of_getElem? hp), hB]
  have hst := mono_step h.marks
  have hlen := h.len
  have big : ∀ j p, 0 < j → j + 1 < L.length → L[j]? = some p → p ≠ B ∧ (B = E ∨ mkp B C w p < mkp B C w E) := fun j p j0 j1 hp => by
    refine ⟨fun e => ?_, ?_⟩
    · have := hst (j - 1) 0 (mkp B C w B) (mkp B C w p) (by rw [mks_at (by omega), h.fst]; rfl) (by rw [show 0 + (j - 1) + 1 = j by omega, mks_at j1, hp]; rfl)
      rw [e] at this
      grind
    · by_cases e : B = E
      · exact .inl e
      · right
        have := hst (L.length - 1 - j - 1) j (mkp B C w p) (mkp B C w E) (by rw [mks_at j1, hp]; rfl) (by rw [mks_last (by omega), if_neg e])
        exact this
  unfold areB
  simp only [Bool.and_eq_true, decide_eq_true_iff, Bool.not_eq_true', decide_eq_false_iff_not, List.all_eq_true]
  rw [prAll_iff, prAll_iff]
  refine ⟨h.len, h.fst, h.last, fun z => ?_, fun z => ?_, fun p z => ?_, ?_, fun j x y hx hy => chB_iff.mpr (h.ch j x y hx hy)⟩
  · obtain ⟨j, j0, j1, hp⟩ := inner_mem.mp z
    exact (big j B j0 j1 hp).1 rfl
  · obtain ⟨j, j0, j1, hp⟩ := inner_mem.mp z
    rcases (big j E j0 j1 hp) with ⟨k1, k2 | k2⟩
    · exact k1 k2.symm
    · grind
  · obtain ⟨j, j0, j1, hp⟩ := inner_mem.mp z
    refine (onArc_mkp hw h0 hE2).mpr ⟨circ j p hp, ?_⟩
    rcases (big j p j0 j1 hp).2 with k2 | k2
    · exact .inl k2
    · exact .inr (Rat.le_of_lt k2)
  · intro j x y hx hy
    have hl := (List.getElem?_eq_some_iff.mp hy).1
    rw [inner_len] at hl
    rw [inner_at (by omega)] at hx hy
    rw [soonC_mk hw h0 (circ _ _ hx) (circ _ _ hy)]
    have := h.marks (j + 1) (mkp B C w x) (mkp B C w y) (by rw [mks_at (by omega), hx]; rfl) (by rw [mks_at (by omega), hy]; rfl)
    exact decide_eq_true (Rat.le_of_lt this)
theorem LawCh.mono {k : Rat} (h : LawCh B E C w r m L) (hm : m ≤ k) (hk : m ≤ r → 0 ≤ m) : LawCh B E C w r k L := by
  refine ⟨h.len, h.fst, h.last, h.marks, h.sq, fun j x y hx hy => ⟨(h.ch j x y hx hy).1, ?_⟩⟩
  have := (h.ch j x y hx hy).2
  unfold near at *
  by_cases z : r - k ≤ 0
  · exact .inl z
  · right
    rcases this with y1 | y1
    · grind
    · have := Rat.mul_nonneg (show 0 ≤ k - m by grind) (show 0 ≤ (r - m) + (r - k) by grind)
      grind
end
/-! gone the other way -/
theorem mid_comm (x y : Rat × Rat) : mid2 x y = mid2 y x := by
  unfold mid2
  exact Prod.ext (by simp only; grind) (by simp only; grind)
theorem LawCh.rev {B E C : Rat × Rat} {w : Int} {r m : Rat} {L : List (Rat × Rat)} (hw : w = 1 ∨ w = -1) (hr : 0 < r) (hB : dt (sb2 B C) (sb2 B C) = r * r) (hE : dt (sb2 E C) (sb2 E C) = r * r) (h : LawCh B E C w r m L) : LawCh E B C (-w) r m L.reverse := by
  have h0 : 0 < dt (sb2 B C) (sb2 B C) := by
    rw [hB]
    exact Rat.mul_pos hr hr
  have h0' : 0 < dt (sb2 E C) (sb2 E C) := by
    rw [hE]
    exact Rat.mul_pos hr hr
  have hE2 : dt (sb2 E C) (sb2 E C) = dt (sb2 B C) (sb2 B C) := by rw [hE, hB]
  have hw' : -w = 1 ∨ -w = -1 := by omega
  have hm : ((-w : Int) : Rat) = -(w : Rat) := Rat.intCast_neg w
  have hlen := h.len
  obtain ⟨e, e1, e2, e3⟩ := mkp_unit hw h0 hE2
  have be : B = E ↔ e = (1, 0) := by
    constructor
    · intro z
      refine plc_inj hw h0 (w := w) ?_
      rw [← e2, plc_one, z]
    · intro z
      rw [z, plc_one] at e2
      exact (sb_inj e2).symm
  have tr : ∀ {p u}, U u → sb2 p C = plc (sb2 B C) w u → mkp E C (-w) p = mkr (sbu u e) := fun {p u} hu hp => by
    refine mkp_mk hw' h0' ?_
    rw [e2, plc_sub hw e1, hp]
  have at' : ∀ j, j < L.length → L.reverse[j]? = L[L.length - 1 - j]? := fun j hj => List.getElem?_reverse hj
  have hst := mono_step h.marks
  refine ⟨by rw [List.length_reverse]; exact h.len, ?_, ?_, ?_, fun p hp => h.sq p (List.mem_reverse.mp hp), ?_⟩
  · rw [at' 0 (by omega)]
    exact h.last
  · rw [List.length_reverse, at' _ (by omega), show L.length - 1 - (L.length - 1) = 0 by omega]
    exact h.fst
  · intro j x y hx hy
    have hj : j + 1 < L.length := by
      have := (List.getElem?_eq_some_iff.mp hy).1
      rw [DL.mks_len (by rw [List.length_reverse]; omega), List.length_reverse] at this
      exact this
    obtain ⟨P, hP⟩ : ∃ P, L[L.length - 1 - j]? = some P := ⟨_, List.getElem?_eq_getElem (by omega)⟩
    obtain ⟨R, hR⟩ : ∃ R, L[L.length - 1 - (j + 1)]? = some R := ⟨_, List.getElem?_eq_getElem (by omega)⟩
    rw [mks_at (by rw [List.length_reverse]; exact hj), at' j (by omega), hP] at hx
    injection hx with hx
    subst hx
    have cP : dt (sb2 P C) (sb2 P C) = dt (sb2 B C) (sb2 B C) := by rw [h.sq P (List.mem_of_getElem? hP), hB]
    have cR : dt (sb2 R C) (sb2 R C) = dt (sb2 B C) (sb2 B C) := by rw [h.sq R (List.mem_of_getElem? hR), hB]
    obtain ⟨v, v1, v2, v3⟩ := mkp_unit hw h0 cP
    obtain ⟨u, u1, u2, u3⟩ := mkp_unit hw h0 cR
    rw [tr v1 v2]
    -- the place ahead of the last one
    have hu4 : ∀ z, (mks B E C w L)[L.length - 1 - (j + 1)]? = some z → z = mkr u := fun z hz => by
      rw [mks_at (by omega), hR] at hz
      injection hz with hz
      rw [← hz, u3]
    have hmu : (mks B E C w L)[L.length - 1 - (j + 1)]? = some (mkr u) := by
      rw [mks_at (by omega), hR, ← u3]
      rfl
    have key : e = (1, 0) → (0 < j → u ≠ (1, 0) ∨ j + 1 + 1 = L.length) := fun _ _ => by
      by_cases z : j + 1 + 1 = L.length
      · exact .inr z
      · left
        intro y
        have := hst (L.length - 1 - (j + 1) - 1) 0 (mkp B C w B) (mkr u) (by rw [mks_at (by omega), h.fst]; rfl) (by rw [show 0 + (L.length - 1 - (j + 1) - 1) + 1 = L.length - 1 - (j + 1) by omega]; exact hmu)
        rw [mkp_self hw h0, y, mk_one] at this
        grind
    by_cases z : j + 1 + 1 < L.length
    · rw [mks_at (by rw [List.length_reverse]; exact z), at' (j + 1) hj, hR] at hy
      injection hy with hy
      subst hy
      rw [tr u1 u2]
      have hu0 : u ≠ (1, 0) := fun y => by
        have := hst (L.length - 1 - (j + 1) - 1) 0 (mkp B C w B) (mkr u) (by rw [mks_at (by omega), h.fst]; rfl) (by rw [show 0 + (L.length - 1 - (j + 1) - 1) + 1 = L.length - 1 - (j + 1) by omega]; exact hmu)
        rw [mkp_self hw h0, y, mk_one] at this
        grind
      by_cases j0 : j = 0
      · subst j0
        have hPE : P = E := by
          rw [Nat.sub_zero, h.last] at hP
          injection hP with hP
          exact hP.symm
        have hve : v = e := by
          refine plc_inj hw h0 (w := w) ?_
          rw [← v2, hPE, e2]
        rw [hve, sbu_self e1, mk_one]
        refine mk_pos (sbu_U u1 e1) fun y => ?_
        -- then u is e
        have hRE : R = E := by
          refine mkp_inj hw' h0' (by rw [cR, hE2]) rfl ?_
          rw [tr u1 u2, y, mkp_self hw' h0', mk_one]
        have := h.ch (L.length - 1 - 1) R E (by rw [← hR]) (by rw [show L.length - 1 - 1 + 1 = L.length - 1 by omega]; exact h.last)
        exact ch_ne this.1 hRE
      · have hmv : (mks B E C w L)[L.length - 1 - j]? = some (mkr v) := by
          rw [mks_at (by omega), hP, ← v3]
          rfl
        have huv : mkr u < mkr v := h.marks (L.length - 1 - (j + 1)) _ _ hmu (by rw [show L.length - 1 - (j + 1) + 1 = L.length - 1 - j by omega]; exact hmv)
        by_cases y : e = (1, 0)
        · have hv0 : v ≠ (1, 0) := fun k => by
            rw [k, mk_one] at huv
            have := mk_pos u1 hu0
            grind
          rw [y, conj_mk u1 hu0, conj_mk v1 hv0]
          grind
        · have hve : mkr v ≤ mkr e := by
            have := hst (j - 1) (L.length - 1 - j) (mkr v) (mkp B C w E) hmv (by rw [show L.length - 1 - j + (j - 1) + 1 = L.length - 1 by omega, mks_last (by omega), if_neg (fun k => y (be.mp k))])
            rw [e3] at this
            exact Rat.le_of_lt this
          exact sub_lt u1 v1 e1 huv hve
    · rw [mks_last (by rw [List.length_reverse]; omega)] at hy
      injection hy with hy
      subst hy
      have hRB : R = B := by
        rw [show L.length - 1 - (j + 1) = 0 by omega, h.fst] at hR
        injection hR with hR
        exact hR.symm
      have hu1 : u = (1, 0) := by
        refine plc_inj hw h0 (w := w) ?_
        rw [← u2, hRB, plc_one]
      by_cases k : E = B
      · rw [if_pos k]
        exact mk_lt4 (sbu_U v1 e1)
      · rw [if_neg k, tr (show U (1, 0) by rw [← hu1]; exact u1) (plc_one _ _).symm]
        have hpb := (h.ch (L.length - 1 - (j + 1)) R P hR (by rw [show L.length - 1 - (j + 1) + 1 = L.length - 1 - j by omega]; exact hP)).1
        have hvu : mkr (1, 0) < mkr v := by
          rw [mk_one]
          refine mk_pos v1 fun y => ch_ne hpb (sb_inj (C := C) ?_)
          rw [u2, v2, hu1, y]
        have hve : mkr v ≤ mkr e := by
          by_cases j0 : j = 0
          · subst j0
            rw [Nat.sub_zero, h.last] at hP
            injection hP with hP
            have : v = e := by
              refine plc_inj hw h0 (w := w) ?_
              rw [← v2, ← hP, e2]
            rw [this]
            exact Rat.le_refl
          · have hmv : (mks B E C w L)[L.length - 1 - j]? = some (mkr v) := by
              rw [mks_at (by omega), hP, ← v3]
              rfl
            have := hst (j - 1) (L.length - 1 - j) (mkr v) (mkp B C w E) hmv (by rw [show L.length - 1 - j + (j - 1) + 1 = L.length - 1 by omega, mks_last (by omega), if_neg (fun y => k y.symm)])
            rw [e3] at this
            exact Rat.le_of_lt this
        exact sub_lt (by rw [← hu1]; exact u1) v1 e1 hvu hve
  · intro j x y hx hy
    have hj : j + 1 < L.length := by
      have := (List.getElem?_eq_some_iff.mp hy).1
      rw [List.length_reverse] at this
      exact this
    rw [at' j (by omega)] at hx
    rw [at' (j + 1) hj] at hy
    have := h.ch (L.length - 1 - (j + 1)) y x hy (by rw [show L.length - 1 - (j + 1) + 1 = L.length - 1 - j by omega]; exact hx)
    refine ⟨?_, ?_⟩
    · have h1 := this.1
      have h2 : cr (sb2 x C) (sb2 y C) = - cr (sb2 y C) (sb2 x C) := by
        unfold cr
        grind
      rw [hm, h2]
      grind
    · have h2 := this.2
      unfold near at *
      rw [mid_comm]
      exact h2
/-! turned by quarters and flipped -/
def ldq (q : Nat) (f : Int) (p : Rat × Rat) : Rat × Rat := ((qr q p).1, (qr q p).2 * f)
theorem qr_sb (q : Nat) (p c : Rat × Rat) : sb2 (qr q p) (qr q c) = qr q (sb2 p c) := by
  induction q with
  | zero => rfl
  | succ q ih =>
    simp only [qr]
    rw [← ih]
    unfold sb2
    exact Prod.ext (by simp only; grind) (by simp only)
theorem ldq_dt {q : Nat} {f : Int} (hf : f = 1 ∨ f = -1) (p c x y : Rat × Rat) : dt (sb2 (ldq q f p) (ldq q f c)) (sb2 (ldq q f x) (ldq q f y)) = dt (sb2 p c) (sb2 x y) := by
  have ff := w_sq hf
  rw [← qr_dt q (sb2 p c), ← qr_sb, ← qr_sb]
  unfold ldq dt sb2
  simp only
  generalize (f : Rat) = F at *
  grind
theorem ldq_cr {q : Nat} {f : Int} (p c x y : Rat × Rat) : cr (sb2 (ldq q f p) (ldq q f c)) (sb2 (ldq q f x) (ldq q f y)) = cr (sb2 p c) (sb2 x y) * f := by
  rw [← qr_cr q (sb2 p c), ← qr_sb, ← qr_sb]
  unfold ldq cr sb2
  simp only
  generalize (f : Rat) = F at *
  grind
theorem ldq_inj {q : Nat} {f : Int} (hf : f = 1 ∨ f = -1) {p c : Rat × Rat} (h : ldq q f p = ldq q f c) : p = c := by
  have := ldq_dt (q := q) hf p c p c
  rw [h] at this
  unfold dt sb2 at this
  simp only at this
  have k1 := rsq_nn (p.1 - c.1)
  have k2 := rsq_nn (p.2 - c.2)
  have e1 : (p.1 - c.1) * (p.1 - c.1) = 0 := by grind
  have e2 : (p.2 - c.2) * (p.2 - c.2) = 0 := by grind
  refine Prod.ext ?_ ?_
  · rcases Rat.mul_eq_zero.mp e1 with h | h <;> grind
  · rcases Rat.mul_eq_zero.mp e2 with h | h <;> grind
theorem LawCh.led {B E C : Rat × Rat} {w f : Int} {q : Nat} {r m : Rat} {L : List (Rat × Rat)} (hf : f = 1 ∨ f = -1) (h : LawCh B E C w r m L) : LawCh (ldq q f B) (ldq q f E) (ldq q f C) (w * f) r m (L.map (ldq q f)) := by
  have ff := w_sq hf
  have hm : ((w * f : Int) : Rat) = (w : Rat) * f := Rat.intCast_mul w f
  have mk : ∀ P, mkp (ldq q f B) (ldq q f C) (w * f) (ldq q f P) = mkp B C w P := fun P => by
    unfold mkp
    rw [ldq_cr, ldq_dt hf, ldq_dt hf, hm, show cr (sb2 B C) (sb2 P C) * (f : Rat) * ((w : Rat) * f) = cr (sb2 B C) (sb2 P C) * w * ((f : Rat) * f) by grind, ff, show cr (sb2 B C) (sb2 P C) * (w : Rat) * 1 = cr (sb2 B C) (sb2 P C) * w by grind]
  have ms : mks (ldq q f B) (ldq q f E) (ldq q f C) (w * f) (L.map (ldq q f)) = mks B E C w L := by
    unfold mks
    rw [← List.map_dropLast, List.map_map]
    congr 1
    · exact List.map_congr_left fun p _ => mk p
    · by_cases z : B = E
      · rw [if_pos z, if_pos (by rw [z])]
      · rw [if_neg z, if_neg (fun y => z (ldq_inj hf y)), mk]
  refine ⟨by rw [List.length_map]; exact h.len, by rw [List.getElem?_map, h.fst]; rfl, by rw [List.length_map, List.getElem?_map, h.last]; rfl, by rw [ms]; exact h.marks, ?_, ?_⟩
  · intro p hp
    obtain ⟨P, hP, rfl⟩ := List.mem_map.mp hp
    rw [ldq_dt hf]
    exact h.sq P hP
  · intro j x y hx hy
    rw [List.getElem?_map] at hx hy
    obtain ⟨X, hX⟩ : ∃ X, L[j]? = some X := by
      cases e : L[j]? with
      | none =>
        rw [e] at hx
        cases hx
      | some X => exact ⟨X, rfl⟩
    obtain ⟨Y, hY⟩ : ∃ Y, L[j + 1]? = some Y := by
      cases e : L[j + 1]? with
      | none =>
        rw [e] at hy
        cases hy
      | some Y => exact ⟨Y, rfl⟩
    rw [hX] at hx
    rw [hY] at hy
    injection hx with hx
    injection hy with hy
    subst hx
    subst hy
    have := h.ch j X Y hX hY
    refine ⟨?_, ?_⟩
    · rw [ldq_cr, hm, show cr (sb2 X C) (sb2 Y C) * (f : Rat) * ((w : Rat) * f) = cr (sb2 X C) (sb2 Y C) * w * ((f : Rat) * f) by grind, ff, show cr (sb2 X C) (sb2 Y C) * (w : Rat) * 1 = cr (sb2 X C) (sb2 Y C) * w by grind]
      exact this.1
    · have h2 := this.2
      have e : dt (mid2 (sb2 (ldq q f X) (ldq q f C)) (sb2 (ldq q f Y) (ldq q f C))) (mid2 (sb2 (ldq q f X) (ldq q f C)) (sb2 (ldq q f Y) (ldq q f C))) = dt (mid2 (sb2 X C) (sb2 Y C)) (mid2 (sb2 X C) (sb2 Y C)) := by
        have a1 := ldq_dt (q := q) hf X C X C
        have a2 := ldq_dt (q := q) hf X C Y C
        have a3 := ldq_dt (q := q) hf Y C Y C
        have md : ∀ u v : Rat × Rat, 4 * dt (mid2 u v) (mid2 u v) = dt u u + 2 * dt u v + dt v v := fun u v => by
          unfold mid2 dt
          simp only
          grind
        have b1 := md (sb2 (ldq q f X) (ldq q f C)) (sb2 (ldq q f Y) (ldq q f C))
        have b2 := md (sb2 X C) (sb2 Y C)
        rw [a1, a2, a3] at b1
        grind
      unfold near at *
      rw [e]
      exact h2
/-! never -/
theorem LawCh.no_tail {B E C : Rat × Rat} {w : Int} {r m : Rat} {L : List (Rat × Rat)} (h : LawCh B E C w r m L) : ¬ LawCh B E C w r m (L.drop 1) := fun k => by
  have h1 := k.fst
  rw [List.getElem?_drop] at h1
  exact ch_ne (h.ch 0 B B h.fst h1).1 rfl
theorem LawCh.no_init {B E C : Rat × Rat} {w : Int} {r m : Rat} {L : List (Rat × Rat)} (h : LawCh B E C w r m L) : ¬ LawCh B E C w r m L.dropLast := fun k => by
  have h1 := k.last
  have hl := k.len
  rw [List.length_dropLast] at h1 hl
  rw [List.getElem?_dropLast, if_pos (by omega)] at h1
  have h2 := h.last
  exact ch_ne (h.ch (L.length - 1 - 1) E E h1 (by rw [show L.length - 1 - 1 + 1 = L.length - 1 by omega]; exact h2)).1 rfl
theorem LawCh.no_other {B E C : Rat × Rat} {w : Int} {r m : Rat} {L : List (Rat × Rat)} (h : LawCh B E C w r m L) : ¬ LawCh B E C (-w) r m L := fun k => by
  have hl := h.len
  obtain ⟨y, hy⟩ : ∃ y, L[0 + 1]? = some y := ⟨_, List.getElem?_eq_getElem (by omega)⟩
  have h1 := (h.ch 0 B y h.fst hy).1
  have h2 := (k.ch 0 B y h.fst hy).1
  rw [show ((-w : Int) : Rat) = -(w : Rat) from Rat.intCast_neg w] at h2
  grind
end DM

namespace DL
open PySem PySem.Spec L2 DM
/-! chords looked at: promises -/
noncomputable def chU (w : Int) (r m : Rat) (X Y : Rat × Rat) : Bool := decide (0 < cr X Y * w) && (decide (r ≤ m) || decide ((r - m) * (r - m) ≤ dt (mid2 X Y) (mid2 X Y)))
def f_ischord : FP := fun ds Q => ∃ (X Y B E C : Rat × Rat) (w : Int) (r m : Rat), ds = [plD X, plD Y, arcP B E C w, numD m] ∧ (ArcK B E C w r ∧ Bd 100 m ∧ Bd2 470 X ∧ Bd2 470 Y) ∧ Q (.d (.bool (chU w r m X Y)))
theorem fm_ischord : FMono f_ischord := ⟨fun ds Q Q' hq ⟨X, Y, B, E, C, w, r, m, h1, h2, h3⟩ => ⟨X, Y, B, E, C, w, r, m, h1, h2, hq _ h3⟩⟩
instance : FMono f_ischord := fm_ischord
theorem ln_ischord : ∀ ds Q, f_ischord ds Q → ds.length = 4 := fun ds Q ⟨X, Y, B, E, C, w, r, m, h1, _⟩ => by rw [h1]; rfl
def f_arech : FP := fun ds Q => ∃ (B E C : Rat × Rat) (w : Int) (r m : Rat) (L : List (Rat × Rat)), ds = [arcP B E C w, .list (L.map plD), numD m] ∧ (ArcK B E C w r ∧ Bd 100 m) ∧ (L.length ≤ 1000 ∧ ∀ p ∈ L, Bd2 400 p) ∧ Q (.d (.bool (areB B E C w r m L)))
theorem fm_arech : FMono f_arech := ⟨fun ds Q Q' hq ⟨B, E, C, w, r, m, L, h1, h2, h3, h4⟩ => ⟨B, E, C, w, r, m, L, h1, h2, h3, hq _ h4⟩⟩
instance : FMono f_arech := fm_arech
theorem ln_arech : ∀ ds Q, f_arech ds Q → ds.length = 3 := fun ds Q ⟨B, E, C, w, r, m, L, h1, _⟩ => by rw [h1]; rfl
def f_lledq : FP := fun ds Q => ∃ (p : Rat × Rat) (q : Nat) (f : Int), ds = [plD p, .int q, .int f] ∧ (Bd2 400 p ∧ q < 4 ∧ (f = 1 ∨ f = -1)) ∧ Q (.d (plD (ldq q f p)))
theorem fm_lledq : FMono f_lledq := ⟨fun ds Q Q' hq ⟨p, q, f, h1, h2, h3⟩ => ⟨p, q, f, h1, h2, hq _ h3⟩⟩
instance : FMono f_lledq := fm_lledq
theorem ln_lledq : ∀ ds Q, f_lledq ds Q → ds.length = 3 := fun ds Q ⟨p, q, f, h1, _⟩ => by rw [h1]; rfl
theorem ldq_bd {k q : Nat} {f : Int} {p : Rat × Rat} (hf : f = 1 ∨ f = -1) (h : Bd2 k p) : Bd2 k (ldq q f p) := by
  have := qr_bd (q := q) h
  refine ⟨this.1, ?_⟩
  unfold ldq
  simp only
  rcases hf with e | e <;> subst e
  · rw [show (((1 : Int) : Rat)) = 1 from rfl, Rat.mul_one]
    exact this.2
  · rw [show (((-1 : Int) : Rat)) = -1 from rfl, show (qr q p).2 * (-1 : Rat) = -(qr q p).2 by grind]
    exact this.2.neg
theorem ArcK.rev {B E C : Rat × Rat} {w : Int} {r : Rat} (h : ArcK B E C w r) : ArcK E B C (-w) r := ⟨h.e, h.b, h.c, by have := h.w; omega, h.r0, h.rb, h.rE, h.rB⟩
theorem ArcK.other {B E C : Rat × Rat} {w : Int} {r : Rat} (h : ArcK B E C w r) : ArcK B E C (-w) r := ⟨h.b, h.e, h.c, by have := h.w; omega, h.r0, h.rb, h.rB, h.rE⟩
theorem ArcK.led {B E C : Rat × Rat} {w f : Int} {q : Nat} {r : Rat} (hf : f = 1 ∨ f = -1) (h : ArcK B E C w r) : ArcK (ldq q f B) (ldq q f E) (ldq q f C) (w * f) r :=
  ⟨ldq_bd hf h.b, ldq_bd hf h.e, ldq_bd hf h.c, by rcases h.w with e | e <;> rcases hf with k | k <;> subst e <;> subst k <;> decide, h.r0, h.rb, by rw [ldq_dt hf]; exact h.rB, by rw [ldq_dt hf]; exact h.rE⟩
def f_iswh : FP := fn1 PyData.int (fun _ => True) (fun _ => .bool true)
instance : FMono f_iswh := fm1
theorem ap_iswh {i : Int} {Q : Res → Prop} : f_iswh [.int i] Q = (True ∧ Q (.d (.bool true))) := fn1_ap int_inj
def f_isnumr : FP := fn1 numD (Bd 4000) (fun _ => .bool true)
instance : FMono f_isnumr := fm1
theorem ap_isnumr {u : Rat} {Q : Res → Prop} : f_isnumr [numD u] Q = (Bd 4000 u ∧ Q (.d (.bool true))) := fn1_ap num_inj
theorem ap_lisplc {x y : Rat} {Q : Res → Prop} : f_lisplc [.tuple [numD x, numD y]] Q = ((Bd 4000 x ∧ Bd 4000 y) ∧ Q (.d (.bool true))) := fn1_ap (x := (x, y)) pl_inj
theorem list_ends {α : Type} {L : List α} (h : 2 ≤ L.length) : ∃ x M y, L = x :: (M ++ [y]) := by
  cases L with
  | nil => exact absurd h (by simp)
  | cons x r =>
    have hr : r ≠ [] := fun e => by
      rw [e] at h
      exact absurd h (by simp)
    exact ⟨x, r.dropLast, r.getLast hr, by rw [List.dropLast_concat_getLast hr]⟩
theorem star_ends {α : Type} (f : α → PyData) (x y : α) (M : List α) : List.take 1 (List.map f (x :: (M ++ [y]))) ++ [PyData.list (List.take ((List.map f (x :: (M ++ [y]))).length + 1 - 3) (List.drop 1 (List.map f (x :: (M ++ [y])))))] ++ List.drop ((List.map f (x :: (M ++ [y]))).length + 1 - 3) (List.drop 1 (List.map f (x :: (M ++ [y])))) = [f x, .list (M.map f), f y] := by
  have e : (List.map f (x :: (M ++ [y]))).length + 1 - 3 = (M.map f).length := by
    rw [List.length_map, List.length_cons, List.length_append, List.length_map]
    simp only [List.length_cons, List.length_nil]
    omega
  rw [e, List.map_cons, List.map_append, List.map_cons, List.map_nil]
  show [f x] ++ [PyData.list (List.take (M.map f).length (M.map f ++ [f y]))] ++ List.drop (M.map f).length (M.map f ++ [f y]) = _
  rw [List.take_left, List.drop_left]
  rfl
theorem star_ends2 {α : Type} (f : α → PyData) {L : List α} {x y : α} {M : List α} (h : L = x :: (M ++ [y])) : List.take 1 (List.map f L) ++ [PyData.list (List.take ((List.map f L).length + 1 - 3) (List.drop 1 (List.map f L)))] ++ List.drop ((List.map f L).length + 1 - 3) (List.drop 1 (List.map f L)) = [f x, .list (M.map f), f y] := by
  rw [h]
  exact star_ends f x y M
theorem inner_cons {α : Type} (x y : α) (M : List α) : inner (x :: (M ++ [y])) = M := by
  unfold inner
  show (M ++ [y]).dropLast = M
  exact List.dropLast_concat
theorem are_cons (B E C : Rat × Rat) (w : Int) (r m : Rat) (x y : Rat × Rat) (M : List (Rat × Rat)) : areB B E C w r m (x :: (M ++ [y])) =
    (decide (x = B) && (decide (y = E) && (!decide (B ∈ M) && (!decide (E ∈ M) && (M.all (onArc B E C w) && (prAll (fun x y => soonC (sb2 B C) (sb2 x C) (sb2 y C) w) M && prAll (chB C w r m) (x :: (M ++ [y])))))))) := by
  unfold areB
  have l : (x :: (M ++ [y])).length = M.length + 2 := by
    rw [List.length_cons, List.length_append]
    rfl
  have h1 : (x :: (M ++ [y]))[M.length + 1]? = some y := by
    rw [List.getElem?_cons_succ, List.getElem?_append_right (Nat.le_refl _), Nat.sub_self]
    rfl
  rw [inner_cons, l, show M.length + 2 - 1 = M.length + 1 by omega, h1, decide_eq_true (show 2 ≤ M.length + 2 by omega), Bool.true_and, List.getElem?_cons_zero]
  simp only [Option.some.injEq]
theorem bools_f {α : Type} (f : α → Bool) (M : List α) : bools (M.map fun p => PyData.bool (f p)) = some (M.map f) := by
  have := bools_of (M.map f)
  rw [List.map_map] at this
  exact this
theorem sh_pls (M : List (Rat × Rat)) : SeqAt.shaped (PyData.list (M.map plD)) = true := by
  have h : ∀ x ∈ M.map plD, PyData.canLay0 x = true ∧ PyData.depth x ≤ 2 := fun x m => by
    obtain ⟨p, _, rfl⟩ := List.mem_map.mp m
    exact ⟨rfl, Nat.le_refl _⟩
  have h1 : PyData.canLay0 (.list (M.map plD)) = true := canAll fun x m => (h x m).1
  have h2 : PyData.depth (.list (M.map plD)) ≤ 3 := by
    show PyData.depthAll _ + 1 ≤ _
    have := depAll (n := 2) fun x m => (h x m).2
    omega
  show (_ && decide _) = true
  rw [h1, decide_eq_true (by omega)]
  rfl
theorem any_pl (M : List (Rat × Rat)) (B : Rat × Rat) : ((M.map plD).any fun z => z.eqv (PyData.tuple [numD B.1, numD B.2])) = decide (B ∈ M) := by
  rw [show PyData.tuple [numD B.1, numD B.2] = plD B from rfl]
  induction M with
  | nil => rfl
  | cons p r ih =>
    rw [List.map_cons, List.any_cons, ih, eqv_plD]
    by_cases z : p = B
    · rw [decide_eq_true z, Bool.true_or, decide_eq_true (by rw [z]; exact List.mem_cons_self)]
    · rw [decide_eq_false z, Bool.false_or]
      refine decide_eq_decide.mpr ?_
      rw [List.mem_cons]
      exact ⟨.inr, fun h => h.resolve_left fun e => z e.symm⟩
theorem cut_in {xs : List PyData} (h : 2 ≤ xs.length) : cutD xs (some 1) (some (-1)) = inner xs := by
  unfold cutD inner
  show (xs.drop (if (1 : Int) < 0 then ((1 : Int) + (xs.length : Int)).toNat else min (1 : Int).toNat xs.length)).take ((if (-1 : Int) < 0 then (-1 + (xs.length : Int)).toNat else min (-1 : Int).toNat xs.length) - (if (1 : Int) < 0 then ((1 : Int) + (xs.length : Int)).toNat else min (1 : Int).toNat xs.length)) = _
  rw [if_pos (by decide), if_neg (by decide), List.dropLast_eq_take, List.length_drop]
  have e1 : min (1 : Int).toNat xs.length = 1 := by
    show min 1 xs.length = 1
    omega
  rw [e1]
  congr 1
  omega
theorem inner_map {α β : Type} (f : α → β) (L : List α) : inner (L.map f) = (inner L).map f := by
  unfold inner
  rw [← List.map_drop, List.map_dropLast]
theorem all_mp {α : Type} (f : α → Bool) (M : List α) : (M.map f).all id = M.all f := by
  rw [List.all_map]
  rfl
def spD (C p : Rat × Rat) : PyData := plD (sb2 p C)
end DL

namespace Lw
open PySem PySem.Spec L2 DL DM
-- simp: num_negd, num_int, str_beq, String.reduceBEq, optD_some, sh_str

local macro_rules | `(tactic| walk_at "dl") => `(tactic| simp only [noF_non, noF_bool, noF_int, noF_str, noF_list, noF_tup, noF_ins, noF_num, obD_inj, Fv.l.injEq, Fv.la.injEq, forall_const, dAsD, dAsO, dAsB, resO_o, resB_b, dShB, slots_nil, slots_d, slots, Pc.get, Pc.put, Pc.ix, nd_nil, nd_one, outG_nil, outG_sh, outG_ow, outG_ob, frzD_ins, fvD, Sl.ob.injEq, Option.map_some, List.tail_cons, exists_eq_left', unxn, noxn_sh, noxn_ow, noxn_none, noxn_xn, dAsgS, dRevA, revA_t, revA_l, List.getD_cons_zero, List.getD_cons_succ, star_t, star_l, dLendT, lent, unown_sh, unown_ow, unown_dct, unown_ins, unown_none, isT_int_dict, isT_bool_dict, isT_tuple_dict, isT_str_dict, isT_list_dict, dRep, dSl, dNoP, dPart, part_int, slD_t, slD_l, inn_t, inn_l, dListO, lstO_l, lstO_t, lstO_n, dI_one, dI_add, dI_sub, dI_mul, dI_div, decide_true, decide_false, iZp, zipD, dCallN, dLc, dLcL, iLst, iTpl, dwipe, dYes, DL.rAll, bools, Option.map_some, List.all_cons, List.all_nil, List.any_cons, List.any_nil, id_eq, dSeq, dSet, dSetO, dIfS, dRet, dRetO, dCall, dCallO, dCallB, dCB, dOp, dVar, dC, dTup, dLst, dCons, dNil, dShare, dTru, dTst, dAnd, dOr, dNot, dAndV, dOrV, dNotV, dNeg, dIf, dIxO, dSetIx, dApp, dAug, dPar, dAsg, dNx, dNever, gNm, gTp, gsCons, gsNil, dIsi, dBits, rEqq, rNeq, rAbs, DL.rMax, DL.rMin, atB, endsP, endsB, startD, startB, List.map_cons, List.map_nil, List.length_cons, List.length_nil, List.append_nil, List.cons_append, List.nil_append, List.reduceReplicate, List.replicate_zero, Nat.reduceAdd, Nat.reduceSub, List.getElem?_cons_zero, List.getElem?_cons_succ, List.set_cons_zero, List.set_cons_succ, exists_eq_left, exists_eq_left', exists_eq_right, Option.some.injEq, true_and, and_true, PyData.int.injEq, PyData.bool.injEq, PyData.tuple.injEq, PyData.list.injEq, Sl.sh.injEq, exists_eq', atI_0, atI_1, atI_2, atI_3, atI_4, ixN_0, ixN_1, ixN_2, ap_plus, ap_minus, ap_times, ap_over, ap_opp, ap_shared, ap_ratio, ap_below, ap_whole, ap_side, ap_root, ap_less, ap_added, ap_scaled, ap_dot, ap_cross, ap_turned, ap_left, ap_dist, ap_heading, ap_behind, ap_sooner, ap_pheading, ap_iswh, ap_isnumr, ap_lisplc, List.cons.injEq, and_assoc, exists_and_left, numD_inj,
  rII_int, rIx_tup, rIx_list, rIx_num0, rIx_num1, asD_d, asD_o, tru_none, tru_bool, tru_int, tru_list, tru_tuple, tru_num, isN_none, isN_bool, isN_int, isN_str, isN_list, isN_tuple, isN_num, rLen_list, rLen_tuple, rLen_str, rLen_num, rInt1_int, rInt1_bool, sh_none, sh_bool, sh_int, sh_num, sh_nn, eqv_nn, eqv_bb, eqv_ii, eqv_ss, eqv_tt, eqv_ll, eqvAll_nil, eqvAll_cons, eqv_num, eqv_num_none, eqv_none_num, isT_int_NoneType, isT_int_bool, isT_int_int, isT_int_str, isT_int_list, isT_int_tuple, isT_int_num, isT_bool_NoneType, isT_bool_bool, isT_bool_int, isT_bool_str, isT_bool_list, isT_bool_tuple, isT_bool_num, isT_tuple_NoneType, isT_tuple_bool, isT_tuple_int, isT_tuple_str, isT_tuple_list, isT_tuple_tuple, isT_tuple_num, isT_str_NoneType, isT_str_bool, isT_str_int, isT_str_str, isT_str_list, isT_str_tuple, isT_str_num, isT_list_NoneType, isT_list_bool, isT_list_int, isT_list_str, isT_list_list, isT_list_tuple, isT_list_num, Bool.not_true, Bool.not_false, Bool.and_true, Bool.true_and, Bool.false_and, Bool.and_false, sizeLine_eq, Nat.reduceLeDiff, Nat.reduceLT, num_negd, num_int, str_beq, String.reduceBEq, optD_some, sh_str])
local macro_rules | `(tactic| walk_at "dk") => `(tactic| simp only [noF_non, noF_bool, noF_int, noF_str, noF_list, noF_tup, noF_ins, noF_num, obD_inj, Fv.l.injEq, Fv.la.injEq, forall_const, dAsD, dAsO, dAsB, resO_o, resB_b, dShB, slots_nil, slots_d, slots, Pc.get, Pc.put, Pc.ix, nd_nil, nd_one, outG_nil, outG_sh, outG_ow, outG_ob, frzD_ins, fvD, Sl.ob.injEq, Option.map_some, List.tail_cons, exists_eq_left', unxn, noxn_sh, noxn_ow, noxn_none, noxn_xn, dAsgS, dRevA, revA_t, revA_l, List.getD_cons_zero, List.getD_cons_succ, star_t, star_l, dLendT, lent, unown_sh, unown_ow, unown_dct, unown_ins, unown_none, isT_int_dict, isT_bool_dict, isT_tuple_dict, isT_str_dict, isT_list_dict, dRep, dSl, dNoP, dPart, part_int, slD_t, slD_l, inn_t, inn_l, dListO, lstO_l, lstO_t, lstO_n, dI_one, dI_add, dI_sub, dI_mul, dI_div, decide_true, decide_false, iZp, zipD, dCallN, dLc, iLst, iTpl, dwipe, dYes, DL.rAll, bools, Option.map_some, List.all_cons, List.all_nil, List.any_cons, List.any_nil, id_eq, dSeq, dSet, dSetO, dIfS, dRet, dRetO, dCall, dCallO, dCallB, dCB, dOp, dVar, dC, dTup, dLst, dCons, dNil, dShare, dTru, dTst, dAnd, dOr, dNot, dAndV, dOrV, dNotV, dNeg, dIf, dIxO, dSetIx, dApp, dAug, dPar, dAsg, dNx, dNever, gNm, gTp, gsCons, gsNil, dIsi, dBits, rEqq, rNeq, rAbs, DL.rMax, DL.rMin, atB, endsP, endsB, startD, startB, List.map_cons, List.map_nil, List.length_cons, List.length_nil, List.append_nil, List.cons_append, List.nil_append, List.reduceReplicate, List.replicate_zero, Nat.reduceAdd, Nat.reduceSub, List.getElem?_cons_zero, List.getElem?_cons_succ, List.set_cons_zero, List.set_cons_succ, exists_eq_left, exists_eq_left', exists_eq_right, Option.some.injEq, true_and, and_true, PyData.int.injEq, PyData.bool.injEq, PyData.tuple.injEq, PyData.list.injEq, Sl.sh.injEq, exists_eq', atI_0, atI_1, atI_2, atI_3, atI_4, ixN_0, ixN_1, ixN_2, ap_plus, ap_minus, ap_times, ap_over, ap_opp, ap_shared, ap_ratio, ap_below, ap_whole, ap_side, ap_root, ap_less, ap_added, ap_scaled, ap_dot, ap_cross, ap_turned, ap_left, ap_dist, ap_heading, ap_behind, ap_sooner, ap_pheading, ap_iswh, ap_isnumr, ap_lisplc, List.cons.injEq, and_assoc, exists_and_left, numD_inj,
  rII_int, rIx_tup, rIx_list, rIx_num0, rIx_num1, asD_d, asD_o, tru_none, tru_bool, tru_int, tru_list, tru_tuple, tru_num, isN_none, isN_bool, isN_int, isN_str, isN_list, isN_tuple, isN_num, rLen_list, rLen_tuple, rLen_str, rLen_num, rInt1_int, rInt1_bool, sh_none, sh_bool, sh_int, sh_num, sh_nn, eqv_nn, eqv_bb, eqv_ii, eqv_ss, eqv_tt, eqv_ll, eqvAll_nil, eqvAll_cons, eqv_num, eqv_num_none, eqv_none_num, isT_int_NoneType, isT_int_bool, isT_int_int, isT_int_str, isT_int_list, isT_int_tuple, isT_int_num, isT_bool_NoneType, isT_bool_bool, isT_bool_int, isT_bool_str, isT_bool_list, isT_bool_tuple, isT_bool_num, isT_tuple_NoneType, isT_tuple_bool, isT_tuple_int, isT_tuple_str, isT_tuple_list, isT_tuple_tuple, isT_tuple_num, isT_str_NoneType, isT_str_bool, isT_str_int, isT_str_str, isT_str_list, isT_str_tuple, isT_str_num, isT_list_NoneType, isT_list_bool, isT_list_int, isT_list_str, isT_list_list, isT_list_tuple, isT_list_num, Bool.not_true, Bool.not_false, Bool.and_true, Bool.true_and, Bool.false_and, Bool.and_false, sizeLine_eq, Nat.reduceLeDiff, Nat.reduceLT, num_negd, num_int, str_beq, String.reduceBEq, optD_some, sh_str])
local macro_rules | `(tactic| walk_at "ds") => `(tactic| simp only [noF_non, noF_bool, noF_int, noF_str, noF_list, noF_tup, noF_ins, noF_num, obD_inj, Fv.l.injEq, Fv.la.injEq, forall_const, dAsD, dAsO, dAsB, resO_o, resB_b, dShB, slots_nil, slots_d, slots, Pc.get, Pc.put, Pc.ix, nd_nil, nd_one, outG_nil, outG_sh, outG_ow, outG_ob, frzD_ins, fvD, Sl.ob.injEq, Option.map_some, List.tail_cons, exists_eq_left', unxn, noxn_sh, noxn_ow, noxn_none, noxn_xn, dAsgS, dRevA, revA_t, revA_l, List.getD_cons_zero, List.getD_cons_succ, star_t, star_l, dLendT, lent, unown_sh, unown_ow, unown_dct, unown_ins, unown_none, isT_int_dict, isT_bool_dict, isT_tuple_dict, isT_str_dict, isT_list_dict, dRep, dSl, dNoP, dPart, part_int, slD_t, slD_l, inn_t, inn_l, dListO, lstO_l, lstO_t, lstO_n, dI_one, dI_add, dI_sub, dI_mul, dI_div, decide_true, decide_false, iZp, zipD, dCallN, dLc, dLcL, iLst, iTpl, dwipe, dYes, DL.rAll, bools, Option.map_some, List.all_cons, List.all_nil, List.any_cons, List.any_nil, id_eq, dSeq, dSet, dSetO, dIfS, dRet, dRetO, dCall, dCallO, dCallB, dCB, dOp, dVar, dC, dTup, dLst, dCons, dNil, dShare, dTru, dTst, dAnd, dOr, dNot, dAndV, dOrV, dNotV, dNeg, dIf, dIxO, dSetIx, dApp, dAug, dPar, dAsg, dNx, dNever, gNm, gTp, gsCons, gsNil, dIsi, dBits, rEqq, rNeq, rAbs, DL.rMax, DL.rMin, atB, endsP, endsB, startD, startB, List.map_cons, List.map_nil, List.length_cons, List.length_nil, List.append_nil, List.cons_append, List.nil_append, List.reduceReplicate, List.replicate_zero, Nat.reduceAdd, Nat.reduceSub, List.getElem?_cons_zero, List.getElem?_cons_succ, List.set_cons_zero, List.set_cons_succ, exists_eq_left, exists_eq_left', exists_eq_right, Option.some.injEq, true_and, and_true, PyData.int.injEq, PyData.bool.injEq, PyData.tuple.injEq, PyData.list.injEq, Sl.sh.injEq, exists_eq', atI_0, atI_1, atI_2, atI_3, atI_4, ixN_0, ixN_1, ixN_2, ap_plus, ap_minus, ap_times, ap_over, ap_opp, ap_shared, ap_ratio, ap_below, ap_whole, ap_side, ap_root, ap_less, ap_added, ap_scaled, ap_dot, ap_cross, ap_turned, ap_left, ap_dist, ap_heading, ap_behind, ap_sooner, ap_pheading, ap_iswh, ap_isnumr, ap_lisplc, List.cons.injEq, and_assoc, exists_and_left, numD_inj,
  rII_int, rIx_tup, rIx_list, rIx_num0, rIx_num1, asD_d, asD_o, tru_none, tru_bool, tru_int, tru_list, tru_tuple, tru_num, isN_none, isN_bool, isN_int, isN_str, isN_list, isN_tuple, isN_num, rLen_list, rLen_tuple, rLen_str, rLen_num, rInt1_int, rInt1_bool, sh_none, sh_bool, sh_int, sh_num, sh_nn, eqv_nn, eqv_bb, eqv_ii, eqv_ss, eqv_tt, eqv_ll, eqvAll_nil, eqvAll_cons, eqv_num, eqv_num_none, eqv_none_num, isT_int_NoneType, isT_int_bool, isT_int_int, isT_int_str, isT_int_list, isT_int_tuple, isT_int_num, isT_bool_NoneType, isT_bool_bool, isT_bool_int, isT_bool_str, isT_bool_list, isT_bool_tuple, isT_bool_num, isT_tuple_NoneType, isT_tuple_bool, isT_tuple_int, isT_tuple_str, isT_tuple_list, isT_tuple_tuple, isT_tuple_num, isT_str_NoneType, isT_str_bool, isT_str_int, isT_str_str, isT_str_list, isT_str_tuple, isT_str_num, isT_list_NoneType, isT_list_bool, isT_list_int, isT_list_str, isT_list_list, isT_list_tuple, isT_list_num, Bool.not_true, Bool.not_false, Bool.and_true, Bool.true_and, Bool.false_and, Bool.and_false, sizeLine_eq, Nat.reduceLeDiff, Nat.reduceLT, num_negd, num_int, str_beq, String.reduceBEq, optD_some, sh_str, num_negd, num_int, str_beq, String.reduceBEq, optD_some, sh_str])
local macro_rules | `(tactic| walk_at "bd") => `(tactic| (apply Bd.mono; (repeat' (first | assumption | with_reducible apply Bd.add | with_reducible apply Bd.sub | with_reducible apply Bd.mul | with_reducible apply Bd.neg | with_reducible apply Bd.div)); decide))
local macro_rules | `(tactic| walk_at "sd") => `(tactic| ((repeat' (with_reducible refine And.intro ?_ ?_)) <;> try (first | assumption | exact mul_nd (by assumption) (by assumption) (by decide) | exact mul_nn (by assumption) (by assumption) (by decide) | exact mul_dd (by assumption) (by assumption) (by decide) | exact mul_dn (by assumption) (by assumption) (by decide) | exact den_mul_ne _ _ | exact dd_lt (by assumption) (by assumption) (by decide) | exact dn_lt (by assumption) (by assumption) (by decide) | exact Int.mul_ne_zero (den_ne _) (num_ne (by assumption)) | exact mul64 (by omega) (by omega) (by omega) (by omega) | exact div64 (by omega) (by omega) (by omega) | (walk_at "bd"))))


def topS (i : Nat) : Stmt := PySem.Challenge.pw_toolroad_k52_whole_chords_go_along.main.body.getD i (.Pass ⟨0, 0, 0, 0⟩)
abbrev s_is_whole : Stmt := topS 7
theorem sc_is_whole : FnScope ["thing"] ["thing"] (defScope s_is_whole) := ⟨rfl, rfl, rfl, by decide +kernel, rfl, by decide +kernel, by decide +kernel⟩
abbrev s_shared : Stmt := topS 8
theorem sc_shared : FnScope ["one", "other"] ["one", "other"] (defScope s_shared) := ⟨rfl, rfl, rfl, by decide +kernel, rfl, by decide +kernel, by decide +kernel⟩
abbrev s_opposite : Stmt := topS 12
theorem sc_opposite : FnScope ["u"] ["u"] (defScope s_opposite) := ⟨rfl, rfl, rfl, by decide +kernel, rfl, by decide +kernel, by decide +kernel⟩
abbrev s_is_below : Stmt := topS 16
theorem sc_is_below : FnScope ["u", "v"] ["u", "v"] (defScope s_is_below) := ⟨rfl, rfl, rfl, by decide +kernel, rfl, by decide +kernel, by decide +kernel⟩
abbrev s_whole : Stmt := topS 17
theorem sc_whole : FnScope ["u"] ["u"] (defScope s_whole) := ⟨rfl, rfl, rfl, by decide +kernel, rfl, by decide +kernel, by decide +kernel⟩
abbrev s_side_of : Stmt := topS 18
theorem sc_side_of : FnScope ["square", "side", "closer"] ["square"] (defScope s_side_of) := ⟨rfl, rfl, rfl, by decide +kernel, rfl, by decide +kernel, by decide +kernel⟩
abbrev s__law_urn : Stmt := topS 44
theorem sc__law_urn : FnScope ["_law_script", "_law_at", "_law_cell", "_law_great"] ["_law_script", "_law_at"] (defScope s__law_urn) := ⟨rfl, rfl, rfl, by decide +kernel, rfl, by decide +kernel, by decide +kernel⟩
abbrev s__law_draw : Stmt := topS 45
theorem sc__law_draw : FnScope ["_law_urn_here", "_law_wide", "_law_primes", "_law_turn_here", "_law_base", "_law_mixed", "_law_digit"] ["_law_urn_here", "_law_wide"] (defScope s__law_draw) := ⟨rfl, rfl, rfl, by decide +kernel, rfl, by decide +kernel, by decide +kernel⟩
abbrev s__law_both : Stmt := topS 46
theorem sc__law_both : FnScope ["_law_one", "_law_other"] ["_law_one", "_law_other"] (defScope s__law_both) := ⟨rfl, rfl, rfl, by decide +kernel, rfl, by decide +kernel, by decide +kernel⟩
abbrev s_is_number : Stmt := topS 9
theorem sc_is_number : FnScope ["thing"] ["thing"] (defScope s_is_number) := ⟨rfl, rfl, rfl, by decide +kernel, rfl, by decide +kernel, by decide +kernel⟩
abbrev s_ratio : Stmt := topS 10
theorem sc_ratio : FnScope ["top", "bottom", "both"] ["top", "bottom"] (defScope s_ratio) := ⟨rfl, rfl, rfl, by decide +kernel, rfl, by decide +kernel, by decide +kernel⟩
abbrev s_root : Stmt := topS 19
theorem sc_root : FnScope ["u", "top", "bottom"] ["u"] (defScope s_root) := ⟨rfl, rfl, rfl, by decide +kernel, rfl, by decide +kernel, by decide +kernel⟩
abbrev s_left_of : Stmt := topS 27
theorem sc_left_of : FnScope ["place"] ["place"] (defScope s_left_of) := ⟨rfl, rfl, rfl, by decide +kernel, rfl, by decide +kernel, by decide +kernel⟩
abbrev s__law_low : Stmt := topS 47
theorem sc__law_low : FnScope ["_law_top", "_law_bottom", "_law_both_here"] ["_law_top", "_law_bottom"] (defScope s__law_low) := ⟨rfl, rfl, rfl, by decide +kernel, rfl, by decide +kernel, by decide +kernel⟩
abbrev s__law_turn : Stmt := topS 58
theorem sc__law_turn : FnScope ["_law_urn_here", "_law_p", "_law_q"] ["_law_urn_here"] (defScope s__law_turn) := ⟨rfl, rfl, rfl, by decide +kernel, rfl, by decide +kernel, by decide +kernel⟩
abbrev s_plus : Stmt := topS 11
theorem sc_plus : FnScope ["u", "v"] ["u", "v"] (defScope s_plus) := ⟨rfl, rfl, rfl, by decide +kernel, rfl, by decide +kernel, by decide +kernel⟩
abbrev s_times : Stmt := topS 14
theorem sc_times : FnScope ["u", "v"] ["u", "v"] (defScope s_times) := ⟨rfl, rfl, rfl, by decide +kernel, rfl, by decide +kernel, by decide +kernel⟩
abbrev s_over : Stmt := topS 15
theorem sc_over : FnScope ["u", "v"] ["u", "v"] (defScope s_over) := ⟨rfl, rfl, rfl, by decide +kernel, rfl, by decide +kernel, by decide +kernel⟩
abbrev s_is_place : Stmt := topS 21
theorem sc_is_place : FnScope ["thing"] ["thing"] (defScope s_is_place) := ⟨rfl, rfl, rfl, by decide +kernel, rfl, by decide +kernel, by decide +kernel⟩
abbrev s_heading_of : Stmt := topS 28
theorem sc_heading_of : FnScope ["p", "q", "both"] ["p", "q"] (defScope s_heading_of) := ⟨rfl, rfl, rfl, by decide +kernel, rfl, by decide +kernel, by decide +kernel⟩
abbrev s__law_plus : Stmt := topS 48
theorem sc__law_plus : FnScope ["_law_u", "_law_v"] ["_law_u", "_law_v"] (defScope s__law_plus) := ⟨rfl, rfl, rfl, by decide +kernel, rfl, by decide +kernel, by decide +kernel⟩
abbrev s__law_minus : Stmt := topS 49
theorem sc__law_minus : FnScope ["_law_u", "_law_v"] ["_law_u", "_law_v"] (defScope s__law_minus) := ⟨rfl, rfl, rfl, by decide +kernel, rfl, by decide +kernel, by decide +kernel⟩
abbrev s__law_times : Stmt := topS 50
theorem sc__law_times : FnScope ["_law_u", "_law_v"] ["_law_u", "_law_v"] (defScope s__law_times) := ⟨rfl, rfl, rfl, by decide +kernel, rfl, by decide +kernel, by decide +kernel⟩
abbrev s__law_over : Stmt := topS 51
theorem sc__law_over : FnScope ["_law_u", "_law_v"] ["_law_u", "_law_v"] (defScope s__law_over) := ⟨rfl, rfl, rfl, by decide +kernel, rfl, by decide +kernel, by decide +kernel⟩
abbrev s__law_heading : Stmt := topS 57
theorem sc__law_heading : FnScope ["_law_turn_here", "_law_both_here", "_law_p", "_law_q"] ["_law_turn_here"] (defScope s__law_heading) := ⟨rfl, rfl, rfl, by decide +kernel, rfl, by decide +kernel, by decide +kernel⟩
abbrev s__law_within : Stmt := topS 60
theorem sc__law_within : FnScope ["_law_urn_here", "_law_radius", "_law_many"] ["_law_urn_here", "_law_radius"] (defScope s__law_within) := ⟨rfl, rfl, rfl, by decide +kernel, rfl, by decide +kernel, by decide +kernel⟩
abbrev s_minus : Stmt := topS 13
theorem sc_minus : FnScope ["u", "v"] ["u", "v"] (defScope s_minus) := ⟨rfl, rfl, rfl, by decide +kernel, rfl, by decide +kernel, by decide +kernel⟩
abbrev s_added : Stmt := topS 22
theorem sc_added : FnScope ["one", "other"] ["one", "other"] (defScope s_added) := ⟨rfl, rfl, rfl, by decide +kernel, rfl, by decide +kernel, by decide +kernel⟩
abbrev s_scaled : Stmt := topS 24
theorem sc_scaled : FnScope ["place", "u"] ["place", "u"] (defScope s_scaled) := ⟨rfl, rfl, rfl, by decide +kernel, rfl, by decide +kernel, by decide +kernel⟩
abbrev s_dot : Stmt := topS 25
theorem sc_dot : FnScope ["one", "other"] ["one", "other"] (defScope s_dot) := ⟨rfl, rfl, rfl, by decide +kernel, rfl, by decide +kernel, by decide +kernel⟩
abbrev s__law_add : Stmt := topS 52
theorem sc__law_add : FnScope ["_law_one", "_law_other"] ["_law_one", "_law_other"] (defScope s__law_add) := ⟨rfl, rfl, rfl, by decide +kernel, rfl, by decide +kernel, by decide +kernel⟩
abbrev s__law_less : Stmt := topS 53
theorem sc__law_less : FnScope ["_law_one", "_law_other"] ["_law_one", "_law_other"] (defScope s__law_less) := ⟨rfl, rfl, rfl, by decide +kernel, rfl, by decide +kernel, by decide +kernel⟩
abbrev s__law_scale : Stmt := topS 54
theorem sc__law_scale : FnScope ["_law_place", "_law_u"] ["_law_place", "_law_u"] (defScope s__law_scale) := ⟨rfl, rfl, rfl, by decide +kernel, rfl, by decide +kernel, by decide +kernel⟩
abbrev s__law_dot : Stmt := topS 55
theorem sc__law_dot : FnScope ["_law_one", "_law_other"] ["_law_one", "_law_other"] (defScope s__law_dot) := ⟨rfl, rfl, rfl, by decide +kernel, rfl, by decide +kernel, by decide +kernel⟩
abbrev s__law_cross : Stmt := topS 56
theorem sc__law_cross : FnScope ["_law_one", "_law_other"] ["_law_one", "_law_other"] (defScope s__law_cross) := ⟨rfl, rfl, rfl, by decide +kernel, rfl, by decide +kernel, by decide +kernel⟩
abbrev s__law_led : Stmt := topS 61
theorem sc__law_led : FnScope ["_law_place", "_law_quarters", "_law_flip", "_law_turn_here"] ["_law_place", "_law_quarters", "_law_flip"] (defScope s__law_led) := ⟨rfl, rfl, rfl, by decide +kernel, rfl, by decide +kernel, by decide +kernel⟩
abbrev s_lessened : Stmt := topS 23
theorem sc_lessened : FnScope ["one", "other"] ["one", "other"] (defScope s_lessened) := ⟨rfl, rfl, rfl, by decide +kernel, rfl, by decide +kernel, by decide +kernel⟩
abbrev s_cross : Stmt := topS 26
theorem sc_cross : FnScope ["one", "other"] ["one", "other"] (defScope s_cross) := ⟨rfl, rfl, rfl, by decide +kernel, rfl, by decide +kernel, by decide +kernel⟩
abbrev s_turned : Stmt := topS 29
theorem sc_turned : FnScope ["place", "by", "x", "y", "c", "s"] ["place", "by"] (defScope s_turned) := ⟨rfl, rfl, rfl, by decide +kernel, rfl, by decide +kernel, by decide +kernel⟩
abbrev s_fineness : Stmt := topS 39
theorem sc_fineness : FnScope ["radius", "within", "share", "square", "least", "parts"] ["radius", "within"] (defScope s_fineness) := ⟨rfl, rfl, rfl, by decide +kernel, rfl, by decide +kernel, by decide +kernel⟩
abbrev s__law_arc : Stmt := topS 59
theorem sc__law_arc : FnScope ["_law_urn_here", "_law_many", "_law_both_here", "_law_size", "_law_under", "_law_radius", "_law_centre", "_law_begin", "_law_end", "_law_b", "_law_e"] ["_law_urn_here", "_law_many"] (defScope s__law_arc) := ⟨rfl, rfl, rfl, by decide +kernel, rfl, by decide +kernel, by decide +kernel⟩
abbrev s_distance : Stmt := topS 30
theorem sc_distance : FnScope ["one", "other", "apart"] ["one", "other"] (defScope s_distance) := ⟨rfl, rfl, rfl, by decide +kernel, rfl, by decide +kernel, by decide +kernel⟩
abbrev s_is_behind_half : Stmt := topS 33
theorem sc_is_behind_half : FnScope ["one", "other", "way", "side"] ["one", "other", "way"] (defScope s_is_behind_half) := ⟨rfl, rfl, rfl, by decide +kernel, rfl, by decide +kernel, by decide +kernel⟩
abbrev s_radius_of : Stmt := topS 32
theorem sc_radius_of : FnScope ["arc"] ["arc"] (defScope s_radius_of) := ⟨rfl, rfl, rfl, by decide +kernel, rfl, by decide +kernel, by decide +kernel⟩
abbrev s_is_sooner : Stmt := topS 34
theorem sc_is_sooner : FnScope ["one", "other", "last", "way", "halves", "place"] ["one", "other", "last", "way"] (defScope s_is_sooner) := ⟨rfl, rfl, rfl, by decide +kernel, rfl, by decide +kernel, by decide +kernel⟩
abbrev s_lies_on_arc : Stmt := topS 35
theorem sc_lies_on_arc : FnScope ["arc", "place", "spokes", "word", "begin", "end", "centre", "way", "spot"] ["arc", "place"] (defScope s_lies_on_arc) := ⟨rfl, rfl, rfl, by decide +kernel, rfl, by decide +kernel, by decide +kernel⟩
abbrev s_is_chord : Stmt := topS 41
theorem sc_is_chord : FnScope ["one", "other", "arc", "within", "least", "middle", "way", "radius"] ["one", "other", "arc", "within"] (defScope s_is_chord) := ⟨rfl, rfl, rfl, by decide +kernel, rfl, by decide +kernel, by decide +kernel⟩
abbrev s_lies_on : Stmt := topS 36
theorem sc_lies_on : FnScope ["cut", "place", "whole_way", "part", "share"] ["cut", "place"] (defScope s_lies_on) := ⟨rfl, rfl, rfl, by decide +kernel, rfl, by decide +kernel, by decide +kernel⟩
abbrev s_chords : Stmt := topS 40
theorem sc_chords : FnScope ["arc", "within", "parts", "spoke", "found", "quarter", "word", "begin", "end", "centre", "way", "part", "place"] ["arc", "within"] (defScope s_chords) := ⟨rfl, rfl, rfl, by decide +kernel, rfl, by decide +kernel, by decide +kernel⟩
abbrev s_are_chords : Stmt := topS 42
theorem sc_are_chords : FnScope ["arc", "thing", "within", "spokes", "inner", "word", "begin", "end", "centre", "way", "first", "last", "between", "place", "one", "other"] ["arc", "thing", "within"] (defScope s_are_chords) := ⟨rfl, rfl, rfl, by decide +kernel, rfl, by decide +kernel, by decide +kernel⟩
abbrev s_law : Stmt := topS 62
theorem sc_law : FnScope ["_law_script", "_law_at", "_law_urn_here", "_law_room", "_law_told", "_law_more", "_law_arc_here", "_law_places", "_law_led_here", "_law_wrong", "_law_radius", "_law_quarters", "_law_flip", "_law_word", "_law_begin", "_law_end", "_law_centre", "_law_side", "_law_place"] ["_law_script"] (defScope s_law) := ⟨rfl, rfl, rfl, by decide +kernel, rfl, by decide +kernel, by decide +kernel⟩
structure Tx (K : Fg) (mg : Str → Option Value) where
  fd_is_whole : FuncData
  F_is_whole : FunD K "is_whole" "is_whole" (defArgs s_is_whole) (defBody s_is_whole) (defScope s_is_whole) [] [] (He.fAd K ("is_whole", none)) fd_is_whole
  g_is_whole : mg "is_whole" = some (.ref (He.fAd K ("is_whole", none)))
  fd_shared : FuncData
  F_shared : FunD K "shared" "shared" (defArgs s_shared) (defBody s_shared) (defScope s_shared) [] [] (He.fAd K ("shared", none)) fd_shared
  g_shared : mg "shared" = some (.ref (He.fAd K ("shared", none)))
  fd_opposite : FuncData
  F_opposite : FunD K "opposite" "opposite" (defArgs s_opposite) (defBody s_opposite) (defScope s_opposite) [] [] (He.fAd K ("opposite", none)) fd_opposite
  g_opposite : mg "opposite" = some (.ref (He.fAd K ("opposite", none)))
  fd_is_below : FuncData
  F_is_below : FunD K "is_below" "is_below" (defArgs s_is_below) (defBody s_is_below) (defScope s_is_below) [] [] (He.fAd K ("is_below", none)) fd_is_below
  g_is_below : mg "is_below" = some (.ref (He.fAd K ("is_below", none)))
  fd_whole : FuncData
  F_whole : FunD K "whole" "whole" (defArgs s_whole) (defBody s_whole) (defScope s_whole) [] [] (He.fAd K ("whole", none)) fd_whole
  g_whole : mg "whole" = some (.ref (He.fAd K ("whole", none)))
  fd_side_of : FuncData
  F_side_of : FunD K "side_of" "side_of" (defArgs s_side_of) (defBody s_side_of) (defScope s_side_of) [] [] (He.fAd K ("side_of", none)) fd_side_of
  g_side_of : mg "side_of" = some (.ref (He.fAd K ("side_of", none)))
  fd__law_urn : FuncData
  F__law_urn : FunD K "_law_urn" "_law_urn" (defArgs s__law_urn) (defBody s__law_urn) (defScope s__law_urn) [] [] (He.fAd K ("_law_urn", none)) fd__law_urn
  g__law_urn : mg "_law_urn" = some (.ref (He.fAd K ("_law_urn", none)))
  fd__law_draw : FuncData
  F__law_draw : FunD K "_law_draw" "_law_draw" (defArgs s__law_draw) (defBody s__law_draw) (defScope s__law_draw) [] [] (He.fAd K ("_law_draw", none)) fd__law_draw
  g__law_draw : mg "_law_draw" = some (.ref (He.fAd K ("_law_draw", none)))
  fd__law_both : FuncData
  F__law_both : FunD K "_law_both" "_law_both" (defArgs s__law_both) (defBody s__law_both) (defScope s__law_both) [] [] (He.fAd K ("_law_both", none)) fd__law_both
  g__law_both : mg "_law_both" = some (.ref (He.fAd K ("_law_both", none)))
  fd_is_number : FuncData
  F_is_number : FunD K "is_number" "is_number" (defArgs s_is_number) (defBody s_is_number) (defScope s_is_number) [] [] (He.fAd K ("is_number", none)) fd_is_number
  g_is_number : mg "is_number" = some (.ref (He.fAd K ("is_number", none)))
  fd_ratio : FuncData
  F_ratio : FunD K "ratio" "ratio" (defArgs s_ratio) (defBody s_ratio) (defScope s_ratio) [.int 1] [] (He.fAd K ("ratio", none)) fd_ratio
  g_ratio : mg "ratio" = some (.ref (He.fAd K ("ratio", none)))
  fd_root : FuncData
  F_root : FunD K "root" "root" (defArgs s_root) (defBody s_root) (defScope s_root) [] [] (He.fAd K ("root", none)) fd_root
  g_root : mg "root" = some (.ref (He.fAd K ("root", none)))
  fd_left_of : FuncData
  F_left_of : FunD K "left_of" "left_of" (defArgs s_left_of) (defBody s_left_of) (defScope s_left_of) [] [] (He.fAd K ("left_of", none)) fd_left_of
  g_left_of : mg "left_of" = some (.ref (He.fAd K ("left_of", none)))
  fd__law_low : FuncData
  F__law_low : FunD K "_law_low" "_law_low" (defArgs s__law_low) (defBody s__law_low) (defScope s__law_low) [] [] (He.fAd K ("_law_low", none)) fd__law_low
  g__law_low : mg "_law_low" = some (.ref (He.fAd K ("_law_low", none)))
  fd__law_turn : FuncData
  F__law_turn : FunD K "_law_turn" "_law_turn" (defArgs s__law_turn) (defBody s__law_turn) (defScope s__law_turn) [] [] (He.fAd K ("_law_turn", none)) fd__law_turn
  g__law_turn : mg "_law_turn" = some (.ref (He.fAd K ("_law_turn", none)))
  fd_plus : FuncData
  F_plus : FunD K "plus" "plus" (defArgs s_plus) (defBody s_plus) (defScope s_plus) [] [] (He.fAd K ("plus", none)) fd_plus
  g_plus : mg "plus" = some (.ref (He.fAd K ("plus", none)))
  fd_times : FuncData
  F_times : FunD K "times" "times" (defArgs s_times) (defBody s_times) (defScope s_times) [] [] (He.fAd K ("times", none)) fd_times
  g_times : mg "times" = some (.ref (He.fAd K ("times", none)))
  fd_over : FuncData
  F_over : FunD K "over" "over" (defArgs s_over) (defBody s_over) (defScope s_over) [] [] (He.fAd K ("over", none)) fd_over
  g_over : mg "over" = some (.ref (He.fAd K ("over", none)))
  fd_is_place : FuncData
  F_is_place : FunD K "is_place" "is_place" (defArgs s_is_place) (defBody s_is_place) (defScope s_is_place) [] [] (He.fAd K ("is_place", none)) fd_is_place
  g_is_place : mg "is_place" = some (.ref (He.fAd K ("is_place", none)))
  fd_heading_of : FuncData
  F_heading_of : FunD K "heading_of" "heading_of" (defArgs s_heading_of) (defBody s_heading_of) (defScope s_heading_of) [] [] (He.fAd K ("heading_of", none)) fd_heading_of
  g_heading_of : mg "heading_of" = some (.ref (He.fAd K ("heading_of", none)))
  fd__law_plus : FuncData
  F__law_plus : FunD K "_law_plus" "_law_plus" (defArgs s__law_plus) (defBody s__law_plus) (defScope s__law_plus) [] [] (He.fAd K ("_law_plus", none)) fd__law_plus
  g__law_plus : mg "_law_plus" = some (.ref (He.fAd K ("_law_plus", none)))
  fd__law_minus : FuncData
  F__law_minus : FunD K "_law_minus" "_law_minus" (defArgs s__law_minus) (defBody s__law_minus) (defScope s__law_minus) [] [] (He.fAd K ("_law_minus", none)) fd__law_minus
  g__law_minus : mg "_law_minus" = some (.ref (He.fAd K ("_law_minus", none)))
  fd__law_times : FuncData
  F__law_times : FunD K "_law_times" "_law_times" (defArgs s__law_times) (defBody s__law_times) (defScope s__law_times) [] [] (He.fAd K ("_law_times", none)) fd__law_times
  g__law_times : mg "_law_times" = some (.ref (He.fAd K ("_law_times", none)))
  fd__law_over : FuncData
  F__law_over : FunD K "_law_over" "_law_over" (defArgs s__law_over) (defBody s__law_over) (defScope s__law_over) [] [] (He.fAd K ("_law_over", none)) fd__law_over
  g__law_over : mg "_law_over" = some (.ref (He.fAd K ("_law_over", none)))
  fd__law_heading : FuncData
  F__law_heading : FunD K "_law_heading" "_law_heading" (defArgs s__law_heading) (defBody s__law_heading) (defScope s__law_heading) [] [] (He.fAd K ("_law_heading", none)) fd__law_heading
  g__law_heading : mg "_law_heading" = some (.ref (He.fAd K ("_law_heading", none)))
  fd__law_within : FuncData
  F__law_within : FunD K "_law_within" "_law_within" (defArgs s__law_within) (defBody s__law_within) (defScope s__law_within) [] [] (He.fAd K ("_law_within", none)) fd__law_within
  g__law_within : mg "_law_within" = some (.ref (He.fAd K ("_law_within", none)))
  fd_minus : FuncData
  F_minus : FunD K "minus" "minus" (defArgs s_minus) (defBody s_minus) (defScope s_minus) [] [] (He.fAd K ("minus", none)) fd_minus
  g_minus : mg "minus" = some (.ref (He.fAd K ("minus", none)))
  fd_added : FuncData
  F_added : FunD K "added" "added" (defArgs s_added) (defBody s_added) (defScope s_added) [] [] (He.fAd K ("added", none)) fd_added
  g_added : mg "added" = some (.ref (He.fAd K ("added", none)))
  fd_scaled : FuncData
  F_scaled : FunD K "scaled" "scaled" (defArgs s_scaled) (defBody s_scaled) (defScope s_scaled) [] [] (He.fAd K ("scaled", none)) fd_scaled
  g_scaled : mg "scaled" = some (.ref (He.fAd K ("scaled", none)))
  fd_dot : FuncData
  F_dot : FunD K "dot" "dot" (defArgs s_dot) (defBody s_dot) (defScope s_dot) [] [] (He.fAd K ("dot", none)) fd_dot
  g_dot : mg "dot" = some (.ref (He.fAd K ("dot", none)))
  fd__law_add : FuncData
  F__law_add : FunD K "_law_add" "_law_add" (defArgs s__law_add) (defBody s__law_add) (defScope s__law_add) [] [] (He.fAd K ("_law_add", none)) fd__law_add
  g__law_add : mg "_law_add" = some (.ref (He.fAd K ("_law_add", none)))
  fd__law_less : FuncData
  F__law_less : FunD K "_law_less" "_law_less" (defArgs s__law_less) (defBody s__law_less) (defScope s__law_less) [] [] (He.fAd K ("_law_less", none)) fd__law_less
  g__law_less : mg "_law_less" = some (.ref (He.fAd K ("_law_less", none)))
  fd__law_scale : FuncData
  F__law_scale : FunD K "_law_scale" "_law_scale" (defArgs s__law_scale) (defBody s__law_scale) (defScope s__law_scale) [] [] (He.fAd K ("_law_scale", none)) fd__law_scale
  g__law_scale : mg "_law_scale" = some (.ref (He.fAd K ("_law_scale", none)))
  fd__law_dot : FuncData
  F__law_dot : FunD K "_law_dot" "_law_dot" (defArgs s__law_dot) (defBody s__law_dot) (defScope s__law_dot) [] [] (He.fAd K ("_law_dot", none)) fd__law_dot
  g__law_dot : mg "_law_dot" = some (.ref (He.fAd K ("_law_dot", none)))
  fd__law_cross : FuncData
  F__law_cross : FunD K "_law_cross" "_law_cross" (defArgs s__law_cross) (defBody s__law_cross) (defScope s__law_cross) [] [] (He.fAd K ("_law_cross", none)) fd__law_cross
  g__law_cross : mg "_law_cross" = some (.ref (He.fAd K ("_law_cross", none)))
  fd__law_led : FuncData
  F__law_led : FunD K "_law_led" "_law_led" (defArgs s__law_led) (defBody s__law_led) (defScope s__law_led) [] [] (He.fAd K ("_law_led", none)) fd__law_led
  g__law_led : mg "_law_led" = some (.ref (He.fAd K ("_law_led", none)))
  fd_lessened : FuncData
  F_lessened : FunD K "lessened" "lessened" (defArgs s_lessened) (defBody s_lessened) (defScope s_lessened) [] [] (He.fAd K ("lessened", none)) fd_lessened
  g_lessened : mg "lessened" = some (.ref (He.fAd K ("lessened", none)))
  fd_cross : FuncData
  F_cross : FunD K "cross" "cross" (defArgs s_cross) (defBody s_cross) (defScope s_cross) [] [] (He.fAd K ("cross", none)) fd_cross
  g_cross : mg "cross" = some (.ref (He.fAd K ("cross", none)))
  fd_turned : FuncData
  F_turned : FunD K "turned" "turned" (defArgs s_turned) (defBody s_turned) (defScope s_turned) [] [] (He.fAd K ("turned", none)) fd_turned
  g_turned : mg "turned" = some (.ref (He.fAd K ("turned", none)))
  fd_fineness : FuncData
  F_fineness : FunD K "fineness" "fineness" (defArgs s_fineness) (defBody s_fineness) (defScope s_fineness) [] [] (He.fAd K ("fineness", none)) fd_fineness
  g_fineness : mg "fineness" = some (.ref (He.fAd K ("fineness", none)))
  fd__law_arc : FuncData
  F__law_arc : FunD K "_law_arc" "_law_arc" (defArgs s__law_arc) (defBody s__law_arc) (defScope s__law_arc) [] [] (He.fAd K ("_law_arc", none)) fd__law_arc
  g__law_arc : mg "_law_arc" = some (.ref (He.fAd K ("_law_arc", none)))
  fd_distance : FuncData
  F_distance : FunD K "distance" "distance" (defArgs s_distance) (defBody s_distance) (defScope s_distance) [] [] (He.fAd K ("distance", none)) fd_distance
  g_distance : mg "distance" = some (.ref (He.fAd K ("distance", none)))
  fd_is_behind_half : FuncData
  F_is_behind_half : FunD K "is_behind_half" "is_behind_half" (defArgs s_is_behind_half) (defBody s_is_behind_half) (defScope s_is_behind_half) [] [] (He.fAd K ("is_behind_half", none)) fd_is_behind_half
  g_is_behind_half : mg "is_behind_half" = some (.ref (He.fAd K ("is_behind_half", none)))
  fd_radius_of : FuncData
  F_radius_of : FunD K "radius_of" "radius_of" (defArgs s_radius_of) (defBody s_radius_of) (defScope s_radius_of) [] [] (He.fAd K ("radius_of", none)) fd_radius_of
  g_radius_of : mg "radius_of" = some (.ref (He.fAd K ("radius_of", none)))
  fd_is_sooner : FuncData
  F_is_sooner : FunD K "is_sooner" "is_sooner" (defArgs s_is_sooner) (defBody s_is_sooner) (defScope s_is_sooner) [] [] (He.fAd K ("is_sooner", none)) fd_is_sooner
  g_is_sooner : mg "is_sooner" = some (.ref (He.fAd K ("is_sooner", none)))
  fd_lies_on_arc : FuncData
  F_lies_on_arc : FunD K "lies_on_arc" "lies_on_arc" (defArgs s_lies_on_arc) (defBody s_lies_on_arc) (defScope s_lies_on_arc) [] [] (He.fAd K ("lies_on_arc", none)) fd_lies_on_arc
  g_lies_on_arc : mg "lies_on_arc" = some (.ref (He.fAd K ("lies_on_arc", none)))
  fd_is_chord : FuncData
  F_is_chord : FunD K "is_chord" "is_chord" (defArgs s_is_chord) (defBody s_is_chord) (defScope s_is_chord) [] [] (He.fAd K ("is_chord", none)) fd_is_chord
  g_is_chord : mg "is_chord" = some (.ref (He.fAd K ("is_chord", none)))
  fd_lies_on : FuncData
  F_lies_on : FunD K "lies_on" "lies_on" (defArgs s_lies_on) (defBody s_lies_on) (defScope s_lies_on) [] [] (He.fAd K ("lies_on", none)) fd_lies_on
  g_lies_on : mg "lies_on" = some (.ref (He.fAd K ("lies_on", none)))
  fd_chords : FuncData
  F_chords : FunD K "chords" "chords" (defArgs s_chords) (defBody s_chords) (defScope s_chords) [] [] (He.fAd K ("chords", none)) fd_chords
  g_chords : mg "chords" = some (.ref (He.fAd K ("chords", none)))
  fd_are_chords : FuncData
  F_are_chords : FunD K "are_chords" "are_chords" (defArgs s_are_chords) (defBody s_are_chords) (defScope s_are_chords) [] [] (He.fAd K ("are_chords", none)) fd_are_chords
  g_are_chords : mg "are_chords" = some (.ref (He.fAd K ("are_chords", none)))
  fd_law : FuncData
  F_law : FunD K "law" "law" (defArgs s_law) (defBody s_law) (defScope s_law) [] [] (He.fAd K ("law", none)) fd_law
  g_law : mg "law" = some (.ref (He.fAd K ("law", none)))
  m_abs : mg "abs" = none
  m_all : mg "all" = none
  m_bool : mg "bool" = none
  m_int : mg "int" = none
  m_isinstance : mg "isinstance" = none
  m_len : mg "len" = none
  m_list : mg "list" = none
  m_max : mg "max" = none
  m_min : mg "min" = none
  m_range : mg "range" = none
  m_tuple : mg "tuple" = none
  m_zip : mg "zip" = none
  c_ONE : CstD K mg "ONE" (PyData.tuple [(PyData.int 1), (PyData.int 1)])
  c_NOUGHT : CstD K mg "NOUGHT" (PyData.tuple [(PyData.int 0), (PyData.int 1)])
  c_HALF : CstD K mg "HALF" (PyData.tuple [(PyData.int 1), (PyData.int 2)])
theorem b_is_whole {K : Fg} {mg : Str → Option Value} (T : Tx K mg) : Binds K T.fd_is_whole ["thing"] [] := T.F_is_whole.bindsN fun _ _ _ _ _ _ us hl => match us, hl with | [_], _ => rfl
theorem fm_is_whole : FMono f_iswh := fm1
theorem ln_is_whole : ∀ ds Q, f_iswh ds Q → ds.length = (["thing"] : List Str).length := ln1
theorem ok_is_whole {P : Program} {w : World} {K : Fg} {mg : Str → Option Value} {base : Heap} (T : Tx K mg) : FnOk P w K mg base CX0 1 (He.fAd K ("is_whole", none)) T.fd_is_whole ["thing"] (spP K f_iswh) := by
  refine ok_pure T.F_is_whole sc_is_whole fm_is_whole ln_is_whole (fun cdv A outer s H E Z hr => ⟨_, (dss_one (ds_ret (de_and (de_isi (de_var 0) kf_int rfl T.m_isinstance rfl T.m_int bt_int bb_isinstance) (de_one (de_not (de_isi (de_var 0) kf_bool rfl T.m_isinstance rfl T.m_bool bt_bool bb_isinstance)))))), fun ds Q h => ?_⟩)
  obtain ⟨i, rfl, _, hq⟩ := h
  walk_at "dl"
  exact hq
theorem b_shared {K : Fg} {mg : Str → Option Value} (T : Tx K mg) : Binds K T.fd_shared ["one", "other"] [] := T.F_shared.bindsN fun _ _ _ _ _ _ us hl => match us, hl with | [_, _], _ => rfl
theorem fm_shared : FMono f_shared := fm2
theorem ln_shared : ∀ ds Q, f_shared ds Q → ds.length = (["one", "other"] : List Str).length := ln2
theorem ok_shared {P : Program} {w : World} {K : Fg} {mg : Str → Option Value} {base : Heap} (T : Tx K mg) : FnOk P w K mg base CX0 1 (He.fAd K ("shared", none)) T.fd_shared ["one", "other"] (spP K f_shared) := by
  refine ok_pure T.F_shared sc_shared fm_shared ln_shared (fun cdv A outer s H E Z hr => ⟨_, (dss_cons (ds_par (i := 0) (j := 1) rfl sc_shared.nd rfl rfl (by decide) rfl rfl (da_cons (de_b cd_abs rfl T.m_abs bb_abs (da_cons (de_var 0) da_nil)) (da_cons (de_b cd_abs rfl T.m_abs bb_abs (da_cons (de_var 1) da_nil)) da_nil)) (fun _ h => ps_par rfl sc_shared.nd rfl rfl (by decide) rfl rfl h (by rfl)))
    (dss_cons (ds_while PassesOwn.never (dt_cmp od_gt (de_var 1) de_int)
    (dss_one (ds_par (i := 0) (j := 1) rfl sc_shared.nd rfl rfl (by decide) rfl rfl (da_cons (de_var 1) (da_cons (de_op od_mod (de_var 0) (de_var 1)) da_nil)) (fun _ h => ps_par rfl sc_shared.nd rfl rfl (by decide) rfl rfl h (by rfl)))))
    (dss_one (ds_ret (de_var 0))))), fun ds Q h => ?_⟩)
  obtain ⟨a, b, rfl, _, hq⟩ := h
  walk_at "dl"
  rw [abs_if, abs_if]
  refine ⟨fun m δ => ∃ x y : Int, δ = [some (.sh (.int x)), some (.sh (.int y))] ∧ 0 ≤ x ∧ 0 ≤ y ∧ Int.gcd x y = Int.gcd a b ∧ m = y.toNat, ⟨_, _, _, rfl, by omega, by omega, rfl, rfl⟩, ?_⟩
  rintro m δ ⟨x, y, rfl, hx, hy, hg, rfl⟩
  walk_at "dl"
  by_cases h : 0 < y
  · simp only [h, decide_true]
    have h1 := Int.fmod_nonneg_of_pos x h
    have h2 := Int.fmod_lt_of_pos x h
    exact ⟨by omega, (x.fmod y).toNat, by omega, hy, h1, by rw [gcd_turn hx h]; exact hg, rfl⟩
  · simp only [h, decide_false]
    have e : y = 0 := by omega
    subst e
    rw [← gcd_zero hx, hg]
    exact hq
theorem b_opposite {K : Fg} {mg : Str → Option Value} (T : Tx K mg) : Binds K T.fd_opposite ["u"] [] := T.F_opposite.bindsN fun _ _ _ _ _ _ us hl => match us, hl with | [_], _ => rfl
theorem fm_opposite : FMono f_opp := fm1
theorem ln_opposite : ∀ ds Q, f_opp ds Q → ds.length = (["u"] : List Str).length := ln1
theorem ok_opposite {P : Program} {w : World} {K : Fg} {mg : Str → Option Value} {base : Heap} (T : Tx K mg) : FnOk P w K mg base CX0 1 (He.fAd K ("opposite", none)) T.fd_opposite ["u"] (spP K f_opp) := by
  refine ok_pure T.F_opposite sc_opposite fm_opposite ln_opposite (fun cdv A outer s H E Z hr => ⟨_, (dss_one (ds_ret (de_tup (da_cons (de_op od_sub de_int (de_ix (de_var 0) de_int)) (da_cons (de_ix (de_var 0) de_int) da_nil))))), fun ds Q h => ?_⟩)
  obtain ⟨u, rfl, _, hq⟩ := h
  walk_at "dl"
  try rw [num_negd]
  exact hq
theorem b_is_below {K : Fg} {mg : Str → Option Value} (T : Tx K mg) : Binds K T.fd_is_below ["u", "v"] [] := T.F_is_below.bindsN fun _ _ _ _ _ _ us hl => match us, hl with | [_, _], _ => rfl
theorem fm_is_below : FMono f_below := fm2
theorem ln_is_below : ∀ ds Q, f_below ds Q → ds.length = (["u", "v"] : List Str).length := ln2
theorem ok_is_below {P : Program} {w : World} {K : Fg} {mg : Str → Option Value} {base : Heap} (T : Tx K mg) : FnOk P w K mg base CX0 1 (He.fAd K ("is_below", none)) T.fd_is_below ["u", "v"] (spP K f_below) := by
  refine ok_pure T.F_is_below sc_is_below fm_is_below ln_is_below (fun cdv A outer s H E Z hr => ⟨_, (dss_one (ds_ret (de_cmp od_lt (de_op od_mul (de_ix (de_var 0) de_int) (de_ix (de_var 1) de_int)) (de_op od_mul (de_ix (de_var 1) de_int) (de_ix (de_var 0) de_int))))), fun ds Q h => ?_⟩)
  obtain ⟨u, v, rfl, ⟨hu, hv⟩, hq⟩ := h
  walk_at "dl"
  refine ⟨mulW hu.1 (by rw [Int.natAbs_natCast]; exact hv.2) (by decide), mulW hv.1 (by rw [Int.natAbs_natCast]; exact hu.2) (by decide), ?_⟩
  simp only [← Rat.lt_iff]
  exact hq
theorem b_whole {K : Fg} {mg : Str → Option Value} (T : Tx K mg) : Binds K T.fd_whole ["u"] [] := T.F_whole.bindsN fun _ _ _ _ _ _ us hl => match us, hl with | [_], _ => rfl
theorem fm_whole : FMono f_whole := fm1
theorem ln_whole : ∀ ds Q, f_whole ds Q → ds.length = (["u"] : List Str).length := ln1
theorem ok_whole {P : Program} {w : World} {K : Fg} {mg : Str → Option Value} {base : Heap} (T : Tx K mg) : FnOk P w K mg base CX0 1 (He.fAd K ("whole", none)) T.fd_whole ["u"] (spP K f_whole) := by
  refine ok_pure T.F_whole sc_whole fm_whole ln_whole (fun cdv A outer s H E Z hr => ⟨_, (dss_one (ds_ret (de_op od_div (de_ix (de_var 0) de_int) (de_ix (de_var 0) de_int)))), fun ds Q h => ?_⟩)
  obtain ⟨u, rfl, hu, hq⟩ := h
  walk_at "dl"
  refine ⟨divA (den_ne u) (by rw [Int.natAbs_natCast]; exact hu.2) (by decide), ?_⟩
  rw [Int.fdiv_eq_ediv_of_nonneg _ (by omega), ← Rat.floor_def]
  exact hq
theorem b_side_of {K : Fg} {mg : Str → Option Value} (T : Tx K mg) : Binds K T.fd_side_of ["square"] [] := T.F_side_of.bindsN fun _ _ _ _ _ _ us hl => match us, hl with | [_], _ => rfl
theorem fm_side_of : FMono f_side := fm_side
theorem ln_side_of : ∀ ds Q, f_side ds Q → ds.length = (["square"] : List Str).length := ln_side
theorem ok_side_of {P : Program} {w : World} {K : Fg} {mg : Str → Option Value} {base : Heap} (T : Tx K mg) : FnOk P w K mg base CX0 1 (He.fAd K ("side_of", none)) T.fd_side_of ["square"] (spP K f_side) := by
  refine ok_pure T.F_side_of sc_side_of fm_side_of ln_side_of (fun cdv A outer s H E Z hr => ⟨_, (dss_cons (ds_if (dt_cmp od_lt (de_var 0) de_int)
    (dss_one (ds_ret (de_var 0)))
    dss_nil)
    (dss_cons (ds_set (i := 1) sc_side_of.nd rfl (by first | exact Or.inl rfl | exact Or.inr rfl) (de_op od_shl de_int (de_op od_div (de_op od_add (de_bits (de_var 0)) de_int) de_int)))
    (dss_cons (ds_set (i := 2) sc_side_of.nd rfl (by first | exact Or.inl rfl | exact Or.inr rfl) (de_op od_div (de_op od_add (de_var 1) (de_op od_div (de_var 0) (de_var 1))) de_int))
    (dss_cons (ds_while PassesOwn.never (dt_cmp od_lt (de_var 2) (de_var 1))
    (dss_cons (ds_set (i := 1) sc_side_of.nd rfl (by first | exact Or.inl rfl | exact Or.inr rfl) (de_var 2))
    (dss_one (ds_set (i := 2) sc_side_of.nd rfl (by first | exact Or.inl rfl | exact Or.inr rfl) (de_op od_div (de_op od_add (de_var 1) (de_op od_div (de_var 0) (de_var 1))) de_int)))))
    (dss_one (ds_ret (de_var 1))))))), fun ds Q h => ?_⟩)
  obtain ⟨n, rfl, ⟨h0, hz⟩, hq⟩ := h
  walk_at "dl"
  by_cases h : n < 2
  · simp only [h, decide_true]
    have : n = 0 ∨ n = 1 := by omega
    rcases this with rfl | rfl
    · exact hq 0 (by omega) (by omega) (by omega)
    · exact hq 1 (by omega) (by omega) (by omega)
  · simp only [h, decide_false]
    have hb := bits_bound n
    have hb2 := bits_le hz (by omega)
    generalize Builtin.Int.intBits n = b at hb hb2 ⊢
    have e2 : ((b : Int) + 1).fdiv 2 = ((b + 1) / 2 : Nat) := by rw [Int.fdiv_eq_ediv_of_nonneg _ (by omega)]; omega
    rw [e2, Int.one_mul, Int.toNat_natCast]
    have hc : (b + 1) / 2 ≤ 4000 := by omega
    have hs : n < 2 ^ ((b + 1) / 2) * 2 ^ ((b + 1) / 2) := by
      have : (2 : Nat) ^ b ≤ 2 ^ ((b + 1) / 2) * 2 ^ ((b + 1) / 2) := by
        rw [← Nat.pow_add]
        exact Nat.pow_le_pow_right (by omega) (by omega)
      have h3 : (((2 : Nat) ^ ((b + 1) / 2) * 2 ^ ((b + 1) / 2) : Nat) : Int) = 2 ^ ((b + 1) / 2) * 2 ^ ((b + 1) / 2) := by
        rw [Int.natCast_mul, Int.natCast_pow]
        rfl
      rw [← h3]
      omega
    have hp : (0 : Int) < 2 ^ ((b + 1) / 2) := Int.pow_pos (by omega)
    have hz2 : ((2 : Int) ^ ((b + 1) / 2)).natAbs < 2 ^ 4001 := by
      rw [Int.natAbs_pow]
      exact Nat.pow_lt_pow_right (by decide) (by omega)
    refine ⟨div64 (by omega) (by omega) (by omega), pow64 (by omega) (by omega) (by omega) (by omega), ?_⟩
    generalize (2 : Int) ^ ((b + 1) / 2) = s at hs hp hz2 ⊢
    refine ⟨divA (by omega) hz2 (by decide), div64 (by omega) (by omega) (by omega), ?_⟩
    refine while_op (fun m δ => ∃ x : Int, δ = [some (.sh (.int n)), some (.sh (.int x)), some (.sh (.int ((x + n / x) / 2)))] ∧ 0 < x ∧ x.natAbs < 2 ^ 4001 ∧ n < (x + 1) * (x + 1) ∧ m = x.toNat) ⟨_, s, ?_, hp, hz2, ?_, rfl⟩ ?_
    · rw [Int.fdiv_eq_ediv_of_nonneg _ (by omega), Int.fdiv_eq_ediv_of_nonneg _ (by omega)]
    · have := sq_succ (r := s) (by omega)
      omega
    · rintro W hW m δ ⟨x, rfl, hx, hxz, hxn, rfl⟩
      walk_at "dl"
      have hq0 : 0 ≤ n / x := Int.ediv_nonneg h0 (by omega)
      have hcl : 0 < (x + n / x) / 2 := by
        by_cases hx1 : x = 1
        · subst hx1
          rw [Int.ediv_one]
          omega
        · omega
      have hnw := newton h0 hx
      have hend := newton_end (n := n) hx
      generalize (x + n / x) / 2 = c at *
      by_cases hlt : c < x
      · simp only [hlt, decide_true]
        refine ⟨divA (by omega) (Nat.lt_trans (show c.natAbs < x.natAbs by omega) hxz) (by decide), div64 (by omega) (by omega) (by omega), c.toNat, by omega, hW _ _ ⟨c, ?_, hcl, Nat.lt_trans (show c.natAbs < x.natAbs by omega) hxz, hnw, rfl⟩⟩
        rw [Int.fdiv_eq_ediv_of_nonneg _ (by omega), Int.fdiv_eq_ediv_of_nonneg _ (by omega)]
      · simp only [hlt, decide_false]
        exact hq x (by omega) (hend (by omega)) hxn
theorem b__law_urn {K : Fg} {mg : Str → Option Value} (T : Tx K mg) : Binds K T.fd__law_urn ["_law_script", "_law_at"] [] := T.F__law_urn.bindsN fun _ _ _ _ _ _ us hl => match us, hl with | [_, _], _ => rfl
theorem fm__law_urn : FMono f_bag := fm_bag
theorem ln__law_urn : ∀ ds Q, f_bag ds Q → ds.length = (["_law_script", "_law_at"] : List Str).length := ln_bag
theorem ok__law_urn {P : Program} {w : World} {K : Fg} {mg : Str → Option Value} {base : Heap} (T : Tx K mg) : FnOk P w K mg base CX0 1 (He.fAd K ("_law_urn", none)) T.fd__law_urn ["_law_script", "_law_at"] (spP K f_bag) := by
  refine ok_pure T.F__law_urn sc__law_urn fm__law_urn ln__law_urn (fun cdv A outer s H E Z hr => ⟨_, (dss_cons (ds_set (i := 2) sc__law_urn.nd rfl (by first | exact Or.inl rfl | exact Or.inr rfl) de_int)
    (dss_cons (ds_if (dt_cmp od_lt (de_var 1) (de_b cd_len rfl T.m_len bb_len (da_cons (de_var 0) da_nil)))
    (dss_one (ds_set (i := 2) sc__law_urn.nd rfl (by first | exact Or.inl rfl | exact Or.inr rfl) (de_ix (de_var 0) (de_var 1))))
    dss_nil)
    (dss_cons (ds_set (i := 3) sc__law_urn.nd rfl (by first | exact Or.inl rfl | exact Or.inr rfl) (de_b cd_abs rfl T.m_abs bb_abs (da_cons (de_var 2) da_nil)))
    (dss_cons (ds_if (dt_cmp od_lt (de_var 3) (de_op od_powB de_int de_int))
    (dss_one (ds_set (i := 3) sc__law_urn.nd rfl (by first | exact Or.inl rfl | exact Or.inr rfl) de_int))
    dss_nil)
    (dss_one (ds_retO (do_lst (da_cons (de_var 3) (da_cons (de_op od_add (de_op od_add (de_op od_add (de_op od_mod (de_var 2) de_int) (de_op od_mul (de_op od_mul de_int (de_var 1)) (de_var 1))) (de_op od_mul de_int (de_var 1))) de_int) (da_cons de_int da_nil)))))))))), fun ds Q h => ?_⟩)
  obtain ⟨ns, k, rfl, hl, h1, h2, hq⟩ := h
  refine seq_at (fun δ => δ = [some (.sh (.list (ns.map .int))), some (.sh (.int k)), some (.sh (.int 0)), none]) (by walk_at "dl") ?_
  rintro _ rfl
  refine seq_at (fun δ => ∃ c : Int, δ = [some (.sh (.list (ns.map .int))), some (.sh (.int k)), some (.sh (.int c)), none]) ?_ ?_
  · walk_at "dl"
    by_cases h : k < ((ns.map PyData.int).length : Int)
    · simp only [h, decide_true]
      rw [List.length_map] at h
      obtain ⟨z, e, _⟩ := atI_ints h1 h
      exact ⟨_, e, z, rfl⟩
    · simp only [h, decide_false]
  rintro _ ⟨c, rfl⟩
  refine seq_at (fun δ => ∃ g : Int, 0 ≤ g ∧ δ = [some (.sh (.list (ns.map .int))), some (.sh (.int k)), some (.sh (.int c)), some (.sh (.int g))]) ?_ ?_
  · walk_at "dl"
    exact ⟨_, by split <;> omega, rfl⟩
  rintro _ ⟨g, hg, rfl⟩
  refine seq_at (fun δ => ∃ g : Int, 0 ≤ g ∧ δ = [some (.sh (.list (ns.map .int))), some (.sh (.int k)), some (.sh (.int c)), some (.sh (.int g))]) ?_ ?_
  · walk_at "dl"
    refine ⟨powB64 (by omega) (by omega) (by omega) (by omega), ?_⟩
    split
    · exact ⟨0, by omega, rfl⟩
    · exact ⟨g, hg, rfl⟩
  rintro _ ⟨g, hg, rfl⟩
  have p1 := fmod_in (a := c) (b := 1000000000000000003) (by omega)
  walk_at "dl"
  refine ⟨by omega, mul64 (by omega) (by omega) (by omega) (by omega), mul64 (by omega) (by omega) (by omega) (by omega), mul64 (by omega) (by omega) (by omega) (by omega), ?_⟩
  have q1 := mul_in (a := k) (b := k) (A := 1001) (B := 1001) (by omega) (by omega) (by omega) (by omega)
  have q2 : 97 * k * k = 97 * (k * k) := Int.mul_assoc ..
  exact hq _ ⟨_, _, _, rfl, hg, by omega, by omega, by omega, by omega⟩
theorem b__law_draw {K : Fg} {mg : Str → Option Value} (T : Tx K mg) : Binds K T.fd__law_draw ["_law_urn_here", "_law_wide"] [] := T.F__law_draw.bindsN fun _ _ _ _ _ _ us hl => match us, hl with | [_, _], _ => rfl
theorem bm__law_draw : BMono f_take := bm1
theorem ln__law_draw : ∀ xs ds Q, f_take xs ds Q → ds.length + 1 = (["_law_urn_here", "_law_wide"] : List Str).length := bl1
theorem ok__law_draw {P : Program} {w : World} {K : Fg} {mg : Str → Option Value} {base : Heap} (T : Tx K mg) : FnOk P w K mg base CX0 1 (He.fAd K ("_law_draw", none)) T.fd__law_draw ["_law_urn_here", "_law_wide"] (spB K f_take) := by
  refine ok_bag T.F__law_draw sc__law_draw bm__law_draw ln__law_draw (fun cdv A outer s H E Z hr => ⟨_, (dss_cons (ds_if (dt_cmp od_gt (de_ixo 0 de_int) de_int)
    (dss_cons (ds_set (i := 6) sc__law_draw.nd rfl (by first | exact Or.inl rfl | exact Or.inr rfl) (de_op od_mod (de_ixo 0 de_int) (de_var 1)))
    (dss_cons (ds_setix 0 (de_op od_div (de_ixo 0 de_int) (de_var 1)) de_int)
    (dss_one (ds_ret (de_var 6)))))
    dss_nil)
    (dss_cons (ds_set (i := 2) sc__law_draw.nd rfl (by first | exact Or.inl rfl | exact Or.inr rfl) (de_tup (da_cons de_int (da_cons de_int (da_cons de_int (da_cons de_int (da_cons de_int (da_cons de_int (da_cons de_int da_nil)))))))))
    (dss_cons (ds_setix 0 (de_op od_add (de_ixo 0 de_int) de_int) de_int)
    (dss_cons (ds_set (i := 3) sc__law_draw.nd rfl (by first | exact Or.inl rfl | exact Or.inr rfl) (de_ixo 0 de_int))
    (dss_cons (ds_set (i := 4) sc__law_draw.nd rfl (by first | exact Or.inl rfl | exact Or.inr rfl) (de_op od_add (de_op od_add (de_op od_mul (de_ixo 0 de_int) (de_op od_add (de_op od_mul de_int (de_var 3)) de_int)) (de_op od_mul (de_op od_mul de_int (de_var 3)) (de_var 3))) de_int))
    (dss_cons (ds_set (i := 5) sc__law_draw.nd rfl (by first | exact Or.inl rfl | exact Or.inr rfl) (de_op od_mod (de_op od_powB (de_var 4) de_int) (de_ix (de_var 2) (de_op od_mod (de_var 3) de_int))))
    (dss_one (ds_ret (de_op od_mod (de_op od_div (de_op od_mod (de_op od_mul (de_var 5) (de_op od_add (de_op od_div (de_var 5) de_int) (de_var 3))) (de_ix (de_var 2) (de_op od_mod (de_op od_add (de_var 3) de_int) de_int))) de_int) (de_var 1)))))))))), fun xs ds Q h => ?_⟩)
  obtain ⟨n, m, ⟨g, k, st, rfl, h1, h2, h3, h4, h5⟩, hn, rfl, ⟨hm, hm2⟩, hq⟩ := h
  have hn' : n + 1 ≤ 1000000 := hn
  have hm3 : m < 18446744073709551616 := hm2
  walk_at "dl"
  by_cases hg : 0 < g
  · simp only [hg, decide_true]
    refine ⟨by omega, div64 (by omega) (by omega) (by omega), hq _ _ (fmod_in hm) ⟨_, _, _, rfl, fdiv_nn h1 hm, h2, h3, h4, by omega⟩⟩
  · simp only [hg, decide_false]
    have p1 := mul_in (a := k) (b := 2 * (st + 1) + 1) (A := 2305843009213693952) (B := 2000001) h2 (by omega) (by omega) (by omega)
    have p2 := mul_in (a := 6007 * (st + 1)) (b := st + 1) (A := 6007000000) (B := 1000000) (by omega) (by omega) (by omega) (by omega)
    refine ⟨mul64 (by omega) (by omega) (by omega) (by omega), mul64 (by omega) (by omega) (by omega) (by omega), mul64 (by omega) (by omega) (by omega) (by omega), mul64 (by omega) (by omega) (by omega) (by omega), powB90 (by omega) (by omega) (by omega) (by omega), by decide, ?_⟩
    have r1 := fmod_in (a := st + 1) (b := 7) (by omega)
    have r2 := fmod_in (a := st + 1 + 3) (b := 7) (by omega)
    obtain ⟨p, e1, p3, p4⟩ := prime_at r1.1 r1.2
    obtain ⟨q, e2, q3, q4⟩ := prime_at r2.1 r2.2
    refine ⟨_, e1, ?_⟩
    walk_at "dl"
    generalize (k * (2 * (st + 1) + 1) + 6007 * (st + 1) * (st + 1) + 53) ^ Int.toNat 3 = X at *
    have s1 := fmod_in (a := X) (b := p) (by omega)
    generalize X.fmod p = Y at *
    have s2 := fdiv_nn s1.1 (show (0 : Int) < 8191 by decide)
    have s3 : Y.fdiv 8191 ≤ Y := by
      rw [Int.fdiv_eq_ediv_of_nonneg _ (by omega)]
      exact Int.ediv_le_self _ s1.1
    refine ⟨by omega, div64 (by omega) (by omega) (by omega), mul64 (by omega) (by omega) (by omega) (by omega), by decide, _, e2, ?_⟩
    walk_at "dl"
    generalize Y * (Y.fdiv 8191 + (st + 1)) = X2 at *
    have s4 := fmod_in (a := X2) (b := q) (by omega)
    generalize X2.fmod q = Y2 at *
    refine ⟨by omega, div64 (by omega) (by omega) (by omega), by omega, ?_⟩
    exact hq _ _ (fmod_in hm) ⟨_, _, _, rfl, h1, h2, h3, by omega, by omega⟩
theorem b__law_both {K : Fg} {mg : Str → Option Value} (T : Tx K mg) : Binds K T.fd__law_both ["_law_one", "_law_other"] [] := T.F__law_both.bindsN fun _ _ _ _ _ _ us hl => match us, hl with | [_, _], _ => rfl
theorem fm__law_both : FMono f_shared := fm2
theorem ln__law_both : ∀ ds Q, f_shared ds Q → ds.length = (["_law_one", "_law_other"] : List Str).length := ln2
theorem ok__law_both {P : Program} {w : World} {K : Fg} {mg : Str → Option Value} {base : Heap} (T : Tx K mg) : FnOk P w K mg base CX0 1 (He.fAd K ("_law_both", none)) T.fd__law_both ["_law_one", "_law_other"] (spP K f_shared) := by
  refine ok_pure T.F__law_both sc__law_both fm__law_both ln__law_both (fun cdv A outer s H E Z hr => ⟨_, (dss_cons (ds_par (i := 0) (j := 1) rfl sc__law_both.nd rfl rfl (by decide) rfl rfl (da_cons (de_b cd_abs rfl T.m_abs bb_abs (da_cons (de_var 0) da_nil)) (da_cons (de_b cd_abs rfl T.m_abs bb_abs (da_cons (de_var 1) da_nil)) da_nil)) (fun _ h => ps_par rfl sc__law_both.nd rfl rfl (by decide) rfl rfl h (by rfl)))
    (dss_cons (ds_while PassesOwn.never (dt_cmp od_gt (de_var 1) de_int)
    (dss_one (ds_par (i := 0) (j := 1) rfl sc__law_both.nd rfl rfl (by decide) rfl rfl (da_cons (de_var 1) (da_cons (de_op od_mod (de_var 0) (de_var 1)) da_nil)) (fun _ h => ps_par rfl sc__law_both.nd rfl rfl (by decide) rfl rfl h (by rfl)))))
    (dss_one (ds_ret (de_var 0))))), fun ds Q h => ?_⟩)
  obtain ⟨a, b, rfl, _, hq⟩ := h
  walk_at "dl"
  rw [abs_if, abs_if]
  refine ⟨fun m δ => ∃ x y : Int, δ = [some (.sh (.int x)), some (.sh (.int y))] ∧ 0 ≤ x ∧ 0 ≤ y ∧ Int.gcd x y = Int.gcd a b ∧ m = y.toNat, ⟨_, _, _, rfl, by omega, by omega, rfl, rfl⟩, ?_⟩
  rintro m δ ⟨x, y, rfl, hx, hy, hg, rfl⟩
  walk_at "dl"
  by_cases h : 0 < y
  · simp only [h, decide_true]
    have h1 := Int.fmod_nonneg_of_pos x h
    have h2 := Int.fmod_lt_of_pos x h
    exact ⟨by omega, (x.fmod y).toNat, by omega, hy, h1, by rw [gcd_turn hx h]; exact hg, rfl⟩
  · simp only [h, decide_false]
    have e : y = 0 := by omega
    subst e
    rw [← gcd_zero hx, hg]
    exact hq
theorem b_is_number {K : Fg} {mg : Str → Option Value} (T : Tx K mg) : Binds K T.fd_is_number ["thing"] [] := T.F_is_number.bindsN fun _ _ _ _ _ _ us hl => match us, hl with | [_], _ => rfl
theorem fm_is_number : FMono f_isnumr := fm1
theorem ln_is_number : ∀ ds Q, f_isnumr ds Q → ds.length = (["thing"] : List Str).length := ln1
theorem ok_is_number {P : Program} {w : World} {K : Fg} {mg : Str → Option Value} {base : Heap} (T : Tx K mg) : FnOk P w K mg base CX0 2 (He.fAd K ("is_number", none)) T.fd_is_number ["thing"] (spP K f_isnumr) := by
  refine ok_pure T.F_is_number sc_is_number fm_is_number ln_is_number (fun cdv A outer s H E Z hr => ⟨_, (dss_cons (ds_if (Dw.pt (dw_or (dt_not (dt_val (de_isi (de_var 0) kf_tuple rfl T.m_isinstance rfl T.m_tuple bt_tuple bb_isinstance))) (dw_or (dt_cmp (od_ne hr.units) (de_b cd_len rfl T.m_len bb_len (da_cons (de_var 0) da_nil)) de_int) (dw_or (dt_not (dt_val (de_call (ok_is_whole T) fm_is_whole (hr.mono (by decide)) rfl T.g_is_whole T.F_is_whole.kp (b_is_whole T) .nil (fun _ => .nil) (da_cons (de_ix (de_var 0) de_int) da_nil)))) (dw_or1 (dt_not (dt_val (de_call (ok_is_whole T) fm_is_whole (hr.mono (by decide)) rfl T.g_is_whole T.F_is_whole.kp (b_is_whole T) .nil (fun _ => .nil) (da_cons (de_ix (de_var 0) de_int) da_nil)))))))))
    (dss_one (ds_ret de_bl))
    dss_nil)
    (dss_one (ds_ret (de_and (de_cmp od_gt (de_ix (de_var 0) de_int) de_int) (de_one (de_cmp (od_eq hr.units) (de_call (ok_shared T) fm_shared (hr.mono (by decide)) rfl T.g_shared T.F_shared.kp (b_shared T) .nil (fun _ => .nil) (da_cons (de_ix (de_var 0) de_int) (da_cons (de_ix (de_var 0) de_int) da_nil))) de_int)))))), fun ds Q h => ?_⟩)
  obtain ⟨u, rfl, hu, hq⟩ := h
  unfold numD
  walk_at "dl"
  have e1 : ((((2 : Nat) : Int)) == 2) = true := rfl
  have e2 : (0 : Int) < (u.den : Int) := by
    have := Nat.pos_of_ne_zero u.den_nz
    omega
  have e3 : ((u.num.gcd (u.den : Int) : Nat) : Int) = 1 := by
    have : u.num.natAbs.gcd u.den = 1 := u.reduced
    rw [show u.num.gcd (u.den : Int) = u.num.natAbs.gcd u.den from rfl, this]
    rfl
  rw [decide_eq_true e2, e3]
  simp only [e1, Bool.not_true, beq_self_eq_true]
  exact hq
theorem bx_ratio_1 {K : Fg} {mg : Str → Option Value} (T : Tx K mg) : ∃ ds, Vals [V.int 1] ds ∧ Binds K T.fd_ratio ["top", "bottom"] ds := T.F_ratio.binds1 1 0 (List.cons_ne_nil _ _) rfl (fun T kV doc pm an cdv ct us its h1 h2 => match us, its, h1, h2 with | [_], [_], _, _ => ⟨_, rfl, rfl⟩)
theorem b_ratio_1 {K : Fg} {mg : Str → Option Value} (T : Tx K mg) : Vals [V.int 1] (Classical.choose (bx_ratio_1 T)) ∧ Binds K T.fd_ratio ["top", "bottom"] (Classical.choose (bx_ratio_1 T)) := Classical.choose_spec (bx_ratio_1 T)
theorem dd_ratio_1 {K : Fg} : ∀ H, DL.DpAll K H [V.int 1] [PyData.int 1] := fun _ => .cons (.int 1) .nil
theorem bx_ratio_2 {K : Fg} {mg : Str → Option Value} (T : Tx K mg) : ∃ ds, Vals [] ds ∧ Binds K T.fd_ratio ["top", "bottom"] ds := T.F_ratio.binds1 2 1 (List.cons_ne_nil _ _) rfl (fun T kV doc pm an cdv ct us its h1 h2 => match us, its, h1, h2 with | [_, _], [_], _, _ => ⟨_, rfl, rfl⟩)
theorem b_ratio_2 {K : Fg} {mg : Str → Option Value} (T : Tx K mg) : Vals [] (Classical.choose (bx_ratio_2 T)) ∧ Binds K T.fd_ratio ["top", "bottom"] (Classical.choose (bx_ratio_2 T)) := Classical.choose_spec (bx_ratio_2 T)
theorem dd_ratio_2 {K : Fg} : ∀ H, DL.DpAll K H [] [] := fun _ => .nil
theorem b_ratio_1_bottom {K : Fg} {mg : Str → Option Value} (T : Tx K mg) : KBn K T.fd_ratio ["top", "bottom"] 1 ["bottom"] (fun us ws => us ++ ws) (fun vs zs => vs ++ zs) := kb1 T.F_ratio 1 ["bottom"] (List.cons_ne_nil _ _) (fun T kV doc pm an cdv ct us its ws h1 h2 h3 => match us, its, ws, h1, h2, h3 with | [_], [_], [_], _, _, _ => ⟨_, rfl, rfl⟩)
theorem fm_ratio : FMono f_ratio := fm2
theorem ln_ratio : ∀ ds Q, f_ratio ds Q → ds.length = (["top", "bottom"] : List Str).length := ln2
theorem ok_ratio {P : Program} {w : World} {K : Fg} {mg : Str → Option Value} {base : Heap} (T : Tx K mg) : FnOk P w K mg base CX0 2 (He.fAd K ("ratio", none)) T.fd_ratio ["top", "bottom"] (spP K f_ratio) := by
  refine ok_pure T.F_ratio sc_ratio fm_ratio ln_ratio (fun cdv A outer s H E Z hr => ⟨_, (dss_cons (ds_if (dt_cmp (od_eq hr.units) (de_var 1) de_int)
    (dss_one ds_never)
    dss_nil)
    (dss_cons (ds_set (i := 2) sc_ratio.nd rfl (by first | exact Or.inl rfl | exact Or.inr rfl) (de_call (ok_shared T) fm_shared (hr.mono (by decide)) rfl T.g_shared T.F_shared.kp (b_shared T) .nil (fun _ => .nil) (da_cons (de_var 0) (da_cons (de_var 1) da_nil))))
    (dss_cons (ds_if (dt_cmp od_lt (de_var 1) de_int)
    (dss_one (ds_set (i := 2) sc_ratio.nd rfl (by first | exact Or.inl rfl | exact Or.inr rfl) (de_op od_sub de_int (de_var 2))))
    dss_nil)
    (dss_one (ds_ret (de_tup (da_cons (de_op od_div (de_var 0) (de_var 2)) (da_cons (de_op od_div (de_var 1) (de_var 2)) da_nil)))))))), fun ds Q h => ?_⟩)
  obtain ⟨a, b, rfl, ⟨hb, hz⟩, hq⟩ := h
  walk_at "dl"
  have hb0 : (b == 0) = false := by simpa using hb
  rw [hb0]
  have hg : 0 < Int.gcd a b := Int.gcd_pos_of_ne_zero_right _ hb
  have hs : Int.gcd a b < 2 ^ 9000 := Nat.lt_of_le_of_lt (Nat.le_of_dvd (by omega) (Int.gcd_dvd_natAbs_right a b)) hz
  have e1 : (0 - (Int.gcd a b : Int)).natAbs = Int.gcd a b := by omega
  have e2 : ((Int.gcd a b : Nat) : Int).natAbs = Int.gcd a b := by omega
  by_cases h : b < 0
  · simp only [h, decide_true]
    refine ⟨divA (b := 9000) (by omega) (by rw [e1]; exact hs) (Nat.le_refl _), divA (b := 9000) (by omega) (by rw [e1]; exact hs) (Nat.le_refl _), ?_⟩
    rw [num_neg h, den_neg h]
    exact hq
  · simp only [h, decide_false]
    refine ⟨divA (b := 9000) (by omega) (by rw [e2]; exact hs) (Nat.le_refl _), divA (b := 9000) (by omega) (by rw [e2]; exact hs) (Nat.le_refl _), ?_⟩
    rw [num_pos (show 0 < b by omega), den_pos' (show 0 < b by omega)]
    exact hq
theorem b_root {K : Fg} {mg : Str → Option Value} (T : Tx K mg) : Binds K T.fd_root ["u"] [] := T.F_root.bindsN fun _ _ _ _ _ _ us hl => match us, hl with | [_], _ => rfl
theorem fm_root : FMono f_root := fm1
theorem ln_root : ∀ ds Q, f_root ds Q → ds.length = (["u"] : List Str).length := ln1
theorem ok_root {P : Program} {w : World} {K : Fg} {mg : Str → Option Value} {base : Heap} (T : Tx K mg) : FnOk P w K mg base CX0 2 (He.fAd K ("root", none)) T.fd_root ["u"] (spP K f_root) := by
  refine ok_pure T.F_root sc_root fm_root ln_root (fun cdv A outer s H E Z hr => ⟨_, (dss_cons (ds_if (dt_cmp od_lt (de_ix (de_var 0) de_int) de_int)
    (dss_one (ds_ret de_non))
    dss_nil)
    (dss_cons (ds_par (i := 1) (j := 2) rfl sc_root.nd rfl rfl (by decide) rfl rfl (da_cons (de_call (ok_side_of T) fm_side_of (hr.mono (by decide)) rfl T.g_side_of T.F_side_of.kp (b_side_of T) .nil (fun _ => .nil) (da_cons (de_ix (de_var 0) de_int) da_nil)) (da_cons (de_call (ok_side_of T) fm_side_of (hr.mono (by decide)) rfl T.g_side_of T.F_side_of.kp (b_side_of T) .nil (fun _ => .nil) (da_cons (de_ix (de_var 0) de_int) da_nil)) da_nil)) (fun _ h => ps_par rfl sc_root.nd rfl rfl (by decide) rfl rfl h (by rfl)))
    (dss_cons (ds_if (Dw.pt (dw_or (dt_cmp (od_ne hr.units) (de_op od_mul (de_var 1) (de_var 1)) (de_ix (de_var 0) de_int)) (dw_or1 (dt_cmp (od_ne hr.units) (de_op od_mul (de_var 2) (de_var 2)) (de_ix (de_var 0) de_int)))))
    (dss_one (ds_ret de_non))
    dss_nil)
    (dss_one (ds_ret (de_tup (da_cons (de_var 1) (da_cons (de_var 2) da_nil)))))))), fun ds Q h => ?_⟩)
  obtain ⟨u, rfl, hu, hq⟩ := h
  walk_at "dl"
  by_cases h : u.num < 0
  · simp only [h, decide_true]
    cases e : rt u with
    | none =>
      simp only [e] at hq
      exact hq
    | some r =>
      have := rt_num e
      have := Int.mul_nonneg this.1 this.1
      omega
  · simp only [h, decide_false]
    refine ⟨by omega, hu.1, fun r h1 h2 h3 => ⟨by omega, by rw [Int.natAbs_natCast]; exact hu.2, fun s h4 h5 h6 => ?_⟩⟩
    have he := root_end (Q := fun d => Q (.d d)) hq h1 h2 h3 h4 h5 h6
    have hr : r.natAbs < 2 ^ 8000 := Nat.lt_of_le_of_lt (show r.natAbs ≤ u.num.natAbs by
      have : r ≤ r * r := by
        rcases Int.lt_or_eq_of_le h1 with z | z
        · exact le_sq (by omega)
        · rw [← z]; decide
      omega) hu.1
    have hs : s.natAbs < 2 ^ 8000 := Nat.lt_of_le_of_lt (show s.natAbs ≤ u.den by
      have : s ≤ s * s := by
        rcases Int.lt_or_eq_of_le h4 with z | z
        · exact le_sq (by omega)
        · rw [← z]; decide
      omega) hu.2
    refine ⟨mulW hr hr (by decide), ?_⟩
    by_cases e1 : r * r = u.num
    · rw [e1]
      simp only [beq_self_eq_true, Bool.not_true]
      refine ⟨mulW hs hs (by decide), ?_⟩
      by_cases e2 : s * s = u.den
      · rw [e2]
        simp only [beq_self_eq_true, Bool.not_true]
        exact he.1 ⟨e1, e2⟩
      · have : (s * s == (u.den : Int)) = false := by simpa using e2
        rw [this]
        exact he.2 fun z => e2 z.2
    · have : (r * r == u.num) = false := by simpa using e1
      rw [this]
      exact he.2 fun z => e1 z.1
theorem b_left_of {K : Fg} {mg : Str → Option Value} (T : Tx K mg) : Binds K T.fd_left_of ["place"] [] := T.F_left_of.bindsN fun _ _ _ _ _ _ us hl => match us, hl with | [_], _ => rfl
theorem fm_left_of : FMono f_left := fm1
theorem ln_left_of : ∀ ds Q, f_left ds Q → ds.length = (["place"] : List Str).length := ln1
theorem ok_left_of {P : Program} {w : World} {K : Fg} {mg : Str → Option Value} {base : Heap} (T : Tx K mg) : FnOk P w K mg base CX0 2 (He.fAd K ("left_of", none)) T.fd_left_of ["place"] (spP K f_left) := by
  refine ok_pure T.F_left_of sc_left_of fm_left_of ln_left_of (fun cdv A outer s H E Z hr => ⟨_, (dss_one (ds_ret (de_tup (da_cons (de_call (ok_opposite T) fm_opposite (hr.mono (by decide)) rfl T.g_opposite T.F_opposite.kp (b_opposite T) .nil (fun _ => .nil) (da_cons (de_ix (de_var 0) de_int) da_nil)) (da_cons (de_ix (de_var 0) de_int) da_nil))))), fun ds Q h => ?_⟩)
  obtain ⟨⟨a, b⟩, rfl, _, hq⟩ := h
  simp only [plD] at hq ⊢
  walk_at "dl"
  walk_at "sd"
theorem b__law_low {K : Fg} {mg : Str → Option Value} (T : Tx K mg) : Binds K T.fd__law_low ["_law_top", "_law_bottom"] [] := T.F__law_low.bindsN fun _ _ _ _ _ _ us hl => match us, hl with | [_, _], _ => rfl
theorem fm__law_low : FMono f_ratio := fm2
theorem ln__law_low : ∀ ds Q, f_ratio ds Q → ds.length = (["_law_top", "_law_bottom"] : List Str).length := ln2
theorem ok__law_low {P : Program} {w : World} {K : Fg} {mg : Str → Option Value} {base : Heap} (T : Tx K mg) : FnOk P w K mg base CX0 2 (He.fAd K ("_law_low", none)) T.fd__law_low ["_law_top", "_law_bottom"] (spP K f_ratio) := by
  refine ok_pure T.F__law_low sc__law_low fm__law_low ln__law_low (fun cdv A outer s H E Z hr => ⟨_, (dss_cons (ds_set (i := 2) sc__law_low.nd rfl (by first | exact Or.inl rfl | exact Or.inr rfl) (de_call (ok__law_both T) fm__law_both (hr.mono (by decide)) rfl T.g__law_both T.F__law_both.kp (b__law_both T) .nil (fun _ => .nil) (da_cons (de_var 0) (da_cons (de_var 1) da_nil))))
    (dss_cons (ds_if (dt_cmp od_lt (de_var 1) de_int)
    (dss_one (ds_set (i := 2) sc__law_low.nd rfl (by first | exact Or.inl rfl | exact Or.inr rfl) (de_op od_sub de_int (de_var 2))))
    dss_nil)
    (dss_one (ds_ret (de_tup (da_cons (de_op od_div (de_var 0) (de_var 2)) (da_cons (de_op od_div (de_var 1) (de_var 2)) da_nil))))))), fun ds Q h => ?_⟩)
  obtain ⟨a, b, rfl, ⟨hb, hz⟩, hq⟩ := h
  walk_at "dl"
  have hg : 0 < Int.gcd a b := Int.gcd_pos_of_ne_zero_right _ hb
  have hs : Int.gcd a b < 2 ^ 9000 := Nat.lt_of_le_of_lt (Nat.le_of_dvd (by omega) (Int.gcd_dvd_natAbs_right a b)) hz
  have e1 : (0 - (Int.gcd a b : Int)).natAbs = Int.gcd a b := by omega
  have e2 : ((Int.gcd a b : Nat) : Int).natAbs = Int.gcd a b := by omega
  by_cases h : b < 0
  · simp only [h, decide_true]
    refine ⟨divA (b := 9000) (by omega) (by rw [e1]; exact hs) (Nat.le_refl _), divA (b := 9000) (by omega) (by rw [e1]; exact hs) (Nat.le_refl _), ?_⟩
    rw [num_neg h, den_neg h]
    exact hq
  · simp only [h, decide_false]
    refine ⟨divA (b := 9000) (by omega) (by rw [e2]; exact hs) (Nat.le_refl _), divA (b := 9000) (by omega) (by rw [e2]; exact hs) (Nat.le_refl _), ?_⟩
    rw [num_pos (show 0 < b by omega), den_pos' (show 0 < b by omega)]
    exact hq
theorem b__law_turn {K : Fg} {mg : Str → Option Value} (T : Tx K mg) : Binds K T.fd__law_turn ["_law_urn_here"] [] := T.F__law_turn.bindsN fun _ _ _ _ _ _ us hl => match us, hl with | [_], _ => rfl
theorem bm__law_turn : BMono f_turn4 := bm0
theorem ln__law_turn : ∀ xs ds Q, f_turn4 xs ds Q → ds.length + 1 = (["_law_urn_here"] : List Str).length := bl0
theorem ok__law_turn {P : Program} {w : World} {K : Fg} {mg : Str → Option Value} {base : Heap} (T : Tx K mg) : FnOk P w K mg base CX0 2 (He.fAd K ("_law_turn", none)) T.fd__law_turn ["_law_urn_here"] (spB K f_turn4) := by
  refine ok_bag T.F__law_turn sc__law_turn bm__law_turn ln__law_turn (fun cdv A outer s H E Z hr => ⟨_, (dss_cons (ds_par (i := 1) (j := 2) rfl sc__law_turn.nd rfl rfl (by decide) rfl rfl (da_cons (de_op od_sub (de_callB 0 (ok__law_draw T) bm__law_draw (hr.mono (by decide)) rfl T.g__law_draw T.F__law_draw.kp (b__law_draw T) (da_cons de_int da_nil)) de_int) (da_cons (de_op od_sub (de_callB 0 (ok__law_draw T) bm__law_draw (hr.mono (by decide)) rfl T.g__law_draw T.F__law_draw.kp (b__law_draw T) (da_cons de_int da_nil)) de_int) da_nil)) (fun _ h => ps_par rfl sc__law_turn.nd rfl rfl (by decide) rfl rfl h (by rfl)))
    (dss_one (ds_ret (de_if (Dw.pt (dw_or (dt_cmp (od_ne hr.units) (de_var 1) de_int) (dw_or1 (dt_cmp (od_ne hr.units) (de_var 2) de_int)))) (de_tup (da_cons (de_var 1) (da_cons (de_var 2) da_nil))) (de_tup (da_cons de_int (da_cons de_int da_nil))))))), fun xs ds Q h => ?_⟩)
  obtain ⟨n, hb, hn, rfl, hq⟩ := h
  have hn' : n + 2 ≤ 1000000 := hn
  walk_at "dl"
  refine take_at hb (show _ ≤ 1000000 by omega) (by decide) (by decide) fun p x1 p1 p2 hb => ?_
  walk_at "dl"
  refine take_at hb (show _ ≤ 1000000 by omega) (by decide) (by decide) fun q x2 q1 q2 hb => ?_
  walk_at "dl"
  by_cases z1 : p - 4 = 0
  · have e1 : (p - 4 == 0) = true := by simpa using z1
    by_cases z2 : q - 4 = 0
    · have e2 : (q - 4 == 0) = true := by simpa using z2
      simp only [e1, e2, Bool.not_true]
      exact hq (0, 1) _ ⟨by decide, by decide, by decide, by decide, by decide⟩ hb
    · have e2 : (q - 4 == 0) = false := by simpa using z2
      simp only [e1, e2, Bool.not_true, Bool.not_false]
      exact hq (p - 4, q - 4) _ ⟨by simp only; omega, by simp only; omega, by simp only; omega, by simp only; omega, .inr z2⟩ hb
  · have e1 : (p - 4 == 0) = false := by simpa using z1
    simp only [e1, Bool.not_false]
    exact hq (p - 4, q - 4) _ ⟨by simp only; omega, by simp only; omega, by simp only; omega, by simp only; omega, .inl z1⟩ hb
theorem b_plus {K : Fg} {mg : Str → Option Value} (T : Tx K mg) : Binds K T.fd_plus ["u", "v"] [] := T.F_plus.bindsN fun _ _ _ _ _ _ us hl => match us, hl with | [_, _], _ => rfl
theorem fm_plus : FMono f_plus := fm2
theorem ln_plus : ∀ ds Q, f_plus ds Q → ds.length = (["u", "v"] : List Str).length := ln2
theorem ok_plus {P : Program} {w : World} {K : Fg} {mg : Str → Option Value} {base : Heap} (T : Tx K mg) : FnOk P w K mg base CX0 3 (He.fAd K ("plus", none)) T.fd_plus ["u", "v"] (spP K f_plus) := by
  refine ok_pure T.F_plus sc_plus fm_plus ln_plus (fun cdv A outer s H E Z hr => ⟨_, (dss_one (ds_ret (de_call (ok_ratio T) fm_ratio (hr.mono (by decide)) rfl T.g_ratio T.F_ratio.kp (b_ratio_2 T).2 (b_ratio_2 T).1 (dd_ratio_2) (da_cons (de_op od_add (de_op od_mul (de_ix (de_var 0) de_int) (de_ix (de_var 1) de_int)) (de_op od_mul (de_ix (de_var 1) de_int) (de_ix (de_var 0) de_int))) (da_cons (de_op od_mul (de_ix (de_var 0) de_int) (de_ix (de_var 1) de_int)) da_nil))))), fun ds Q h => ?_⟩)
  obtain ⟨u, v, rfl, ⟨hu, hv⟩, hq⟩ := h
  walk_at "dl"
  exact ⟨mul_nd hu hv (by decide), mul_nd hv hu (by decide), mul_dd hu hv (by decide), den_mul_ne u v, dd_lt hu hv (by decide), hq⟩
theorem b_times {K : Fg} {mg : Str → Option Value} (T : Tx K mg) : Binds K T.fd_times ["u", "v"] [] := T.F_times.bindsN fun _ _ _ _ _ _ us hl => match us, hl with | [_, _], _ => rfl
theorem fm_times : FMono f_times := fm2
theorem ln_times : ∀ ds Q, f_times ds Q → ds.length = (["u", "v"] : List Str).length := ln2
theorem ok_times {P : Program} {w : World} {K : Fg} {mg : Str → Option Value} {base : Heap} (T : Tx K mg) : FnOk P w K mg base CX0 3 (He.fAd K ("times", none)) T.fd_times ["u", "v"] (spP K f_times) := by
  refine ok_pure T.F_times sc_times fm_times ln_times (fun cdv A outer s H E Z hr => ⟨_, (dss_one (ds_ret (de_call (ok_ratio T) fm_ratio (hr.mono (by decide)) rfl T.g_ratio T.F_ratio.kp (b_ratio_2 T).2 (b_ratio_2 T).1 (dd_ratio_2) (da_cons (de_op od_mul (de_ix (de_var 0) de_int) (de_ix (de_var 1) de_int)) (da_cons (de_op od_mul (de_ix (de_var 0) de_int) (de_ix (de_var 1) de_int)) da_nil))))), fun ds Q h => ?_⟩)
  obtain ⟨u, v, rfl, ⟨hu, hv⟩, hq⟩ := h
  walk_at "dl"
  exact ⟨mul_nn hu hv (by decide), mul_dd hu hv (by decide), den_mul_ne u v, dd_lt hu hv (by decide), hq⟩
theorem b_over {K : Fg} {mg : Str → Option Value} (T : Tx K mg) : Binds K T.fd_over ["u", "v"] [] := T.F_over.bindsN fun _ _ _ _ _ _ us hl => match us, hl with | [_, _], _ => rfl
theorem fm_over : FMono f_over := fm2
theorem ln_over : ∀ ds Q, f_over ds Q → ds.length = (["u", "v"] : List Str).length := ln2
theorem ok_over {P : Program} {w : World} {K : Fg} {mg : Str → Option Value} {base : Heap} (T : Tx K mg) : FnOk P w K mg base CX0 3 (He.fAd K ("over", none)) T.fd_over ["u", "v"] (spP K f_over) := by
  refine ok_pure T.F_over sc_over fm_over ln_over (fun cdv A outer s H E Z hr => ⟨_, (dss_one (ds_ret (de_call (ok_ratio T) fm_ratio (hr.mono (by decide)) rfl T.g_ratio T.F_ratio.kp (b_ratio_2 T).2 (b_ratio_2 T).1 (dd_ratio_2) (da_cons (de_op od_mul (de_ix (de_var 0) de_int) (de_ix (de_var 1) de_int)) (da_cons (de_op od_mul (de_ix (de_var 0) de_int) (de_ix (de_var 1) de_int)) da_nil))))), fun ds Q h => ?_⟩)
  obtain ⟨u, v, rfl, ⟨h0, hu, hv⟩, hq⟩ := h
  walk_at "dl"
  exact ⟨mul_nd hu hv (by decide), mul_dn hu hv (by decide), Int.mul_ne_zero (den_ne u) (num_ne h0), dn_lt hu hv (by decide), hq⟩
theorem b_is_place {K : Fg} {mg : Str → Option Value} (T : Tx K mg) : Binds K T.fd_is_place ["thing"] [] := T.F_is_place.bindsN fun _ _ _ _ _ _ us hl => match us, hl with | [_], _ => rfl
theorem fm_is_place : FMono f_lisplc := fm1
theorem ln_is_place : ∀ ds Q, f_lisplc ds Q → ds.length = (["thing"] : List Str).length := ln1
theorem ok_is_place {P : Program} {w : World} {K : Fg} {mg : Str → Option Value} {base : Heap} (T : Tx K mg) : FnOk P w K mg base CX0 3 (He.fAd K ("is_place", none)) T.fd_is_place ["thing"] (spP K f_lisplc) := by
  refine ok_pure T.F_is_place sc_is_place fm_is_place ln_is_place (fun cdv A outer s H E Z hr => ⟨_, (dss_one (ds_ret (de_and (de_isi (de_var 0) kf_tuple rfl T.m_isinstance rfl T.m_tuple bt_tuple bb_isinstance) (de_and (de_cmp (od_eq hr.units) (de_b cd_len rfl T.m_len bb_len (da_cons (de_var 0) da_nil)) de_int) (de_and (de_call (ok_is_number T) fm_is_number (hr.mono (by decide)) rfl T.g_is_number T.F_is_number.kp (b_is_number T) .nil (fun _ => .nil) (da_cons (de_ix (de_var 0) de_int) da_nil)) (de_one (de_call (ok_is_number T) fm_is_number (hr.mono (by decide)) rfl T.g_is_number T.F_is_number.kp (b_is_number T) .nil (fun _ => .nil) (da_cons (de_ix (de_var 0) de_int) da_nil)))))))), fun ds Q h => ?_⟩)
  obtain ⟨⟨x, y⟩, rfl, ⟨hx, hy⟩, hq⟩ := h
  simp only [plD] at hx hy hq ⊢
  walk_at "dl"
  have e1 : ((((2 : Nat) : Int)) == 2) = true := rfl
  simp only [e1]
  exact ⟨hx, hy, hq⟩
theorem b_heading_of {K : Fg} {mg : Str → Option Value} (T : Tx K mg) : Binds K T.fd_heading_of ["p", "q"] [] := T.F_heading_of.bindsN fun _ _ _ _ _ _ us hl => match us, hl with | [_, _], _ => rfl
theorem fm_heading_of : FMono f_heading := fm2
theorem ln_heading_of : ∀ ds Q, f_heading ds Q → ds.length = (["p", "q"] : List Str).length := ln2
theorem ok_heading_of {P : Program} {w : World} {K : Fg} {mg : Str → Option Value} {base : Heap} (T : Tx K mg) : FnOk P w K mg base CX0 3 (He.fAd K ("heading_of", none)) T.fd_heading_of ["p", "q"] (spP K f_heading) := by
  refine ok_pure T.F_heading_of sc_heading_of fm_heading_of ln_heading_of (fun cdv A outer s H E Z hr => ⟨_, (dss_cons (ds_if (Dw.pt (dw_and (dt_cmp (od_eq hr.units) (de_var 0) de_int) (dw_and1 (dt_cmp (od_eq hr.units) (de_var 1) de_int))))
    (dss_one ds_never)
    dss_nil)
    (dss_cons (ds_set (i := 2) sc_heading_of.nd rfl (by first | exact Or.inl rfl | exact Or.inr rfl) (de_op od_add (de_op od_mul (de_var 0) (de_var 0)) (de_op od_mul (de_var 1) (de_var 1))))
    (dss_one (ds_ret (de_tup (da_cons (de_call (ok_ratio T) fm_ratio (hr.mono (by decide)) rfl T.g_ratio T.F_ratio.kp (b_ratio_2 T).2 (b_ratio_2 T).1 (dd_ratio_2) (da_cons (de_op od_sub (de_op od_mul (de_var 1) (de_var 1)) (de_op od_mul (de_var 0) (de_var 0))) (da_cons (de_var 2) da_nil))) (da_cons (de_call (ok_ratio T) fm_ratio (hr.mono (by decide)) rfl T.g_ratio T.F_ratio.kp (b_ratio_2 T).2 (b_ratio_2 T).1 (dd_ratio_2) (da_cons (de_op od_mul (de_op od_mul de_int (de_var 0)) (de_var 1)) (da_cons (de_var 2) da_nil))) da_nil))))))), fun ds Q h => ?_⟩)
  obtain ⟨p, q, rfl, ⟨h0, hp, hq'⟩, hq⟩ := h
  walk_at "ds"
  have h1 := two_pos h0
  have m1 : CMulW p p := mulW hp hp (by decide)
  have m2 : CMulW q q := mulW hq' hq' (by decide)
  have m3 : CMulW 2 p := mulW (show (2 : Int).natAbs < 2 ^ 2 by decide) hp (by decide)
  have m4 : CMulW (2 * p) q := mulW (a := 66) (by omega) hq' (by decide)
  have b1 : (p * p + q * q).natAbs < 2 ^ 9000 := by
    have a1 : p.natAbs * p.natAbs < 2 ^ 64 * 2 ^ 64 := Nat.mul_lt_mul'' hp hp
    have a2 : q.natAbs * q.natAbs < 2 ^ 64 * 2 ^ 64 := Nat.mul_lt_mul'' hq' hq'
    have c1 : (p * p).natAbs = p.natAbs * p.natAbs := Int.natAbs_mul _ _
    have c2 : (q * q).natAbs = q.natAbs * q.natAbs := Int.natAbs_mul _ _
    have h9 : (2 : Nat) ^ 130 ≤ 2 ^ 9000 := Nat.pow_le_pow_right (by omega) (by decide)
    omega
  have fin : CMulW p p ∧ CMulW q q ∧ CMulW q q ∧ CMulW p p ∧ p * p + q * q ≠ 0 ∧ (p * p + q * q).natAbs < 2 ^ 9000 ∧ CMulW 2 p ∧ CMulW (2 * p) q ∧ p * p + q * q ≠ 0 ∧ (p * p + q * q).natAbs < 2 ^ 9000 ∧ Q (Res.d (PyData.tuple [numD (Rat.divInt (q * q - p * p) (p * p + q * q)), numD (Rat.divInt (2 * p * q) (p * p + q * q))])) :=
    ⟨m1, m2, m2, m1, by omega, b1, m3, m4, by omega, b1, hq⟩
  by_cases z : p = 0
  · have z1 : (p == 0) = true := by simpa using z
    simp only [z1]
    have z2 : (q == 0) = false := by
      have : q ≠ 0 := by omega
      simpa using this
    simp only [z2]
    exact fin
  · have z1 : (p == 0) = false := by simpa using z
    simp only [z1]
    exact fin
theorem b__law_plus {K : Fg} {mg : Str → Option Value} (T : Tx K mg) : Binds K T.fd__law_plus ["_law_u", "_law_v"] [] := T.F__law_plus.bindsN fun _ _ _ _ _ _ us hl => match us, hl with | [_, _], _ => rfl
theorem fm__law_plus : FMono f_plus := fm2
theorem ln__law_plus : ∀ ds Q, f_plus ds Q → ds.length = (["_law_u", "_law_v"] : List Str).length := ln2
theorem ok__law_plus {P : Program} {w : World} {K : Fg} {mg : Str → Option Value} {base : Heap} (T : Tx K mg) : FnOk P w K mg base CX0 3 (He.fAd K ("_law_plus", none)) T.fd__law_plus ["_law_u", "_law_v"] (spP K f_plus) := by
  refine ok_pure T.F__law_plus sc__law_plus fm__law_plus ln__law_plus (fun cdv A outer s H E Z hr => ⟨_, (dss_one (ds_ret (de_call (ok__law_low T) fm__law_low (hr.mono (by decide)) rfl T.g__law_low T.F__law_low.kp (b__law_low T) .nil (fun _ => .nil) (da_cons (de_op od_add (de_op od_mul (de_ix (de_var 0) de_int) (de_ix (de_var 1) de_int)) (de_op od_mul (de_ix (de_var 1) de_int) (de_ix (de_var 0) de_int))) (da_cons (de_op od_mul (de_ix (de_var 0) de_int) (de_ix (de_var 1) de_int)) da_nil))))), fun ds Q h => ?_⟩)
  obtain ⟨u, v, rfl, ⟨hu, hv⟩, hq⟩ := h
  walk_at "dl"
  exact ⟨mul_nd hu hv (by decide), mul_nd hv hu (by decide), mul_dd hu hv (by decide), den_mul_ne u v, dd_lt hu hv (by decide), hq⟩
theorem b__law_minus {K : Fg} {mg : Str → Option Value} (T : Tx K mg) : Binds K T.fd__law_minus ["_law_u", "_law_v"] [] := T.F__law_minus.bindsN fun _ _ _ _ _ _ us hl => match us, hl with | [_, _], _ => rfl
theorem fm__law_minus : FMono f_minus := fm2
theorem ln__law_minus : ∀ ds Q, f_minus ds Q → ds.length = (["_law_u", "_law_v"] : List Str).length := ln2
theorem ok__law_minus {P : Program} {w : World} {K : Fg} {mg : Str → Option Value} {base : Heap} (T : Tx K mg) : FnOk P w K mg base CX0 3 (He.fAd K ("_law_minus", none)) T.fd__law_minus ["_law_u", "_law_v"] (spP K f_minus) := by
  refine ok_pure T.F__law_minus sc__law_minus fm__law_minus ln__law_minus (fun cdv A outer s H E Z hr => ⟨_, (dss_one (ds_ret (de_call (ok__law_low T) fm__law_low (hr.mono (by decide)) rfl T.g__law_low T.F__law_low.kp (b__law_low T) .nil (fun _ => .nil) (da_cons (de_op od_sub (de_op od_mul (de_ix (de_var 0) de_int) (de_ix (de_var 1) de_int)) (de_op od_mul (de_ix (de_var 1) de_int) (de_ix (de_var 0) de_int))) (da_cons (de_op od_mul (de_ix (de_var 0) de_int) (de_ix (de_var 1) de_int)) da_nil))))), fun ds Q h => ?_⟩)
  obtain ⟨u, v, rfl, ⟨hu, hv⟩, hq⟩ := h
  walk_at "dl"
  exact ⟨mul_nd hu hv (by decide), mul_nd hv hu (by decide), mul_dd hu hv (by decide), den_mul_ne u v, dd_lt hu hv (by decide), hq⟩
theorem b__law_times {K : Fg} {mg : Str → Option Value} (T : Tx K mg) : Binds K T.fd__law_times ["_law_u", "_law_v"] [] := T.F__law_times.bindsN fun _ _ _ _ _ _ us hl => match us, hl with | [_, _], _ => rfl
theorem fm__law_times : FMono f_times := fm2
theorem ln__law_times : ∀ ds Q, f_times ds Q → ds.length = (["_law_u", "_law_v"] : List Str).length := ln2
theorem ok__law_times {P : Program} {w : World} {K : Fg} {mg : Str → Option Value} {base : Heap} (T : Tx K mg) : FnOk P w K mg base CX0 3 (He.fAd K ("_law_times", none)) T.fd__law_times ["_law_u", "_law_v"] (spP K f_times) := by
  refine ok_pure T.F__law_times sc__law_times fm__law_times ln__law_times (fun cdv A outer s H E Z hr => ⟨_, (dss_one (ds_ret (de_call (ok__law_low T) fm__law_low (hr.mono (by decide)) rfl T.g__law_low T.F__law_low.kp (b__law_low T) .nil (fun _ => .nil) (da_cons (de_op od_mul (de_ix (de_var 0) de_int) (de_ix (de_var 1) de_int)) (da_cons (de_op od_mul (de_ix (de_var 0) de_int) (de_ix (de_var 1) de_int)) da_nil))))), fun ds Q h => ?_⟩)
  obtain ⟨u, v, rfl, ⟨hu, hv⟩, hq⟩ := h
  walk_at "dl"
  exact ⟨mul_nn hu hv (by decide), mul_dd hu hv (by decide), den_mul_ne u v, dd_lt hu hv (by decide), hq⟩
theorem b__law_over {K : Fg} {mg : Str → Option Value} (T : Tx K mg) : Binds K T.fd__law_over ["_law_u", "_law_v"] [] := T.F__law_over.bindsN fun _ _ _ _ _ _ us hl => match us, hl with | [_, _], _ => rfl
theorem fm__law_over : FMono f_over := fm2
theorem ln__law_over : ∀ ds Q, f_over ds Q → ds.length = (["_law_u", "_law_v"] : List Str).length := ln2
theorem ok__law_over {P : Program} {w : World} {K : Fg} {mg : Str → Option Value} {base : Heap} (T : Tx K mg) : FnOk P w K mg base CX0 3 (He.fAd K ("_law_over", none)) T.fd__law_over ["_law_u", "_law_v"] (spP K f_over) := by
  refine ok_pure T.F__law_over sc__law_over fm__law_over ln__law_over (fun cdv A outer s H E Z hr => ⟨_, (dss_one (ds_ret (de_call (ok__law_low T) fm__law_low (hr.mono (by decide)) rfl T.g__law_low T.F__law_low.kp (b__law_low T) .nil (fun _ => .nil) (da_cons (de_op od_mul (de_ix (de_var 0) de_int) (de_ix (de_var 1) de_int)) (da_cons (de_op od_mul (de_ix (de_var 0) de_int) (de_ix (de_var 1) de_int)) da_nil))))), fun ds Q h => ?_⟩)
  obtain ⟨u, v, rfl, ⟨h0, hu, hv⟩, hq⟩ := h
  walk_at "dl"
  exact ⟨mul_nd hu hv (by decide), mul_dn hu hv (by decide), Int.mul_ne_zero (den_ne u) (num_ne h0), dn_lt hu hv (by decide), hq⟩
theorem b__law_heading {K : Fg} {mg : Str → Option Value} (T : Tx K mg) : Binds K T.fd__law_heading ["_law_turn_here"] [] := T.F__law_heading.bindsN fun _ _ _ _ _ _ us hl => match us, hl with | [_], _ => rfl
theorem fm__law_heading : FMono f_pheading := fm1
theorem ln__law_heading : ∀ ds Q, f_pheading ds Q → ds.length = (["_law_turn_here"] : List Str).length := ln1
theorem ok__law_heading {P : Program} {w : World} {K : Fg} {mg : Str → Option Value} {base : Heap} (T : Tx K mg) : FnOk P w K mg base CX0 3 (He.fAd K ("_law_heading", none)) T.fd__law_heading ["_law_turn_here"] (spP K f_pheading) := by
  refine ok_pure T.F__law_heading sc__law_heading fm__law_heading ln__law_heading (fun cdv A outer s H E Z hr => ⟨_, (dss_cons (ds_asg (de_var 0) (dg_tup (n := 2) rfl (dgs_cons (dg_name (i := 2) sc__law_heading.nd rfl (by first | exact Or.inl rfl | exact Or.inr rfl)) (dgs_cons (dg_name (i := 3) sc__law_heading.nd rfl (by first | exact Or.inl rfl | exact Or.inr rfl)) dgs_nil))))
    (dss_cons (ds_set (i := 1) sc__law_heading.nd rfl (by first | exact Or.inl rfl | exact Or.inr rfl) (de_op od_add (de_op od_mul (de_var 2) (de_var 2)) (de_op od_mul (de_var 3) (de_var 3))))
    (dss_one (ds_ret (de_tup (da_cons (de_call (ok__law_low T) fm__law_low (hr.mono (by decide)) rfl T.g__law_low T.F__law_low.kp (b__law_low T) .nil (fun _ => .nil) (da_cons (de_op od_sub (de_op od_mul (de_var 3) (de_var 3)) (de_op od_mul (de_var 2) (de_var 2))) (da_cons (de_var 1) da_nil))) (da_cons (de_call (ok__law_low T) fm__law_low (hr.mono (by decide)) rfl T.g__law_low T.F__law_low.kp (b__law_low T) .nil (fun _ => .nil) (da_cons (de_op od_mul (de_op od_mul de_int (de_var 2)) (de_var 3)) (da_cons (de_var 1) da_nil))) da_nil))))))), fun ds Q h => ?_⟩)
  obtain ⟨⟨p, q⟩, rfl, ⟨h0, hp, hq'⟩, hq⟩ := h
  simp only [DL.prD] at hq h0 hp hq' ⊢
  walk_at "dl"
  have h1 := two_pos h0
  have m1 : CMulW p p := mulW hp hp (by decide)
  have m2 : CMulW q q := mulW hq' hq' (by decide)
  have m3 : CMulW 2 p := mulW (show (2 : Int).natAbs < 2 ^ 2 by decide) hp (by decide)
  have m4 : CMulW (2 * p) q := mulW (a := 66) (by omega) hq' (by decide)
  have b1 : (p * p + q * q).natAbs < 2 ^ 9000 := by
    have a1 : p.natAbs * p.natAbs < 2 ^ 64 * 2 ^ 64 := Nat.mul_lt_mul'' hp hp
    have a2 : q.natAbs * q.natAbs < 2 ^ 64 * 2 ^ 64 := Nat.mul_lt_mul'' hq' hq'
    have c1 : (p * p).natAbs = p.natAbs * p.natAbs := Int.natAbs_mul _ _
    have c2 : (q * q).natAbs = q.natAbs * q.natAbs := Int.natAbs_mul _ _
    have h9 : (2 : Nat) ^ 130 ≤ 2 ^ 9000 := Nat.pow_le_pow_right (by omega) (by decide)
    omega
  exact ⟨m1, m2, m2, m1, ⟨by omega, b1, m3, m4, by omega, b1, hq⟩⟩
theorem b__law_within {K : Fg} {mg : Str → Option Value} (T : Tx K mg) : Binds K T.fd__law_within ["_law_urn_here", "_law_radius"] [] := T.F__law_within.bindsN fun _ _ _ _ _ _ us hl => match us, hl with | [_, _], _ => rfl
theorem bm__law_within : BMono f_roomb := DL.fm_roomb
theorem ln__law_within : ∀ xs ds Q, f_roomb xs ds Q → ds.length + 1 = (["_law_urn_here", "_law_radius"] : List Str).length := DL.ln_roomb
theorem ok__law_within {P : Program} {w : World} {K : Fg} {mg : Str → Option Value} {base : Heap} (T : Tx K mg) : FnOk P w K mg base CX0 3 (He.fAd K ("_law_within", none)) T.fd__law_within ["_law_urn_here", "_law_radius"] (spB K f_roomb) := by
  refine ok_bag T.F__law_within sc__law_within bm__law_within ln__law_within (fun cdv A outer s H E Z hr => ⟨_, (dss_cons (ds_set (i := 2) sc__law_within.nd rfl (by first | exact Or.inl rfl | exact Or.inr rfl) (de_ix (Do.sh (do_lst (da_cons (de_op od_add de_int (de_callB 0 (ok__law_draw T) bm__law_draw (hr.mono (by decide)) rfl T.g__law_draw T.F__law_draw.kp (b__law_draw T) (da_cons de_int da_nil))) (da_cons (de_op od_add de_int (de_callB 0 (ok__law_draw T) bm__law_draw (hr.mono (by decide)) rfl T.g__law_draw T.F__law_draw.kp (b__law_draw T) (da_cons de_int da_nil))) (da_cons de_int (da_cons (de_op od_add de_int (de_callB 0 (ok__law_draw T) bm__law_draw (hr.mono (by decide)) rfl T.g__law_draw T.F__law_draw.kp (b__law_draw T) (da_cons de_int da_nil))) da_nil)))))) (de_callB 0 (ok__law_draw T) bm__law_draw (hr.mono (by decide)) rfl T.g__law_draw T.F__law_draw.kp (b__law_draw T) (da_cons de_int da_nil))))
    (dss_one (ds_ret (de_call (ok__law_low T) fm__law_low (hr.mono (by decide)) rfl T.g__law_low T.F__law_low.kp (b__law_low T) .nil (fun _ => .nil) (da_cons (de_op od_mul (de_ix (de_var 1) de_int) (de_var 2)) (da_cons (de_op od_mul (de_ix (de_var 1) de_int) de_int) da_nil)))))), fun xs ds Q h => ?_⟩)
  obtain ⟨n, r, hb, hn, rfl, ⟨r0, rb⟩, hq⟩ := h
  have hn' : n + 6 ≤ 1000000 := hn
  walk_at "dl"
  refine take_at hb (show _ ≤ 1000000 by omega) (by decide) (by decide) fun d1 x1 p1 p2 hb => ?_
  walk_at "dl"
  refine take_at hb (show _ ≤ 1000000 by omega) (by decide) (by decide) fun d2 x2 p3 p4 hb => ?_
  walk_at "dl"
  refine take_at hb (show _ ≤ 1000000 by omega) (by decide) (by decide) fun d3 x3 p5 p6 hb => ?_
  walk_at "dl"
  refine take_at hb (show _ ≤ 1000000 by omega) (by decide) (by decide) fun d4 x4 p7 p8 hb => ?_
  walk_at "dl"
  obtain ⟨z, hz, e⟩ := pick4 (a := 1 + d1) (b := 1 + d2) (c := 1) (f := 1000 + d3) p7 p8
  rw [e]
  walk_at "dl"
  have z1 : 1 ≤ z ∧ z ≤ 4000 := by omega
  refine ⟨mulW rb.1 (show z.natAbs < 2 ^ 12 by omega) (by decide), mulW (show ((r.den : Int)).natAbs < 2 ^ 22 from rb.2) (show (1000 : Int).natAbs < 2 ^ 12 by decide) (by decide), ?_⟩
  have hd : 0 < r.den := Nat.pos_of_ne_zero r.den_nz
  have hd2 : r.den < 4194304 := rb.2
  refine ⟨by omega, ?_, ?_⟩
  · have h4 : (2 : Nat) ^ 40 ≤ 2 ^ 9000 := Nat.pow_le_pow_right (by omega) (by omega)
    omega
  obtain ⟨y1, y2, y3⟩ := room_in (z := z) r0 rb z1.1 z1.2
  exact hq _ _ ⟨y1, y2, y3⟩ (hb.mono (by omega))
theorem b_minus {K : Fg} {mg : Str → Option Value} (T : Tx K mg) : Binds K T.fd_minus ["u", "v"] [] := T.F_minus.bindsN fun _ _ _ _ _ _ us hl => match us, hl with | [_, _], _ => rfl
theorem fm_minus : FMono f_minus := fm2
theorem ln_minus : ∀ ds Q, f_minus ds Q → ds.length = (["u", "v"] : List Str).length := ln2
theorem ok_minus {P : Program} {w : World} {K : Fg} {mg : Str → Option Value} {base : Heap} (T : Tx K mg) : FnOk P w K mg base CX0 4 (He.fAd K ("minus", none)) T.fd_minus ["u", "v"] (spP K f_minus) := by
  refine ok_pure T.F_minus sc_minus fm_minus ln_minus (fun cdv A outer s H E Z hr => ⟨_, (dss_one (ds_ret (de_call (ok_plus T) fm_plus (hr.mono (by decide)) rfl T.g_plus T.F_plus.kp (b_plus T) .nil (fun _ => .nil) (da_cons (de_var 0) (da_cons (de_call (ok_opposite T) fm_opposite (hr.mono (by decide)) rfl T.g_opposite T.F_opposite.kp (b_opposite T) .nil (fun _ => .nil) (da_cons (de_var 1) da_nil)) da_nil))))), fun ds Q h => ?_⟩)
  obtain ⟨u, v, rfl, ⟨hu, hv⟩, hq⟩ := h
  walk_at "dl"
  rw [← Rat.sub_eq_add_neg]
  exact ⟨hu, hv.neg, hq⟩
theorem b_added {K : Fg} {mg : Str → Option Value} (T : Tx K mg) : Binds K T.fd_added ["one", "other"] [] := T.F_added.bindsN fun _ _ _ _ _ _ us hl => match us, hl with | [_, _], _ => rfl
theorem fm_added : FMono f_added := fm2
theorem ln_added : ∀ ds Q, f_added ds Q → ds.length = (["one", "other"] : List Str).length := ln2
theorem ok_added {P : Program} {w : World} {K : Fg} {mg : Str → Option Value} {base : Heap} (T : Tx K mg) : FnOk P w K mg base CX0 4 (He.fAd K ("added", none)) T.fd_added ["one", "other"] (spP K f_added) := by
  refine ok_pure T.F_added sc_added fm_added ln_added (fun cdv A outer s H E Z hr => ⟨_, (dss_one (ds_ret (de_tup (da_cons (de_call (ok_plus T) fm_plus (hr.mono (by decide)) rfl T.g_plus T.F_plus.kp (b_plus T) .nil (fun _ => .nil) (da_cons (de_ix (de_var 0) de_int) (da_cons (de_ix (de_var 1) de_int) da_nil))) (da_cons (de_call (ok_plus T) fm_plus (hr.mono (by decide)) rfl T.g_plus T.F_plus.kp (b_plus T) .nil (fun _ => .nil) (da_cons (de_ix (de_var 0) de_int) (da_cons (de_ix (de_var 1) de_int) da_nil))) da_nil))))), fun ds Q h => ?_⟩)
  obtain ⟨⟨a, b⟩, ⟨c, d⟩, rfl, ⟨⟨h1, h2⟩, h3, h4⟩, hq⟩ := h
  simp only [plD] at h1 h2 h3 h4 hq ⊢
  walk_at "ds"
  walk_at "sd"
theorem b_scaled {K : Fg} {mg : Str → Option Value} (T : Tx K mg) : Binds K T.fd_scaled ["place", "u"] [] := T.F_scaled.bindsN fun _ _ _ _ _ _ us hl => match us, hl with | [_, _], _ => rfl
theorem fm_scaled : FMono f_scaled := fm2
theorem ln_scaled : ∀ ds Q, f_scaled ds Q → ds.length = (["place", "u"] : List Str).length := ln2
theorem ok_scaled {P : Program} {w : World} {K : Fg} {mg : Str → Option Value} {base : Heap} (T : Tx K mg) : FnOk P w K mg base CX0 4 (He.fAd K ("scaled", none)) T.fd_scaled ["place", "u"] (spP K f_scaled) := by
  refine ok_pure T.F_scaled sc_scaled fm_scaled ln_scaled (fun cdv A outer s H E Z hr => ⟨_, (dss_one (ds_ret (de_tup (da_cons (de_call (ok_times T) fm_times (hr.mono (by decide)) rfl T.g_times T.F_times.kp (b_times T) .nil (fun _ => .nil) (da_cons (de_ix (de_var 0) de_int) (da_cons (de_var 1) da_nil))) (da_cons (de_call (ok_times T) fm_times (hr.mono (by decide)) rfl T.g_times T.F_times.kp (b_times T) .nil (fun _ => .nil) (da_cons (de_ix (de_var 0) de_int) (da_cons (de_var 1) da_nil))) da_nil))))), fun ds Q h => ?_⟩)
  obtain ⟨⟨a, b⟩, u, rfl, ⟨⟨h1, h2⟩, h3⟩, hq⟩ := h
  simp only [plD] at h1 h2 h3 hq ⊢
  walk_at "dl"
  walk_at "sd"
theorem b_dot {K : Fg} {mg : Str → Option Value} (T : Tx K mg) : Binds K T.fd_dot ["one", "other"] [] := T.F_dot.bindsN fun _ _ _ _ _ _ us hl => match us, hl with | [_, _], _ => rfl
theorem fm_dot : FMono f_dot := fm2
theorem ln_dot : ∀ ds Q, f_dot ds Q → ds.length = (["one", "other"] : List Str).length := ln2
theorem ok_dot {P : Program} {w : World} {K : Fg} {mg : Str → Option Value} {base : Heap} (T : Tx K mg) : FnOk P w K mg base CX0 4 (He.fAd K ("dot", none)) T.fd_dot ["one", "other"] (spP K f_dot) := by
  refine ok_pure T.F_dot sc_dot fm_dot ln_dot (fun cdv A outer s H E Z hr => ⟨_, (dss_one (ds_ret (de_call (ok_plus T) fm_plus (hr.mono (by decide)) rfl T.g_plus T.F_plus.kp (b_plus T) .nil (fun _ => .nil) (da_cons (de_call (ok_times T) fm_times (hr.mono (by decide)) rfl T.g_times T.F_times.kp (b_times T) .nil (fun _ => .nil) (da_cons (de_ix (de_var 0) de_int) (da_cons (de_ix (de_var 1) de_int) da_nil))) (da_cons (de_call (ok_times T) fm_times (hr.mono (by decide)) rfl T.g_times T.F_times.kp (b_times T) .nil (fun _ => .nil) (da_cons (de_ix (de_var 0) de_int) (da_cons (de_ix (de_var 1) de_int) da_nil))) da_nil))))), fun ds Q h => ?_⟩)
  obtain ⟨⟨a, b⟩, ⟨c, d⟩, rfl, ⟨⟨h1, h2⟩, h3, h4⟩, hq⟩ := h
  simp only [plD] at h1 h2 h3 h4 hq ⊢
  walk_at "dl"
  walk_at "sd"
theorem b__law_add {K : Fg} {mg : Str → Option Value} (T : Tx K mg) : Binds K T.fd__law_add ["_law_one", "_law_other"] [] := T.F__law_add.bindsN fun _ _ _ _ _ _ us hl => match us, hl with | [_, _], _ => rfl
theorem fm__law_add : FMono f_added := fm2
theorem ln__law_add : ∀ ds Q, f_added ds Q → ds.length = (["_law_one", "_law_other"] : List Str).length := ln2
theorem ok__law_add {P : Program} {w : World} {K : Fg} {mg : Str → Option Value} {base : Heap} (T : Tx K mg) : FnOk P w K mg base CX0 4 (He.fAd K ("_law_add", none)) T.fd__law_add ["_law_one", "_law_other"] (spP K f_added) := by
  refine ok_pure T.F__law_add sc__law_add fm__law_add ln__law_add (fun cdv A outer s H E Z hr => ⟨_, (dss_one (ds_ret (de_tup (da_cons (de_call (ok__law_plus T) fm__law_plus (hr.mono (by decide)) rfl T.g__law_plus T.F__law_plus.kp (b__law_plus T) .nil (fun _ => .nil) (da_cons (de_ix (de_var 0) de_int) (da_cons (de_ix (de_var 1) de_int) da_nil))) (da_cons (de_call (ok__law_plus T) fm__law_plus (hr.mono (by decide)) rfl T.g__law_plus T.F__law_plus.kp (b__law_plus T) .nil (fun _ => .nil) (da_cons (de_ix (de_var 0) de_int) (da_cons (de_ix (de_var 1) de_int) da_nil))) da_nil))))), fun ds Q h => ?_⟩)
  obtain ⟨⟨a, b⟩, ⟨c, d⟩, rfl, ⟨⟨h1, h2⟩, h3, h4⟩, hq⟩ := h
  simp only [plD] at h1 h2 h3 h4 hq ⊢
  walk_at "dl"
  walk_at "sd"
theorem b__law_less {K : Fg} {mg : Str → Option Value} (T : Tx K mg) : Binds K T.fd__law_less ["_law_one", "_law_other"] [] := T.F__law_less.bindsN fun _ _ _ _ _ _ us hl => match us, hl with | [_, _], _ => rfl
theorem fm__law_less : FMono f_less := fm2
theorem ln__law_less : ∀ ds Q, f_less ds Q → ds.length = (["_law_one", "_law_other"] : List Str).length := ln2
theorem ok__law_less {P : Program} {w : World} {K : Fg} {mg : Str → Option Value} {base : Heap} (T : Tx K mg) : FnOk P w K mg base CX0 4 (He.fAd K ("_law_less", none)) T.fd__law_less ["_law_one", "_law_other"] (spP K f_less) := by
  refine ok_pure T.F__law_less sc__law_less fm__law_less ln__law_less (fun cdv A outer s H E Z hr => ⟨_, (dss_one (ds_ret (de_tup (da_cons (de_call (ok__law_minus T) fm__law_minus (hr.mono (by decide)) rfl T.g__law_minus T.F__law_minus.kp (b__law_minus T) .nil (fun _ => .nil) (da_cons (de_ix (de_var 0) de_int) (da_cons (de_ix (de_var 1) de_int) da_nil))) (da_cons (de_call (ok__law_minus T) fm__law_minus (hr.mono (by decide)) rfl T.g__law_minus T.F__law_minus.kp (b__law_minus T) .nil (fun _ => .nil) (da_cons (de_ix (de_var 0) de_int) (da_cons (de_ix (de_var 1) de_int) da_nil))) da_nil))))), fun ds Q h => ?_⟩)
  obtain ⟨⟨a, b⟩, ⟨c, d⟩, rfl, ⟨⟨h1, h2⟩, h3, h4⟩, hq⟩ := h
  simp only [plD] at h1 h2 h3 h4 hq ⊢
  walk_at "dl"
  walk_at "sd"
theorem b__law_scale {K : Fg} {mg : Str → Option Value} (T : Tx K mg) : Binds K T.fd__law_scale ["_law_place", "_law_u"] [] := T.F__law_scale.bindsN fun _ _ _ _ _ _ us hl => match us, hl with | [_, _], _ => rfl
theorem fm__law_scale : FMono f_scaled := fm2
theorem ln__law_scale : ∀ ds Q, f_scaled ds Q → ds.length = (["_law_place", "_law_u"] : List Str).length := ln2
theorem ok__law_scale {P : Program} {w : World} {K : Fg} {mg : Str → Option Value} {base : Heap} (T : Tx K mg) : FnOk P w K mg base CX0 4 (He.fAd K ("_law_scale", none)) T.fd__law_scale ["_law_place", "_law_u"] (spP K f_scaled) := by
  refine ok_pure T.F__law_scale sc__law_scale fm__law_scale ln__law_scale (fun cdv A outer s H E Z hr => ⟨_, (dss_one (ds_ret (de_tup (da_cons (de_call (ok__law_times T) fm__law_times (hr.mono (by decide)) rfl T.g__law_times T.F__law_times.kp (b__law_times T) .nil (fun _ => .nil) (da_cons (de_ix (de_var 0) de_int) (da_cons (de_var 1) da_nil))) (da_cons (de_call (ok__law_times T) fm__law_times (hr.mono (by decide)) rfl T.g__law_times T.F__law_times.kp (b__law_times T) .nil (fun _ => .nil) (da_cons (de_ix (de_var 0) de_int) (da_cons (de_var 1) da_nil))) da_nil))))), fun ds Q h => ?_⟩)
  obtain ⟨⟨a, b⟩, u, rfl, ⟨⟨h1, h2⟩, h3⟩, hq⟩ := h
  simp only [plD] at h1 h2 h3 hq ⊢
  walk_at "dl"
  walk_at "sd"
theorem b__law_dot {K : Fg} {mg : Str → Option Value} (T : Tx K mg) : Binds K T.fd__law_dot ["_law_one", "_law_other"] [] := T.F__law_dot.bindsN fun _ _ _ _ _ _ us hl => match us, hl with | [_, _], _ => rfl
theorem fm__law_dot : FMono f_dot := fm2
theorem ln__law_dot : ∀ ds Q, f_dot ds Q → ds.length = (["_law_one", "_law_other"] : List Str).length := ln2
theorem ok__law_dot {P : Program} {w : World} {K : Fg} {mg : Str → Option Value} {base : Heap} (T : Tx K mg) : FnOk P w K mg base CX0 4 (He.fAd K ("_law_dot", none)) T.fd__law_dot ["_law_one", "_law_other"] (spP K f_dot) := by
  refine ok_pure T.F__law_dot sc__law_dot fm__law_dot ln__law_dot (fun cdv A outer s H E Z hr => ⟨_, (dss_one (ds_ret (de_call (ok__law_plus T) fm__law_plus (hr.mono (by decide)) rfl T.g__law_plus T.F__law_plus.kp (b__law_plus T) .nil (fun _ => .nil) (da_cons (de_call (ok__law_times T) fm__law_times (hr.mono (by decide)) rfl T.g__law_times T.F__law_times.kp (b__law_times T) .nil (fun _ => .nil) (da_cons (de_ix (de_var 0) de_int) (da_cons (de_ix (de_var 1) de_int) da_nil))) (da_cons (de_call (ok__law_times T) fm__law_times (hr.mono (by decide)) rfl T.g__law_times T.F__law_times.kp (b__law_times T) .nil (fun _ => .nil) (da_cons (de_ix (de_var 0) de_int) (da_cons (de_ix (de_var 1) de_int) da_nil))) da_nil))))), fun ds Q h => ?_⟩)
  obtain ⟨⟨a, b⟩, ⟨c, d⟩, rfl, ⟨⟨h1, h2⟩, h3, h4⟩, hq⟩ := h
  simp only [plD] at h1 h2 h3 h4 hq ⊢
  walk_at "dl"
  walk_at "sd"
theorem b__law_cross {K : Fg} {mg : Str → Option Value} (T : Tx K mg) : Binds K T.fd__law_cross ["_law_one", "_law_other"] [] := T.F__law_cross.bindsN fun _ _ _ _ _ _ us hl => match us, hl with | [_, _], _ => rfl
theorem fm__law_cross : FMono f_cross := fm2
theorem ln__law_cross : ∀ ds Q, f_cross ds Q → ds.length = (["_law_one", "_law_other"] : List Str).length := ln2
theorem ok__law_cross {P : Program} {w : World} {K : Fg} {mg : Str → Option Value} {base : Heap} (T : Tx K mg) : FnOk P w K mg base CX0 4 (He.fAd K ("_law_cross", none)) T.fd__law_cross ["_law_one", "_law_other"] (spP K f_cross) := by
  refine ok_pure T.F__law_cross sc__law_cross fm__law_cross ln__law_cross (fun cdv A outer s H E Z hr => ⟨_, (dss_one (ds_ret (de_call (ok__law_minus T) fm__law_minus (hr.mono (by decide)) rfl T.g__law_minus T.F__law_minus.kp (b__law_minus T) .nil (fun _ => .nil) (da_cons (de_call (ok__law_times T) fm__law_times (hr.mono (by decide)) rfl T.g__law_times T.F__law_times.kp (b__law_times T) .nil (fun _ => .nil) (da_cons (de_ix (de_var 0) de_int) (da_cons (de_ix (de_var 1) de_int) da_nil))) (da_cons (de_call (ok__law_times T) fm__law_times (hr.mono (by decide)) rfl T.g__law_times T.F__law_times.kp (b__law_times T) .nil (fun _ => .nil) (da_cons (de_ix (de_var 0) de_int) (da_cons (de_ix (de_var 1) de_int) da_nil))) da_nil))))), fun ds Q h => ?_⟩)
  obtain ⟨⟨a, b⟩, ⟨c, d⟩, rfl, ⟨⟨h1, h2⟩, h3, h4⟩, hq⟩ := h
  simp only [plD] at h1 h2 h3 h4 hq ⊢
  walk_at "dl"
  walk_at "sd"
theorem b__law_led {K : Fg} {mg : Str → Option Value} (T : Tx K mg) : Binds K T.fd__law_led ["_law_place", "_law_quarters", "_law_flip"] [] := T.F__law_led.bindsN fun _ _ _ _ _ _ us hl => match us, hl with | [_, _, _], _ => rfl
theorem fm__law_led : FMono f_lledq := DL.fm_lledq
theorem ln__law_led : ∀ ds Q, f_lledq ds Q → ds.length = (["_law_place", "_law_quarters", "_law_flip"] : List Str).length := DL.ln_lledq
theorem ok__law_led {P : Program} {w : World} {K : Fg} {mg : Str → Option Value} {base : Heap} (T : Tx K mg) : FnOk P w K mg base CX0 4 (He.fAd K ("_law_led", none)) T.fd__law_led ["_law_place", "_law_quarters", "_law_flip"] (spP K f_lledq) := by
  refine ok_pure T.F__law_led sc__law_led fm__law_led ln__law_led (fun cdv A outer s H E Z hr => ⟨_, (dss_cons (ds_for PassesOwn.never rfl (di_range1 rfl T.m_range (da_cons (de_var 1) da_nil)) (dg_name (i := 3) sc__law_led.nd rfl (by first | exact Or.inl rfl | exact Or.inr rfl))
    (dss_one (ds_set (i := 0) sc__law_led.nd rfl (by first | exact Or.inl rfl | exact Or.inr rfl) (de_tup (da_cons (de_call (ok__law_minus T) fm__law_minus (hr.mono (by decide)) rfl T.g__law_minus T.F__law_minus.kp (b__law_minus T) .nil (fun _ => .nil) (da_cons (de_tup (da_cons de_int (da_cons de_int da_nil))) (da_cons (de_ix (de_var 0) de_int) da_nil))) (da_cons (de_ix (de_var 0) de_int) da_nil))))))
    (dss_one (ds_ret (de_tup (da_cons (de_ix (de_var 0) de_int) (da_cons (de_call (ok__law_times T) fm__law_times (hr.mono (by decide)) rfl T.g__law_times T.F__law_times.kp (b__law_times T) .nil (fun _ => .nil) (da_cons (de_ix (de_var 0) de_int) (da_cons (de_tup (da_cons (de_var 2) (da_cons de_int da_nil))) da_nil))) da_nil)))))), fun ds Q h => ?_⟩)
  obtain ⟨p, q, f, rfl, ⟨hp, hq4, hf⟩, hq⟩ := h
  walk_at "dl"
  simp only [dFor, iRg1]
  walk_at "dl"
  refine ⟨by omega, by omega, ?_⟩
  refine for_op (fun j δ => ∃ b3, δ = [some (.sh (plD (qr j p))), some (.sh (.int q)), some (.sh (.int f)), b3]) ⟨_, rfl⟩ ?_ ?_
  · rintro W hW j d δ hj ⟨b3, rfl⟩
    have hb := qr_bd (q := j) hp
    have h1 := hb.1
    have h2 := hb.2
    have e : qr (j + 1) p = (-(qr j p).2, (qr j p).1) := rfl
    generalize qr j p = P at *
    obtain ⟨x, y⟩ := P
    simp only [plD] at hW h1 h2 ⊢
    have hjl := (List.getElem?_eq_some_iff.mp hj).1
    rw [rngD_len] at hjl
    rw [rngD_get hjl] at hj
    cases hj
    walk_at "dl"
    refine ⟨bd_zero.mono (by decide), h2.mono (by decide), hW _ _ ⟨some (.sh (.int (0 + (j : Int)))), ?_⟩⟩
    rw [e]
    simp only
    rw [show ((0 : Int) : Rat) - y = -y by grind]
  · rintro δ ⟨b3, rfl⟩
    rw [rngD_len, show ((q : Int)).toNat = q by omega]
    have hb := qr_bd (q := q) hp
    unfold ldq at hq
    generalize qr q p = P at *
    obtain ⟨x, y⟩ := P
    simp only [plD] at hq ⊢
    walk_at "dl"
    exact ⟨hb.2.mono (by decide), (w_bd hf).mono (by decide), hq⟩
theorem b_lessened {K : Fg} {mg : Str → Option Value} (T : Tx K mg) : Binds K T.fd_lessened ["one", "other"] [] := T.F_lessened.bindsN fun _ _ _ _ _ _ us hl => match us, hl with | [_, _], _ => rfl
theorem fm_lessened : FMono f_less := fm2
theorem ln_lessened : ∀ ds Q, f_less ds Q → ds.length = (["one", "other"] : List Str).length := ln2
theorem ok_lessened {P : Program} {w : World} {K : Fg} {mg : Str → Option Value} {base : Heap} (T : Tx K mg) : FnOk P w K mg base CX0 5 (He.fAd K ("lessened", none)) T.fd_lessened ["one", "other"] (spP K f_less) := by
  refine ok_pure T.F_lessened sc_lessened fm_lessened ln_lessened (fun cdv A outer s H E Z hr => ⟨_, (dss_one (ds_ret (de_tup (da_cons (de_call (ok_minus T) fm_minus (hr.mono (by decide)) rfl T.g_minus T.F_minus.kp (b_minus T) .nil (fun _ => .nil) (da_cons (de_ix (de_var 0) de_int) (da_cons (de_ix (de_var 1) de_int) da_nil))) (da_cons (de_call (ok_minus T) fm_minus (hr.mono (by decide)) rfl T.g_minus T.F_minus.kp (b_minus T) .nil (fun _ => .nil) (da_cons (de_ix (de_var 0) de_int) (da_cons (de_ix (de_var 1) de_int) da_nil))) da_nil))))), fun ds Q h => ?_⟩)
  obtain ⟨⟨a, b⟩, ⟨c, d⟩, rfl, ⟨⟨h1, h2⟩, h3, h4⟩, hq⟩ := h
  simp only [plD] at h1 h2 h3 h4 hq ⊢
  walk_at "dl"
  walk_at "sd"
theorem b_cross {K : Fg} {mg : Str → Option Value} (T : Tx K mg) : Binds K T.fd_cross ["one", "other"] [] := T.F_cross.bindsN fun _ _ _ _ _ _ us hl => match us, hl with | [_, _], _ => rfl
theorem fm_cross : FMono f_cross := fm2
theorem ln_cross : ∀ ds Q, f_cross ds Q → ds.length = (["one", "other"] : List Str).length := ln2
theorem ok_cross {P : Program} {w : World} {K : Fg} {mg : Str → Option Value} {base : Heap} (T : Tx K mg) : FnOk P w K mg base CX0 5 (He.fAd K ("cross", none)) T.fd_cross ["one", "other"] (spP K f_cross) := by
  refine ok_pure T.F_cross sc_cross fm_cross ln_cross (fun cdv A outer s H E Z hr => ⟨_, (dss_one (ds_ret (de_call (ok_minus T) fm_minus (hr.mono (by decide)) rfl T.g_minus T.F_minus.kp (b_minus T) .nil (fun _ => .nil) (da_cons (de_call (ok_times T) fm_times (hr.mono (by decide)) rfl T.g_times T.F_times.kp (b_times T) .nil (fun _ => .nil) (da_cons (de_ix (de_var 0) de_int) (da_cons (de_ix (de_var 1) de_int) da_nil))) (da_cons (de_call (ok_times T) fm_times (hr.mono (by decide)) rfl T.g_times T.F_times.kp (b_times T) .nil (fun _ => .nil) (da_cons (de_ix (de_var 0) de_int) (da_cons (de_ix (de_var 1) de_int) da_nil))) da_nil))))), fun ds Q h => ?_⟩)
  obtain ⟨⟨a, b⟩, ⟨c, d⟩, rfl, ⟨⟨h1, h2⟩, h3, h4⟩, hq⟩ := h
  simp only [plD] at h1 h2 h3 h4 hq ⊢
  walk_at "dl"
  walk_at "sd"
theorem b_turned {K : Fg} {mg : Str → Option Value} (T : Tx K mg) : Binds K T.fd_turned ["place", "by"] [] := T.F_turned.bindsN fun _ _ _ _ _ _ us hl => match us, hl with | [_, _], _ => rfl
theorem fm_turned : FMono f_turned := fm2
theorem ln_turned : ∀ ds Q, f_turned ds Q → ds.length = (["place", "by"] : List Str).length := ln2
theorem ok_turned {P : Program} {w : World} {K : Fg} {mg : Str → Option Value} {base : Heap} (T : Tx K mg) : FnOk P w K mg base CX0 5 (He.fAd K ("turned", none)) T.fd_turned ["place", "by"] (spP K f_turned) := by
  refine ok_pure T.F_turned sc_turned fm_turned ln_turned (fun cdv A outer s H E Z hr => ⟨_, (dss_cons (ds_asg (de_var 0) (dg_tup (n := 2) rfl (dgs_cons (dg_name (i := 2) sc_turned.nd rfl (by first | exact Or.inl rfl | exact Or.inr rfl)) (dgs_cons (dg_name (i := 3) sc_turned.nd rfl (by first | exact Or.inl rfl | exact Or.inr rfl)) dgs_nil))))
    (dss_cons (ds_asg (de_var 1) (dg_tup (n := 2) rfl (dgs_cons (dg_name (i := 4) sc_turned.nd rfl (by first | exact Or.inl rfl | exact Or.inr rfl)) (dgs_cons (dg_name (i := 5) sc_turned.nd rfl (by first | exact Or.inl rfl | exact Or.inr rfl)) dgs_nil))))
    (dss_one (ds_ret (de_tup (da_cons (de_call (ok_minus T) fm_minus (hr.mono (by decide)) rfl T.g_minus T.F_minus.kp (b_minus T) .nil (fun _ => .nil) (da_cons (de_call (ok_times T) fm_times (hr.mono (by decide)) rfl T.g_times T.F_times.kp (b_times T) .nil (fun _ => .nil) (da_cons (de_var 2) (da_cons (de_var 4) da_nil))) (da_cons (de_call (ok_times T) fm_times (hr.mono (by decide)) rfl T.g_times T.F_times.kp (b_times T) .nil (fun _ => .nil) (da_cons (de_var 3) (da_cons (de_var 5) da_nil))) da_nil))) (da_cons (de_call (ok_plus T) fm_plus (hr.mono (by decide)) rfl T.g_plus T.F_plus.kp (b_plus T) .nil (fun _ => .nil) (da_cons (de_call (ok_times T) fm_times (hr.mono (by decide)) rfl T.g_times T.F_times.kp (b_times T) .nil (fun _ => .nil) (da_cons (de_var 2) (da_cons (de_var 5) da_nil))) (da_cons (de_call (ok_times T) fm_times (hr.mono (by decide)) rfl T.g_times T.F_times.kp (b_times T) .nil (fun _ => .nil) (da_cons (de_var 3) (da_cons (de_var 4) da_nil))) da_nil))) da_nil))))))), fun ds Q h => ?_⟩)
  obtain ⟨⟨a, b⟩, ⟨c, d⟩, rfl, ⟨⟨h1, h2⟩, h3, h4⟩, hq⟩ := h
  simp only [plD] at h1 h2 h3 h4 hq ⊢
  walk_at "dl"
  walk_at "sd"
theorem b_fineness {K : Fg} {mg : Str → Option Value} (T : Tx K mg) : Binds K T.fd_fineness ["radius", "within"] [] := T.F_fineness.bindsN fun _ _ _ _ _ _ us hl => match us, hl with | [_, _], _ => rfl
theorem fm_fineness : FMono f_fine := DL.fm_fine
theorem ln_fineness : ∀ ds Q, f_fine ds Q → ds.length = (["radius", "within"] : List Str).length := DL.ln_fine
theorem ok_fineness {P : Program} {w : World} {K : Fg} {mg : Str → Option Value} {base : Heap} (T : Tx K mg) : FnOk P w K mg base CX0 5 (He.fAd K ("fineness", none)) T.fd_fineness ["radius", "within"] (spP K f_fine) := by
  refine ok_pure T.F_fineness sc_fineness fm_fineness ln_fineness (fun cdv A outer s H E Z hr => ⟨_, (dss_cons (ds_if (dt_not (dt_val (de_call (ok_is_below T) fm_is_below (hr.mono (by decide)) rfl T.g_is_below T.F_is_below.kp (b_is_below T) .nil (fun _ => .nil) (da_cons (de_var 1) (da_cons (de_var 0) da_nil)))))
    (dss_one (ds_ret de_int))
    dss_nil)
    (dss_cons (ds_set (i := 2) sc_fineness.nd rfl (by first | exact Or.inl rfl | exact Or.inr rfl) (de_call (ok_minus T) fm_minus (hr.mono (by decide)) rfl T.g_minus T.F_minus.kp (b_minus T) .nil (fun _ => .nil) (da_cons (de_globC rfl T.c_ONE) (da_cons (de_call (ok_over T) fm_over (hr.mono (by decide)) rfl T.g_over T.F_over.kp (b_over T) .nil (fun _ => .nil) (da_cons (de_var 1) (da_cons (de_var 0) da_nil))) da_nil))))
    (dss_cons (ds_set (i := 3) sc_fineness.nd rfl (by first | exact Or.inl rfl | exact Or.inr rfl) (de_call (ok_times T) fm_times (hr.mono (by decide)) rfl T.g_times T.F_times.kp (b_times T) .nil (fun _ => .nil) (da_cons (de_var 2) (da_cons (de_var 2) da_nil))))
    (dss_cons (ds_set (i := 4) sc_fineness.nd rfl (by first | exact Or.inl rfl | exact Or.inr rfl) (de_call (ok_over T) fm_over (hr.mono (by decide)) rfl T.g_over T.F_over.kp (b_over T) .nil (fun _ => .nil) (da_cons (de_var 3) (da_cons (de_call (ok_minus T) fm_minus (hr.mono (by decide)) rfl T.g_minus T.F_minus.kp (b_minus T) .nil (fun _ => .nil) (da_cons (de_globC rfl T.c_ONE) (da_cons (de_var 3) da_nil))) da_nil))))
    (dss_cons (ds_set (i := 5) sc_fineness.nd rfl (by first | exact Or.inl rfl | exact Or.inr rfl) (de_b (cd_max rfl) rfl T.m_max bb_max (da_cons de_int (da_cons (de_call (ok_side_of T) fm_side_of (hr.mono (by decide)) rfl T.g_side_of T.F_side_of.kp (b_side_of T) .nil (fun _ => .nil) (da_cons (de_call (ok_whole T) fm_whole (hr.mono (by decide)) rfl T.g_whole T.F_whole.kp (b_whole T) .nil (fun _ => .nil) (da_cons (de_var 4) da_nil)) da_nil)) da_nil))))
    (dss_cons (ds_while PassesOwn.never (dt_val (de_call (ok_is_below T) fm_is_below (hr.mono (by decide)) rfl T.g_is_below T.F_is_below.kp (b_is_below T) .nil (fun _ => .nil) (da_cons (de_tup (da_cons (de_op od_mul (de_var 5) (de_var 5)) (da_cons de_int da_nil))) (da_cons (de_var 4) da_nil))))
    (dss_one (ds_aug (i := 5) sc_fineness.nd rfl (by first | exact Or.inl rfl | exact Or.inr rfl) de_int ip_add)))
    (dss_one (ds_ret (de_var 5))))))))), fun ds Q h => ?_⟩)
  obtain ⟨r, m, rfl, ⟨br, r0, m0, bm, hk⟩, hq⟩ := h
  have hr0 : r ≠ 0 := by grind
  have e1 : ((1 : Int) : Rat) = 1 := rfl
  have b1 := bd_one
  walk_at "dl"
  by_cases z : m < r
  · rw [decide_eq_true z]
    have s1 := share_in r0 m0 hk z
    have s2 := square_in s1
    have s3 := least_in s2.1 s2.2.2.1 s2.2.2.2
    have hf := fun n : Nat => fine_of (r := r) (m := m) (n := n) s2.2.2.1
    rw [e1]
    have b2 : Bd 122 (1 - m / r) := by walk_at "bd"
    generalize 1 - m / r = s at *
    have b3 : Bd 246 (1 - s * s) := by walk_at "bd"
    have n1 : 1 - s * s ≠ 0 := by grind
    have b4 : Bd 490 (s * s / (1 - s * s)) := by walk_at "bd"
    simp only [Bool.not_true]
    generalize s * s / (1 - s * s) = l at *
    walk_at "sd"
    · exact floor_nn s3.1
    · exact floor_sm s3.1 s3.2
    intro x x0 x1 _
    have x2 := side_lt s3.2 x0 x1
    refine while_op (fun k δ => ∃ y : Int, δ = [some (.sh (numD r)), some (.sh (numD m)), some (.sh (numD s)), some (.sh (numD (s * s))), some (.sh (numD l)), some (.sh (.int y))] ∧ 1 ≤ y ∧ y ≤ 23 ∧ k = (23 - y).toNat) ⟨_, _, rfl, ?_, ?_, rfl⟩ ?_
    · split <;> omega
    · split <;> omega
    rintro W hW k δ ⟨y, rfl, y1, y2, rfl⟩
    walk_at "dl"
    refine ⟨mul64 (by omega) (by omega) (by omega) (by omega), (Bd.int (i := y * y) (n := 12) ?_ (by decide)).mono (by decide), b4.mono (by decide), ?_⟩
    · have g1 := Int.mul_le_mul y2 y2 (by omega) (show (0 : Int) ≤ 23 by omega)
      have g2 := Int.mul_nonneg (show 0 ≤ y by omega) (show 0 ≤ y by omega)
      omega
    by_cases hx : ((y * y : Int) : Rat) < l
    · have y3 := parts_lt s3.2 (by omega) hx
      rw [decide_eq_true hx]
      simp only
      exact ⟨_, by omega, hW _ _ ⟨y + 1, rfl, by omega, by omega, rfl⟩⟩
    · rw [decide_eq_false hx]
      simp only
      have e4 : y = ((y.toNat : Nat) : Int) := by omega
      rw [e4] at hx ⊢
      exact hq _ (by omega) (by omega) (hf _ hx)
  · rw [decide_eq_false z]
    simp only [Bool.not_false]
    walk_at "sd"
    exact hq 1 (by omega) (by omega) (fine_one z)
theorem b__law_arc {K : Fg} {mg : Str → Option Value} (T : Tx K mg) : Binds K T.fd__law_arc ["_law_urn_here", "_law_many"] [] := T.F__law_arc.bindsN fun _ _ _ _ _ _ us hl => match us, hl with | [_, _], _ => rfl
theorem bm__law_arc : BMono f_arcb := DL.fm_arcb
theorem ln__law_arc : ∀ xs ds Q, f_arcb xs ds Q → ds.length + 1 = (["_law_urn_here", "_law_many"] : List Str).length := DL.ln_arcb
theorem ok__law_arc {P : Program} {w : World} {K : Fg} {mg : Str → Option Value} {base : Heap} (T : Tx K mg) : FnOk P w K mg base CX0 5 (He.fAd K ("_law_arc", none)) T.fd__law_arc ["_law_urn_here", "_law_many"] (spB K f_arcb) := by
  refine ok_bag T.F__law_arc sc__law_arc bm__law_arc ln__law_arc (fun cdv A outer s H E Z hr => ⟨_, (dss_cons (ds_par (i := 9) (j := 10) rfl sc__law_arc.nd rfl rfl (by decide) rfl rfl (da_cons (de_callB 0 (ok__law_turn T) bm__law_turn (hr.mono (by decide)) rfl T.g__law_turn T.F__law_turn.kp (b__law_turn T) da_nil) (da_cons (de_callB 0 (ok__law_turn T) bm__law_turn (hr.mono (by decide)) rfl T.g__law_turn T.F__law_turn.kp (b__law_turn T) da_nil) da_nil)) (fun _ h => ps_par rfl sc__law_arc.nd rfl rfl (by decide) rfl rfl h (by rfl)))
    (dss_cons (ds_if (dt_cmp (od_eq hr.units) (de_callB 0 (ok__law_draw T) bm__law_draw (hr.mono (by decide)) rfl T.g__law_draw T.F__law_draw.kp (b__law_draw T) (da_cons de_int da_nil)) de_int)
    (dss_one (ds_set (i := 10) sc__law_arc.nd rfl (by first | exact Or.inl rfl | exact Or.inr rfl) (de_var 9)))
    dss_nil)
    (dss_cons (ds_set (i := 2) sc__law_arc.nd rfl (by first | exact Or.inl rfl | exact Or.inr rfl) (de_op od_mul (de_op od_add (de_op od_mul (de_ix (de_var 9) de_int) (de_ix (de_var 9) de_int)) (de_op od_mul (de_ix (de_var 9) de_int) (de_ix (de_var 9) de_int))) (de_op od_add (de_op od_mul (de_ix (de_var 10) de_int) (de_ix (de_var 10) de_int)) (de_op od_mul (de_ix (de_var 10) de_int) (de_ix (de_var 10) de_int)))))
    (dss_cons (ds_set (i := 3) sc__law_arc.nd rfl (by first | exact Or.inl rfl | exact Or.inr rfl) (de_op od_mul (de_op od_add de_int (de_callB 0 (ok__law_draw T) bm__law_draw (hr.mono (by decide)) rfl T.g__law_draw T.F__law_draw.kp (b__law_draw T) (da_cons (de_var 1) da_nil))) (de_var 2)))
    (dss_cons (ds_set (i := 4) sc__law_arc.nd rfl (by first | exact Or.inl rfl | exact Or.inr rfl) (de_op od_add de_int (de_callB 0 (ok__law_draw T) bm__law_draw (hr.mono (by decide)) rfl T.g__law_draw T.F__law_draw.kp (b__law_draw T) (da_cons de_int da_nil))))
    (dss_cons (ds_set (i := 5) sc__law_arc.nd rfl (by first | exact Or.inl rfl | exact Or.inr rfl) (de_call (ok__law_low T) fm__law_low (hr.mono (by decide)) rfl T.g__law_low T.F__law_low.kp (b__law_low T) .nil (fun _ => .nil) (da_cons (de_var 3) (da_cons (de_var 4) da_nil))))
    (dss_cons (ds_set (i := 6) sc__law_arc.nd rfl (by first | exact Or.inl rfl | exact Or.inr rfl) (de_tup (da_cons (de_call (ok__law_low T) fm__law_low (hr.mono (by decide)) rfl T.g__law_low T.F__law_low.kp (b__law_low T) .nil (fun _ => .nil) (da_cons (de_op od_sub (de_callB 0 (ok__law_draw T) bm__law_draw (hr.mono (by decide)) rfl T.g__law_draw T.F__law_draw.kp (b__law_draw T) (da_cons de_int da_nil)) de_int) (da_cons (de_var 4) da_nil))) (da_cons (de_call (ok__law_low T) fm__law_low (hr.mono (by decide)) rfl T.g__law_low T.F__law_low.kp (b__law_low T) .nil (fun _ => .nil) (da_cons (de_op od_sub (de_callB 0 (ok__law_draw T) bm__law_draw (hr.mono (by decide)) rfl T.g__law_draw T.F__law_draw.kp (b__law_draw T) (da_cons de_int da_nil)) de_int) (da_cons (de_var 4) da_nil))) da_nil))))
    (dss_cons (ds_set (i := 7) sc__law_arc.nd rfl (by first | exact Or.inl rfl | exact Or.inr rfl) (de_call (ok__law_add T) fm__law_add (hr.mono (by decide)) rfl T.g__law_add T.F__law_add.kp (b__law_add T) .nil (fun _ => .nil) (da_cons (de_var 6) (da_cons (de_call (ok__law_scale T) fm__law_scale (hr.mono (by decide)) rfl T.g__law_scale T.F__law_scale.kp (b__law_scale T) .nil (fun _ => .nil) (da_cons (de_call (ok__law_heading T) fm__law_heading (hr.mono (by decide)) rfl T.g__law_heading T.F__law_heading.kp (b__law_heading T) .nil (fun _ => .nil) (da_cons (de_var 9) da_nil)) (da_cons (de_var 5) da_nil))) da_nil))))
    (dss_cons (ds_set (i := 8) sc__law_arc.nd rfl (by first | exact Or.inl rfl | exact Or.inr rfl) (de_call (ok__law_add T) fm__law_add (hr.mono (by decide)) rfl T.g__law_add T.F__law_add.kp (b__law_add T) .nil (fun _ => .nil) (da_cons (de_var 6) (da_cons (de_call (ok__law_scale T) fm__law_scale (hr.mono (by decide)) rfl T.g__law_scale T.F__law_scale.kp (b__law_scale T) .nil (fun _ => .nil) (da_cons (de_call (ok__law_heading T) fm__law_heading (hr.mono (by decide)) rfl T.g__law_heading T.F__law_heading.kp (b__law_heading T) .nil (fun _ => .nil) (da_cons (de_var 10) da_nil)) (da_cons (de_var 5) da_nil))) da_nil))))
    (dss_one (ds_ret (de_tup (da_cons (de_tup (da_cons de_str (da_cons (de_var 7) (da_cons (de_var 8) (da_cons (de_var 6) (da_cons (de_op od_sub de_int (de_op od_mul de_int (de_callB 0 (ok__law_draw T) bm__law_draw (hr.mono (by decide)) rfl T.g__law_draw T.F__law_draw.kp (b__law_draw T) (da_cons de_int da_nil)))) da_nil)))))) (da_cons (de_var 5) da_nil)))))))))))))), fun xs ds Q h => ?_⟩)
  obtain ⟨n, m, hb, hn, rfl, ⟨hm1, hm2⟩, hq⟩ := h
  have hn' : n + 12 ≤ 1000000 := hn
  refine seq_k fun K hK => ?_
  walk_at "dl"
  refine turn4_at hb (show _ ≤ 1000000 by omega) fun p q x1 p1 p2 q1 q2 hpq hb => ?_
  walk_at "dl"
  refine turn4_at hb (show _ ≤ 1000000 by omega) fun p' q' x2 p3 p4 q3 q4 hpq2 hb => ?_
  walk_at "dl"
  refine hK _ ?_
  refine seq_op (fun δ => ∃ (x3 : List PyData) (a b : Int), (-4 ≤ a ∧ a ≤ 4 ∧ -4 ≤ b ∧ b ≤ 4 ∧ (a ≠ 0 ∨ b ≠ 0)) ∧ BagOk (n + 5) x3 ∧ δ = [some (.ow true x3), some (.sh (.int m)), none, none, none, none, none, none, none, some (.sh (.tuple [.int p, .int q])), some (.sh (.tuple [.int a, .int b]))]) (fun J hJ => ?_) ?_
  · walk_at "dl"
    refine take_at hb (show _ ≤ 1000000 by omega) (by decide) (by decide) fun d1 x3 d2 d3 hb => ?_
    walk_at "dl"
    by_cases z : d1 = 0
    · have z1 : (d1 == 0) = true := by simpa using z
      simp only [z1]
      exact hJ _ ⟨_, p, q, ⟨p1, p2, q1, q2, hpq⟩, hb, rfl⟩
    · have z1 : (d1 == 0) = false := by simpa using z
      simp only [z1]
      exact hJ _ ⟨_, p', q', ⟨p3, p4, q3, q4, hpq2⟩, hb, rfl⟩
  rintro δ ⟨x3, a, b, ⟨a1, a2, b1, b2, hab⟩, hb, rfl⟩
  walk_at "dl"
  have hP := two_pos hpq
  have hA := two_pos hab
  obtain ⟨s1, s2⟩ := sq_16 p1 p2
  obtain ⟨s3, s4⟩ := sq_16 q1 q2
  obtain ⟨s5, s6⟩ := sq_16 a1 a2
  obtain ⟨s7, s8⟩ := sq_16 b1 b2
  refine ⟨mul64 (by omega) (by omega) (by omega) (by omega), mul64 (by omega) (by omega) (by omega) (by omega), mul64 (by omega) (by omega) (by omega) (by omega), mul64 (by omega) (by omega) (by omega) (by omega), mul64 (by omega) (by omega) (by omega) (by omega), ?_⟩
  refine take_at hb (show _ ≤ 1000000 by omega) (by omega) (by omega) fun d2 x4 d3 d4 hb => ?_
  walk_at "dl"
  have m1 := mul_in (a := p * p + q * q) (b := a * a + b * b) (A := 32) (B := 32) (by omega) (by omega) (by omega) (by omega)
  have m2 := Int.mul_pos hP hA
  generalize (p * p + q * q) * (a * a + b * b) = PA at *
  have m3 := mul_in (a := 1 + d2) (b := PA) (A := 1000) (B := 1024) (by omega) (by omega) (by omega) (by omega)
  have m4 := Int.mul_pos (show 0 < 1 + d2 by omega) m2
  refine ⟨mul64 (by omega) (by omega) (by omega) (by omega), ?_⟩
  generalize (1 + d2) * PA = PS at *
  refine take_at hb (show _ ≤ 1000000 by omega) (by omega) (by omega) fun d5 x5 d6 d7 hb => ?_
  walk_at "dl"
  refine ⟨by omega, by have h9 : (2 : Nat) ^ 10 ≤ 2 ^ 9000 := Nat.pow_le_pow_right (by omega) (by decide)
                       omega, ?_⟩
  refine take_at hb (show _ ≤ 1000000 by omega) (by omega) (by omega) fun d8 x6 d9 d10 hb => ?_
  walk_at "dl"
  have h9 : (2 : Nat) ^ 10 ≤ 2 ^ 9000 := Nat.pow_le_pow_right (by omega) (by decide)
  refine ⟨by omega, by omega, ?_⟩
  refine take_at hb (show _ ≤ 1000000 by omega) (by omega) (by omega) fun d11 x7 d12 d13 hb => ?_
  walk_at "dl"
  have br : Bd 20 (Rat.divInt PS (1 + d5)) := bd_divInt (by omega) (by omega) (by omega)
  have bx : Bd 20 (Rat.divInt (d8 - 1000) (1 + d5)) := bd_divInt (by omega) (by omega) (by omega)
  have by_ : Bd 20 (Rat.divInt (d11 - 1000) (1 + d5)) := bd_divInt (by omega) (by omega) (by omega)
  have r0 : 0 < Rat.divInt PS (1 + d5) := dI_pos (by omega) (by omega)
  generalize Rat.divInt PS (1 + d5) = r at *
  generalize Rat.divInt (d8 - 1000) (1 + d5) = cx at *
  generalize Rat.divInt (d11 - 1000) (1 + d5) = cy at *
  have g1 := hd_one hpq
  have g2 := hd_one hab
  obtain ⟨u1, u2⟩ := hd_bd (k := 3) hpq (by omega) (by omega)
  obtain ⟨u3, u4⟩ := hd_bd (k := 3) hab (by omega) (by omega)
  generalize hdc p q = c1 at *
  generalize hds p q = c2 at *
  generalize hdc a b = c3 at *
  generalize hds a b = c4 at *
  walk_at "sd"
  · omega
  · omega
  · omega
  · omega
  · omega
  · omega
  refine take_at hb (show _ ≤ 1000000 by omega) (by decide) (by decide) fun d14 x8 d15 d16 hb => ?_
  walk_at "dl"
  refine ⟨mul64 (by omega) (by omega) (by omega) (by omega), ?_⟩
  refine hq (cx + c1 * r, cy + c2 * r) (cx + c3 * r, cy + c4 * r) (cx, cy) (1 - 2 * d14) r _ ⟨⟨by simp only; walk_at "bd", by simp only; walk_at "bd"⟩, ⟨by simp only; walk_at "bd", by simp only; walk_at "bd"⟩, ⟨by simp only; walk_at "bd", by simp only; walk_at "bd"⟩, by omega, r0, by walk_at "bd", ?_, ?_⟩ (by walk_at "bd") (hb.mono (by omega))
  · unfold sb2 dt
    simp only
    grind
  · unfold sb2 dt
    simp only
    grind
theorem b_distance {K : Fg} {mg : Str → Option Value} (T : Tx K mg) : Binds K T.fd_distance ["one", "other"] [] := T.F_distance.bindsN fun _ _ _ _ _ _ us hl => match us, hl with | [_, _], _ => rfl
theorem fm_distance : FMono f_dist := fm2
theorem ln_distance : ∀ ds Q, f_dist ds Q → ds.length = (["one", "other"] : List Str).length := ln2
theorem ok_distance {P : Program} {w : World} {K : Fg} {mg : Str → Option Value} {base : Heap} (T : Tx K mg) : FnOk P w K mg base CX0 6 (He.fAd K ("distance", none)) T.fd_distance ["one", "other"] (spP K f_dist) := by
  refine ok_pure T.F_distance sc_distance fm_distance ln_distance (fun cdv A outer s H E Z hr => ⟨_, (dss_cons (ds_set (i := 2) sc_distance.nd rfl (by first | exact Or.inl rfl | exact Or.inr rfl) (de_call (ok_lessened T) fm_lessened (hr.mono (by decide)) rfl T.g_lessened T.F_lessened.kp (b_lessened T) .nil (fun _ => .nil) (da_cons (de_var 0) (da_cons (de_var 1) da_nil))))
    (dss_one (ds_ret (de_call (ok_root T) fm_root (hr.mono (by decide)) rfl T.g_root T.F_root.kp (b_root T) .nil (fun _ => .nil) (da_cons (de_call (ok_dot T) fm_dot (hr.mono (by decide)) rfl T.g_dot T.F_dot.kp (b_dot T) .nil (fun _ => .nil) (da_cons (de_var 2) (da_cons (de_var 2) da_nil))) da_nil))))), fun ds Q h => ?_⟩)
  obtain ⟨⟨a, b⟩, ⟨c, d⟩, rfl, ⟨⟨h1, h2⟩, h3, h4⟩, hq⟩ := h
  simp only [plD] at h1 h2 h3 h4 hq ⊢
  walk_at "dl"
  walk_at "sd"
theorem b_is_behind_half {K : Fg} {mg : Str → Option Value} (T : Tx K mg) : Binds K T.fd_is_behind_half ["one", "other", "way"] [] := T.F_is_behind_half.bindsN fun _ _ _ _ _ _ us hl => match us, hl with | [_, _, _], _ => rfl
theorem fm_is_behind_half : FMono f_behind := fm3
theorem ln_is_behind_half : ∀ ds Q, f_behind ds Q → ds.length = (["one", "other", "way"] : List Str).length := ln3
theorem ok_is_behind_half {P : Program} {w : World} {K : Fg} {mg : Str → Option Value} {base : Heap} (T : Tx K mg) : FnOk P w K mg base CX0 6 (He.fAd K ("is_behind_half", none)) T.fd_is_behind_half ["one", "other", "way"] (spP K f_behind) := by
  refine ok_pure T.F_is_behind_half sc_is_behind_half fm_is_behind_half ln_is_behind_half (fun cdv A outer s H E Z hr => ⟨_, (dss_cons (ds_set (i := 3) sc_is_behind_half.nd rfl (by first | exact Or.inl rfl | exact Or.inr rfl) (de_op od_mul (de_ix (de_call (ok_cross T) fm_cross (hr.mono (by decide)) rfl T.g_cross T.F_cross.kp (b_cross T) .nil (fun _ => .nil) (da_cons (de_var 0) (da_cons (de_var 1) da_nil))) de_int) (de_var 2)))
    (dss_one (ds_ret (de_or (de_cmp od_lt (de_var 3) de_int) (de_one (de_and (de_cmp (od_eq hr.units) (de_var 3) de_int) (de_one (de_cmp od_lt (de_ix (de_call (ok_dot T) fm_dot (hr.mono (by decide)) rfl T.g_dot T.F_dot.kp (b_dot T) .nil (fun _ => .nil) (da_cons (de_var 0) (da_cons (de_var 1) da_nil))) de_int) de_int)))))))), fun ds Q h => ?_⟩)
  obtain ⟨⟨a, b⟩, ⟨c, d⟩, w, rfl, ⟨⟨h1, h2⟩, ⟨h3, h4⟩, hw⟩, hq⟩ := h
  simp only [plD] at h1 h2 h3 h4 hq ⊢
  have hb : Bd 3700 (a * d - b * c) := by walk_at "bd"
  have m1 : CMulW (a * d - b * c).num w := mulW hb.1 (show w.natAbs < 2 ^ 2 by omega) (by decide)
  have e1 : decide ((a * d - b * c).num * w < 0) = decide ((a * d - b * c) * w < 0) := decide_eq_decide.mpr (num_w_lt hw)
  have e2 : ((a * d - b * c).num * w == 0) = decide ((a * d - b * c) * w = 0) := by
    rw [Bool.beq_eq_decide_eq]
    exact decide_eq_decide.mpr (num_w_z hw)
  have e3 : decide ((a * c + b * d).num < 0) = decide (a * c + b * d < 0) := decide_eq_decide.mpr num_lt0
  simp only [behind, cr, dt] at hq
  walk_at "dl"
  walk_at "sd"
  rw [e1, e2, e3]
  by_cases z1 : (a * d - b * c) * w < 0
  · simp only [z1, decide_true, Bool.true_or] at hq ⊢
    exact hq
  · by_cases z2 : (a * d - b * c) * w = 0
    · have z3 : ¬ (0 : Rat) < 0 := by grind
      simp only [z2, z3, decide_true, decide_false, Bool.false_or, Bool.true_and] at hq ⊢
      walk_at "sd"
    · simp only [z1, z2, decide_false, Bool.false_or, Bool.false_and] at hq ⊢
      exact hq
theorem b_radius_of {K : Fg} {mg : Str → Option Value} (T : Tx K mg) : Binds K T.fd_radius_of ["arc"] [] := T.F_radius_of.bindsN fun _ _ _ _ _ _ us hl => match us, hl with | [_], _ => rfl
theorem fm_radius_of : FMono f_radius := fm_radius
theorem ln_radius_of : ∀ ds Q, f_radius ds Q → ds.length = (["arc"] : List Str).length := ln_radius
theorem ok_radius_of {P : Program} {w : World} {K : Fg} {mg : Str → Option Value} {base : Heap} (T : Tx K mg) : FnOk P w K mg base CX0 7 (He.fAd K ("radius_of", none)) T.fd_radius_of ["arc"] (spP K f_radius) := by
  refine ok_pure T.F_radius_of sc_radius_of fm_radius_of ln_radius_of (fun cdv A outer s H E Z hr => ⟨_, (dss_one (ds_ret (de_call (ok_distance T) fm_distance (hr.mono (by decide)) rfl T.g_distance T.F_distance.kp (b_distance T) .nil (fun _ => .nil) (da_cons (de_ix (de_var 0) de_int) (da_cons (de_ix (de_var 0) de_int) da_nil))))), fun ds Q h => ?_⟩)
  obtain ⟨a, b, c, d, e, f, w, r, rfl, ⟨⟨h1, h2, h3, h4, h5, h6⟩, hw, h0, hr⟩, hq⟩ := h
  unfold arcD
  walk_at "dl"
  rw [hr]
  walk_at "dl"
  walk_at "sd"
theorem b_is_sooner {K : Fg} {mg : Str → Option Value} (T : Tx K mg) : Binds K T.fd_is_sooner ["one", "other", "last", "way"] [] := T.F_is_sooner.bindsN fun _ _ _ _ _ _ us hl => match us, hl with | [_, _, _, _], _ => rfl
theorem fm_is_sooner : FMono f_sooner := fm4
theorem ln_is_sooner : ∀ ds Q, f_sooner ds Q → ds.length = (["one", "other", "last", "way"] : List Str).length := ln4
theorem ok_is_sooner {P : Program} {w : World} {K : Fg} {mg : Str → Option Value} {base : Heap} (T : Tx K mg) : FnOk P w K mg base CX0 7 (He.fAd K ("is_sooner", none)) T.fd_is_sooner ["one", "other", "last", "way"] (spP K f_sooner) := by
  refine ok_pure T.F_is_sooner sc_is_sooner fm_is_sooner ln_is_sooner (fun cdv A outer s H E Z hr => ⟨_, (dss_cons (ds_setLc (i := 4) [("place", 5)] rfl sc_is_sooner.nd rfl rfl (sw_true rfl rfl rfl (by decide +kernel)) (di_tup (de_tup (da_cons (de_var 1) (da_cons (de_var 2) da_nil)))) (blkOk_by (own := [("place", 5)]) (N := ["one", "other", "last", "way", "halves", "place"]) (sc := defScope s_is_sooner) (by decide +kernel)) (fun _ _ _ _ _ _ => (dg_name (i := 5) sc_is_sooner.nd rfl (by first | exact Or.inl rfl | exact Or.inr rfl))) (fun _ _ _ _ _ _ => dts_nil) (fun _ _ _ _ _ _ => (de_call (ok_is_behind_half T) fm_is_behind_half (hr.mono (by decide)) rfl T.g_is_behind_half T.F_is_behind_half.kp (b_is_behind_half T) .nil (fun _ => .nil) (da_cons (de_var 0) (da_cons (de_var 5) (da_cons (de_var 3) da_nil))))))
    (dss_cons (ds_if (dt_cmp (od_ne hr.units) (de_ix (de_var 4) de_int) (de_ix (de_var 4) de_int))
    (dss_one (ds_ret (de_ix (de_var 4) de_int)))
    dss_nil)
    (dss_one (ds_ret (de_cmp od_ge (de_op od_mul (de_ix (de_call (ok_cross T) fm_cross (hr.mono (by decide)) rfl T.g_cross T.F_cross.kp (b_cross T) .nil (fun _ => .nil) (da_cons (de_var 1) (da_cons (de_var 2) da_nil))) de_int) (de_var 3)) de_int))))), fun ds Q h => ?_⟩)
  obtain ⟨⟨a, b⟩, ⟨c, d⟩, ⟨e, f⟩, w, rfl, ⟨⟨h1, h2⟩, ⟨h3, h4⟩, ⟨h5, h6⟩, hw⟩, hq⟩ := h
  simp only [plD] at h1 h2 h3 h4 h5 h6 hq ⊢
  have hb : Bd 3700 (c * f - d * e) := by walk_at "bd"
  have m1 : CMulW (c * f - d * e).num w := mulW hb.1 (show w.natAbs < 2 ^ 2 by omega) (by decide)
  have e1 : decide (0 ≤ (c * f - d * e).num * w) = decide (0 ≤ (c * f - d * e) * w) := decide_eq_decide.mpr (num_w_le hw)
  have hq : Q (Res.d (PyData.bool (if behind ((a * d - b * c) * w) (a * c + b * d) = behind ((a * f - b * e) * w) (a * e + b * f) then decide (0 ≤ (c * f - d * e) * w) else behind ((a * f - b * e) * w) (a * e + b * f)))) := hq
  walk_at "dl"
  walk_at "sd"
  rw [e1]
  by_cases z : behind ((a * d - b * c) * ↑w) (a * c + b * d) = behind ((a * f - b * e) * ↑w) (a * e + b * f)
  · rw [if_pos z] at hq
    simp only [z, beq_self_eq_true, Bool.not_true]
    walk_at "sd"
  · rw [if_neg z] at hq
    have z2 : (behind ((a * d - b * c) * ↑w) (a * c + b * d) == behind ((a * f - b * e) * ↑w) (a * e + b * f)) = false := by simpa using z
    simp only [z2, Bool.not_false]
    exact hq
theorem b_lies_on_arc {K : Fg} {mg : Str → Option Value} (T : Tx K mg) : Binds K T.fd_lies_on_arc ["arc", "place"] [] := T.F_lies_on_arc.bindsN fun _ _ _ _ _ _ us hl => match us, hl with | [_, _], _ => rfl
theorem fm_lies_on_arc : FMono f_onarc := fm_onarc
theorem ln_lies_on_arc : ∀ ds Q, f_onarc ds Q → ds.length = (["arc", "place"] : List Str).length := ln_onarc
theorem ok_lies_on_arc {P : Program} {w : World} {K : Fg} {mg : Str → Option Value} {base : Heap} (T : Tx K mg) : FnOk P w K mg base CX0 8 (He.fAd K ("lies_on_arc", none)) T.fd_lies_on_arc ["arc", "place"] (spP K f_onarc) := by
  refine ok_pure T.F_lies_on_arc sc_lies_on_arc fm_lies_on_arc ln_lies_on_arc (fun cdv A outer s H E Z hr => ⟨_, (dss_cons (ds_asg (de_var 0) (dg_tup (n := 5) rfl (dgs_cons (dg_name (i := 3) sc_lies_on_arc.nd rfl (by first | exact Or.inl rfl | exact Or.inr rfl)) (dgs_cons (dg_name (i := 4) sc_lies_on_arc.nd rfl (by first | exact Or.inl rfl | exact Or.inr rfl)) (dgs_cons (dg_name (i := 5) sc_lies_on_arc.nd rfl (by first | exact Or.inl rfl | exact Or.inr rfl)) (dgs_cons (dg_name (i := 6) sc_lies_on_arc.nd rfl (by first | exact Or.inl rfl | exact Or.inr rfl)) (dgs_cons (dg_name (i := 7) sc_lies_on_arc.nd rfl (by first | exact Or.inl rfl | exact Or.inr rfl)) dgs_nil)))))))
    (dss_cons (ds_if (dt_cmp (od_ne hr.units) (de_call (ok_distance T) fm_distance (hr.mono (by decide)) rfl T.g_distance T.F_distance.kp (b_distance T) .nil (fun _ => .nil) (da_cons (de_var 6) (da_cons (de_var 1) da_nil))) (de_call (ok_radius_of T) fm_radius_of (hr.mono (by decide)) rfl T.g_radius_of T.F_radius_of.kp (b_radius_of T) .nil (fun _ => .nil) (da_cons (de_var 0) da_nil)))
    (dss_one (ds_ret de_bl))
    dss_nil)
    (dss_cons (ds_if (dt_cmp (od_eq hr.units) (de_var 4) (de_var 5))
    (dss_one (ds_ret de_bl))
    dss_nil)
    (dss_cons (ds_setLc (i := 2) [("spot", 8)] rfl sc_lies_on_arc.nd rfl rfl (sw_true rfl rfl rfl (by decide +kernel)) (di_tup (de_tup (da_cons (de_var 4) (da_cons (de_var 1) (da_cons (de_var 5) da_nil))))) (blkOk_by (own := [("spot", 8)]) (N := ["arc", "place", "spokes", "word", "begin", "end", "centre", "way", "spot"]) (sc := defScope s_lies_on_arc) (by decide +kernel)) (fun _ _ _ _ _ _ => (dg_name (i := 8) sc_lies_on_arc.nd rfl (by first | exact Or.inl rfl | exact Or.inr rfl))) (fun _ _ _ _ _ _ => dts_nil) (fun _ _ _ _ _ _ => (de_call (ok_lessened T) fm_lessened (hr.mono (by decide)) rfl T.g_lessened T.F_lessened.kp (b_lessened T) .nil (fun _ => .nil) (da_cons (de_var 8) (da_cons (de_var 6) da_nil)))))
    (dss_one (ds_ret (de_call (ok_is_sooner T) fm_is_sooner (hr.mono (by decide)) rfl T.g_is_sooner T.F_is_sooner.kp (b_is_sooner T) .nil (fun _ => .nil) (da_cons (de_ix (de_var 2) de_int) (da_cons (de_ix (de_var 2) de_int) (da_cons (de_ix (de_var 2) de_int) (da_cons (de_var 7) da_nil))))))))))), fun ds Q h => ?_⟩)
  obtain ⟨a, b, c, d, e, f, w, r, x, y, rfl, hok, ⟨hx, hy⟩, hq⟩ := h
  have hok' := hok
  obtain ⟨⟨h1, h2, h3, h4, h5, h6⟩, hw, h0, hr⟩ := hok'
  unfold arcD
  walk_at "dl"
  walk_at "sd"
  refine ⟨a, b, c, d, e, f, w, r, rfl, hok, ?_⟩
  walk_at "dl"
  refine ⟨sh_opt, ?_⟩
  have e4 : decide (rt ((e - x) * (e - x) + (f - y) * (f - y)) = some r) = decide ((e - x) * (e - x) + (f - y) * (f - y) = (e - a) * (e - a) + (f - b) * (f - b)) := decide_eq_decide.mpr (rt_same hr)
  rw [opt_eqv, e4]
  have hq : Q (Res.d (PyData.bool (decide ((e - x) * (e - x) + (f - y) * (f - y) = (e - a) * (e - a) + (f - b) * (f - b)) && (decide (((a, b) : Rat × Rat) = (c, d)) || (soon (((a - e) * (y - f) - (b - f) * (x - e)) * w) ((a - e) * (x - e) + (b - f) * (y - f)) (((a - e) * (d - f) - (b - f) * (c - e)) * w) ((a - e) * (c - e) + (b - f) * (d - f)) (((x - e) * (d - f) - (y - f) * (c - e)) * w)))))) := hq
  by_cases z : (e - x) * (e - x) + (f - y) * (f - y) = (e - a) * (e - a) + (f - b) * (f - b)
  · simp only [z, decide_true, Bool.true_and, Bool.not_true] at hq ⊢
    by_cases z1 : a = c
    · by_cases z2 : b = d
      · have e3 : ((a, b) : Rat × Rat) = (c, d) := by rw [z1, z2]
        rw [decide_eq_true e3, Bool.true_or] at hq
        simp only [z1, z2, decide_true, Bool.and_self]
        exact hq
      · have e3 : ¬ ((a, b) : Rat × Rat) = (c, d) := fun e => z2 (Prod.mk.inj e).2
        rw [decide_eq_false e3, Bool.false_or] at hq
        simp only [z2, decide_false, Bool.and_false]
        walk_at "sd"
    · have e3 : ¬ ((a, b) : Rat × Rat) = (c, d) := fun e => z1 (Prod.mk.inj e).1
      rw [decide_eq_false e3, Bool.false_or] at hq
      simp only [z1, decide_false, Bool.false_and]
      walk_at "sd"
  · simp only [z, decide_false, Bool.false_and, Bool.not_false] at hq ⊢
    exact hq
theorem b_is_chord {K : Fg} {mg : Str → Option Value} (T : Tx K mg) : Binds K T.fd_is_chord ["one", "other", "arc", "within"] [] := T.F_is_chord.bindsN fun _ _ _ _ _ _ us hl => match us, hl with | [_, _, _, _], _ => rfl
theorem fm_is_chord : FMono f_ischord := DL.fm_ischord
theorem ln_is_chord : ∀ ds Q, f_ischord ds Q → ds.length = (["one", "other", "arc", "within"] : List Str).length := DL.ln_ischord
theorem ok_is_chord {P : Program} {w : World} {K : Fg} {mg : Str → Option Value} {base : Heap} (T : Tx K mg) : FnOk P w K mg base CX0 8 (He.fAd K ("is_chord", none)) T.fd_is_chord ["one", "other", "arc", "within"] (spP K f_ischord) := by
  refine ok_pure T.F_is_chord sc_is_chord fm_is_chord ln_is_chord (fun cdv A outer s H E Z hr => ⟨_, (dss_cons (ds_par (i := 6) (j := 7) rfl sc_is_chord.nd rfl rfl (by decide) rfl rfl (da_cons (de_ix (de_var 2) de_int) (da_cons (de_call (ok_radius_of T) fm_radius_of (hr.mono (by decide)) rfl T.g_radius_of T.F_radius_of.kp (b_radius_of T) .nil (fun _ => .nil) (da_cons (de_var 2) da_nil)) da_nil)) (fun _ h => ps_par rfl sc_is_chord.nd rfl rfl (by decide) rfl rfl h (by rfl)))
    (dss_cons (ds_if (dt_not (dt_val (de_call (ok_is_below T) fm_is_below (hr.mono (by decide)) rfl T.g_is_below T.F_is_below.kp (b_is_below T) .nil (fun _ => .nil) (da_cons (de_globC rfl T.c_NOUGHT) (da_cons (de_call (ok_times T) fm_times (hr.mono (by decide)) rfl T.g_times T.F_times.kp (b_times T) .nil (fun _ => .nil) (da_cons (de_tup (da_cons (de_var 6) (da_cons de_int da_nil))) (da_cons (de_call (ok_cross T) fm_cross (hr.mono (by decide)) rfl T.g_cross T.F_cross.kp (b_cross T) .nil (fun _ => .nil) (da_cons (de_var 0) (da_cons (de_var 1) da_nil))) da_nil))) da_nil)))))
    (dss_one (ds_ret de_bl))
    dss_nil)
    (dss_cons (ds_if (dt_not (dt_val (de_call (ok_is_below T) fm_is_below (hr.mono (by decide)) rfl T.g_is_below T.F_is_below.kp (b_is_below T) .nil (fun _ => .nil) (da_cons (de_var 3) (da_cons (de_var 7) da_nil)))))
    (dss_one (ds_ret de_bl))
    dss_nil)
    (dss_cons (ds_set (i := 4) sc_is_chord.nd rfl (by first | exact Or.inl rfl | exact Or.inr rfl) (de_call (ok_minus T) fm_minus (hr.mono (by decide)) rfl T.g_minus T.F_minus.kp (b_minus T) .nil (fun _ => .nil) (da_cons (de_var 7) (da_cons (de_var 3) da_nil))))
    (dss_cons (ds_set (i := 5) sc_is_chord.nd rfl (by first | exact Or.inl rfl | exact Or.inr rfl) (de_call (ok_scaled T) fm_scaled (hr.mono (by decide)) rfl T.g_scaled T.F_scaled.kp (b_scaled T) .nil (fun _ => .nil) (da_cons (de_call (ok_added T) fm_added (hr.mono (by decide)) rfl T.g_added T.F_added.kp (b_added T) .nil (fun _ => .nil) (da_cons (de_var 0) (da_cons (de_var 1) da_nil))) (da_cons (de_globC rfl T.c_HALF) da_nil))))
    (dss_one (ds_ret (de_not (de_call (ok_is_below T) fm_is_below (hr.mono (by decide)) rfl T.g_is_below T.F_is_below.kp (b_is_below T) .nil (fun _ => .nil) (da_cons (de_call (ok_dot T) fm_dot (hr.mono (by decide)) rfl T.g_dot T.F_dot.kp (b_dot T) .nil (fun _ => .nil) (da_cons (de_var 5) (da_cons (de_var 5) da_nil))) (da_cons (de_call (ok_times T) fm_times (hr.mono (by decide)) rfl T.g_times T.F_times.kp (b_times T) .nil (fun _ => .nil) (da_cons (de_var 4) (da_cons (de_var 4) da_nil))) da_nil))))))))))), fun ds Q h => ?_⟩)
  obtain ⟨⟨x1, x2⟩, ⟨y1, y2⟩, B, E, C, w, r, m, rfl, ⟨hk, hm, hX, hY⟩, hq⟩ := h
  unfold arcP plD
  have h1 := hX.1
  have h2 := hX.2
  have h3 := hY.1
  have h4 := hY.2
  have h5 := hk.rb
  have a8 := hm
  have hwb := w_bd hk.w
  have b0 : Bd 1 ((0 : Int) : Rat) := bd_zero
  have b2 := bd_half
  simp only at h1 h2 h3 h4
  unfold chU mid2 dt cr at hq
  simp only at hq
  walk_at "dl"
  refine ⟨B.1, B.2, E.1, E.2, C.1, C.2, w, r, rfl, hk.ok, ?_⟩
  rw [num_half, half_eq]
  walk_at "dl"
  have k1 : Bd 1900 (x1 * y2 - x2 * y1) := by walk_at "bd"
  walk_at "sd"
  have z0 : ((0 : Int) : Rat) = 0 := rfl
  have e1 : decide (((0 : Int) : Rat) < (w : Rat) * (x1 * y2 - x2 * y1)) = decide (0 < (x1 * y2 - x2 * y1) * (w : Rat)) := by
    rw [z0, Rat.mul_comm]
  rw [e1]
  by_cases z : 0 < (x1 * y2 - x2 * y1) * (w : Rat)
  · rw [decide_eq_true z] at hq ⊢
    simp only [Bool.true_and, Bool.not_true] at hq ⊢
    refine ⟨a8.mono (by decide), h5.mono (by decide), ?_⟩
    by_cases y : m < r
    · rw [decide_eq_true y]
      rw [decide_eq_false (show ¬ r ≤ m by grind), Bool.false_or] at hq
      simp only [Bool.not_true]
      have k2 : Bd 122 r := h5.mono (by decide)
      walk_at "sd"
      rw [← decide_not, decide_eq_decide.mpr (show (¬ (x1 + y1) * (1 / 2) * ((x1 + y1) * (1 / 2)) + (x2 + y2) * (1 / 2) * ((x2 + y2) * (1 / 2)) < (r - m) * (r - m)) ↔ (r - m) * (r - m) ≤ (x1 + y1) * (1 / 2) * ((x1 + y1) * (1 / 2)) + (x2 + y2) * (1 / 2) * ((x2 + y2) * (1 / 2)) by grind)]
      exact hq
    · rw [decide_eq_false y]
      rw [decide_eq_true (show r ≤ m by grind), Bool.true_or] at hq
      exact hq
  · rw [decide_eq_false z] at hq ⊢
    simp only [Bool.false_and, Bool.not_false] at hq ⊢
    exact hq
theorem b_lies_on {K : Fg} {mg : Str → Option Value} (T : Tx K mg) : Binds K T.fd_lies_on ["cut", "place"] [] := T.F_lies_on.bindsN fun _ _ _ _ _ _ us hl => match us, hl with | [_, _], _ => rfl
theorem fm_lies_on : FMono f_lies := fm_lies
theorem ln_lies_on : ∀ ds Q, f_lies ds Q → ds.length = (["cut", "place"] : List Str).length := ln_lies
theorem ok_lies_on {P : Program} {w : World} {K : Fg} {mg : Str → Option Value} {base : Heap} (T : Tx K mg) : FnOk P w K mg base CX0 9 (He.fAd K ("lies_on", none)) T.fd_lies_on ["cut", "place"] (spP K f_lies) := by
  refine ok_pure T.F_lies_on sc_lies_on fm_lies_on ln_lies_on (fun cdv A outer s H E Z hr => ⟨_, (dss_cons (ds_if (dt_cmp (od_eq hr.units) (de_ix (de_var 0) de_int) de_str)
    (dss_one (ds_ret (de_call (ok_lies_on_arc T) fm_lies_on_arc (hr.mono (by decide)) rfl T.g_lies_on_arc T.F_lies_on_arc.kp (b_lies_on_arc T) .nil (fun _ => .nil) (da_cons (de_var 0) (da_cons (de_var 1) da_nil)))))
    dss_nil)
    (dss_cons (ds_set (i := 2) sc_lies_on.nd rfl (by first | exact Or.inl rfl | exact Or.inr rfl) (de_call (ok_lessened T) fm_lessened (hr.mono (by decide)) rfl T.g_lessened T.F_lessened.kp (b_lessened T) .nil (fun _ => .nil) (da_cons (de_ix (de_var 0) de_int) (da_cons (de_ix (de_var 0) de_int) da_nil))))
    (dss_cons (ds_set (i := 3) sc_lies_on.nd rfl (by first | exact Or.inl rfl | exact Or.inr rfl) (de_call (ok_lessened T) fm_lessened (hr.mono (by decide)) rfl T.g_lessened T.F_lessened.kp (b_lessened T) .nil (fun _ => .nil) (da_cons (de_var 1) (da_cons (de_ix (de_var 0) de_int) da_nil))))
    (dss_cons (ds_if (dt_cmp (od_ne hr.units) (de_call (ok_cross T) fm_cross (hr.mono (by decide)) rfl T.g_cross T.F_cross.kp (b_cross T) .nil (fun _ => .nil) (da_cons (de_var 2) (da_cons (de_var 3) da_nil))) (de_globC rfl T.c_NOUGHT))
    (dss_one (ds_ret de_bl))
    dss_nil)
    (dss_cons (ds_set (i := 4) sc_lies_on.nd rfl (by first | exact Or.inl rfl | exact Or.inr rfl) (de_call (ok_over T) fm_over (hr.mono (by decide)) rfl T.g_over T.F_over.kp (b_over T) .nil (fun _ => .nil) (da_cons (de_call (ok_dot T) fm_dot (hr.mono (by decide)) rfl T.g_dot T.F_dot.kp (b_dot T) .nil (fun _ => .nil) (da_cons (de_var 3) (da_cons (de_var 2) da_nil))) (da_cons (de_call (ok_dot T) fm_dot (hr.mono (by decide)) rfl T.g_dot T.F_dot.kp (b_dot T) .nil (fun _ => .nil) (da_cons (de_var 2) (da_cons (de_var 2) da_nil))) da_nil))))
    (dss_one (ds_ret (de_and (de_not (de_call (ok_is_below T) fm_is_below (hr.mono (by decide)) rfl T.g_is_below T.F_is_below.kp (b_is_below T) .nil (fun _ => .nil) (da_cons (de_var 4) (da_cons (de_globC rfl T.c_NOUGHT) da_nil)))) (de_one (de_not (de_call (ok_is_below T) fm_is_below (hr.mono (by decide)) rfl T.g_is_below T.F_is_below.kp (b_is_below T) .nil (fun _ => .nil) (da_cons (de_globC rfl T.c_ONE) (da_cons (de_var 4) da_nil))))))))))))), fun ds Q h => ?_⟩)
  rcases h with ⟨a, b, c, d, e, f, w, r, x, y, rfl, hok, ⟨hx, hy⟩, hq⟩ | ⟨a, b, c, d, x, y, rfl, ⟨h1, h2, h3, h4⟩, hne, ⟨hx, hy⟩, hq⟩
  · unfold arcD
    walk_at "dl"
    exact ⟨a, b, c, d, e, f, w, r, x, y, rfl, hok, ⟨hx, hy⟩, hq⟩
  · unfold lineD
    walk_at "dl"
    have hn : (c - a) * (c - a) + (d - b) * (d - b) ≠ 0 := fun e => by
      have := dt_zero (p := (c - a, d - b)) e
      injection this with e1 e2
      exact hne ⟨by grind, by grind⟩
    have bs : Bd 4000 (((x - a) * (c - a) + (y - b) * (d - b)) / ((c - a) * (c - a) + (d - b) * (d - b))) := Bd.mono (Bd.div (m := 2007) (n := 1700) (by walk_at "bd") (by walk_at "bd") hn) (by decide)
    have bz := bd_zero
    have bo := bd_one
    have hq : Q (Res.d (PyData.bool (decide ((c - a) * (y - b) - (d - b) * (x - a) = 0) && (decide (0 ≤ ((x - a) * (c - a) + (y - b) * (d - b)) / ((c - a) * (c - a) + (d - b) * (d - b))) && decide (((x - a) * (c - a) + (y - b) * (d - b)) / ((c - a) * (c - a) + (d - b) * (d - b)) ≤ 1))))) := hq
    walk_at "sd"
    rw [show (((0 : Int) : Rat)) = 0 from rfl]
    by_cases z : (c - a) * (y - b) - (d - b) * (x - a) = 0
    · simp only [z, decide_true, Bool.true_and, Bool.not_true] at hq ⊢
      walk_at "sd"
      obtain ⟨S, hS⟩ : ∃ S, S = ((x - a) * (c - a) + (y - b) * (d - b)) / ((c - a) * (c - a) + (d - b) * (d - b)) := ⟨_, rfl⟩
      simp only [← hS] at hq bs ⊢
      by_cases z1 : S < 0
      · have z2 : ¬ 0 ≤ S := by grind
        simp only [z1, z2, decide_true, decide_false, Bool.false_and, Bool.not_true] at hq ⊢
        exact hq
      · have z2 : 0 ≤ S := by grind
        simp only [z1, z2, decide_true, decide_false, Bool.true_and, Bool.not_false] at hq ⊢
        rw [show (((1 : Int) : Rat)) = 1 from rfl]
        have z3 : (!decide (1 < S)) = decide (S ≤ 1) := by
          by_cases y1 : 1 < S
          · rw [decide_eq_true y1, decide_eq_false (by grind)]
            rfl
          · rw [decide_eq_false y1, decide_eq_true (by grind)]
            rfl
        rw [z3]
        walk_at "sd"
    · simp only [z, decide_false, Bool.false_and, Bool.not_false] at hq ⊢
      exact hq
theorem b_chords_1_within {K : Fg} {mg : Str → Option Value} (T : Tx K mg) : KBn K T.fd_chords ["arc", "within"] 1 ["within"] (fun us ws => us ++ ws) (fun vs zs => vs ++ zs) := kbA T.F_chords 1 ["within"] (fun kV doc pm an cdv ct us ws h1 h2 => match us, ws, h1, h2 with | [_], [_], _, _ => rfl)
theorem fm_chords : FMono f_chords := DL.fm_chords
theorem ln_chords : ∀ ds Q, f_chords ds Q → ds.length = (["arc", "within"] : List Str).length := DL.ln_chords
theorem ok_chords {P : Program} {w : World} {K : Fg} {mg : Str → Option Value} {base : Heap} (T : Tx K mg) : FnOk P w K mg base CX0 10 (He.fAd K ("chords", none)) T.fd_chords ["arc", "within"] (spP K f_chords) := by
  refine ok_pure T.F_chords sc_chords fm_chords ln_chords (fun cdv A outer s H E Z hr => ⟨_, (dss_cons (ds_asg (de_var 0) (dg_tup (n := 5) rfl (dgs_cons (dg_name (i := 6) sc_chords.nd rfl (by first | exact Or.inl rfl | exact Or.inr rfl)) (dgs_cons (dg_name (i := 7) sc_chords.nd rfl (by first | exact Or.inl rfl | exact Or.inr rfl)) (dgs_cons (dg_name (i := 8) sc_chords.nd rfl (by first | exact Or.inl rfl | exact Or.inr rfl)) (dgs_cons (dg_name (i := 9) sc_chords.nd rfl (by first | exact Or.inl rfl | exact Or.inr rfl)) (dgs_cons (dg_name (i := 10) sc_chords.nd rfl (by first | exact Or.inl rfl | exact Or.inr rfl)) dgs_nil)))))))
    (dss_cons (ds_set (i := 2) sc_chords.nd rfl (by first | exact Or.inl rfl | exact Or.inr rfl) (de_call (ok_fineness T) fm_fineness (hr.mono (by decide)) rfl T.g_fineness T.F_fineness.kp (b_fineness T) .nil (fun _ => .nil) (da_cons (de_call (ok_radius_of T) fm_radius_of (hr.mono (by decide)) rfl T.g_radius_of T.F_radius_of.kp (b_radius_of T) .nil (fun _ => .nil) (da_cons (de_var 0) da_nil)) (da_cons (de_var 1) da_nil))))
    (dss_cons (ds_set (i := 3) sc_chords.nd rfl (by first | exact Or.inl rfl | exact Or.inr rfl) (de_call (ok_lessened T) fm_lessened (hr.mono (by decide)) rfl T.g_lessened T.F_lessened.kp (b_lessened T) .nil (fun _ => .nil) (da_cons (de_var 7) (da_cons (de_var 9) da_nil))))
    (dss_cons (ds_setO (i := 4) sc_chords.nd rfl (by first | exact Or.inl rfl | exact Or.inr rfl) (do_lst (da_cons (de_var 7) da_nil)))
    (dss_cons (ds_for PassesOwn.never rfl (di_range1 rfl T.m_range (da_cons de_int da_nil)) (dg_name (i := 5) sc_chords.nd rfl (by first | exact Or.inl rfl | exact Or.inr rfl))
    (dss_cons (ds_for PassesOwn.never rfl (di_range2 rfl T.m_range (da_cons (de_ty cd_int rfl T.m_int bt_int (da_cons (de_cmp (od_eq hr.units) (de_var 5) de_int) da_nil)) (da_cons (de_var 2) da_nil))) (dg_name (i := 11) sc_chords.nd rfl (by first | exact Or.inl rfl | exact Or.inr rfl))
    (dss_cons (ds_set (i := 12) sc_chords.nd rfl (by first | exact Or.inl rfl | exact Or.inr rfl) (de_call (ok_added T) fm_added (hr.mono (by decide)) rfl T.g_added T.F_added.kp (b_added T) .nil (fun _ => .nil) (da_cons (de_var 9) (da_cons (de_call (ok_turned T) fm_turned (hr.mono (by decide)) rfl T.g_turned T.F_turned.kp (b_turned T) .nil (fun _ => .nil) (da_cons (de_var 3) (da_cons (de_call (ok_heading_of T) fm_heading_of (hr.mono (by decide)) rfl T.g_heading_of T.F_heading_of.kp (b_heading_of T) .nil (fun _ => .nil) (da_cons (de_op od_mul (de_var 11) (de_var 10)) (da_cons (de_var 2) da_nil))) da_nil))) da_nil))))
    (dss_cons (ds_if (Dw.pt (dw_or (dt_cmp (od_eq hr.units) (de_var 12) (de_var 8)) (dw_or1 (dt_not (dt_val (de_call (ok_lies_on T) fm_lies_on (hr.mono (by decide)) rfl T.g_lies_on T.F_lies_on.kp (b_lies_on T) .nil (fun _ => .nil) (da_cons (de_var 0) (da_cons (de_var 12) da_nil))))))))
    (dss_one (ds_retO (do_add (de_var 4) (Do.sh (do_lst (da_cons (de_var 8) da_nil))))))
    dss_nil)
    (dss_one (ds_app 4 (de_var 12))))))
    (dss_one (ds_set (i := 3) sc_chords.nd rfl (by first | exact Or.inl rfl | exact Or.inr rfl) (de_call (ok_scaled T) fm_scaled (hr.mono (by decide)) rfl T.g_scaled T.F_scaled.kp (b_scaled T) .nil (fun _ => .nil) (da_cons (de_call (ok_left_of T) fm_left_of (hr.mono (by decide)) rfl T.g_left_of T.F_left_of.kp (b_left_of T) .nil (fun _ => .nil) (da_cons (de_var 3) da_nil)) (da_cons (de_tup (da_cons (de_var 10) (da_cons de_int da_nil))) da_nil)))))))
    (dss_one (ds_retO (do_add (de_var 4) (Do.sh (do_lst (da_cons (de_var 8) da_nil))))))))))), fun ds Q h => ?_⟩)
  obtain ⟨B, E, C, w, r, m, rfl, ⟨hk, hm⟩, hq⟩ := h
  have ok := hk.ok
  have c1 : Bd 1900 B.1 := hk.b.1.mono (by decide)
  have c2 : Bd 1900 B.2 := hk.b.2.mono (by decide)
  have c3 : Bd 1900 C.1 := hk.c.1.mono (by decide)
  have c4 : Bd 1900 C.2 := hk.c.2.mono (by decide)
  unfold arcP
  walk_at "dl"
  refine ⟨B.1, B.2, E.1, E.2, C.1, C.2, w, r, rfl, ok, ?_⟩
  walk_at "dl"
  refine ⟨r, m, rfl, ⟨hk.rb, hk.r0, hm⟩, fun n n0 n1 hf => ?_⟩
  walk_at "dl"
  refine ⟨c1, c2, c3, c4, ?_⟩
  simp only [dFor, iRg1]
  walk_at "dl"
  refine ⟨by decide, by decide, ?_⟩
  rw [show Int.toNat 4 = 4 from rfl]
  have hlen : (rngD 0 4).length = 4 := rfl
  refine for_op (fun q δ => ∃ (b5 b11 b12 : Option Sl) , δ = [some (.sh (.tuple [.str "arc", .tuple [numD B.1, numD B.2], .tuple [numD E.1, numD E.2], .tuple [numD C.1, numD C.2], .int w])), some (.sh (numD m)), some (.sh (.int n)), some (.sh (plD (plc (sb2 B C) w (qr q (1, 0))))), some (.ow false ((ptL B C w n (max 1 (n * q))).map plD)), b5, some (.sh (.str "arc")), some (.sh (.tuple [numD B.1, numD B.2])), some (.sh (.tuple [numD E.1, numD E.2])), some (.sh (.tuple [numD C.1, numD C.2])), some (.sh (.int w)), b11, b12] ∧ (∀ t, 0 < t → t < n * q → pt B C w n t ≠ E ∧ onArc B E C w (pt B C w n t) = true)) ⟨none, none, none, ?_, fun t t0 t1 => ?_⟩ ?_ ?_
  · rw [plc_zero, Nat.mul_zero, show max 1 0 = 1 from rfl, ptL_one n0]
    rfl
  · omega
  · rintro W hW q d δ hj ⟨b5, b11, b12, rfl, hon⟩
    have hq4 : q < 4 := by
      have := (List.getElem?_eq_some_iff.mp hj).1
      rw [hlen] at this
      exact this
    rw [rngD_get hq4] at hj
    cases hj
    rw [Int.zero_add]
    walk_at "dl"
    simp only [dFor, iRg2]
    walk_at "dl"
    obtain ⟨o, e1, e2, e3, e4⟩ : ∃ o : Nat, (if ((q : Int) == 0) = true then (1 : Int) else 0) = (o : Int) ∧ max 1 (n * q) = n * q + o ∧ o ≤ 1 ∧ 0 < n * q + o := by
      by_cases hq0 : q = 0
      · subst hq0
        exact ⟨1, rfl, by rw [Nat.mul_zero]; rfl, by omega, by omega⟩
      · have h1 : ¬ ((q : Int) == 0) = true := by simpa using hq0
        have h2 : 1 * 1 ≤ n * q := Nat.mul_le_mul n0 (by omega)
        exact ⟨0, by rw [if_neg h1]; rfl, by omega, by omega, by omega⟩
    rw [e1, e2]
    have e5 : ((n : Int) - (o : Int)).toNat = n - o := by omega
    rw [e5]
    refine ⟨by omega, by omega, by omega, by omega, ?_⟩
    obtain ⟨⟨sx, sy⟩, hS⟩ : ∃ S, plc (sb2 B C) w (qr q (1, 0)) = S := ⟨_, rfl⟩
    rw [hS]
    simp only [plD]
    have hSb : Bd2 270 (sx, sy) := by
      rw [← hS]
      exact plc_bd hk.w (sb_bd60 hk.b hk.c) (qr_bd ⟨bd_one.mono (by decide), bd_zero.mono (by decide)⟩)
    have s1 := hSb.1
    have s2 := hSb.2
    simp only at s1 s2
    refine for_op (fun i δ => ∃ (b11 b12 : Option Sl), δ = [some (.sh (.tuple [.str "arc", .tuple [numD B.1, numD B.2], .tuple [numD E.1, numD E.2], .tuple [numD C.1, numD C.2], .int w])), some (.sh (numD m)), some (.sh (.int n)), some (.sh (.tuple [numD sx, numD sy])), some (.ow false ((ptL B C w n (n * q + (o + i))).map plD)), some (.sh (.int q)), some (.sh (.str "arc")), some (.sh (.tuple [numD B.1, numD B.2])), some (.sh (.tuple [numD E.1, numD E.2])), some (.sh (.tuple [numD C.1, numD C.2])), some (.sh (.int w)), b11, b12] ∧ (∀ t, 0 < t → t < n * q + (o + i) → pt B C w n t ≠ E ∧ onArc B E C w (pt B C w n t) = true)) ⟨_, _, rfl, ?_⟩ ?_ ?_
    · intro t t0 t1
      exact hon t t0 (by omega)
    · rintro V hV i d δ hi ⟨b11, b12, rfl, hon⟩
      have hi2 : i < n - o := by
        have := (List.getElem?_eq_some_iff.mp hi).1
        rw [rngD_len] at this
        exact this
      rw [rngD_get hi2] at hi
      cases hi
      rw [show (o : Int) + (i : Int) = ((o + i : Nat) : Int) by omega]
      have hlt : o + i < n := by omega
      have hpt := pt_eq hk.w hlt hS
      have hp0 : 0 < n * q + (o + i) := by omega
      have hst : n * q + (o + i) < 4 * n := by
        have := Nat.mul_le_mul (Nat.le_refl n) (show q ≤ 3 by omega)
        omega
      obtain ⟨j, hj⟩ : ∃ j, j = o + i := ⟨_, rfl⟩
      rw [← hj] at hlt hpt hp0 hst hon ⊢
      have hw4 := hk.w
      have hwn : w.natAbs ≤ 1 := by omega
      have hne : ((j : Int) * w ≠ 0 ∨ (n : Int) ≠ 0) := .inr (by omega)
      have hjw : ((j : Int) * w).natAbs < 2 ^ 5 := by
        rw [Int.natAbs_mul]
        have := Nat.mul_le_mul (show (j : Int).natAbs ≤ 22 by omega) hwn
        omega
      obtain ⟨u1, u2⟩ := hd_bd (k := 5) hne hjw (by omega)
      walk_at "dl"
      have hbd := pt_bd (t := n * q + j) hk.w hk.b hk.c n0 n1
      rw [hpt] at hbd
      have x1 := hbd.1
      have x2 := hbd.2
      simp only at x1 x2
      generalize hdc ((j : Int) * w) n = hc at *
      generalize hds ((j : Int) * w) n = hs at *
      have y1 : Bd 1900 (sx * hc - sy * hs) := by walk_at "bd"
      have y2 : Bd 1900 (sx * hs + sy * hc) := by walk_at "bd"
      refine ⟨mul64 (by omega) (by omega) (by omega) (by omega), hne, Nat.lt_trans hjw (by decide), by omega, s1.mono (by decide), s2.mono (by decide), u1.mono (by decide), u2.mono (by decide), c3, c4, y1, y2, ?_⟩
      generalize C.1 + (sx * hc - sy * hs) = PX at *
      generalize C.2 + (sx * hs + sy * hc) = PY at *
      have hln : n * q + j + 1 ≤ 92 := by omega
      have fin : (pt B C w n (n * q + j) = E ∨ onArc B E C w (pt B C w n (n * q + j)) = false) → Q (.o ((ptL B C w n (n * q + j)).map plD ++ [.tuple [numD E.1, numD E.2]])) := fun h => by
        have := hq n (n * q + j) (by omega) hf ⟨n0, hp0, by omega, hon, .inr h⟩
        unfold chL at this
        rw [List.map_append] at this
        exact this
      have hsz : ((ptL B C w n (n * q + j)).map plD).length ≤ 16777215 := by
        rw [List.length_map, ptL, List.length_map, List.length_range]
        omega
      by_cases z : PX = E.1 ∧ PY = E.2
      · rw [show (decide (PX = E.1) && decide (PY = E.2)) = true by simp [z]]
        simp only [dCat]
        walk_at "dl"
        exact ⟨hsz, fin (.inl (by rw [hpt]; exact Prod.ext z.1 z.2))⟩
      · rw [show (decide (PX = E.1) && decide (PY = E.2)) = false by simpa using fun e => (fun y => z ⟨e, y⟩)]
        refine .inl ⟨B.1, B.2, E.1, E.2, C.1, C.2, w, r, PX, PY, rfl, ok, ⟨x1.mono (by decide), x2.mono (by decide)⟩, ?_⟩
        walk_at "dl"
        have hne2 : pt B C w n (n * q + j) ≠ E := fun e => z (by rw [hpt] at e; rw [← e]; exact ⟨rfl, rfl⟩)
        cases eo : onArc (B.1, B.2) (E.1, E.2) (C.1, C.2) w (PX, PY) with
        | false =>
          simp only [Bool.not_false, dCat]
          walk_at "dl"
          exact ⟨hsz, fin (.inr (by rw [hpt]; exact eo))⟩
        | true =>
          simp only [Bool.not_true]
          refine ⟨?_, hV _ _ ⟨some (.sh (.int j)), some (.sh (.tuple [numD PX, numD PY])), ?_, ?_⟩⟩
          · rw [List.length_map, ptL, List.length_map, List.length_range]
            omega
          · rw [show n * q + (o + (i + 1)) = n * q + j + 1 by omega, ptL_succ, List.map_append, hpt]
            rfl
          · intro t t0 t1
            by_cases ht : t < n * q + j
            · exact hon t t0 ht
            · have : t = n * q + j := by omega
              rw [this]
              exact ⟨hne2, by rw [hpt]; exact eo⟩
    · rintro δ ⟨b11, b12, rfl, hon⟩
      rw [rngD_len] at hon ⊢
      walk_at "dl"
      have hS2 : plc (sb2 B C) w (qr (q + 1) (1, 0)) = (-sy * w, sx * w) := by
        rw [← plc_lf hk.w q, hS]
        rfl
      refine ⟨s2.neg.mono (by decide), s1.mono (by decide), (w_bd hk.w).mono (by decide), hW _ _ ⟨some (.sh (.int q)), b11, b12, ?_, ?_⟩⟩
      · rw [hS2, show max 1 (n * (q + 1)) = n * q + (o + (n - o)) by rw [Nat.mul_succ]; omega]
        rfl
      · intro t t0 t1
        exact hon t t0 (by rw [Nat.mul_succ] at t1; omega)
  · rintro δ ⟨b5, b11, b12, rfl, hon⟩
    rw [hlen] at hon ⊢
    have hm4 : max 1 (n * 4) = 4 * n := by omega
    rw [hm4]
    walk_at "dl"
    simp only [dCat]
    walk_at "dl"
    rw [List.length_map, ptL, List.length_map, List.length_range]
    refine ⟨by have : sizeLine = 16777216 := by decide
               omega, ?_⟩
    have := hq n (4 * n) (by omega) hf ⟨n0, by omega, by omega, fun t t0 t1 => hon t t0 (by omega), .inl rfl⟩
    unfold chL at this
    rw [List.map_append] at this
    exact this
theorem b_are_chords_2_within {K : Fg} {mg : Str → Option Value} (T : Tx K mg) : KBn K T.fd_are_chords ["arc", "thing", "within"] 2 ["within"] (fun us ws => us ++ ws) (fun vs zs => vs ++ zs) := kbA T.F_are_chords 2 ["within"] (fun kV doc pm an cdv ct us ws h1 h2 => match us, ws, h1, h2 with | [_, _], [_], _, _ => rfl)
theorem fm_are_chords : FMono f_arech := DL.fm_arech
theorem ln_are_chords : ∀ ds Q, f_arech ds Q → ds.length = (["arc", "thing", "within"] : List Str).length := DL.ln_arech
theorem ok_are_chords {P : Program} {w : World} {K : Fg} {mg : Str → Option Value} {base : Heap} (T : Tx K mg) : FnOk P w K mg base CX0 10 (He.fAd K ("are_chords", none)) T.fd_are_chords ["arc", "thing", "within"] (spP K f_arech) := by
  refine ok_pure T.F_are_chords sc_are_chords fm_are_chords ln_are_chords (fun cdv A outer s H E Z hr => ⟨_, (dss_cons (ds_if (Dw.pt (dw_or (dt_not (dt_val (de_isi (de_var 1) kf_list rfl T.m_isinstance rfl T.m_list bt_list bb_isinstance))) (dw_or (dt_cmp od_lt (de_b cd_len rfl T.m_len bb_len (da_cons (de_var 1) da_nil)) de_int) (dw_or1 (dt_not (dt_val (de_b (cd_all rfl) rfl T.m_all bb_all (da_cons (Do.sh (do_lc [("place", 13)] rfl sc_are_chords.nd (di_list (de_var 1)) (blkOk_by (own := [("place", 13)]) (N := ["arc", "thing", "within", "spokes", "inner", "word", "begin", "end", "centre", "way", "first", "last", "between", "place", "one", "other"]) (sc := defScope s_are_chords) (by decide +kernel)) (fun _ _ _ _ _ _ => (dg_name (i := 13) sc_are_chords.nd rfl (by first | exact Or.inl rfl | exact Or.inr rfl))) (fun _ _ _ _ _ _ => dts_nil) (fun _ _ _ _ _ _ => (de_call (ok_is_place T) fm_is_place (hr.mono (by decide)) rfl T.g_is_place T.F_is_place.kp (b_is_place T) .nil (fun _ => .nil) (da_cons (de_var 13) da_nil))))) da_nil))))))))
    (dss_one (ds_ret de_bl))
    dss_nil)
    (dss_cons (ds_asg (de_var 0) (dg_tup (n := 5) rfl (dgs_cons (dg_name (i := 5) sc_are_chords.nd rfl (by first | exact Or.inl rfl | exact Or.inr rfl)) (dgs_cons (dg_name (i := 6) sc_are_chords.nd rfl (by first | exact Or.inl rfl | exact Or.inr rfl)) (dgs_cons (dg_name (i := 7) sc_are_chords.nd rfl (by first | exact Or.inl rfl | exact Or.inr rfl)) (dgs_cons (dg_name (i := 8) sc_are_chords.nd rfl (by first | exact Or.inl rfl | exact Or.inr rfl)) (dgs_cons (dg_name (i := 9) sc_are_chords.nd rfl (by first | exact Or.inl rfl | exact Or.inr rfl)) dgs_nil)))))))
    (dss_cons (ds_asgS (n := 3) (i := 1) rfl (de_var 1) (dgs_cons (dg_name (i := 10) sc_are_chords.nd rfl (by first | exact Or.inl rfl | exact Or.inr rfl)) (dgs_consS (dg_name (i := 12) sc_are_chords.nd rfl (by first | exact Or.inl rfl | exact Or.inr rfl)) (dgs_cons (dg_name (i := 11) sc_are_chords.nd rfl (by first | exact Or.inl rfl | exact Or.inr rfl)) dgs_nil))) (by decide))
    (dss_cons (ds_if (Dw.pt (dw_or (dt_cmp (od_ne hr.units) (de_var 10) (de_var 6)) (dw_or (dt_cmp (od_ne hr.units) (de_var 11) (de_var 7)) (dw_or (dt_cmp (od_in hr) (de_var 6) (de_var 12)) (dw_or1 (dt_cmp (od_in hr) (de_var 7) (de_var 12)))))))
    (dss_one (ds_ret de_bl))
    dss_nil)
    (dss_cons (ds_if (dt_not (dt_val (de_b (cd_all rfl) rfl T.m_all bb_all (da_cons (Do.sh (do_lc [("place", 13)] rfl sc_are_chords.nd (di_list (de_var 12)) (blkOk_by (own := [("place", 13)]) (N := ["arc", "thing", "within", "spokes", "inner", "word", "begin", "end", "centre", "way", "first", "last", "between", "place", "one", "other"]) (sc := defScope s_are_chords) (by decide +kernel)) (fun _ _ _ _ _ _ => (dg_name (i := 13) sc_are_chords.nd rfl (by first | exact Or.inl rfl | exact Or.inr rfl))) (fun _ _ _ _ _ _ => dts_nil) (fun _ _ _ _ _ _ => (de_call (ok_lies_on T) fm_lies_on (hr.mono (by decide)) rfl T.g_lies_on T.F_lies_on.kp (b_lies_on T) .nil (fun _ => .nil) (da_cons (de_var 0) (da_cons (de_var 13) da_nil)))))) da_nil))))
    (dss_one (ds_ret de_bl))
    dss_nil)
    (dss_cons (ds_set (i := 3) sc_are_chords.nd rfl (by first | exact Or.inl rfl | exact Or.inr rfl) (Do.sh (do_lc [("place", 13)] rfl sc_are_chords.nd (di_list (de_var 1)) (blkOk_by (own := [("place", 13)]) (N := ["arc", "thing", "within", "spokes", "inner", "word", "begin", "end", "centre", "way", "first", "last", "between", "place", "one", "other"]) (sc := defScope s_are_chords) (by decide +kernel)) (fun _ _ _ _ _ _ => (dg_name (i := 13) sc_are_chords.nd rfl (by first | exact Or.inl rfl | exact Or.inr rfl))) (fun _ _ _ _ _ _ => dts_nil) (fun _ _ _ _ _ _ => (de_call (ok_lessened T) fm_lessened (hr.mono (by decide)) rfl T.g_lessened T.F_lessened.kp (b_lessened T) .nil (fun _ => .nil) (da_cons (de_var 13) (da_cons (de_var 8) da_nil)))))))
    (dss_cons (ds_set (i := 4) sc_are_chords.nd rfl (by first | exact Or.inl rfl | exact Or.inr rfl) (de_sl (de_var 3) (dpo_some de_int) (dpo_some (de_neg de_int))))
    (dss_cons (ds_if (dt_not (dt_val (de_b (cd_all rfl) rfl T.m_all bb_all (da_cons (Do.sh (do_lc [("one", 14), ("other", 15)] rfl sc_are_chords.nd (di_zip rfl T.m_zip (da_cons (de_var 4) (da_cons (de_sl (de_var 4) (dpo_some de_int) dpo_none) da_nil))) (blkOk_by (own := [("one", 14), ("other", 15)]) (N := ["arc", "thing", "within", "spokes", "inner", "word", "begin", "end", "centre", "way", "first", "last", "between", "place", "one", "other"]) (sc := defScope s_are_chords) (by decide +kernel)) (fun _ _ _ _ _ _ => (dg_tup (n := 2) rfl (dgs_cons (dg_name (i := 14) sc_are_chords.nd rfl (by first | exact Or.inl rfl | exact Or.inr rfl)) (dgs_cons (dg_name (i := 15) sc_are_chords.nd rfl (by first | exact Or.inl rfl | exact Or.inr rfl)) dgs_nil)))) (fun _ _ _ _ _ _ => dts_nil) (fun _ _ _ _ _ _ => (de_call (ok_is_sooner T) fm_is_sooner (hr.mono (by decide)) rfl T.g_is_sooner T.F_is_sooner.kp (b_is_sooner T) .nil (fun _ => .nil) (da_cons (de_ix (de_var 3) de_int) (da_cons (de_var 14) (da_cons (de_var 15) (da_cons (de_var 9) da_nil)))))))) da_nil))))
    (dss_one (ds_ret de_bl))
    dss_nil)
    (dss_one (ds_ret (de_b (cd_all rfl) rfl T.m_all bb_all (da_cons (Do.sh (do_lc [("one", 14), ("other", 15)] rfl sc_are_chords.nd (di_zip rfl T.m_zip (da_cons (de_var 3) (da_cons (de_sl (de_var 3) (dpo_some de_int) dpo_none) da_nil))) (blkOk_by (own := [("one", 14), ("other", 15)]) (N := ["arc", "thing", "within", "spokes", "inner", "word", "begin", "end", "centre", "way", "first", "last", "between", "place", "one", "other"]) (sc := defScope s_are_chords) (by decide +kernel)) (fun _ _ _ _ _ _ => (dg_tup (n := 2) rfl (dgs_cons (dg_name (i := 14) sc_are_chords.nd rfl (by first | exact Or.inl rfl | exact Or.inr rfl)) (dgs_cons (dg_name (i := 15) sc_are_chords.nd rfl (by first | exact Or.inl rfl | exact Or.inr rfl)) dgs_nil)))) (fun _ _ _ _ _ _ => dts_nil) (fun _ _ _ _ _ _ => (de_call (ok_is_chord T) fm_is_chord (hr.mono (by decide)) rfl T.g_is_chord T.F_is_chord.kp (b_is_chord T) .nil (fun _ => .nil) (da_cons (de_var 14) (da_cons (de_var 15) (da_cons (de_var 0) (da_cons (de_var 2) da_nil)))))))) da_nil)))))))))))), fun ds Q h => ?_⟩)
  obtain ⟨B, E, C, w, r, m, L, rfl, ⟨hk, hm⟩, ⟨hlen, hL⟩, hq⟩ := h
  have size : sizeLine = 16777216 := by decide
  unfold areB at hq
  unfold arcP
  refine seq_k fun K hK => ?_
  walk_at "dl"
  have e0 : decide (((L.map plD).length : Int) < 2) = !decide (2 ≤ L.length) := by
    rw [List.length_map, ← decide_not]
    exact decide_eq_decide.mpr (by omega)
  rw [e0]
  by_cases z : 2 ≤ L.length
  · rw [decide_eq_true z, Bool.true_and] at hq
    rw [decide_eq_true z]
    simp only [Bool.not_true]
    refine lc_map (fun _ => .bool true) (by omega) (fun p hp R hR => ?_) ?_
    · walk_at "dl"
      refine ⟨p, rfl, ⟨(hL p hp).1.mono (by decide), (hL p hp).2.mono (by decide)⟩, hR _ rfl⟩
    refine ⟨_, bools_const _ _, ?_⟩
    rw [all_const]
    simp only [Bool.not_true]
    refine hK _ ?_
    refine seq_k fun K hK => ?_
    walk_at "dl"
    obtain ⟨x, M, y, hxy⟩ := list_ends z
    refine hK _ ?_
    refine seq_k fun K hK => ?_
    walk_at "dl"
    refine ⟨by rw [List.length_map]; exact z, by rw [List.length_map]; omega, ?_⟩
    rw [star_ends2 plD hxy]
    have hq : Q (.d (.bool (areB B E C w r m L))) := by
      unfold areB
      rw [decide_eq_true z, Bool.true_and]
      exact hq
    have hMl : M.length + 2 = L.length := by
      rw [hxy, List.length_cons, List.length_append]
      rfl
    have hM : ∀ p ∈ M, Bd2 400 p := fun p hp => hL p (by rw [hxy]; exact List.mem_cons_of_mem _ (List.mem_append_left _ hp))
    rw [hxy, are_cons, ← hxy] at hq
    refine hK _ ?_
    refine seq_k fun K hK => ?_
    walk_at "dl"
    have e9 : ¬ ((false : Bool) = true) := by decide
    simp only [if_neg e9, any_pl]
    rw [show PyData.tuple [numD B.1, numD B.2] = plD B from rfl, show PyData.tuple [numD E.1, numD E.2] = plD E from rfl, eqv_plD, eqv_plD]
    refine ⟨sh_plD x, ?_⟩
    by_cases z1 : x = B
    · rw [decide_eq_true z1] at hq ⊢
      simp only [Bool.true_and, Bool.not_true] at hq ⊢
      refine ⟨sh_plD y, ?_⟩
      by_cases z2 : y = E
      · rw [decide_eq_true z2] at hq ⊢
        simp only [Bool.true_and, Bool.not_true] at hq ⊢
        refine ⟨sh_pls M, ?_⟩
        by_cases z3 : B ∈ M
        · rw [decide_eq_true z3] at hq ⊢
          exact hq
        · rw [decide_eq_false z3] at hq ⊢
          simp only [Bool.true_and, Bool.not_false] at hq ⊢
          refine ⟨sh_pls M, ?_⟩
          by_cases z4 : E ∈ M
          · rw [decide_eq_true z4] at hq ⊢
            exact hq
          · rw [decide_eq_false z4] at hq ⊢
            simp only [Bool.true_and, Bool.not_false] at hq ⊢
            refine hK _ ?_
            refine seq_k fun K hK => ?_
            walk_at "dl"
            refine lc_map (fun p => .bool (onArc B E C w p)) (by omega) (fun p hp R hR => ?_) ?_
            · walk_at "dl"
              exact .inl ⟨B.1, B.2, E.1, E.2, C.1, C.2, w, r, p.1, p.2, rfl, hk.ok, hM p hp, hR _ rfl⟩
            refine ⟨_, bools_f _ _, ?_⟩
            rw [all_mp]
            cases z5 : M.all (onArc B E C w) with
            | false =>
              rw [z5] at hq
              exact hq
            | true =>
              rw [z5, Bool.true_and] at hq
              simp only [Bool.not_true]
              refine hK _ ?_
              refine seq_k fun K hK => ?_
              walk_at "dl"
              refine lc_map (spD C) (by omega) (fun p hp R hR => ?_) ?_
              · walk_at "dl"
                have hp4 := hL p hp
                refine ⟨p, C, rfl, ⟨⟨hp4.1.mono (by decide), hp4.2.mono (by decide)⟩, hk.c.1.mono (by decide), hk.c.2.mono (by decide)⟩, hR _ rfl⟩
              refine hK _ ?_
              refine seq_k fun K hK => ?_
              walk_at "dl"
              rw [cut_in (by rw [List.length_map]; exact z), inner_map, hxy, inner_cons, ← hxy]
              have hsp : ∀ p ∈ L, Bd2 470 (sb2 p C) := fun p hp => ⟨((hL p hp).1.sub hk.c.1).mono (by decide), ((hL p hp).2.sub hk.c.2).mono (by decide)⟩
              have hML : ∀ p ∈ M, p ∈ L := fun p hp => by rw [hxy]; exact List.mem_cons_of_mem _ (List.mem_append_left _ hp)
              refine hK _ ?_
              refine seq_k fun K hK => ?_
              walk_at "dl"
              rw [cut_from (by decide), ← List.map_drop, zipD_map]
              refine lc_map (fun p => .bool (soonC (sb2 B C) (sb2 p.1 C) (sb2 p.2 C) w)) (by rw [List.length_zip]; omega) (fun p hp R hR => ?_) ?_
              · walk_at "dl"
                have hp1 := hML _ (List.of_mem_zip hp).1
                have hp2 := hML _ (List.mem_of_mem_drop (List.of_mem_zip hp).2)
                have hx1 : x ∈ L := by rw [hxy]; exact List.mem_cons_self
                refine ⟨spD C x, atI_first (by rw [List.getElem?_map, hxy]; rfl), sb2 x C, sb2 p.1 C, sb2 p.2 C, w, rfl, ⟨⟨(hsp _ hx1).1.mono (by decide), (hsp _ hx1).2.mono (by decide)⟩, ⟨(hsp _ hp1).1.mono (by decide), (hsp _ hp1).2.mono (by decide)⟩, ⟨(hsp _ hp2).1.mono (by decide), (hsp _ hp2).2.mono (by decide)⟩, hk.w⟩, ?_⟩
                show R (.bool (soonC (sb2 x C) (sb2 p.1 C) (sb2 p.2 C) w)) _
                rw [show sb2 x C = sb2 B C by rw [z1]]
                exact hR _ rfl
              rw [show Int.toNat 1 = 1 from rfl]
              refine ⟨_, bools_f _ _, ?_⟩
              rw [all_mp]
              have hq : Q (.d (.bool ((M.zip (M.drop 1)).all (fun p => soonC (sb2 B C) (sb2 p.1 C) (sb2 p.2 C) w) && prAll (chB C w r m) L))) := hq
              cases z6 : (M.zip (M.drop 1)).all (fun p => soonC (sb2 B C) (sb2 p.1 C) (sb2 p.2 C) w) with
              | false =>
                rw [z6] at hq
                exact hq
              | true =>
                rw [z6, Bool.true_and] at hq
                simp only [Bool.not_true]
                refine hK _ ?_
                walk_at "dl"
                rw [cut_from (by decide), ← List.map_drop, zipD_map]
                refine lc_map (fun p => .bool (chB C w r m p.1 p.2)) (by rw [List.length_zip]; omega) (fun p hp R hR => ?_) ?_
                · walk_at "dl"
                  have hp1 := (List.of_mem_zip hp).1
                  have hp2 := List.mem_of_mem_drop (List.of_mem_zip hp).2
                  exact ⟨sb2 p.1 C, sb2 p.2 C, B, E, C, w, r, m, rfl, ⟨hk, hm, hsp _ hp1, hsp _ hp2⟩, hR _ rfl⟩
                refine ⟨_, bools_f _ _, ?_⟩
                rw [all_mp]
                exact hq
      · rw [decide_eq_false z2] at hq ⊢
        exact hq
    · rw [decide_eq_false z1] at hq ⊢
      exact hq
  · rw [decide_eq_false z, Bool.false_and] at hq
    rw [decide_eq_false z]
    exact hq
theorem b_law {K : Fg} {mg : Str → Option Value} (T : Tx K mg) : Binds K T.fd_law ["_law_script"] [] := T.F_law.bindsN fun _ _ _ _ _ _ us hl => match us, hl with | [_], _ => rfl
theorem fm_law : FMono f_law := DL.fm_law
theorem ln_law : ∀ ds Q, f_law ds Q → ds.length = (["_law_script"] : List Str).length := DL.ln_law
theorem ok_law {P : Program} {w : World} {K : Fg} {mg : Str → Option Value} {base : Heap} (T : Tx K mg) : FnOk P w K mg base CX0 11 (He.fAd K ("law", none)) T.fd_law ["_law_script"] (spP K f_law) := by
  refine ok_pure T.F_law sc_law fm_law ln_law (fun cdv A outer s H E Z hr => ⟨_, (dss_cons (ds_for PassesOwn.never rfl (di_range1 rfl T.m_range (da_cons (de_b (cd_max rfl) rfl T.m_max bb_max (da_cons de_int (da_cons (de_b (cd_min rfl) rfl T.m_min bb_min (da_cons de_int (da_cons (de_b cd_len rfl T.m_len bb_len (da_cons (de_var 0) da_nil)) da_nil))) da_nil))) da_nil)) (dg_name (i := 1) sc_law.nd rfl (by first | exact Or.inl rfl | exact Or.inr rfl))
    (dss_cons (ds_setO (i := 2) sc_law.nd rfl (by first | exact Or.inl rfl | exact Or.inr rfl) (do_call (ok__law_urn T) fm__law_urn (hr.mono (by decide)) rfl T.g__law_urn T.F__law_urn.kp (b__law_urn T) .nil (fun _ => .nil) (da_cons (de_var 0) (da_cons (de_var 1) da_nil))))
    (dss_cons (ds_asg (de_callB 2 (ok__law_arc T) bm__law_arc (hr.mono (by decide)) rfl T.g__law_arc T.F__law_arc.kp (b__law_arc T) (da_cons (de_ix (Do.sh (do_lst (da_cons de_int (da_cons de_int da_nil)))) (de_callB 2 (ok__law_draw T) bm__law_draw (hr.mono (by decide)) rfl T.g__law_draw T.F__law_draw.kp (b__law_draw T) (da_cons de_int da_nil))) da_nil)) (dg_tup (n := 2) rfl (dgs_cons (dg_name (i := 6) sc_law.nd rfl (by first | exact Or.inl rfl | exact Or.inr rfl)) (dgs_cons (dg_name (i := 10) sc_law.nd rfl (by first | exact Or.inl rfl | exact Or.inr rfl)) dgs_nil))))
    (dss_cons (ds_set (i := 3) sc_law.nd rfl (by first | exact Or.inl rfl | exact Or.inr rfl) (de_callB 2 (ok__law_within T) bm__law_within (hr.mono (by decide)) rfl T.g__law_within T.F__law_within.kp (b__law_within T) (da_cons (de_var 10) da_nil)))
    (dss_cons (ds_set (i := 4) sc_law.nd rfl (by first | exact Or.inl rfl | exact Or.inr rfl) (de_callN (gD := fun ds es => ds ++ es) (ok_chords T) fm_chords (hr.mono (by decide)) rfl T.g_chords T.F_chords.kp (b_chords_1_within T) (fun _ _ _ _ _ h1 h2 => h1.app h2) (da_cons (de_var 6) da_nil) (dk_cons (de_var 3) dk_nil)))
    (dss_cons (ds_set (i := 5) sc_law.nd rfl (by first | exact Or.inl rfl | exact Or.inr rfl) (de_call (ok__law_plus T) fm__law_plus (hr.mono (by decide)) rfl T.g__law_plus T.F__law_plus.kp (b__law_plus T) .nil (fun _ => .nil) (da_cons (de_var 3) (da_cons (de_call (ok__law_low T) fm__law_low (hr.mono (by decide)) rfl T.g__law_low T.F__law_low.kp (b__law_low T) .nil (fun _ => .nil) (da_cons (de_op od_add de_int (de_callB 2 (ok__law_draw T) bm__law_draw (hr.mono (by decide)) rfl T.g__law_draw T.F__law_draw.kp (b__law_draw T) (da_cons de_int da_nil))) (da_cons (de_op od_add de_int (de_callB 2 (ok__law_draw T) bm__law_draw (hr.mono (by decide)) rfl T.g__law_draw T.F__law_draw.kp (b__law_draw T) (da_cons de_int da_nil))) da_nil))) da_nil))))
    (dss_cons (ds_asg (de_tup (da_cons (de_callB 2 (ok__law_draw T) bm__law_draw (hr.mono (by decide)) rfl T.g__law_draw T.F__law_draw.kp (b__law_draw T) (da_cons de_int da_nil)) (da_cons (de_op od_sub de_int (de_op od_mul de_int (de_callB 2 (ok__law_draw T) bm__law_draw (hr.mono (by decide)) rfl T.g__law_draw T.F__law_draw.kp (b__law_draw T) (da_cons de_int da_nil)))) da_nil))) (dg_tup (n := 2) rfl (dgs_cons (dg_name (i := 11) sc_law.nd rfl (by first | exact Or.inl rfl | exact Or.inr rfl)) (dgs_cons (dg_name (i := 12) sc_law.nd rfl (by first | exact Or.inl rfl | exact Or.inr rfl)) dgs_nil))))
    (dss_cons (ds_asg (de_var 6) (dg_tup (n := 5) rfl (dgs_cons (dg_name (i := 13) sc_law.nd rfl (by first | exact Or.inl rfl | exact Or.inr rfl)) (dgs_cons (dg_name (i := 14) sc_law.nd rfl (by first | exact Or.inl rfl | exact Or.inr rfl)) (dgs_cons (dg_name (i := 15) sc_law.nd rfl (by first | exact Or.inl rfl | exact Or.inr rfl)) (dgs_cons (dg_name (i := 16) sc_law.nd rfl (by first | exact Or.inl rfl | exact Or.inr rfl)) (dgs_cons (dg_name (i := 17) sc_law.nd rfl (by first | exact Or.inl rfl | exact Or.inr rfl)) dgs_nil)))))))
    (dss_cons (ds_if (Dw.pt (dw_or (dt_not (dt_val (de_callN (gD := fun ds es => ds ++ es) (ok_are_chords T) fm_are_chords (hr.mono (by decide)) rfl T.g_are_chords T.F_are_chords.kp (b_are_chords_2_within T) (fun _ _ _ _ _ h1 h2 => h1.app h2) (da_cons (de_var 6) (da_cons (de_var 4) da_nil)) (dk_cons (de_var 3) dk_nil)))) (dw_or1 (dt_not (dt_val (de_callN (gD := fun ds es => ds ++ es) (ok_are_chords T) fm_are_chords (hr.mono (by decide)) rfl T.g_are_chords T.F_are_chords.kp (b_are_chords_2_within T) (fun _ _ _ _ _ h1 h2 => h1.app h2) (da_cons (de_var 6) (da_cons (Do.sh (do_list rfl T.m_list bt_list (da_cons (de_var 4) da_nil))) da_nil)) (dk_cons (de_var 5) dk_nil)))))))
    (dss_one (ds_ret de_bl))
    dss_nil)
    (dss_cons (ds_if (dt_not (dt_val (de_callN (gD := fun ds es => ds ++ es) (ok_are_chords T) fm_are_chords (hr.mono (by decide)) rfl T.g_are_chords T.F_are_chords.kp (b_are_chords_2_within T) (fun _ _ _ _ _ h1 h2 => h1.app h2) (da_cons (de_tup (da_cons (de_var 13) (da_cons (de_var 15) (da_cons (de_var 14) (da_cons (de_var 16) (da_cons (de_op od_sub de_int (de_var 17)) da_nil)))))) (da_cons (de_revA (de_var 4)) da_nil)) (dk_cons (de_var 3) dk_nil))))
    (dss_one (ds_ret de_bl))
    dss_nil)
    (dss_cons (ds_setLc (i := 7) [("_law_place", 18)] rfl sc_law.nd rfl rfl (sw_true rfl rfl rfl (by decide +kernel)) (di_list (Do.sh (do_lst (da_cons (de_var 14) (da_cons (de_var 15) (da_cons (de_var 16) da_nil)))))) (blkOk_by (own := [("_law_place", 18)]) (N := ["_law_script", "_law_at", "_law_urn_here", "_law_room", "_law_told", "_law_more", "_law_arc_here", "_law_places", "_law_led_here", "_law_wrong", "_law_radius", "_law_quarters", "_law_flip", "_law_word", "_law_begin", "_law_end", "_law_centre", "_law_side", "_law_place"]) (sc := defScope s_law) (by decide +kernel)) (fun _ _ _ _ _ _ => (dg_name (i := 18) sc_law.nd rfl (by first | exact Or.inl rfl | exact Or.inr rfl))) (fun _ _ _ _ _ _ => dts_nil) (fun _ _ _ _ _ _ => (de_call (ok__law_led T) fm__law_led (hr.mono (by decide)) rfl T.g__law_led T.F__law_led.kp (b__law_led T) .nil (fun _ => .nil) (da_cons (de_var 18) (da_cons (de_var 11) (da_cons (de_var 12) da_nil))))))
    (dss_cons (ds_setLc (i := 8) [("_law_place", 18)] rfl sc_law.nd rfl rfl (sw_true rfl rfl rfl (by decide +kernel)) (di_list (de_var 4)) (blkOk_by (own := [("_law_place", 18)]) (N := ["_law_script", "_law_at", "_law_urn_here", "_law_room", "_law_told", "_law_more", "_law_arc_here", "_law_places", "_law_led_here", "_law_wrong", "_law_radius", "_law_quarters", "_law_flip", "_law_word", "_law_begin", "_law_end", "_law_centre", "_law_side", "_law_place"]) (sc := defScope s_law) (by decide +kernel)) (fun _ _ _ _ _ _ => (dg_name (i := 18) sc_law.nd rfl (by first | exact Or.inl rfl | exact Or.inr rfl))) (fun _ _ _ _ _ _ => dts_nil) (fun _ _ _ _ _ _ => (de_call (ok__law_led T) fm__law_led (hr.mono (by decide)) rfl T.g__law_led T.F__law_led.kp (b__law_led T) .nil (fun _ => .nil) (da_cons (de_var 18) (da_cons (de_var 11) (da_cons (de_var 12) da_nil))))))
    (dss_cons (ds_if (dt_not (dt_val (de_callN (gD := fun ds es => ds ++ es) (ok_are_chords T) fm_are_chords (hr.mono (by decide)) rfl T.g_are_chords T.F_are_chords.kp (b_are_chords_2_within T) (fun _ _ _ _ _ h1 h2 => h1.app h2) (da_cons (de_tup (da_cons (de_var 13) (da_cons (de_ix (de_var 7) de_int) (da_cons (de_ix (de_var 7) de_int) (da_cons (de_ix (de_var 7) de_int) (da_cons (de_op od_mul (de_var 17) (de_var 12)) da_nil)))))) (da_cons (de_var 8) da_nil)) (dk_cons (de_var 3) dk_nil))))
    (dss_one (ds_ret de_bl))
    dss_nil)
    (dss_cons (ds_setO (i := 9) sc_law.nd rfl (by first | exact Or.inl rfl | exact Or.inr rfl) (do_lst (da_cons (de_callN (gD := fun ds es => ds ++ es) (ok_are_chords T) fm_are_chords (hr.mono (by decide)) rfl T.g_are_chords T.F_are_chords.kp (b_are_chords_2_within T) (fun _ _ _ _ _ h1 h2 => h1.app h2) (da_cons (de_var 6) (da_cons (de_sl (de_var 4) (dpo_some de_int) dpo_none) da_nil)) (dk_cons (de_var 3) dk_nil)) (da_cons (de_callN (gD := fun ds es => ds ++ es) (ok_are_chords T) fm_are_chords (hr.mono (by decide)) rfl T.g_are_chords T.F_are_chords.kp (b_are_chords_2_within T) (fun _ _ _ _ _ h1 h2 => h1.app h2) (da_cons (de_var 6) (da_cons (de_sl (de_var 4) dpo_none (dpo_some (de_neg de_int))) da_nil)) (dk_cons (de_var 3) dk_nil)) da_nil))))
    (dss_cons (ds_app 9 (de_callN (gD := fun ds es => ds ++ es) (ok_are_chords T) fm_are_chords (hr.mono (by decide)) rfl T.g_are_chords T.F_are_chords.kp (b_are_chords_2_within T) (fun _ _ _ _ _ h1 h2 => h1.app h2) (da_cons (de_tup (da_cons (de_var 13) (da_cons (de_var 14) (da_cons (de_var 15) (da_cons (de_var 16) (da_cons (de_op od_sub de_int (de_var 17)) da_nil)))))) (da_cons (de_var 4) da_nil)) (dk_cons (de_var 3) dk_nil)))
    (dss_one (ds_if (dt_lend 9 (fun _ => (dt_cmp (od_ne hr.units) (de_var 9) (de_rep (do_lst (da_cons de_bl da_nil))))))
    (dss_one (ds_ret de_bl))
    dss_nil)))))))))))))))))
    (dss_one (ds_ret de_bl))), fun ds Q h => ?_⟩)
  obtain ⟨ns, rfl, hl, hq⟩ := h
  simp only [dSeq, dFor, iRg1]
  walk_at "dl"
  have e : ((ns.map PyData.int).length : Int) = ns.length := by rw [List.length_map]
  rw [e]
  refine ⟨by split <;> (try split) <;> omega, by split <;> (try split) <;> omega, ?_⟩
  refine for_op (fun _ δ => ∃ a1 a2 a3 a4 a5 a6 a7 a8 a9 a10 a11 a12 a13 a14 a15 a16 a17 a18, δ = [some (.sh (.list (ns.map .int))), a1, a2, a3, a4, a5, a6, a7, a8, a9, a10, a11, a12, a13, a14, a15, a16, a17, a18]) ⟨_, _, _, _, _, _, _, _, _, _, _, _, _, _, _, _, _, _, rfl⟩ ?_ (fun δ ⟨_, _, _, _, _, _, _, _, _, _, _, _, _, _, _, _, _, _, e⟩ => by subst e; walk_at "dl"; exact hq)
  rintro W hW i d δ hi ⟨a1, a2, a3, a4, a5, a6, a7, a8, a9, a10, a11, a12, a13, a14, a15, a16, a17, a18, rfl⟩
  have hi2 := get_lt hi
  rw [rngD_len] at hi2
  have hi3 : (i : Int) < 1000 := by
    split at hi2 <;> (try split at hi2) <;> omega
  rw [rngD_get hi2] at hi
  cases hi
  rw [Int.zero_add]
  simp only [gNm, List.set_cons_zero, List.set_cons_succ]
  refine seq_k fun K hK => ?_
  walk_at "dl"
  refine ⟨ns, i, rfl, hl, by omega, by omega, fun xs hb => ?_⟩
  refine hK _ ?_
  refine seq_k fun K hK => ?_
  walk_at "dl"
  refine take_at hb (by decide) (by decide) (by decide) fun d1 x1 p1 p2 hb => ?_
  walk_at "dl"
  obtain ⟨z, hz, e⟩ := pick2 (a := 3) (b := 900) p1 p2
  rw [e]
  walk_at "dl"
  refine ⟨_, z, hb, by decide, rfl, by omega, fun B E C w r x2 hk hr hb => ?_⟩
  walk_at "dl"
  unfold arcP
  refine hK _ ?_
  refine seq_k fun K hK => ?_
  walk_at "dl"
  refine ⟨_, r, hb, by decide, rfl, ⟨hk.r0, hr⟩, fun m x3 hm hb => ?_⟩
  refine hK _ ?_
  refine seq_k fun K hK => ?_
  walk_at "dl"
  refine ⟨B, E, C, w, r, m, rfl, ⟨hk, hm⟩, fun n k hn hf hs => ?_⟩
  walk_at "dl"
  have hl := hs.law hk.w hk.r0 hk.rB hk.rE hf
  have hlb := chL_bd (m := m) hk hn hs
  have hll := chL_len B E C w n k
  have hkn := hs.m1
  generalize chL B E C w n k = L at *
  refine hK _ ?_
  refine seq_k fun K hK => ?_
  walk_at "dl"
  refine take_at hb (by decide) (by decide) (by decide) fun d2 x4 p3 p4 hb => ?_
  walk_at "dl"
  refine take_at hb (by decide) (by decide) (by decide) fun d3 x5 p5 p6 hb => ?_
  walk_at "dl"
  have bm := hm.2.1
  have bd : Bd 12 (Rat.divInt (1 + d2) (1 + d3)) := bd_divInt (by omega) (by omega) (by omega)
  have d0 : 0 < Rat.divInt (1 + d2) (1 + d3) := dI_pos (by omega) (by omega)
  have h9 : (2 : Nat) ^ 10 ≤ 2 ^ 9000 := Nat.pow_le_pow_right (by omega) (by decide)
  generalize Rat.divInt (1 + d2) (1 + d3) = dm at *
  refine ⟨by omega, by omega, bm.mono (by decide), bd.mono (by decide), ?_⟩
  have bk : Bd 100 (m + dm) := by walk_at "bd"
  refine hK _ ?_
  refine seq_k fun K hK => ?_
  walk_at "dl"
  refine take_at hb (by decide) (by decide) (by decide) fun d4 x6 p7 p8 hb => ?_
  walk_at "dl"
  refine take_at hb (by decide) (by decide) (by decide) fun d5 x7 p9 p10 hb => ?_
  walk_at "dl"
  refine ⟨mul64 (by omega) (by omega) (by omega) (by omega), ?_⟩
  refine hK _ ?_
  refine seq_k fun K hK => ?_
  walk_at "dl"
  refine hK _ ?_
  refine seq_k fun K hK => ?_
  walk_at "dl"
  have lb : L.length ≤ 1000 := by omega
  have hlw := hl
  have t1 := law_are hk.w hk.r0 hk.rB hk.rE hl
  have t2 := law_are hk.w hk.r0 hk.rB hk.rE (hl.mono (k := m + dm) (by grind) (fun _ => by have := hm.1; grind))
  have t3 := law_are hk.rev.w hk.r0 hk.rE hk.rB (hl.rev hk.w hk.r0 hk.rB hk.rE)
  refine ⟨B, E, C, w, r, m, L, rfl, ⟨hk, bm.mono (by decide)⟩, ⟨lb, hlb⟩, ?_⟩
  rw [t1]
  walk_at "dl"
  refine ⟨B, E, C, w, r, m + dm, L, rfl, ⟨hk, bk⟩, ⟨lb, hlb⟩, ?_⟩
  rw [t2]
  walk_at "dl"
  refine hK _ ?_
  refine seq_k fun K hK => ?_
  walk_at "dl"
  rw [← List.map_reverse, Int.zero_sub]
  refine ⟨E, B, C, -w, r, m, L.reverse, rfl, ⟨hk.rev, bm.mono (by decide)⟩, ⟨by rw [List.length_reverse]; exact lb, fun p hp => hlb p (List.mem_reverse.mp hp)⟩, ?_⟩
  rw [t3]
  walk_at "dl"
  refine hK _ ?_
  refine seq_k fun K hK => ?_
  walk_at "dl"
  obtain ⟨q, hq4⟩ : ∃ q : Nat, d4 = (q : Int) := ⟨d4.toNat, by omega⟩
  subst hq4
  have hf1 : 1 - 2 * d5 = 1 ∨ 1 - 2 * d5 = -1 := by omega
  generalize 1 - 2 * d5 = f at *
  have hB4 : Bd2 400 B := ⟨hk.b.1.mono (by decide), hk.b.2.mono (by decide)⟩
  have hE4 : Bd2 400 E := ⟨hk.e.1.mono (by decide), hk.e.2.mono (by decide)⟩
  have hC4 : Bd2 400 C := ⟨hk.c.1.mono (by decide), hk.c.2.mono (by decide)⟩
  refine ⟨B, q, f, rfl, ⟨hB4, by omega, hf1⟩, ?_⟩
  walk_at "dl"
  refine ⟨E, q, f, rfl, ⟨hE4, by omega, hf1⟩, ?_⟩
  walk_at "dl"
  refine ⟨C, q, f, rfl, ⟨hC4, by omega, hf1⟩, ?_⟩
  walk_at "dl"
  refine hK _ ?_
  refine seq_k fun K hK => ?_
  walk_at "dl"
  refine lc_map (fun p => plD (ldq q f p)) (by have : sizeLine = 16777216 := by decide
                                               omega) (fun p hp R hR => ?_) ?_
  · walk_at "dl"
    exact ⟨p, q, f, rfl, ⟨hlb p hp, by omega, hf1⟩, hR _ rfl⟩
  refine hK _ ?_
  refine seq_k fun K hK => ?_
  walk_at "dl"
  have t4 := law_are (hk.led (q := q) hf1).w hk.r0 (hk.led hf1).rB (hk.led hf1).rE (hl.led (q := q) hf1)
  have hwk := hk.w
  refine ⟨mul64 (by omega) (by omega) (by omega) (by omega), ldq q f B, ldq q f E, ldq q f C, w * f, r, m, L.map (ldq q f), ?_, ⟨hk.led hf1, bm.mono (by decide)⟩, ⟨by rw [List.length_map]; exact lb, fun p hp => ?_⟩, ?_⟩
  · rw [List.map_map]
    rfl
  · obtain ⟨p', hp', rfl⟩ := List.mem_map.mp hp
    exact ldq_bd hf1 (hlb p' hp')
  rw [t4]
  walk_at "dl"
  refine hK _ ?_
  refine seq_k fun K hK => ?_
  walk_at "dl"
  have f1 : areB B E C w r m (L.drop 1) = false := Bool.eq_false_iff.mpr fun z => hl.no_tail (are_law hk.w hk.r0 hk.rB hk.rE z)
  have f2 : areB B E C w r m L.dropLast = false := Bool.eq_false_iff.mpr fun z => hl.no_init (are_law hk.w hk.r0 hk.rB hk.rE z)
  have f3 : areB B E C (-w) r m L = false := Bool.eq_false_iff.mpr fun z => hl.no_other (are_law hk.other.w hk.r0 hk.rB hk.rE z)
  rw [cut_from (by decide), cut_dl (by rw [List.length_map]; omega), ← List.map_drop, ← List.map_dropLast]
  refine ⟨B, E, C, w, r, m, L.drop 1, rfl, ⟨hk, bm.mono (by decide)⟩, ⟨by rw [List.length_drop]; omega, fun p hp => hlb p (List.mem_of_mem_drop hp)⟩, ?_⟩
  rw [f1]
  walk_at "dl"
  refine ⟨B, E, C, w, r, m, L.dropLast, rfl, ⟨hk, bm.mono (by decide)⟩, ⟨by rw [List.length_dropLast]; omega, fun p hp => hlb p (List.dropLast_subset L hp)⟩, ?_⟩
  rw [f2]
  walk_at "dl"
  refine hK _ ?_
  refine seq_k fun K hK => ?_
  walk_at "dl"
  rw [Int.zero_sub]
  refine ⟨B, E, C, -w, r, m, L, rfl, ⟨hk.other, bm.mono (by decide)⟩, ⟨lb, hlb⟩, ?_⟩
  rw [f3]
  walk_at "dl"
  refine hK _ ?_
  walk_at "dl"
  refine ⟨by decide, by decide, by decide, rfl, rfl, ?_⟩
  rw [show PyData.eqvAll [PyData.bool false, PyData.bool false, PyData.bool false] (List.replicate (Int.toNat 3) [PyData.bool false]).flatten = true from rfl]
  simp only [Bool.not_true]
  exact hW _ _ ⟨_, _, _, _, _, _, _, _, _, _, _, _, _, _, _, _, _, _, rfl⟩
def fnL : List He.DefD := [⟨("is_whole", none), "is_whole", "is_whole", defArgs s_is_whole, defBody s_is_whole, defScope s_is_whole, [], []⟩, ⟨("shared", none), "shared", "shared", defArgs s_shared, defBody s_shared, defScope s_shared, [], []⟩, ⟨("opposite", none), "opposite", "opposite", defArgs s_opposite, defBody s_opposite, defScope s_opposite, [], []⟩, ⟨("is_below", none), "is_below", "is_below", defArgs s_is_below, defBody s_is_below, defScope s_is_below, [], []⟩, ⟨("whole", none), "whole", "whole", defArgs s_whole, defBody s_whole, defScope s_whole, [], []⟩, ⟨("side_of", none), "side_of", "side_of", defArgs s_side_of, defBody s_side_of, defScope s_side_of, [], []⟩, ⟨("_law_urn", none), "_law_urn", "_law_urn", defArgs s__law_urn, defBody s__law_urn, defScope s__law_urn, [], []⟩, ⟨("_law_draw", none), "_law_draw", "_law_draw", defArgs s__law_draw, defBody s__law_draw, defScope s__law_draw, [], []⟩, ⟨("_law_both", none), "_law_both", "_law_both", defArgs s__law_both, defBody s__law_both, defScope s__law_both, [], []⟩, ⟨("is_number", none), "is_number", "is_number", defArgs s_is_number, defBody s_is_number, defScope s_is_number, [], []⟩, ⟨("ratio", none), "ratio", "ratio", defArgs s_ratio, defBody s_ratio, defScope s_ratio, [.int 1], []⟩, ⟨("root", none), "root", "root", defArgs s_root, defBody s_root, defScope s_root, [], []⟩, ⟨("left_of", none), "left_of", "left_of", defArgs s_left_of, defBody s_left_of, defScope s_left_of, [], []⟩, ⟨("_law_low", none), "_law_low", "_law_low", defArgs s__law_low, defBody s__law_low, defScope s__law_low, [], []⟩, ⟨("_law_turn", none), "_law_turn", "_law_turn", defArgs s__law_turn, defBody s__law_turn, defScope s__law_turn, [], []⟩, ⟨("plus", none), "plus", "plus", defArgs s_plus, defBody s_plus, defScope s_plus, [], []⟩, ⟨("times", none), "times", "times", defArgs s_times, defBody s_times, defScope s_times, [], []⟩, ⟨("over", none), "over", "over", defArgs s_over, defBody s_over, defScope s_over, [], []⟩, ⟨("is_place", none), "is_place", "is_place", defArgs s_is_place, defBody s_is_place, defScope s_is_place, [], []⟩, ⟨("heading_of", none), "heading_of", "heading_of", defArgs s_heading_of, defBody s_heading_of, defScope s_heading_of, [], []⟩, ⟨("_law_plus", none), "_law_plus", "_law_plus", defArgs s__law_plus, defBody s__law_plus, defScope s__law_plus, [], []⟩, ⟨("_law_minus", none), "_law_minus", "_law_minus", defArgs s__law_minus, defBody s__law_minus, defScope s__law_minus, [], []⟩, ⟨("_law_times", none), "_law_times", "_law_times", defArgs s__law_times, defBody s__law_times, defScope s__law_times, [], []⟩, ⟨("_law_over", none), "_law_over", "_law_over", defArgs s__law_over, defBody s__law_over, defScope s__law_over, [], []⟩, ⟨("_law_heading", none), "_law_heading", "_law_heading", defArgs s__law_heading, defBody s__law_heading, defScope s__law_heading, [], []⟩, ⟨("_law_within", none), "_law_within", "_law_within", defArgs s__law_within, defBody s__law_within, defScope s__law_within, [], []⟩, ⟨("minus", none), "minus", "minus", defArgs s_minus, defBody s_minus, defScope s_minus, [], []⟩, ⟨("added", none), "added", "added", defArgs s_added, defBody s_added, defScope s_added, [], []⟩, ⟨("scaled", none), "scaled", "scaled", defArgs s_scaled, defBody s_scaled, defScope s_scaled, [], []⟩, ⟨("dot", none), "dot", "dot", defArgs s_dot, defBody s_dot, defScope s_dot, [], []⟩, ⟨("_law_add", none), "_law_add", "_law_add", defArgs s__law_add, defBody s__law_add, defScope s__law_add, [], []⟩, ⟨("_law_less", none), "_law_less", "_law_less", defArgs s__law_less, defBody s__law_less, defScope s__law_less, [], []⟩, ⟨("_law_scale", none), "_law_scale", "_law_scale", defArgs s__law_scale, defBody s__law_scale, defScope s__law_scale, [], []⟩, ⟨("_law_dot", none), "_law_dot", "_law_dot", defArgs s__law_dot, defBody s__law_dot, defScope s__law_dot, [], []⟩, ⟨("_law_cross", none), "_law_cross", "_law_cross", defArgs s__law_cross, defBody s__law_cross, defScope s__law_cross, [], []⟩, ⟨("_law_led", none), "_law_led", "_law_led", defArgs s__law_led, defBody s__law_led, defScope s__law_led, [], []⟩, ⟨("lessened", none), "lessened", "lessened", defArgs s_lessened, defBody s_lessened, defScope s_lessened, [], []⟩, ⟨("cross", none), "cross", "cross", defArgs s_cross, defBody s_cross, defScope s_cross, [], []⟩, ⟨("turned", none), "turned", "turned", defArgs s_turned, defBody s_turned, defScope s_turned, [], []⟩, ⟨("fineness", none), "fineness", "fineness", defArgs s_fineness, defBody s_fineness, defScope s_fineness, [], []⟩, ⟨("_law_arc", none), "_law_arc", "_law_arc", defArgs s__law_arc, defBody s__law_arc, defScope s__law_arc, [], []⟩, ⟨("distance", none), "distance", "distance", defArgs s_distance, defBody s_distance, defScope s_distance, [], []⟩, ⟨("is_behind_half", none), "is_behind_half", "is_behind_half", defArgs s_is_behind_half, defBody s_is_behind_half, defScope s_is_behind_half, [], []⟩, ⟨("radius_of", none), "radius_of", "radius_of", defArgs s_radius_of, defBody s_radius_of, defScope s_radius_of, [], []⟩, ⟨("is_sooner", none), "is_sooner", "is_sooner", defArgs s_is_sooner, defBody s_is_sooner, defScope s_is_sooner, [], []⟩, ⟨("lies_on_arc", none), "lies_on_arc", "lies_on_arc", defArgs s_lies_on_arc, defBody s_lies_on_arc, defScope s_lies_on_arc, [], []⟩, ⟨("is_chord", none), "is_chord", "is_chord", defArgs s_is_chord, defBody s_is_chord, defScope s_is_chord, [], []⟩, ⟨("lies_on", none), "lies_on", "lies_on", defArgs s_lies_on, defBody s_lies_on, defScope s_lies_on, [], []⟩, ⟨("chords", none), "chords", "chords", defArgs s_chords, defBody s_chords, defScope s_chords, [], []⟩, ⟨("are_chords", none), "are_chords", "are_chords", defArgs s_are_chords, defBody s_are_chords, defScope s_are_chords, [], []⟩, ⟨("law", none), "law", "law", defArgs s_law, defBody s_law, defScope s_law, [], []⟩]
def faL : List He.Fa := [.glo "is_whole", .glo "shared", .glo "opposite", .glo "is_below", .glo "whole", .glo "side_of", .glo "_law_urn", .glo "_law_draw", .glo "_law_both", .glo "is_number", .glo "ratio", .glo "root", .glo "left_of", .glo "_law_low", .glo "_law_turn", .glo "plus", .glo "times", .glo "over", .glo "is_place", .glo "heading_of", .glo "_law_plus", .glo "_law_minus", .glo "_law_times", .glo "_law_over", .glo "_law_heading", .glo "_law_within", .glo "minus", .glo "added", .glo "scaled", .glo "dot", .glo "_law_add", .glo "_law_less", .glo "_law_scale", .glo "_law_dot", .glo "_law_cross", .glo "_law_led", .glo "lessened", .glo "cross", .glo "turned", .glo "fineness", .glo "_law_arc", .glo "distance", .glo "is_behind_half", .glo "radius_of", .glo "is_sooner", .glo "lies_on_arc", .glo "is_chord", .glo "lies_on", .glo "chords", .glo "are_chords", .glo "law", .free "abs", .free "all", .free "bool", .free "int", .free "isinstance", .free "len", .free "list", .free "max", .free "min", .free "range", .free "tuple", .free "zip"]
abbrev R : PySem.W.OpenRow := PySem.W.OpenLaw.row PySem.Challenge.rw_toolroad_k52_whole_chords_go_along
def csL : List (Str × PyData) := [("ONE", (PyData.tuple [(PyData.int 1), (PyData.int 1)])), ("NOUGHT", (PyData.tuple [(PyData.int 0), (PyData.int 1)])), ("HALF", (PyData.tuple [(PyData.int 1), (PyData.int 2)]))]
def fbL : List DL.Fb := []
abbrev hk : PySem.W.Hook := DL.hookR 3000 faL fnL csL fbL
def ob (s : PySem.W.SharedT) : DL.AlB := DL.obsRG 3000 faL fnL csL fbL (HandSHeadRun.getT s)
theorem ob_eq (s : PySem.W.SharedT) : ob s = hk.obs s.abs := DL.obsRG_eq (HandSHeadRun.getT_eq s)
def loose : List PySem.Str := [("MillError" : PySem.Str), ("NoHeading" : PySem.Str), ("OverNought" : PySem.Str), ("is_whole" : PySem.Str), ("shared" : PySem.Str), ("is_number" : PySem.Str), ("ratio" : PySem.Str), ("plus" : PySem.Str), ("opposite" : PySem.Str), ("minus" : PySem.Str), ("times" : PySem.Str), ("over" : PySem.Str), ("is_below" : PySem.Str), ("whole" : PySem.Str), ("side_of" : PySem.Str), ("root" : PySem.Str), ("is_place" : PySem.Str), ("added" : PySem.Str), ("lessened" : PySem.Str), ("scaled" : PySem.Str), ("dot" : PySem.Str), ("cross" : PySem.Str), ("left_of" : PySem.Str), ("heading_of" : PySem.Str), ("turned" : PySem.Str), ("distance" : PySem.Str), ("radius_of" : PySem.Str), ("is_behind_half" : PySem.Str), ("is_sooner" : PySem.Str), ("lies_on_arc" : PySem.Str), ("lies_on" : PySem.Str), ("fineness" : PySem.Str), ("chords" : PySem.Str), ("is_chord" : PySem.Str), ("are_chords" : PySem.Str), ("_law_urn" : PySem.Str), ("_law_draw" : PySem.Str), ("_law_both" : PySem.Str), ("_law_low" : PySem.Str), ("_law_plus" : PySem.Str), ("_law_minus" : PySem.Str), ("_law_times" : PySem.Str), ("_law_over" : PySem.Str), ("_law_add" : PySem.Str), ("_law_less" : PySem.Str), ("_law_scale" : PySem.Str), ("_law_dot" : PySem.Str), ("_law_cross" : PySem.Str), ("_law_heading" : PySem.Str), ("_law_turn" : PySem.Str), ("_law_arc" : PySem.Str), ("_law_within" : PySem.Str), ("_law_led" : PySem.Str), ("NOUGHT" : PySem.Str), ("ONE" : PySem.Str), ("HALF" : PySem.Str)]
theorem run (w : World) : HandSHeadRun.RunEq R (PySem.W.view R.prog [62]) hk ob 20000 loose w := by
  intro os
  kernel_rfl
theorem facts {P : Program} {w : World} {K : Fg} {h : Heap} {mg : Str → Option Value} {f : Addr} (X : K.In h) (G : h.Ns mainGlobals mg) (hfa : mg ("law" : Str) = some (.ref f)) (cB : DL.SaysB faL fnL csL fbL K) :
    ∃ fd : FuncData, (∀ (s : Shared) (v : Value), BindsTo s fd ⟨[v], []⟩ [("_law_script", v)]) ∧ ∀ base : Heap, K.In base → base.Ns mainGlobals mg → FnOk P w K mg base CX0 11 f fd ["_law_script"] (spP K f_law) := by
  have cC := cB.c
  have c := cC.d
  obtain ⟨fd_is_whole, F_is_whole⟩ := c.def_ 0 (d := fnL[0]) rfl
  obtain ⟨fd_shared, F_shared⟩ := c.def_ 1 (d := fnL[1]) rfl
  obtain ⟨fd_opposite, F_opposite⟩ := c.def_ 2 (d := fnL[2]) rfl
  obtain ⟨fd_is_below, F_is_below⟩ := c.def_ 3 (d := fnL[3]) rfl
  obtain ⟨fd_whole, F_whole⟩ := c.def_ 4 (d := fnL[4]) rfl
  obtain ⟨fd_side_of, F_side_of⟩ := c.def_ 5 (d := fnL[5]) rfl
  obtain ⟨fd__law_urn, F__law_urn⟩ := c.def_ 6 (d := fnL[6]) rfl
  obtain ⟨fd__law_draw, F__law_draw⟩ := c.def_ 7 (d := fnL[7]) rfl
  obtain ⟨fd__law_both, F__law_both⟩ := c.def_ 8 (d := fnL[8]) rfl
  obtain ⟨fd_is_number, F_is_number⟩ := c.def_ 9 (d := fnL[9]) rfl
  obtain ⟨fd_ratio, F_ratio⟩ := c.def_ 10 (d := fnL[10]) rfl
  obtain ⟨fd_root, F_root⟩ := c.def_ 11 (d := fnL[11]) rfl
  obtain ⟨fd_left_of, F_left_of⟩ := c.def_ 12 (d := fnL[12]) rfl
  obtain ⟨fd__law_low, F__law_low⟩ := c.def_ 13 (d := fnL[13]) rfl
  obtain ⟨fd__law_turn, F__law_turn⟩ := c.def_ 14 (d := fnL[14]) rfl
  obtain ⟨fd_plus, F_plus⟩ := c.def_ 15 (d := fnL[15]) rfl
  obtain ⟨fd_times, F_times⟩ := c.def_ 16 (d := fnL[16]) rfl
  obtain ⟨fd_over, F_over⟩ := c.def_ 17 (d := fnL[17]) rfl
  obtain ⟨fd_is_place, F_is_place⟩ := c.def_ 18 (d := fnL[18]) rfl
  obtain ⟨fd_heading_of, F_heading_of⟩ := c.def_ 19 (d := fnL[19]) rfl
  obtain ⟨fd__law_plus, F__law_plus⟩ := c.def_ 20 (d := fnL[20]) rfl
  obtain ⟨fd__law_minus, F__law_minus⟩ := c.def_ 21 (d := fnL[21]) rfl
  obtain ⟨fd__law_times, F__law_times⟩ := c.def_ 22 (d := fnL[22]) rfl
  obtain ⟨fd__law_over, F__law_over⟩ := c.def_ 23 (d := fnL[23]) rfl
  obtain ⟨fd__law_heading, F__law_heading⟩ := c.def_ 24 (d := fnL[24]) rfl
  obtain ⟨fd__law_within, F__law_within⟩ := c.def_ 25 (d := fnL[25]) rfl
  obtain ⟨fd_minus, F_minus⟩ := c.def_ 26 (d := fnL[26]) rfl
  obtain ⟨fd_added, F_added⟩ := c.def_ 27 (d := fnL[27]) rfl
  obtain ⟨fd_scaled, F_scaled⟩ := c.def_ 28 (d := fnL[28]) rfl
  obtain ⟨fd_dot, F_dot⟩ := c.def_ 29 (d := fnL[29]) rfl
  obtain ⟨fd__law_add, F__law_add⟩ := c.def_ 30 (d := fnL[30]) rfl
  obtain ⟨fd__law_less, F__law_less⟩ := c.def_ 31 (d := fnL[31]) rfl
  obtain ⟨fd__law_scale, F__law_scale⟩ := c.def_ 32 (d := fnL[32]) rfl
  obtain ⟨fd__law_dot, F__law_dot⟩ := c.def_ 33 (d := fnL[33]) rfl
  obtain ⟨fd__law_cross, F__law_cross⟩ := c.def_ 34 (d := fnL[34]) rfl
  obtain ⟨fd__law_led, F__law_led⟩ := c.def_ 35 (d := fnL[35]) rfl
  obtain ⟨fd_lessened, F_lessened⟩ := c.def_ 36 (d := fnL[36]) rfl
  obtain ⟨fd_cross, F_cross⟩ := c.def_ 37 (d := fnL[37]) rfl
  obtain ⟨fd_turned, F_turned⟩ := c.def_ 38 (d := fnL[38]) rfl
  obtain ⟨fd_fineness, F_fineness⟩ := c.def_ 39 (d := fnL[39]) rfl
  obtain ⟨fd__law_arc, F__law_arc⟩ := c.def_ 40 (d := fnL[40]) rfl
  obtain ⟨fd_distance, F_distance⟩ := c.def_ 41 (d := fnL[41]) rfl
  obtain ⟨fd_is_behind_half, F_is_behind_half⟩ := c.def_ 42 (d := fnL[42]) rfl
  obtain ⟨fd_radius_of, F_radius_of⟩ := c.def_ 43 (d := fnL[43]) rfl
  obtain ⟨fd_is_sooner, F_is_sooner⟩ := c.def_ 44 (d := fnL[44]) rfl
  obtain ⟨fd_lies_on_arc, F_lies_on_arc⟩ := c.def_ 45 (d := fnL[45]) rfl
  obtain ⟨fd_is_chord, F_is_chord⟩ := c.def_ 46 (d := fnL[46]) rfl
  obtain ⟨fd_lies_on, F_lies_on⟩ := c.def_ 47 (d := fnL[47]) rfl
  obtain ⟨fd_chords, F_chords⟩ := c.def_ 48 (d := fnL[48]) rfl
  obtain ⟨fd_are_chords, F_are_chords⟩ := c.def_ 49 (d := fnL[49]) rfl
  obtain ⟨fd_law, F_law⟩ := c.def_ 50 (d := fnL[50]) rfl
  have T : Tx K mg := ⟨fd_is_whole, F_is_whole, He.glo_ok X G (c.fact 0 (f := .glo "is_whole") rfl), fd_shared, F_shared, He.glo_ok X G (c.fact 1 (f := .glo "shared") rfl), fd_opposite, F_opposite, He.glo_ok X G (c.fact 2 (f := .glo "opposite") rfl), fd_is_below, F_is_below, He.glo_ok X G (c.fact 3 (f := .glo "is_below") rfl), fd_whole, F_whole, He.glo_ok X G (c.fact 4 (f := .glo "whole") rfl), fd_side_of, F_side_of, He.glo_ok X G (c.fact 5 (f := .glo "side_of") rfl), fd__law_urn, F__law_urn, He.glo_ok X G (c.fact 6 (f := .glo "_law_urn") rfl), fd__law_draw, F__law_draw, He.glo_ok X G (c.fact 7 (f := .glo "_law_draw") rfl), fd__law_both, F__law_both, He.glo_ok X G (c.fact 8 (f := .glo "_law_both") rfl), fd_is_number, F_is_number, He.glo_ok X G (c.fact 9 (f := .glo "is_number") rfl), fd_ratio, F_ratio, He.glo_ok X G (c.fact 10 (f := .glo "ratio") rfl), fd_root, F_root, He.glo_ok X G (c.fact 11 (f := .glo "root") rfl), fd_left_of, F_left_of, He.glo_ok X G (c.fact 12 (f := .glo "left_of") rfl), fd__law_low, F__law_low, He.glo_ok X G (c.fact 13 (f := .glo "_law_low") rfl), fd__law_turn, F__law_turn, He.glo_ok X G (c.fact 14 (f := .glo "_law_turn") rfl), fd_plus, F_plus, He.glo_ok X G (c.fact 15 (f := .glo "plus") rfl), fd_times, F_times, He.glo_ok X G (c.fact 16 (f := .glo "times") rfl), fd_over, F_over, He.glo_ok X G (c.fact 17 (f := .glo "over") rfl), fd_is_place, F_is_place, He.glo_ok X G (c.fact 18 (f := .glo "is_place") rfl), fd_heading_of, F_heading_of, He.glo_ok X G (c.fact 19 (f := .glo "heading_of") rfl), fd__law_plus, F__law_plus, He.glo_ok X G (c.fact 20 (f := .glo "_law_plus") rfl), fd__law_minus, F__law_minus, He.glo_ok X G (c.fact 21 (f := .glo "_law_minus") rfl), fd__law_times, F__law_times, He.glo_ok X G (c.fact 22 (f := .glo "_law_times") rfl), fd__law_over, F__law_over, He.glo_ok X G (c.fact 23 (f := .glo "_law_over") rfl), fd__law_heading, F__law_heading, He.glo_ok X G (c.fact 24 (f := .glo "_law_heading") rfl), fd__law_within, F__law_within, He.glo_ok X G (c.fact 25 (f := .glo "_law_within") rfl), fd_minus, F_minus, He.glo_ok X G (c.fact 26 (f := .glo "minus") rfl), fd_added, F_added, He.glo_ok X G (c.fact 27 (f := .glo "added") rfl), fd_scaled, F_scaled, He.glo_ok X G (c.fact 28 (f := .glo "scaled") rfl), fd_dot, F_dot, He.glo_ok X G (c.fact 29 (f := .glo "dot") rfl), fd__law_add, F__law_add, He.glo_ok X G (c.fact 30 (f := .glo "_law_add") rfl), fd__law_less, F__law_less, He.glo_ok X G (c.fact 31 (f := .glo "_law_less") rfl), fd__law_scale, F__law_scale, He.glo_ok X G (c.fact 32 (f := .glo "_law_scale") rfl), fd__law_dot, F__law_dot, He.glo_ok X G (c.fact 33 (f := .glo "_law_dot") rfl), fd__law_cross, F__law_cross, He.glo_ok X G (c.fact 34 (f := .glo "_law_cross") rfl), fd__law_led, F__law_led, He.glo_ok X G (c.fact 35 (f := .glo "_law_led") rfl), fd_lessened, F_lessened, He.glo_ok X G (c.fact 36 (f := .glo "lessened") rfl), fd_cross, F_cross, He.glo_ok X G (c.fact 37 (f := .glo "cross") rfl), fd_turned, F_turned, He.glo_ok X G (c.fact 38 (f := .glo "turned") rfl), fd_fineness, F_fineness, He.glo_ok X G (c.fact 39 (f := .glo "fineness") rfl), fd__law_arc, F__law_arc, He.glo_ok X G (c.fact 40 (f := .glo "_law_arc") rfl), fd_distance, F_distance, He.glo_ok X G (c.fact 41 (f := .glo "distance") rfl), fd_is_behind_half, F_is_behind_half, He.glo_ok X G (c.fact 42 (f := .glo "is_behind_half") rfl), fd_radius_of, F_radius_of, He.glo_ok X G (c.fact 43 (f := .glo "radius_of") rfl), fd_is_sooner, F_is_sooner, He.glo_ok X G (c.fact 44 (f := .glo "is_sooner") rfl), fd_lies_on_arc, F_lies_on_arc, He.glo_ok X G (c.fact 45 (f := .glo "lies_on_arc") rfl), fd_is_chord, F_is_chord, He.glo_ok X G (c.fact 46 (f := .glo "is_chord") rfl), fd_lies_on, F_lies_on, He.glo_ok X G (c.fact 47 (f := .glo "lies_on") rfl), fd_chords, F_chords, He.glo_ok X G (c.fact 48 (f := .glo "chords") rfl), fd_are_chords, F_are_chords, He.glo_ok X G (c.fact 49 (f := .glo "are_chords") rfl), fd_law, F_law, He.glo_ok X G (c.fact 50 (f := .glo "law") rfl), He.free_ok X G (c.fact 51 (f := .free "abs") rfl), He.free_ok X G (c.fact 52 (f := .free "all") rfl), He.free_ok X G (c.fact 53 (f := .free "bool") rfl), He.free_ok X G (c.fact 54 (f := .free "int") rfl), He.free_ok X G (c.fact 55 (f := .free "isinstance") rfl), He.free_ok X G (c.fact 56 (f := .free "len") rfl), He.free_ok X G (c.fact 57 (f := .free "list") rfl), He.free_ok X G (c.fact 58 (f := .free "max") rfl), He.free_ok X G (c.fact 59 (f := .free "min") rfl), He.free_ok X G (c.fact 60 (f := .free "range") rfl), He.free_ok X G (c.fact 61 (f := .free "tuple") rfl), He.free_ok X G (c.fact 62 (f := .free "zip") rfl), cC.cst X G 0 rfl, cC.cst X G 1 rfl, cC.cst X G 2 rfl⟩
  have e := hfa.symm.trans T.g_law
  cases e
  have b := FunD.bindsA (ps := ["_law_script"]) T.F_law fun _ _ _ _ _ _ us hl => match us, hl with | [_], _ => rfl
  exact ⟨T.fd_law, fun s v => b s [v] rfl, fun base _ _ => ok_law T⟩
end Lw
open PySem PySem.W PySem.Calls PyProof.Rows
theorem PySem.Challenge.cw_toolroad_k52_whole_chords_go_along_holds : PySem.Challenge.rw_toolroad_k52_whole_chords_go_along.Holds := by
  w_on; o_law
  refine HandSHeadRun.head_any (r := OpenLaw.row PySem.Challenge.rw_toolroad_k52_whole_chords_go_along) (q := view (OpenLaw.row PySem.Challenge.rw_toolroad_k52_whole_chords_go_along).prog [62]) (H := Lw.hk) (ob := Lw.ob) (M := 20000) (loose := Lw.loose) (d := HandSHeadRun.topDef (OpenLaw.row PySem.Challenge.rw_toolroad_k52_whole_chords_go_along).prog 62) (kwd := []) Lw.ob_eq
    (by kernel_rfl) (fun s => by kernel_rfl) Lw.run (by kernel_rfl) (by kernel_rfl) (by kernel_rfl) (by rfl) (by first | assumption | decide +kernel) (by decide +kernel) ⟨rfl, rfl, rfl, rfl, rfl, by decide +kernel⟩ ?hw ?hc
  case hw => w_witness2
  case hc =>
    refine L2.walk_ofE (l := PySem.Challenge.rw_toolroad_k52_whole_chords_go_along) (n := 63) (k := 11) (x := "_law_script") (CX := L2.CX0) rfl (by decide) (by kernel_rfl) ⟨rfl, by decide, by decide⟩ ?F (fun _ _ _ _ z => z)
    intro w mg fa h Y G hmg0
    obtain ⟨K, KX, c⟩ := Y
    have hmg : mg ("law" : PySem.Str) = some (.ref fa) := by
      have e : (HandSHeadRun.topDef (OpenLaw.row PySem.Challenge.rw_toolroad_k52_whole_chords_go_along).prog 62).name = ("law" : PySem.Str) := by kernel_rfl
      rw [← e]
      exact hmg0
    obtain ⟨fd, hb, hF⟩ := Lw.facts (P := (PySem.Challenge.rw_toolroad_k52_whole_chords_go_along).prog) (w := w) KX G hmg c
    exact ⟨K, fd, DL.spP K DL.f_law, KX, hb, fun H a ns hl _ hS => DL.law_start hl hS, hF⟩


