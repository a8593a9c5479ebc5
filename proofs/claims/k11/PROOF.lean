import PyProof.Rows.All
import HandS.ForMost
import HandS.Flow
import HandS.IsInst
import HandS.Zip
import HandS.Conv
import HandS.Defaults
import HandS.Lambda
import HandS.Slots
import HandS.HeadHook4
import HandS.Deep
import HandS.TupAny
import HandS.RaiseMore
import HandS.SortInts
import KE.KDictPairs
import HandS.Ends
import HandS.HeadEnd
import KE.KDictZip
import KE.GoesMore
import HandS.Keys
import KE.GoesEnum
import HandS.Head0
import HandS.Head1
import HandS.Head2
import KE.KStateDown
import PyProof.ReprLen
import HandS.Style
import HandS.Star
import HandS.Strs
import HandS.DictComp
import HandS.TupMul
import HandS.SetFor
import HandS.TryOnly
import HandS.SetTxt0
import HandS.ExcInit
import HandS.HeadWalk
import KE.KExcSuper
import HandS.CallSlots
import KE.KIsAll
import KE.KSuper
import KE.KExcIs
import HandS.ExcField
import HandS.HotCalls
import HandS.EndTab
import HandS.NestedK
import KE.DataFind
import HandS.SetBool
import HandS.SetKeys
import KE.SortCalls
import HandS.TupSets
import HandS.TryMany
import HandS.GenList
import HandS.CallLocal
import PyProof.MaxThree
import HandS.Text
import PySem.Challenge.RW_whichfirst_k11_whole_limits
set_option Elab.async false
set_option linter.all false
set_option maxRecDepth 100000
set_option maxHeartbeats 4000000
set_option autoImplicit false
namespace DL
open PySem PySem.Spec PyProof.Rows L2
abbrev Wd := PyData
abbrev Sg := L2.St
abbrev Fg := PySem.W.Frag
inductive Rec where
  | dct (fs : List (Str × Wd))
  | tdc (kvs : List (List Int × Wd))
  | tab (x : Str)
  | exn (c : Str) (fs : List (Str × Wd))
  | ins (c : Str) (fs : List (Str × Wd))
  | slt (c : Str) (fs : List (Str × Wd))
  | lst (ws : List Wd)
def slN (c : Str) : List Str := if c = "Limit" then ["caps_now", "form_now", "plain_now"] else if c = "Due" then ["own_base", "own_key", "own_late", "own_site", "own_task"] else if c = "Sheet" then ["own_bases", "own_names", "own_site", "own_today"] else []
abbrev Sto := List Rec
abbrev oW (l : Nat) : Wd := .dict [(.none, .int l)]
def kW : Key → Wd
  | .inl i => .int i
  | .inr x => .str x
def KnL (K : Fg) (a : Addr) (xs : List V) : Prop := ∃ (its : List Value) (n : Nat), K.lookup a = some { cls := .type "list", data := .seq its.toArray n } ∧ Vals xs its ∧ xs.length ≤ sizeLine
def LsR (K : Fg) (mu : List Addr) (T : Addr → Prop) (H : Hp) (a : Addr) (xs : List V) : Prop := (Rd H a (.lst xs) ∧ a ∉ mu ∧ ¬ T a) ∨ KnL K a xs
def TpR (K : Fg) (mu : List Addr) (T : Addr → Prop) (H : Hp) (a : Addr) (xs : List V) : Prop := ((∃ o : Obj, o.dict = none ∧ H a = some (.frz o (.tup xs))) ∧ a ∉ mu ∧ ¬ T a) ∨ ((∀ H' : Hp, SqT K H' a xs) ∧ ∃ o : Obj, K.lookup a = some o ∧ o.dict = none)
def DcR (mu : List Addr) (T : Addr → Prop) (H : Hp) (a : Addr) (kvs : List (Key × V)) : Prop := H a = some (.dK kvs) ∧ a ∉ mu ∧ ¬ T a
mutual
inductive Rp (K : Fg) (mu : List Addr) (T : Addr → Prop) (H : Hp) : V → Wd → Prop
  | non : Rp K mu T H .non .none
  | bl (b : Bool) : Rp K mu T H (.bl b) (.bool b)
  | int (i : Int) : Rp K mu T H (.int i) (.int i)
  | str (x : Str) : Rp K mu T H (.str x) (.str x)
  | lst {a : Addr} {xs : List V} {ds : List Wd} : LsR K mu T H a xs → RpAll K mu T H xs ds → Rp K mu T H (.ref a) (.list ds)
  | tup {a : Addr} {xs : List V} {ds : List Wd} : TpR K mu T H a xs → RpAll K mu T H xs ds → Rp K mu T H (.ref a) (.tuple ds)
  | dct {a : Addr} {kvs : List (Key × V)} {ds : List (Wd × Wd)} : DcR mu T H a kvs → RpKv K mu T H kvs ds → Rp K mu T H (.ref a) (.dict ds)
  | obj {a : Addr} {l : Nat} : mu[l]? = some a → Rp K mu T H (.ref a) (oW l)
inductive RpAll (K : Fg) (mu : List Addr) (T : Addr → Prop) (H : Hp) : List V → List Wd → Prop
  | nil : RpAll K mu T H [] []
  | cons {v : V} {vs : List V} {d : Wd} {ds : List Wd} : Rp K mu T H v d → RpAll K mu T H vs ds → RpAll K mu T H (v :: vs) (d :: ds)
inductive RpKv (K : Fg) (mu : List Addr) (T : Addr → Prop) (H : Hp) : List (Key × V) → List (Wd × Wd) → Prop
  | nil : RpKv K mu T H [] []
  | cons {k : Key} {v : V} {r : List (Key × V)} {d : Wd} {ds : List (Wd × Wd)} : Rp K mu T H v d → RpKv K mu T H r ds → RpKv K mu T H ((k, v) :: r) ((kW k, d) :: ds)
end
section
variable {K : Fg} {mu mu' : List Addr} {T T' : Addr → Prop} {H H' : Hp}
mutual
theorem Rp.map (hL : ∀ a xs, LsR K mu T H a xs → LsR K mu' T' H' a xs) (hT : ∀ a xs, TpR K mu T H a xs → TpR K mu' T' H' a xs) (hD : ∀ a xs, DcR mu T H a xs → DcR mu' T' H' a xs)
    (hO : ∀ (l : Nat) (a : Addr), mu[l]? = some a → mu'[l]? = some a) : ∀ (w : Wd) (v : V), Rp K mu T H v w → Rp K mu' T' H' v w
  | .none, _, h => by cases h; exact .non
  | .bool b, _, h => by cases h; exact .bl b
  | .int i, _, h => by cases h; exact .int i
  | .str x, _, h => by cases h; exact .str x
  | .list ds, _, h => by
    cases h with
    | lst a b => exact .lst (hL _ _ a) (RpAll.map hL hT hD hO ds _ b)
  | .tuple ds, _, h => by
    cases h with
    | tup a b => exact .tup (hT _ _ a) (RpAll.map hL hT hD hO ds _ b)
  | .dict ds, _, h => by
    cases h with
    | dct a b => exact .dct (hD _ _ a) (RpKv.map hL hT hD hO ds _ b)
    | obj e => exact .obj (hO _ _ e)
theorem RpAll.map (hL : ∀ a xs, LsR K mu T H a xs → LsR K mu' T' H' a xs) (hT : ∀ a xs, TpR K mu T H a xs → TpR K mu' T' H' a xs) (hD : ∀ a xs, DcR mu T H a xs → DcR mu' T' H' a xs)
    (hO : ∀ (l : Nat) (a : Addr), mu[l]? = some a → mu'[l]? = some a) : ∀ (ws : List Wd) (vs : List V), RpAll K mu T H vs ws → RpAll K mu' T' H' vs ws
  | [], _, h => by cases h; exact .nil
  | d :: ds, _, h => by
    cases h with
    | cons a b => exact .cons (Rp.map hL hT hD hO d _ a) (RpAll.map hL hT hD hO ds _ b)
theorem RpKv.map (hL : ∀ a xs, LsR K mu T H a xs → LsR K mu' T' H' a xs) (hT : ∀ a xs, TpR K mu T H a xs → TpR K mu' T' H' a xs) (hD : ∀ a xs, DcR mu T H a xs → DcR mu' T' H' a xs)
    (hO : ∀ (l : Nat) (a : Addr), mu[l]? = some a → mu'[l]? = some a) : ∀ (ws : List (Wd × Wd)) (vs : List (Key × V)), RpKv K mu T H vs ws → RpKv K mu' T' H' vs ws
  | [], _, h => by cases h; exact .nil
  | (_, d) :: ds, _, h => by
    cases h with
    | cons a b => exact .cons (Rp.map hL hT hD hO d _ a) (RpKv.map hL hT hD hO ds _ b)
end
end
structure Ext (mu mu' : List Addr) (H H' : Hp) : Prop where
  pre : ∀ (l : Nat) (a : Addr), mu[l]? = some a → mu'[l]? = some a
  keep : ∀ a o, H a = some o → a ∉ mu → H' a = some o
  new : ∀ a, a ∈ mu' → a ∉ mu → H a = none
theorem Ext.notin {mu mu' : List Addr} {H H' : Hp} (e : Ext mu mu' H H') {a : Addr} {o : HO} (h : H a = some o) (n : a ∉ mu) : a ∉ mu' := fun q => by
  have z := e.new a q n
  rw [h] at z
  cases z
section
variable {K : Fg} {mu mu' : List Addr} {T T' : Addr → Prop} {H H' : Hp} {v : V} {w : Wd} {vs : List V} {ws : List Wd} {kvs : List (Key × V)} {kws : List (Wd × Wd)}
theorem Rd.keep {a : Addr} {u : HO} (h : Rd H a u) (n : a ∉ mu) (e : Ext mu mu' H H') : Rd H' a u ∧ a ∉ mu' := by
  rcases h with h | ⟨o, h⟩
  · exact ⟨.inl (e.keep _ _ h n), e.notin h n⟩
  · exact ⟨.inr ⟨o, e.keep _ _ h n⟩, e.notin h n⟩
theorem LsR.ext {a : Addr} {xs : List V} (h : LsR K mu T H a xs) (e : Ext mu mu' H H') : LsR K mu' T H' a xs := h.imp (fun h => ⟨(Rd.keep h.1 h.2.1 e).1, (Rd.keep h.1 h.2.1 e).2, h.2.2⟩) id
theorem TpR.ext {a : Addr} {xs : List V} (h : TpR K mu T H a xs) (e : Ext mu mu' H H') : TpR K mu' T H' a xs := by
  rcases h with ⟨⟨o, d, h⟩, n, t⟩ | h
  · exact .inl ⟨⟨o, d, e.keep _ _ h n⟩, e.notin h n, t⟩
  · exact .inr h
theorem DcR.ext {a : Addr} {xs : List (Key × V)} (h : DcR mu T H a xs) (e : Ext mu mu' H H') : DcR mu' T H' a xs := ⟨e.keep _ _ h.1 h.2.1, e.notin h.1 h.2.1, h.2.2⟩
theorem Rp.ext (h : Rp K mu T H v w) (e : Ext mu mu' H H') : Rp K mu' T H' v w := Rp.map (fun _ _ q => q.ext e) (fun _ _ q => q.ext e) (fun _ _ q => q.ext e) e.pre _ _ h
theorem RpAll.ext (h : RpAll K mu T H vs ws) (e : Ext mu mu' H H') : RpAll K mu' T H' vs ws := RpAll.map (fun _ _ q => q.ext e) (fun _ _ q => q.ext e) (fun _ _ q => q.ext e) e.pre _ _ h
theorem RpKv.ext (h : RpKv K mu T H kvs kws) (e : Ext mu mu' H H') : RpKv K mu' T H' kvs kws := RpKv.map (fun _ _ q => q.ext e) (fun _ _ q => q.ext e) (fun _ _ q => q.ext e) e.pre _ _ h
theorem Rp.weak (h : Rp K mu T H v w) (t : ∀ a, T' a → T a) : Rp K mu T' H v w :=
  Rp.map (fun _ _ q => q.imp (fun ⟨x, y, z⟩ => ⟨x, y, fun p => z (t _ p)⟩) id) (fun _ _ q => q.imp (fun ⟨x, y, z⟩ => ⟨x, y, fun p => z (t _ p)⟩) id) (fun _ _ q => ⟨q.1, q.2.1, fun p => q.2.2 (t _ p)⟩) (fun _ _ q => q) _ _ h
theorem RpAll.weak (h : RpAll K mu T H vs ws) (t : ∀ a, T' a → T a) : RpAll K mu T' H vs ws :=
  RpAll.map (fun _ _ q => q.imp (fun ⟨x, y, z⟩ => ⟨x, y, fun p => z (t _ p)⟩) id) (fun _ _ q => q.imp (fun ⟨x, y, z⟩ => ⟨x, y, fun p => z (t _ p)⟩) id) (fun _ _ q => ⟨q.1, q.2.1, fun p => q.2.2 (t _ p)⟩) (fun _ _ q => q) _ _ h
theorem RpAll.length : ∀ {vs : List V} {ws : List Wd}, RpAll K mu T H vs ws → vs.length = ws.length
  | [], [], _ => rfl
  | _ :: vs, _ :: ws, h => by
    cases h with
    | cons a b => rw [List.length_cons, List.length_cons, RpAll.length b]
end
def FsR (K : Fg) (mu : List Addr) (T : Addr → Prop) (H : Hp) : List (Key × V) → List (Str × Wd) → Prop
  | [], [] => True
  | (k, v) :: r, (x, d) :: ds => k = Sum.inr x ∧ Rp K mu T H v d ∧ FsR K mu T H r ds
  | _, _ => False
def mdO (a : Addr) (ents : List (List Int × Addr × Value)) : HO := .ext fun h => (a == sysModules) = false ∧ ents.length ≤ sizeLine ∧ (ents.map (·.1)).Nodup ∧
  ∃ o es ep, h.get? a = some o ∧ o.ExactDict ∧ o.data = .dict es ep ∧ ∀ (P : Program) (w : World), es.toList = ents.map fun x => entryOfKey (tupleKind (mixKind P w)) (x.1.map Sum.inl, x.2)
def TdR (K : Fg) (mu : List Addr) (T : Addr → Prop) (H : Hp) : List (List Int × Wd) → List (List Int × Addr × Value) → Prop
  | [], [] => True
  | (k, d) :: r, (k', b, u) :: es => k = k' ∧ Rp K mu T H (.ref b) (.tuple (k.map .int)) ∧ (∃ v, RelV v u ∧ Rp K mu T H v d) ∧ TdR K mu T H r es
  | _, _ => False
def TabR (K : Fg) (mu : List Addr) (H : Hp) (a : Addr) (x : Str) : Prop := a = He.tabOf K (He.codeOf K (x, none)) ∧ ∃ ps : Array Value, H a = some (.tbl ps) ∧ TriplesOk ps.toList ∧
  ∀ (pos : Pos) (cv : Value), codeAmong pos ps.toList = some cv → ∃ c, cv = .ref c ∧ H c = some (LamX.CodeO c (x ++ ".<locals>." ++ "<lambda>")) ∧ c ∉ mu
def ExnR (K : Fg) (mu : List Addr) (T : Addr → Prop) (H : Hp) (a : Addr) (c : Str) (fs : List (Str × Wd)) : Prop := ∃ oe dx vs fv, H a = some (.frz oe (.ext fun _ => True)) ∧ oe.cls = .ref (He.ga K c) ∧ oe.dict = some dx ∧ oe.data = .fields vs ∧ H dx = some (.xd fv) ∧ dx ∉ mu ∧
  ∀ f w, fs.lookup f = some w → ∃ v, fv.lookup f = some v ∧ Rp K mu T H v w
def FlR (K : Fg) (mu : List Addr) (T : Addr → Prop) (H : Hp) : List (Str × Wd) → List (Str × V) → Prop
  | [], [] => True
  | (x, d) :: ds, (y, v) :: vs => x = y ∧ Rp K mu T H v d ∧ FlR K mu T H ds vs
  | _, _ => False
def InsR (K : Fg) (mu : List Addr) (T : Addr → Prop) (H : Hp) (a : Addr) (c : Str) (fs : List (Str × Wd)) : Prop := ∃ dx fv, H a = some (.ins (He.ga K c) dx fv) ∧ H dx = some (.own a) ∧ dx ∉ mu ∧ FlR K mu T H fs fv
def SltR (K : Fg) (mu : List Addr) (T : Addr → Prop) (H : Hp) (a : Addr) (c : Str) (fs : List (Str × Wd)) : Prop := ∃ dx vs, H a = some (SlX.SlO a (He.ga K c) dx vs) ∧ H dx = some (.xd []) ∧ dx ∉ mu ∧
  ∀ (f : Str) (w : Wd), fs.lookup f = some w → ∃ (i : Nat) (v : V), (slN c)[i]? = some f ∧ vs[i]? = some (some v) ∧ Rp K mu T H v w
def RecOk (K : Fg) (mu : List Addr) (T : Addr → Prop) (H : Hp) (a : Addr) : Rec → Prop
  | .ins c fs => InsR K mu T H a c fs
  | .slt c fs => SltR K mu T H a c fs
  | .lst ws => ∃ xs, H a = some (.lst xs) ∧ RpAll K mu T H xs ws
  | .dct fs => ∃ kvs, H a = some (.dK kvs) ∧ FsR K mu T H kvs fs
  | .tdc kvs => ∃ ents, H a = some (mdO a ents) ∧ TdR K mu T H kvs ents
  | .tab x => TabR K mu H a x
  | .exn c fs => ExnR K mu T H a c fs
structure StOk (K : Fg) (mu : List Addr) (T : Addr → Prop) (H : Hp) (S : Sto) : Prop where
  len : mu.length = S.length
  nd : mu.Nodup
  ok : ∀ (l : Nat) (a : Addr) (r : Rec), mu[l]? = some a → S[l]? = some r → RecOk K mu T H a r
def Fixd (o : HO) : Prop := (∃ c q, o = LamX.CodeO c q) ∨ (∃ fs, o = .xd fs) ∨ ∃ y, o = .own y
def PlH0 (o : Option HO) : Prop := o ≠ none ∧ ∀ u, Fixd u → o ≠ some u
theorem PlH0.of {o : HO} (h1 : ∀ c q, o ≠ LamX.CodeO c q) (h2 : ∀ fs, o ≠ .xd fs) (h3 : ∀ y, o ≠ .own y) : PlH0 (some o) := ⟨fun z => (nomatch z), fun u f z => by
  cases z
  rcases f with ⟨c, q, e⟩ | ⟨fs, e⟩ | ⟨y, e⟩
  · exact h1 c q e
  · exact h2 fs e
  · exact h3 y e⟩
theorem PlH0.lst {xs : List V} : PlH0 (some (.lst xs)) := .of (fun _ _ z => (nomatch z)) (fun _ z => (nomatch z)) (fun _ z => (nomatch z))
theorem PlH0.tbl {ps : Array Value} : PlH0 (some (.tbl ps)) := .of (fun _ _ z => (nomatch z)) (fun _ z => (nomatch z)) (fun _ z => (nomatch z))
theorem PlH0.ins {C dx : Addr} {fv : List (Str × V)} : PlH0 (some (.ins C dx fv)) := .of (fun _ _ z => (nomatch z)) (fun _ z => (nomatch z)) (fun _ z => (nomatch z))
def PlH (o : Option HO) : Prop := PlH0 o ∧ ∀ ps, o ≠ some (.tbl ps)
theorem PlH.lst {xs : List V} : PlH (some (.lst xs)) := ⟨.lst, fun _ z => (nomatch z)⟩
def manyH (o : Obj) : Nat → Heap
  | 0 => ⟨#[], {}⟩
  | n + 1 => (manyH o n).push o
theorem manyH_size (o : Obj) : ∀ n, (manyH o n).objs.size = n
  | 0 => rfl
  | n + 1 => by
    show ((manyH o n).push o).objs.size = n + 1
    rw [Heap.size_push, manyH_size o n]
theorem manyH_all {o : Obj} (z : o.isFreed = false) : ∀ {n : Nat} {b : Addr} {u : Obj}, (manyH o n).get? b = some u → u = o
  | 0, b, u, h => by
    have := Heap.lt_size h
    rw [manyH_size] at this
    exact absurd this (Nat.not_lt_zero _)
  | n + 1, b, u, h => by
    have h : ((manyH o n).push o).get? b = some u := h
    by_cases c : b = (manyH o n).objs.size
    · subst c
      rw [Heap.get?_push_size _ z] at h
      exact (Option.some.inj h).symm
    · rw [Heap.get?_push_ne _ _ _ c] at h
      exact manyH_all z h
theorem manyH_get {o : Obj} (z : o.isFreed = false) (n : Nat) : (manyH o (n + 1)).get? n = some o := by
  have := Heap.get?_push_size (manyH o n) z
  rw [manyH_size] at this
  exact this
theorem slO_ne {a C dx : Addr} {vs : List (Option V)} (c : Addr) (q : Str) : SlX.SlO a C dx vs ≠ LamX.CodeO c q := fun z => by
  unfold SlX.SlO LamX.CodeO at z
  have e := HO.ext.inj z
  have h := congrFun e (manyH { cls := .none, data := .fields #[.none, .str q 0] } (c + 1))
  have r : ∃ (oc : Obj) (vs : Array Value) (t : Tok), (manyH { cls := .none, data := .fields #[.none, .str q 0] } (c + 1)).get? c = some oc ∧ oc.data = .fields vs ∧ vs[1]? = some (.str q t) := ⟨_, _, _, manyH_get rfl c, rfl, rfl⟩
  rw [← h] at r
  obtain ⟨sl, h1, _⟩ := r
  have h2 := congrArg Obj.cls (manyH_all rfl h1)
  cases h2
theorem PlH0.slt {a C dx : Addr} {vs : List (Option V)} : PlH0 (some (SlX.SlO a C dx vs)) := .of (fun c q => slO_ne c q) (fun _ z => by unfold SlX.SlO at z; cases z) (fun _ z => by unfold SlX.SlO at z; cases z)
def Bn (mu : List Addr) (T : Addr → Prop) (H : Hp) : Prop := ∀ a, T a → PlH (H a) ∧ a ∉ mu
section
variable {K : Fg} {mu mu' : List Addr} {T T' : Addr → Prop} {H H' : Hp} {S S' : Sto}
theorem FsR.map (f : ∀ v w, Rp K mu T H v w → Rp K mu' T' H' v w) : ∀ {kvs : List (Key × V)} {fs : List (Str × Wd)}, FsR K mu T H kvs fs → FsR K mu' T' H' kvs fs
  | [], [], _ => trivial
  | (k, v) :: r, (x, d) :: ds, h => ⟨h.1, f _ _ h.2.1, FsR.map f h.2.2⟩
  | [], _ :: _, h => h.elim
  | _ :: _, [], h => h.elim
theorem TdR.map (f : ∀ v w, Rp K mu T H v w → Rp K mu' T' H' v w) : ∀ {kvs : List (List Int × Wd)} {es : List (List Int × Addr × Value)}, TdR K mu T H kvs es → TdR K mu' T' H' kvs es
  | [], [], _ => trivial
  | (k, d) :: r, (k', b, u) :: es, h => ⟨h.1, f _ _ h.2.1, let ⟨v, a, b⟩ := h.2.2.1; ⟨v, a, f _ _ b⟩, TdR.map f h.2.2.2⟩
  | [], _ :: _, h => h.elim
  | _ :: _, [], h => h.elim
theorem FlR.map (f : ∀ v w, Rp K mu T H v w → Rp K mu' T' H' v w) : ∀ {fs : List (Str × Wd)} {vs : List (Str × V)}, FlR K mu T H fs vs → FlR K mu' T' H' fs vs
  | [], [], _ => trivial
  | (x, d) :: ds, (y, v) :: vs, h => ⟨h.1, f _ _ h.2.1, FlR.map f h.2.2⟩
  | [], _ :: _, h => h.elim
  | _ :: _, [], h => h.elim
theorem RpAll.map' (f : ∀ v w, Rp K mu T H v w → Rp K mu' T' H' v w) : ∀ {vs : List V} {ws : List Wd}, RpAll K mu T H vs ws → RpAll K mu' T' H' vs ws
  | [], [], _ => .nil
  | _ :: _, _ :: _, .cons a b => .cons (f _ _ a) (RpAll.map' f b)
theorem RecOk.map {a : Addr} (e : ∀ o, H a = some o → H' a = some o) (f : ∀ v w, Rp K mu T H v w → Rp K mu' T' H' v w) (g : ∀ b o, Fixd o → H b = some o → b ∉ mu → H' b = some o ∧ b ∉ mu') : ∀ {r : Rec}, RecOk K mu T H a r → RecOk K mu' T' H' a r
  | .tab x, ⟨h0, ps, h, q, z⟩ => ⟨h0, ps, e _ h, q, fun pos cv hc => let ⟨c, h1, h2, h3⟩ := z pos cv hc; ⟨c, h1, (g c _ (.inl ⟨_, _, rfl⟩) h2 h3).1, (g c _ (.inl ⟨_, _, rfl⟩) h2 h3).2⟩⟩
  | .exn c fs, ⟨oe, dx, vs, fv, h1, h2, h3, h4, h5, h6, q⟩ => ⟨oe, dx, vs, fv, e _ h1, h2, h3, h4, (g dx _ (.inr (.inl ⟨_, rfl⟩)) h5 h6).1, (g dx _ (.inr (.inl ⟨_, rfl⟩)) h5 h6).2, fun y w z => let ⟨v, p1, p2⟩ := q y w z; ⟨v, p1, f _ _ p2⟩⟩
  | .dct fs, ⟨kvs, h, q⟩ => ⟨kvs, e _ h, FsR.map f q⟩
  | .tdc fs, ⟨es, h, q⟩ => ⟨es, e _ h, TdR.map f q⟩
  | .ins c fs, ⟨dx, fv, h1, h2, h3, q⟩ => ⟨dx, fv, e _ h1, (g dx _ (.inr (.inr ⟨_, rfl⟩)) h2 h3).1, (g dx _ (.inr (.inr ⟨_, rfl⟩)) h2 h3).2, FlR.map f q⟩
  | .slt c fs, ⟨dx, vs, h1, h2, h3, q⟩ => ⟨dx, vs, e _ h1, (g dx _ (.inr (.inl ⟨_, rfl⟩)) h2 h3).1, (g dx _ (.inr (.inl ⟨_, rfl⟩)) h2 h3).2, fun y w z => let ⟨i, v, p1, p2, p3⟩ := q y w z; ⟨i, v, p1, p2, f _ _ p3⟩⟩
  | .lst ws, ⟨xs, h, q⟩ => ⟨xs, e _ h, RpAll.map' f q⟩
theorem StOk.weak (h : StOk K mu T H S) (t : ∀ a, T' a → T a) : StOk K mu T' H S := ⟨h.len, h.nd, fun l a r q1 q2 => RecOk.map (fun _ z => z) (fun _ _ z => z.weak t) (fun _ _ _ z n => ⟨z, n⟩) (h.ok l a r q1 q2)⟩
end
inductive Sl where
  | val (w : Wd)
  | own (ws : List Wd)
abbrev Ev := List (Option Sl)
structure Rel (K : Fg) (mu : List Addr) (B O : Addr → Prop) (H : Hp) (σ : Sg) (ρ : Ev) (S : Sto) : Prop where
  len : σ.length = ρ.length
  val : ∀ (i : Nat) (w : Wd), ρ[i]? = some (some (.val w)) → ∃ v, σ[i]? = some (some v) ∧ Rp K mu (fun a => B a ∨ O a) H v w
  own : ∀ (i : Nat) (ws : List Wd), ρ[i]? = some (some (.own ws)) → ∃ a xs, σ[i]? = some (some (V.ref a)) ∧ O a ∧ ¬ B a ∧ H a = some (.lst xs) ∧ RpAll K mu (fun a => B a ∨ O a) H xs ws
  dif : ∀ (i j : Nat) (ws ws' : List Wd) (a : Addr), ρ[i]? = some (some (.own ws)) → ρ[j]? = some (some (.own ws')) → σ[i]? = some (some (V.ref a)) → σ[j]? = some (some (V.ref a)) → i = j
  sto : StOk K mu (fun a => B a ∨ O a) H S
  bn : Bn mu (fun a => B a ∨ O a) H
inductive R (α : Type) where
  | ok (a : α) (S : Sto)
  | bad
abbrev Mx := Ev → Sto → R Wd
abbrev Mt := Ev → Sto → R Bool
abbrev Ma := Ev → Sto → R (List Wd)
theorem PE.weak {X : Cx} {e : Expr} {t t' : TE} (h : PE X e t) (w : ∀ σ H Q, t' σ H Q → t σ H Q) : PE X e t' := ⟨fun pins s σ H Q I q => h.run pins s σ H Q I (w _ _ _ q)⟩
theorem PT.weak {X : Cx} {e : Expr} {t t' : TT} (h : PT X e t) (w : ∀ σ H Q, t' σ H Q → t σ H Q) : PT X e t' := ⟨fun pins s σ H Q I q => h.run pins s σ H Q I (w _ _ _ q)⟩
theorem PA.weak {X : Cx} {e : List Expr} {t t' : TA} (h : PA X e t) (w : ∀ σ H Q, t' σ H Q → t σ H Q) : PA X e t' := ⟨fun pos pins s σ H Q I q => h.run pos pins s σ H Q I (w _ _ _ q)⟩
section
variable {X : Cx}
end
def OpD (X : Cx) (f : Value → Value → Sem Value) (g : Wd → Wd → Option Wd) : Prop :=
  ∀ (pins : List (Addr × Obj)) (s : Shared) (σ : Sg) (H : Hp) (x y : V) (v u : Value) (Q : VK) (mu : List Addr) (T : Addr → Prop) (S : Sto) (dx dy w : Wd), Inv X pins σ H s → RelV x v → RelV y u →
    StOk X.K mu T H S → Bn mu T H → Rp X.K mu T H x dx → Rp X.K mu T H y dy → g dx dy = some w → (∀ v H', Same H H' → Rp X.K mu T H' v w → Q v H') →
    wpAny (model X.prog X.w) X.A (f v u) (EP X pins σ Q) X.xe s
section
variable {X : Cx} {a b : Expr} {fa fb : Mx} {g : Wd → Wd → Option Wd} {pos : Pos}
end
end DL
namespace DL
open PySem PySem.Spec PyProof.Rows L2
section
variable {K : Fg} {mu : List Addr} {T : Addr → Prop} {H : Hp} {S : Sto} {xs : List V} {ws : List Wd} {p : Addr} {kvs : List (Key × V)} {kws : List (Wd × Wd)}
end
section
variable {X : Cx}
end
section
variable {X : Cx}
end
section
variable {K : Fg} {mu : List Addr} {T : Addr → Prop} {H : Hp}
end
section
variable {X : Cx}
end
end DL
namespace DL
open PySem PySem.Spec PyProof.Rows L2
section
variable {K : Fg} {ρ : Ev} {S S1 : Sto} {mu : List Addr} {B O : Addr → Prop} {σ : Sg} {H : Hp}
end
section
variable {X : Cx} {e a b : Expr} {f fa fb : Mx} {pos : Pos} {t tb : Mt}
theorem PW.weak {X : Cx} {e : Expr} {t t' : TT} (h : PW X e t) (w : ∀ σ H Q, t' σ H Q → t σ H Q) : PW X e t' := ⟨fun wh pins s σ H Q I q => h.run wh pins s σ H Q I (w _ _ _ q)⟩
end
section
variable {X : Cx} {e : Expr} {es : List Expr} {f : Mx} {fs : Ma} {pos p : Pos}
def CallD (X : Cx) (f : Value) (g : List Wd → Option Wd) : Prop :=
  ∀ (pins : List (Addr × Obj)) (s : Shared) (σ : Sg) (H : Hp) (xs : List V) (us : List Value) (Q : VK) (mu : List Addr) (T : Addr → Prop) (S : Sto) (ws : List Wd) (w : Wd), Inv X pins σ H s → Vals xs us →
    StOk X.K mu T H S → Bn mu T H → RpAll X.K mu T H xs ws → g ws = some w → (∀ v H', Same H H' → Rp X.K mu T H' v w → Q v H') → wpAny (model X.prog X.w) X.A (call f us) (EP X pins σ Q) X.xe s
def rCD (K : Fg) (g : List Wd → Option Wd) : List V → Hp → VK → Prop := fun xs H Q => ∃ mu T S ws w, StOk K mu T H S ∧ Bn mu T H ∧ RpAll K mu T H xs ws ∧ g ws = some w ∧ ∀ v H', Same H H' → Rp K mu T H' v w → Q v H'
theorem CallD.r {f : Value} {g : List Wd → Option Wd} (h : CallD X f g) : CallR X f (rCD X.K g) := fun pins s σ H xs us Q I r ⟨mu, T, S, ws, w, h1, h2, h3, h4, h5⟩ => h pins s σ H xs us Q mu T S ws w I r h1 h2 h3 h4 h5
end
end DL
namespace DL
open PySem PySem.Spec PyProof.Rows L2
section
variable {X : Cx}
def rOD (K : Fg) (g : Wd → Wd → Option Wd) : R2 := fun x y H Q => ∃ mu T S dx dy w, StOk K mu T H S ∧ Bn mu T H ∧ Rp K mu T H x dx ∧ Rp K mu T H y dy ∧ g dx dy = some w ∧ ∀ v H', Same H H' → Rp K mu T H' v w → Q v H'
theorem OpD.r {f : Value → Value → Sem Value} {g : Wd → Wd → Option Wd} (h : OpD X f g) : OpR X f (rOD X.K g) := fun pins s σ H x y v u Q I rx ry ⟨mu, T, S, dx, dy, w, h1, h2, h3, h4, h5, h6⟩ => h pins s σ H x y v u Q mu T S dx dy w I rx ry h1 h2 h3 h4 h5 h6
end
end DL
namespace DL
open PySem PySem.Spec PyProof.Rows L2
section
variable {X : Cx} {es : List Expr} {fs : Ma} {pos : Pos}
end
section
variable {K : Fg} {mu : List Addr} {T : Addr → Prop} {H : Hp} {S : Sto}
theorem FsR.length : ∀ {kvs : List (Key × V)} {fs : List (Str × Wd)}, FsR K mu T H kvs fs → kvs.length = fs.length
  | [], [], _ => rfl
  | _ :: _, _ :: _, h => by rw [List.length_cons, List.length_cons, FsR.length h.2.2]
  | [], _ :: _, h => h.elim
  | _ :: _, [], h => h.elim
theorem FsR.any : ∀ {kvs : List (Key × V)} {fs : List (Str × Wd)} (x : Str), FsR K mu T H kvs fs → (kvs.any fun q => decide (q.1 = Sum.inr x)) = fs.any fun q => decide (q.1 = x)
  | [], [], _, _ => rfl
  | (k, v) :: r, (y, d) :: ds, x, h => by
    obtain ⟨rfl, h1, h2⟩ := h
    rw [List.any_cons, List.any_cons, FsR.any x h2]
    congr 1
    by_cases c : y = x
    · subst c
      simp
    · rw [decide_eq_false c, decide_eq_false (fun z => c (Sum.inr.inj z))]
  | [], _ :: _, _, h => h.elim
  | _ :: _, [], _, h => h.elim
end
section
variable {K : Fg} {mu : List Addr} {T : Addr → Prop} {H : Hp} {S : Sto}
end
section
variable {X : Cx} {a b : Expr} {fa fb : Mx} {pos : Pos}
end
end DL
namespace DL
open PySem PySem.Spec PyProof.Rows L2
inductive Out where
  | nx (ρ : Ev) (S : Sto)
  | rt (w : Wd) (S : Sto)
  | bk (ρ : Ev) (S : Sto)
  | ct (ρ : Ev) (S : Sto)
  | bad
abbrev Ms := Ev → Sto → Out
section
variable {K : Fg} {mu m1 m2 : List Addr} {B O O1 O2 : Addr → Prop} {H H1 H2 : Hp} {S S1 : Sto}
end
theorem PS.weak {X : Cx} {st : Stmt} {t t' : TS} (h : PS X st t) (w : ∀ D σ H, t' D σ H → t D σ H) : PS X st t' := ⟨fun pins s σ H D I q => h.run pins s σ H D I (w _ _ _ q)⟩
theorem PSs.weak {X : Cx} {st : List Stmt} {t t' : TS} (h : PSs X st t) (w : ∀ D σ H, t' D σ H → t D σ H) : PSs X st t' := ⟨fun pins s σ H D I q => h.run pins s σ H D I (w _ _ _ q)⟩
section
variable {X : Cx} {st : Stmt} {rest : List Stmt} {m m' : Ms} {e : Expr} {f : Mx} {pos : Pos} {t : Mt}
end
section
variable {K : Fg} {mu : List Addr} {B O : Addr → Prop} {H : Hp} {σ : Sg} {ρ : Ev} {S : Sto}
theorem set_get {α : Type} {l : List α} {i j : Nat} {x y : α} (h : (l.set i x)[j]? = some y) : (i = j ∧ x = y ∧ j < l.length) ∨ (i ≠ j ∧ l[j]? = some y) := by
  by_cases c : i = j
  · subst c
    by_cases hl : i < l.length
    · rw [List.getElem?_set_self hl] at h
      exact .inl ⟨rfl, Option.some.inj h, hl⟩
    · rw [List.getElem?_eq_none (by rw [List.length_set]; omega)] at h
      cases h
  · rw [List.getElem?_set_ne c] at h
    exact .inr ⟨c, h⟩
theorem Rel.set (h : Rel K mu B O H σ ρ S) (i : Nat) {v : V} {w : Wd} (p : Rp K mu (fun a => B a ∨ O a) H v w) : Rel K mu B O H (σ.set i (some v)) (ρ.set i (some (.val w))) S := by
  refine ⟨by rw [List.length_set, List.length_set]; exact h.len, fun j w' e => ?_, fun j ws e => ?_, fun j k ws ws' a e1 e2 e3 e4 => ?_, h.sto, h.bn⟩
  · rcases set_get e with ⟨rfl, e1, hl⟩ | ⟨c, e⟩
    · cases e1
      exact ⟨v, by rw [List.getElem?_set_self (by rw [h.len]; exact hl)], p⟩
    · obtain ⟨u, h1, h2⟩ := h.val j w' e
      exact ⟨u, by rw [List.getElem?_set_ne c]; exact h1, h2⟩
  · rcases set_get e with ⟨rfl, e1, hl⟩ | ⟨c, e⟩
    · cases e1
    · obtain ⟨a, xs, h1, h2⟩ := h.own j ws e
      exact ⟨a, xs, by rw [List.getElem?_set_ne c]; exact h1, h2⟩
  · rcases set_get e1 with ⟨rfl, e1, hl⟩ | ⟨c, e1⟩
    · cases e1
    rcases set_get e2 with ⟨rfl, e2, hl⟩ | ⟨c2, e2⟩
    · cases e2
    rw [List.getElem?_set_ne c] at e3
    rw [List.getElem?_set_ne c2] at e4
    exact h.dif j k ws ws' a e1 e2 e3 e4
end
section
variable {X : Cx} {e : Expr} {f : Mx} {pos : Pos}
end
def RpI (K : Fg) (mu : List Addr) (T : Addr → Prop) (H : Hp) (v : V) (w : Wd) : Prop := Rp K mu T H v w ∨ ∃ a xs ds, v = .ref a ∧ w = .tuple ds ∧ SqT K H a xs ∧ RpAll K mu T H xs ds
abbrev Mg := Wd → Ev → Option Ev
section
variable {ι : Type} {F : ι → Cx} {K : Fg} {vs : List Nat} {pos : Pos}
end
section
variable {X : Cx} {vs : List Nat} {pos : Pos}
end
end DL
namespace DL
open PySem PySem.Spec PyProof.Rows L2
def ItOk (K : Fg) (J : It) (v : List V) (w : List Wd) (ws : List Wd) : Prop := ∀ (mu : List Addr) (T : Addr → Prop) (H : Hp) (S : Sto), StOk K mu T H S → Bn mu T H → RpAll K mu T H v w →
  (∀ (i : Nat) (d : Wd), ws[i]? = some d → J.go i H ∧ ∀ x H', J.yld i H x H' → Same H H' ∧ Rp K mu T H' x d) ∧ J.stop ws.length H
def ItOkP (K : Fg) (J : It) (v : List V) (w : List Wd) (ws : List Wd) : Prop := ∀ (mu : List Addr) (T : Addr → Prop) (H : Hp) (S : Sto), StOk K mu T H S → Bn mu T H → RpAll K mu T H v w →
  (∀ (i : Nat) (d : Wd), ws[i]? = some d → J.go i H ∧ ∀ x H', J.yld i H x H' → Same H H' ∧ RpI K mu T H' x d) ∧ J.stop ws.length H
theorem ItOk.p {K : Fg} {J : It} {v : List V} {w : List Wd} {ws : List Wd} (h : ItOk K J v w ws) : ItOkP K J v w ws := fun mu T H S st bn r => ⟨fun i d e => ⟨((h mu T H S st bn r).1 i d e).1, fun x H' y => let ⟨a, b⟩ := ((h mu T H S st bn r).1 i d e).2 x H' y; ⟨a, .inl b⟩⟩, (h mu T H S st bn r).2⟩
abbrev Mi := Ev → Sto → R (List Wd)
def tDi (K : Fg) (P : It → List V → List Wd → List Wd → Prop) (f : Mi) : TI := fun σ H R => ∃ ρ S mu B O, Rel K mu B O H σ ρ S ∧ ∃ ws S', f ρ S = .ok ws S' ∧ ∀ J v w H' mu', P J v w ws → Ext mu mu' H H' → StOk K mu' (fun a => B a ∨ O a) H' S' → RpAll K mu' (fun a => B a ∨ O a) H' v w → R J H'
def Di (X : Cx) (tg iter : Expr) (f : Mi) : Prop := PI X tg iter (tDi X.K (ItOk X.K) f)
def DiP (X : Cx) (tg iter : Expr) (f : Mi) : Prop := PI X tg iter (tDi X.K (ItOkP X.K) f)
theorem PI.weak {X : Cx} {tg it : Expr} {t t' : TI} (h : PI X tg it t) (w : ∀ σ H R, t' σ H R → t σ H R) : PI X tg it t' := ⟨fun pins s σ H R I q => h.run pins s σ H R I (w _ _ _ q)⟩
theorem Di.p {X : Cx} {tg it : Expr} {f : Mi} (h : Di X tg it f) : DiP X tg it f := PI.weak h fun σ H R ⟨ρ, S, mu, B, O, rl, ws, S', e, q⟩ => ⟨ρ, S, mu, B, O, rl, ws, S', e, fun J v w H' mu' p => q J v w H' mu' p.p⟩
section
variable {X : Cx} {tg l : Expr} {f : Mx}
variable {a b : Expr} {fs : Ma} {p pos : Pos}
end
section
variable {X : Cx} {tg iter : Expr} {fi : Mi} {g : Mg} {m : Ms} {body : List Stmt} {pos : Pos} {vs : List Nat}
end
end DL
namespace DL
open PySem PySem.Spec PyProof.Rows L2
section
variable {K : Fg} {mu : List Addr} {B O : Addr → Prop} {H : Hp} {σ : Sg} {ρ : Ev} {S : Sto}
end
section
variable {X : Cx} {fi : Mi} {g : Mg} {t : Mt} {fe : Mx} {vs : List Nat}
variable {elt tgx iter : Expr} {ifs : List Expr} {scope : Scope} {own : List (Str × Nat)} {pos : Pos}
end
end DL
namespace DL
open PySem PySem.Spec PyProof.Rows L2
section
variable {X : Cx} {tg l : Expr} {f : Mx}
end
section
variable {X : Cx} {c : Expr} {body : List Stmt} {t : Mt} {m : Ms} {pos : Pos}
end
section
variable {X : Cx} {a : Expr} {fa : Mx} {pos p p2 : Pos}
end
end DL
namespace DL
open PySem PySem.Spec PyProof.Rows L2
section
variable {K : Fg} {mu : List Addr} {B O : Addr → Prop} {H : Hp} {σ : Sg} {ρ : Ev} {S : Sto}
end
section
variable {X : Cx} {e : Expr} {es : List Expr} {f : Mx} {fs : Ma} {pos : Pos} {m : Ms}
end
end DL
namespace DL
open PySem PySem.Spec PyProof.Rows L2
section
variable {X : Cx} {pos : Pos}
end
section
variable {X : Cx} {fi : Mi} {g : Mg} {t : Mt} {fe : Mx} {elt tgx iter : Expr} {ifs : List Expr} {scope : Scope} {own : List (Str × Nat)} {pos spos py : Pos} {i : Nat} {y : Str}
end
abbrev Gd := List Wd → Sto → R Wd
variable {G : Bool}
section
variable {P : Program} {w : World} {K : Fg} {mg : Str → Option Value} {base : Heap} {x qual : Str} {params : Arguments} {body : List Stmt} {scope : Scope} {dvs : List V} {kws : List (Str × V)} {f : Addr} {fd : FuncData}
end
section
variable {X : Cx} {k : Nat} {f : Addr} {fd : FuncData} {ps : List Str} {g : Gd} {x : Str} {p pos : Pos} {e : Expr} {es : List Expr} {fs : Ma}
end
end DL
namespace DL
open PySem PySem.Spec PyProof.Rows L2
section
variable {K : Fg} {mu : List Addr} {T : Addr → Prop} {H : Hp}
end
section
variable {X : Cx}
end
end DL
namespace DL
open PySem PySem.Spec PyProof.Rows L2
variable {G : Bool}
section
variable {X : Cx} {k k' : Nat} {x : Str} {st : Stmt} {ps : List Str} {g : Gd} {p pos : Pos} {e : Expr} {es : List Expr} {fs : Ma}
end
section
variable {P : Program} {w : World} {K : Fg} {mg : Str → Option Value} {base : Heap} {x : Str} {st : Stmt}
end
section
variable {P : Program} {w : World} {K : Fg} {mg : Str → Option Value} {k : Nat} {fa a : Addr} {fd : FuncData} {x : Str} {g : Gd} {s : Shared} {vs : List Value} {ns : List Int}
end
end DL
namespace DL
open PySem PySem.Spec PyProof.Rows L2
section
variable {X : Cx}
end
end DL
namespace DL
open PySem PySem.Spec PyProof.Rows L2
section
variable {prog : Program} {w : World} {A : Around} {E : Value → Shared → Prop} {s : Shared} {zo Ti To T i1 i2 : Addr} {fp1 fp2 : List Addr} {n1 n2 k : Nat} {P1 P2 : Nat → Value → Prop} {St1 St2 : Nat → Heap → Prop} {b : Bool} {oT : Obj}
structure ZS (zo Ti To i1 i2 : Addr) (St1 St2 : Nat → Heap → Prop) (k : Nat) (h : Heap) : Prop where
  z : (IsZip h zo Ti To .none ∧ ∃ a c, IsTupOf2 h To a c) ∨ ∃ T b, IsZipHeld h zo Ti To T b ∧ (∃ o, h.get? T = some o) ∧ T ∉ [zo, To, i1, i2]
  ti : IsTupOf2 h Ti (.ref i1) (.ref i2)
  s1 : St1 k h
  s2 : St2 k h
theorem ZS.type {h : Heap} (x : ZS zo Ti To i1 i2 St1 St2 k h) : ∃ o, h.get? zo = some o ∧ o.cls = .type "zip" := by
  rcases x.z with ⟨q, _⟩ | ⟨T, b, q, _⟩
  · exact ⟨_, q, rfl⟩
  · exact ⟨_, q, rfl⟩
end
end DL
namespace DL
open PySem PySem.Spec
open AutoSeq1 (wpAny_loadPart')
section
variable {prog : Program} {w : World} {A : Around} {E : Value → Shared → Prop} {s : Shared} {zo Ti To i1 i2 l1 l2 L : Addr} {xs ys : Array Value}
end
end DL
namespace DL
open PySem PySem.Spec PyProof.Rows L2
section
variable {X : Cx} {pins : List (Addr × Obj)} {σ : Sg} {s1 : Shared}
end
section
variable {X : Cx} {a b : Expr} {fa fb : Mx} {p p2 pos pos2 : Pos}
end
end DL
namespace DL
open PySem PySem.Spec PyProof.Rows L2
variable {G : Bool}
mutual
def knW (K : Fg) : Wd → Value → Bool
  | .none, .none => true
  | .bool b, .bool c => b == c
  | .int i, .int j _ => decide (i = j)
  | .str x, .str y _ => decide (x = y)
  | .tuple ds, .ref a => (match K.lookup a with
    | some ⟨.type "tuple", none, .seq its _, _⟩ => decide (its.size ≤ sizeLine) && knAll K ds its.toList
    | _ => false)
  | _, _ => false
def knAll (K : Fg) : List Wd → List Value → Bool
  | [], [] => true
  | d :: ds, u :: us => knW K d u && knAll K ds us
  | _, _ => false
end
def knB (x : Str) (d : Wd) (K : Fg) : Bool := match PySem.W.nsIn K mainGlobals x with
  | some (some (.ref a)) => knW K d (.ref a)
  | _ => false
end DL
set_option maxHeartbeats 0
namespace K11
open PySem PySem.Spec PyProof.Rows L2 DL
def top (i : Nat) : Stmt := PySem.Challenge.pw_whichfirst_k11_whole_limits.main.body.getD i (.Pass ⟨0, 0, 0, 0⟩)
abbrev c_COUNT_WORDS : Wd := (.tuple [(.str "hours"), (.str "cycles"), (.str "days")])
abbrev c_JOINING_WORDS : Wd := (.tuple [(.str "first"), (.str "later")])
abbrev c_NO_NUMBERS : Wd := (.tuple [(.int 0), (.int 0), (.int 0)])
def d__law_feed : He.DefD := ⟨("_law_feed", none), "_law_feed", "_law_feed", defArgs (top 35), defBody (top 35), defScope (top 35), [], []⟩
def d__law_draw : He.DefD := ⟨("_law_draw", none), "_law_draw", "_law_draw", defArgs (top 36), defBody (top 36), defScope (top 36), [], []⟩
def d__law_limit : He.DefD := ⟨("_law_limit", none), "_law_limit", "_law_limit", defArgs (top 37), defBody (top 37), defScope (top 37), [], []⟩
def d_inner_pairs : He.DefD := ⟨("inner_pairs", none), "inner_pairs", "inner_pairs", defArgs (top 13), defBody (top 13), defScope (top 13), [], []⟩
def d_all_pairs : He.DefD := ⟨("all_pairs", none), "all_pairs", "all_pairs", defArgs (top 19), defBody (top 19), defScope (top 19), [], []⟩
def d_number_for : He.DefD := ⟨("number_for", none), "number_for", "number_for", defArgs (top 20), defBody (top 20), defScope (top 20), [], []⟩
def d_widened : He.DefD := ⟨("widened", none), "widened", "widened", defArgs (top 24), defBody (top 24), defScope (top 24), [], []⟩
def d__law_slack : He.DefD := ⟨("_law_slack", none), "_law_slack", "_law_slack", defArgs (top 38), defBody (top 38), defScope (top 38), [], []⟩
def d_parts_of : He.DefD := ⟨("parts_of", none), "parts_of", "parts_of", defArgs (top 26), defBody (top 26), defScope (top 26), [], []⟩
def d_require_usable : He.DefD := ⟨("require_usable", none), "require_usable", "require_usable", defArgs (top 18), defBody (top 18), defScope (top 18), [], []⟩
def d_is_integer : He.DefD := ⟨("is_integer", none), "is_integer", "is_integer", defArgs (top 9), defBody (top 9), defScope (top 9), [], []⟩
def d_is_number : He.DefD := ⟨("is_number", none), "is_number", "is_number", defArgs (top 10), defBody (top 10), defScope (top 10), [], []⟩
def d_limits_along : He.DefD := ⟨("limits_along", none), "limits_along", "limits_along", defArgs (top 27), defBody (top 27), defScope (top 27), [], []⟩
def d_put_along : He.DefD := ⟨("put_along", none), "put_along", "put_along", defArgs (top 28), defBody (top 28), defScope (top 28), [], []⟩
def d_limit_word : He.DefD := ⟨("limit_word", none), "limit_word", "limit_word", defArgs (top 12), defBody (top 12), defScope (top 12), [], []⟩
def d_is_amount : He.DefD := ⟨("is_amount", none), "is_amount", "is_amount", defArgs (top 11), defBody (top 11), defScope (top 11), [], []⟩
def d_limit_fault : He.DefD := ⟨("limit_fault", none), "limit_fault", "limit_fault", defArgs (top 14), defBody (top 14), defScope (top 14), [], []⟩
def d_is_limit : He.DefD := ⟨("is_limit", none), "is_limit", "is_limit", defArgs (top 15), defBody (top 15), defScope (top 15), [], []⟩
def d_with_part : He.DefD := ⟨("with_part", none), "with_part", "with_part", defArgs (top 30), defBody (top 30), defScope (top 30), [], []⟩
def d_lets_limit : He.DefD := ⟨("lets_limit", none), "lets_limit", "lets_limit", defArgs (top 33), defBody (top 33), defScope (top 33), [], []⟩
def d_part_at : He.DefD := ⟨("part_at", none), "part_at", "part_at", defArgs (top 29), defBody (top 29), defScope (top 29), [], []⟩
def d_names_in : He.DefD := ⟨("names_in", none), "names_in", "names_in", defArgs (top 25), defBody (top 25), defScope (top 25), [], []⟩
def d__law_parts_right : He.DefD := ⟨("_law_parts_right", none), "_law_parts_right", "_law_parts_right", defArgs (top 41), defBody (top 41), defScope (top 41), [], []⟩
def d__law_added : He.DefD := ⟨("_law_added", none), "_law_added", "_law_added", defArgs (top 40), defBody (top 40), defScope (top 40), [], []⟩
def d_passes_less : He.DefD := ⟨("passes_less", none), "passes_less", "passes_less", defArgs (top 21), defBody (top 21), defScope (top 21), [], []⟩
def d_is_passed : He.DefD := ⟨("is_passed", none), "is_passed", "is_passed", defArgs (top 22), defBody (top 22), defScope (top 22), [], []⟩
def d_is_reached : He.DefD := ⟨("is_reached", none), "is_reached", "is_reached", defArgs (top 23), defBody (top 23), defScope (top 23), [], []⟩
def d__law_counts_right : He.DefD := ⟨("_law_counts_right", none), "_law_counts_right", "_law_counts_right", defArgs (top 42), defBody (top 42), defScope (top 42), [], []⟩
def d_without_part : He.DefD := ⟨("without_part", none), "without_part", "without_part", defArgs (top 31), defBody (top 31), defScope (top 31), [], []⟩
def d__law_without_right : He.DefD := ⟨("_law_without_right", none), "_law_without_right", "_law_without_right", defArgs (top 43), defBody (top 43), defScope (top 43), [], []⟩
def d__law_second_site : He.DefD := ⟨("_law_second_site", none), "_law_second_site", "_law_second_site", defArgs (top 39), defBody (top 39), defScope (top 39), [], []⟩
def d_law : He.DefD := ⟨("law", none), "law", "law", defArgs (top 44), defBody (top 44), defScope (top 44), [], []⟩
def hfn : List He.DefD := [d__law_feed, d__law_draw, d__law_limit, d_inner_pairs, d_all_pairs, d_number_for, d_widened, d__law_slack, d_parts_of, d_require_usable, d_is_integer, d_is_number, d_limits_along, d_put_along, d_limit_word, d_is_amount, d_limit_fault, d_is_limit, d_with_part, d_lets_limit, d_part_at, d_names_in, d__law_parts_right, d__law_added, d_passes_less, d_is_passed, d_is_reached, d__law_counts_right, d_without_part, d__law_without_right, d__law_second_site, d_law]
def hfa : List He.Fa := [.glo "_law_feed", .glo "_law_draw", .glo "_law_limit", .glo "inner_pairs", .glo "all_pairs", .glo "number_for", .glo "widened", .glo "_law_slack", .glo "parts_of", .glo "require_usable", .glo "is_integer", .glo "is_number", .glo "limits_along", .glo "put_along", .glo "limit_word", .glo "is_amount", .glo "limit_fault", .glo "is_limit", .glo "with_part", .glo "lets_limit", .glo "part_at", .glo "names_in", .glo "_law_parts_right", .glo "_law_added", .glo "passes_less", .glo "is_passed", .glo "is_reached", .glo "_law_counts_right", .glo "without_part", .glo "_law_without_right", .glo "_law_second_site", .glo "law", .free "all", .free "any", .free "bool", .free "enumerate", .free "int", .free "isinstance", .free "len", .free "list", .free "range", .free "repr", .free "set", .free "sorted", .free "str", .free "tuple", .free "zip"]
def hex_ (K : Fg) : Bool := (knB "COUNT_WORDS" c_COUNT_WORDS K && (knB "JOINING_WORDS" c_JOINING_WORDS K && (knB "NO_NUMBERS" c_NO_NUMBERS K && true)))
abbrev hR : PySem.W.OpenRow := PySem.W.OpenLaw.row PySem.Challenge.rw_whichfirst_k11_whole_limits
def hn0 : List PySem.Str := ["WhichError", "PaperError", "SiteError", "InvalidPaper", "NotUsable", "COUNT_WORDS", "JOINING_WORDS", "is_integer", "is_number", "is_amount", "limit_word", "inner_pairs", "limit_fault", "is_limit", "NO_NUMBERS", "require_usable", "all_pairs", "number_for", "passes_less", "is_passed", "is_reached", "widened", "names_in", "parts_of", "limits_along", "put_along", "part_at", "with_part", "without_part", "lets_limit"]
def hn1 : List PySem.Str := ["_law_feed", "_law_draw", "_law_limit", "_law_slack", "_law_second_site", "_law_added", "_law_parts_right", "_law_counts_right", "_law_without_right"]
def hnames : List PySem.Str := hn0 ++ hn1
abbrev hhk : PySem.W.Hook := He.hookX 4 hfa hfn [] [] hex_
def hob (s : PySem.W.SharedT) : He.AlX := He.obsX 4 hfa hfn [] [] hex_ (HandSHeadRun.getT s)
theorem hrun (w : World) : HandSHeadRun.RunEq hR (PySem.W.view hR.prog [44]) hhk hob 4000 hnames w := by
  intro os
  kernel_rfl
end K11
set_option Elab.async false
set_option linter.all false
set_option maxRecDepth 100000
set_option maxHeartbeats 4000000
set_option autoImplicit false
namespace DL
open PySem PySem.Spec PyProof.Rows L2
theorem kW_ne {k : Key} : kW k ≠ .none := by cases k <;> intro h <;> cases h
theorem LsR.sq {K : Fg} {mu T H a xs} (h : LsR K mu T H a xs) : SqL K H a xs := by
  rcases h with ⟨h, _⟩ | ⟨its, n, h, r, z⟩
  · exact .inl h
  · exact .inr ⟨_, its.toArray, n, h, rfl, rfl, rfl, by rw [List.size_toArray, ← r.length]; exact z, r⟩
theorem TpR.sq {K : Fg} {mu T H a xs} (h : TpR K mu T H a xs) : SqT K H a xs := by
  rcases h with ⟨⟨o, _, h⟩, _⟩ | h
  · exact .inl (.inr ⟨o, h⟩)
  · exact h.1 H
section
variable {K : Fg} {mu mu' : List Addr} {T T' : Addr → Prop} {H H' : Hp}
end
theorem Ext.refl (mu : List Addr) (H : Hp) : Ext mu mu H H := ⟨fun _ _ h => h, fun _ _ h _ => h, fun _ h n => absurd h n⟩
theorem Ext.same {mu : List Addr} {H H' : Hp} (h : Same H H') : Ext mu mu H H' := ⟨fun _ _ h => h, fun a o e _ => h a o e, fun _ h n => absurd h n⟩
theorem Ext.sub {mu mu' : List Addr} {H H' : Hp} (e : Ext mu mu' H H') {a : Addr} (h : a ∈ mu) : a ∈ mu' := by
  obtain ⟨l, hl, q⟩ := List.getElem_of_mem h
  have := e.pre l a (by rw [List.getElem?_eq_getElem hl, q])
  exact List.mem_of_getElem? this
theorem Ext.trans {m m1 m2 : List Addr} {H H1 H2 : Hp} (a : Ext m m1 H H1) (b : Ext m1 m2 H1 H2) : Ext m m2 H H2 :=
  ⟨fun l x h => b.pre l x (a.pre l x h), fun x o h n => b.keep x o (a.keep x o h n) (a.notin h n), fun x h n => by
    by_cases q : x ∈ m1
    · exact a.new x q n
    · have z := b.new x h q
      cases e : H x with
      | none => rfl
      | some o =>
        rw [a.keep x o e n] at z
        cases z⟩
section
variable {K : Fg} {mu mu' : List Addr} {T T' : Addr → Prop} {H H' : Hp} {v : V} {w : Wd} {vs : List V} {ws : List Wd} {kvs : List (Key × V)} {kws : List (Wd × Wd)}
theorem Rp.same (h : Rp K mu T H v w) (e : Same H H') : Rp K mu T H' v w := h.ext (.same e)
theorem RpAll.same (h : RpAll K mu T H vs ws) (e : Same H H') : RpAll K mu T H' vs ws := h.ext (.same e)
theorem RpKv.same (h : RpKv K mu T H kvs kws) (e : Same H H') : RpKv K mu T H' kvs kws := h.ext (.same e)
theorem Rp.banT (h : Rp K mu T H v w) (t : ∀ a, T' a → T a ∨ ∃ ps, H a = some (.tbl ps)) : Rp K mu T' H v w :=
  Rp.map (fun a _ q => q.imp (fun ⟨x, y, z⟩ => ⟨x, y, fun p => (t _ p).elim z fun ⟨ps, e⟩ => by rcases x with x | ⟨_, x⟩ <;> rw [e] at x <;> cases x⟩) id) (fun a _ q => q.imp (fun ⟨x, y, z⟩ => ⟨x, y, fun p => (t _ p).elim z fun ⟨ps, e⟩ => by obtain ⟨_, _, x⟩ := x; rw [e] at x; cases x⟩) id)
    (fun a _ q => ⟨q.1, q.2.1, fun p => (t _ p).elim q.2.2 fun ⟨ps, e⟩ => by have x := q.1; rw [e] at x; cases x⟩) (fun _ _ q => q) _ _ h
theorem Rd.some_of {a : Addr} {u : HO} (h : Rd H a u) : H a ≠ none := by
  rcases h with h | ⟨o, h⟩ <;> rw [h] <;> exact fun z => nomatch z
theorem Rp.ban {p : Addr} (h : Rp K mu T H v w) (n : H p = none) : Rp K mu (fun a => T a ∨ a = p) H v w :=
  Rp.map (fun _ _ q => q.imp (fun ⟨x, y, z⟩ => ⟨x, y, fun r => r.elim z fun e => Rd.some_of x (e ▸ n)⟩) id) (fun _ _ q => q.imp (fun ⟨x, y, z⟩ => ⟨x, y, fun r => r.elim z fun e => by obtain ⟨_, _, x⟩ := x; subst e; rw [x] at n; cases n⟩) id)
    (fun _ _ q => ⟨q.1, q.2.1, fun r => r.elim q.2.2 fun e => by subst e; rw [q.1] at n; cases n⟩) (fun _ _ q => q) _ _ h
theorem RpAll.ban {p : Addr} (h : RpAll K mu T H vs ws) (n : H p = none) : RpAll K mu (fun a => T a ∨ a = p) H vs ws :=
  RpAll.map (fun _ _ q => q.imp (fun ⟨x, y, z⟩ => ⟨x, y, fun r => r.elim z fun e => Rd.some_of x (e ▸ n)⟩) id) (fun _ _ q => q.imp (fun ⟨x, y, z⟩ => ⟨x, y, fun r => r.elim z fun e => by obtain ⟨_, _, x⟩ := x; subst e; rw [x] at n; cases n⟩) id)
    (fun _ _ q => ⟨q.1, q.2.1, fun r => r.elim q.2.2 fun e => by subst e; rw [q.1] at n; cases n⟩) (fun _ _ q => q) _ _ h
theorem Rp.at_ban {p : Addr} {o : HO} (h : Rp K mu T H v w) (b : T p) : Rp K mu T (upd H p o) v w := by
  have rd : ∀ {a : Addr} {u : HO}, Rd H a u → ¬ T a → Rd (upd H p o) a u := fun {a u} r t => by
    have ne : a ≠ p := fun e => t (e ▸ b)
    rcases r with r | ⟨q, r⟩
    · exact .inl (by rw [upd_ne ne]; exact r)
    · exact .inr ⟨q, by rw [upd_ne ne]; exact r⟩
  exact Rp.map (fun _ _ q => q.imp (fun ⟨x, y, z⟩ => ⟨rd x z, y, z⟩) id) (fun a _ q => q.imp (fun ⟨⟨o', d, x⟩, y, z⟩ => ⟨⟨o', d, by rw [upd_ne (show a ≠ p from fun e => z (e ▸ b))]; exact x⟩, y, z⟩) id)
    (fun a _ q => ⟨by rw [upd_ne (show a ≠ p from fun e => q.2.2 (e ▸ b))]; exact q.1, q.2.1, q.2.2⟩) (fun _ _ q => q) _ _ h
theorem RpAll.at_ban {p : Addr} {o : HO} (h : RpAll K mu T H vs ws) (b : T p) : RpAll K mu T (upd H p o) vs ws := by
  have rd : ∀ {a : Addr} {u : HO}, Rd H a u → ¬ T a → Rd (upd H p o) a u := fun {a u} r t => by
    have ne : a ≠ p := fun e => t (e ▸ b)
    rcases r with r | ⟨q, r⟩
    · exact .inl (by rw [upd_ne ne]; exact r)
    · exact .inr ⟨q, by rw [upd_ne ne]; exact r⟩
  exact RpAll.map (fun _ _ q => q.imp (fun ⟨x, y, z⟩ => ⟨rd x z, y, z⟩) id) (fun a _ q => q.imp (fun ⟨⟨o', d, x⟩, y, z⟩ => ⟨⟨o', d, by rw [upd_ne (show a ≠ p from fun e => z (e ▸ b))]; exact x⟩, y, z⟩) id)
    (fun a _ q => ⟨by rw [upd_ne (show a ≠ p from fun e => q.2.2 (e ▸ b))]; exact q.1, q.2.1, q.2.2⟩) (fun _ _ q => q) _ _ h
theorem RpAll.get : ∀ {vs : List V} {ws : List Wd} {i : Nat} {x : Wd}, RpAll K mu T H vs ws → ws[i]? = some x → ∃ v, vs[i]? = some v ∧ Rp K mu T H v x
  | [], [], i, x, _, e => by simp at e
  | v :: vs, w :: ws, 0, x, h, e => by
    cases h with
    | cons a b =>
      rw [List.getElem?_cons_zero] at e
      cases e
      exact ⟨v, rfl, a⟩
  | v :: vs, w :: ws, i + 1, x, h, e => by
    cases h with
    | cons a b =>
      rw [List.getElem?_cons_succ] at e
      rw [List.getElem?_cons_succ]
      exact RpAll.get b e
theorem RpAll.append : ∀ {vs us : List V} {ws xs : List Wd}, RpAll K mu T H vs ws → RpAll K mu T H us xs → RpAll K mu T H (vs ++ us) (ws ++ xs)
  | [], _, [], _, _, h => h
  | v :: vs, _, w :: ws, _, h, h2 => by
    cases h with
    | cons a b => exact .cons a (RpAll.append b h2)
theorem RpAll.take : ∀ (n : Nat) {vs : List V} {ws : List Wd}, RpAll K mu T H vs ws → RpAll K mu T H (vs.take n) (ws.take n)
  | 0, _, _, _ => by rw [List.take_zero, List.take_zero]; exact .nil
  | n + 1, [], [], _ => .nil
  | n + 1, v :: vs, w :: ws, h => by
    cases h with
    | cons a b => exact .cons a (RpAll.take n b)
theorem RpAll.drop : ∀ (n : Nat) {vs : List V} {ws : List Wd}, RpAll K mu T H vs ws → RpAll K mu T H (vs.drop n) (ws.drop n)
  | 0, _, _, h => h
  | n + 1, [], [], _ => .nil
  | n + 1, v :: vs, w :: ws, h => by
    cases h with
    | cons a b => exact RpAll.drop n b
end
theorem PlH0.dK {kvs : List (Key × V)} : PlH0 (some (.dK kvs)) := .of (fun _ _ z => (nomatch z)) (fun _ z => (nomatch z)) (fun _ z => (nomatch z))
theorem PlH0.frz {o : Obj} {u : HO} : PlH0 (some (.frz o u)) := .of (fun _ _ z => (nomatch z)) (fun _ z => (nomatch z)) (fun _ z => (nomatch z))
theorem PlH.dK {kvs : List (Key × V)} : PlH (some (.dK kvs)) := ⟨.dK, fun _ z => (nomatch z)⟩
theorem mdO_ne {a : Addr} {ents : List (List Int × Addr × Value)} (c : Addr) (q : Str) : mdO a ents ≠ LamX.CodeO c q := fun z => by
  unfold mdO LamX.CodeO at z
  have e := HO.ext.inj z
  have h := congrFun e (manyH { cls := .none, data := .fields #[.none, .str q 0] } (c + 1))
  have r : ∃ (oc : Obj) (vs : Array Value) (t : Tok), (manyH { cls := .none, data := .fields #[.none, .str q 0] } (c + 1)).get? c = some oc ∧ oc.data = .fields vs ∧ vs[1]? = some (.str q t) := ⟨_, _, _, manyH_get rfl c, rfl, rfl⟩
  rw [← h] at r
  obtain ⟨_, _, _, o, es, ep, h1, _, h2, _⟩ := r
  rw [manyH_all rfl h1] at h2
  cases h2
theorem PlH0.mdo {a : Addr} {ents : List (List Int × Addr × Value)} : PlH0 (some (mdO a ents)) := .of (fun c q => mdO_ne c q) (fun _ z => by unfold mdO at z; cases z) (fun _ z => by unfold mdO at z; cases z)
section
variable {K : Fg} {mu mu' : List Addr} {T T' : Addr → Prop} {H H' : Hp} {S S' : Sto}
theorem StOk.tracked (h : StOk K mu T H S) {a : Addr} (q : a ∈ mu) : ∃ o, H a = some o := by
  obtain ⟨l, hl, e⟩ := List.getElem_of_mem q
  have h2 : l < S.length := by rw [← h.len]; exact hl
  have z := h.ok l a S[l] (by rw [List.getElem?_eq_getElem hl, e]) (List.getElem?_eq_getElem h2)
  cases r : S[l] with
  | dct fs =>
    rw [r] at z
    obtain ⟨kvs, z, _⟩ := z
    exact ⟨_, z⟩
  | tdc kvs =>
    rw [r] at z
    obtain ⟨ents, z, _⟩ := z
    exact ⟨_, z⟩
  | tab x =>
    rw [r] at z
    obtain ⟨_, ps, z, _⟩ := z
    exact ⟨_, z⟩
  | exn c fs =>
    rw [r] at z
    obtain ⟨_, _, _, _, z, _⟩ := z
    exact ⟨_, z⟩
  | ins c fs =>
    rw [r] at z
    obtain ⟨_, _, z, _⟩ := z
    exact ⟨_, z⟩
  | slt c fs =>
    rw [r] at z
    obtain ⟨_, _, z, _⟩ := z
    exact ⟨_, z⟩
  | lst ws =>
    rw [r] at z
    obtain ⟨_, z, _⟩ := z
    exact ⟨_, z⟩
theorem StOk.pl (h : StOk K mu T H S) {a : Addr} (q : a ∈ mu) : PlH0 (H a) := by
  obtain ⟨l, hl, e⟩ := List.getElem_of_mem q
  have h2 : l < S.length := by rw [← h.len]; exact hl
  have z := h.ok l a S[l] (by rw [List.getElem?_eq_getElem hl, e]) (List.getElem?_eq_getElem h2)
  cases r : S[l] with
  | dct fs =>
    rw [r] at z
    obtain ⟨kvs, z, _⟩ := z
    rw [z]
    exact .dK
  | tdc kvs =>
    rw [r] at z
    obtain ⟨ents, z, _⟩ := z
    rw [z]
    exact .mdo
  | tab x =>
    rw [r] at z
    obtain ⟨_, ps, z, _⟩ := z
    rw [z]
    exact .tbl
  | exn c fs =>
    rw [r] at z
    obtain ⟨_, _, _, _, z, _⟩ := z
    rw [z]
    exact .frz
  | ins c fs =>
    rw [r] at z
    obtain ⟨_, _, z, _⟩ := z
    rw [z]
    exact .ins
  | slt c fs =>
    rw [r] at z
    obtain ⟨_, _, z, _⟩ := z
    rw [z]
    exact .slt
  | lst ws =>
    rw [r] at z
    obtain ⟨_, z, _⟩ := z
    rw [z]
    exact .lst
theorem StOk.fresh (h : StOk K mu T H S) {p : Addr} (n : H p = none) : p ∉ mu := fun q => by
  obtain ⟨kvs, e⟩ := h.tracked q
  rw [e] at n
  cases n
theorem Bn.fresh (h : Bn mu T H) {p : Addr} (n : H p = none) : ¬ T p := fun q => (h p q).1.1.1 n
theorem Bn.ext (h : Bn mu T H) (e : Ext mu mu' H H') : Bn mu' T H' := fun a t => by
  obtain ⟨h1, h2⟩ := h a t
  cases q : H a with
  | none => exact absurd q h1.1.1
  | some o =>
    refine ⟨?_, e.notin q h2⟩
    rw [e.keep a o q h2, ← q]
    exact h1
theorem StOk.same (h : StOk K mu T H S) (e : Same H H') : StOk K mu T H' S := ⟨h.len, h.nd, fun l a r q1 q2 => RecOk.map (fun _ z => e _ _ z) (fun _ _ z => z.same e) (fun c _ _ z n => ⟨e _ _ z, n⟩) (h.ok l a r q1 q2)⟩
theorem StOk.ban {p : Addr} (h : StOk K mu T H S) (n : H p = none) : StOk K mu (fun a => T a ∨ a = p) H S := ⟨h.len, h.nd, fun l a r q1 q2 => RecOk.map (fun _ z => z) (fun _ _ z => z.ban n) (fun _ _ _ z n => ⟨z, n⟩) (h.ok l a r q1 q2)⟩
theorem StOk.at_ban {p : Addr} {o : HO} (h : StOk K mu T H S) (bn : Bn mu T H) (b : T p) : StOk K mu T (upd H p o) S :=
  ⟨h.len, h.nd, fun l a r q1 q2 => RecOk.map (fun _ z => by rw [upd_ne (show a ≠ p from fun e => (bn p b).2 (e ▸ List.mem_of_getElem? q1))]; exact z) (fun _ _ z => z.at_ban b) (fun c o f z n => ⟨by rw [upd_ne (show c ≠ p from fun e => (bn p b).1.1.2 o f (e ▸ z))]; exact z, n⟩) (h.ok l a r q1 q2)⟩
end
theorem same_upd {H : Hp} {p : Addr} {o : HO} (h : H p = none) : Same H (upd H p o) := fun b x e => by
  rw [upd_ne (ne_of_none e h)]
  exact e
theorem Rel.ext {K : Fg} {mu mu' : List Addr} {B O : Addr → Prop} {H H' : Hp} {σ : Sg} {ρ : Ev} {S S' : Sto} (h : Rel K mu B O H σ ρ S) (e : Ext mu mu' H H') (s : StOk K mu' (fun a => B a ∨ O a) H' S') : Rel K mu' B O H' σ ρ S' :=
  ⟨h.len, fun i w q => let ⟨v, a, b⟩ := h.val i w q; ⟨v, a, b.ext e⟩, fun i ws q => let ⟨a, xs, h1, h2, h3, h4, h5⟩ := h.own i ws q; ⟨a, xs, h1, h2, h3, e.keep _ _ h4 (h.bn a (.inr h2)).2, h5.ext e⟩, h.dif, s, h.bn.ext e⟩
def R.bnd {α β : Type} (x : R α) (k : α → Sto → R β) : R β := match x with
  | .ok a S => k a S
  | .bad => .bad
@[simp] theorem R.bnd_ok {α β : Type} (a : α) (S : Sto) (k : α → Sto → R β) : (R.ok a S).bnd k = k a S := rfl
@[simp] theorem R.bnd_bad {α β : Type} (k : α → Sto → R β) : (R.bad : R α).bnd k = .bad := rfl
theorem R.bnd_inv {α β : Type} {x : R α} {k : α → Sto → R β} {b : β} {S' : Sto} (h : x.bnd k = .ok b S') : ∃ a S, x = .ok a S ∧ k a S = .ok b S' := by
  cases x with
  | ok a S => exact ⟨a, S, rfl, h⟩
  | bad => cases h
def R.of {α : Type} (o : Option α) (S : Sto) : R α := match o with
  | some a => .ok a S
  | none => .bad
@[simp] theorem R.of_some {α : Type} (a : α) (S : Sto) : R.of (some a) S = .ok a S := rfl
@[simp] theorem R.of_none {α : Type} (S : Sto) : R.of (none : Option α) S = .bad := rfl
theorem R.of_inv {α : Type} {o : Option α} {S S' : Sto} {a : α} (h : R.of o S = .ok a S') : o = some a ∧ S = S' := by
  cases o with
  | some b => cases h; exact ⟨rfl, rfl⟩
  | none => cases h
def tD (K : Fg) (f : Mx) : TE := fun σ H Q => ∃ ρ S mu B O, Rel K mu B O H σ ρ S ∧ ∃ w S', f ρ S = .ok w S' ∧ ∀ v H' mu', Ext mu mu' H H' → StOk K mu' (fun a => B a ∨ O a) H' S' → Rp K mu' (fun a => B a ∨ O a) H' v w → Q v H'
def tDt (K : Fg) (f : Mt) : TT := fun σ H Q => ∃ ρ S mu B O, Rel K mu B O H σ ρ S ∧ ∃ w S', f ρ S = .ok w S' ∧ ∀ H' mu', Ext mu mu' H H' → StOk K mu' (fun a => B a ∨ O a) H' S' → Q w H'
def tDa (K : Fg) (f : Ma) : TA := fun σ H Q => ∃ ρ S mu B O, Rel K mu B O H σ ρ S ∧ ∃ ws S', f ρ S = .ok ws S' ∧ ∀ vs H' mu', Ext mu mu' H H' → StOk K mu' (fun a => B a ∨ O a) H' S' → RpAll K mu' (fun a => B a ∨ O a) H' vs ws → Q vs H'
def De (X : Cx) (e : Expr) (f : Mx) : Prop := PE X e (tD X.K f)
def Dt (X : Cx) (e : Expr) (f : Mt) : Prop := PT X e (tDt X.K f)
def Da (X : Cx) (es : List Expr) (f : Ma) : Prop := PA X es (tDa X.K f)
def mC (w : Wd) : Mx := fun _ S => .ok w S
def mV (i : Nat) : Mx := fun ρ S => match ρ[i]? with
  | some (some (.val w)) => .ok w S
  | _ => .bad
section
variable {X : Cx}
theorem de_var {i : Nat} {x : Str} {pos : Pos} (hN : X.N[i]? = some x) (hv : Vis X.env.scope x) (hd : (x == ("__debug__" : Str)) = false := by decide) (hcd : (x == ("__classdict__" : Str)) = false := by decide) : De X (.Name x pos) (mV i) := by
  refine PE.weak (pe_var hN hv hd hcd) fun σ H Q ⟨ρ, S, mu, B, O, r, w, S', e, q⟩ => ?_
  unfold mV at e
  split at e
  · rename_i w' h
    cases e
    obtain ⟨v, h1, h2⟩ := r.val i w h
    exact ⟨v, h1, q v H mu (.refl _ _) r.sto h2⟩
  · cases e
theorem de_c {e : Expr} {v : V} {w : Wd} (h : PE X e (tC v)) (r : ∀ mu T H, Rp X.K mu T H v w) : De X e (mC w) :=
  PE.weak h fun σ H Q ⟨ρ, S, mu, B, O, rl, w', S', e, q⟩ => by
    cases e
    exact q v H mu (.refl _ _) rl.sto (r _ _ _)
theorem de_int {i j pos} : De X (.Constant (.int i) j pos) (mC (.int i)) := de_c pe_int fun _ _ _ => .int i
theorem de_str {i j pos} : De X (.Constant (.str i) j pos) (mC (.str i)) := de_c pe_str fun _ _ _ => .str i
theorem de_bl {i j pos} : De X (.Constant (.bool i) j pos) (mC (.bool i)) := de_c pe_bl fun _ _ _ => .bl i
theorem de_non {j pos} : De X (.Constant .none j pos) (mC .none) := de_c pe_non fun _ _ _ => .non
end
theorem OpD.of {X : Cx} {f : Value → Value → Sem Value} {r : R2} {g : Wd → Wd → Option Wd} (h : OpR X f r)
    (k : ∀ (H : Hp) (x y : V) (Q : VK) (mu : List Addr) (T : Addr → Prop) (S : Sto) (dx dy w : Wd), StOk X.K mu T H S → Bn mu T H → Rp X.K mu T H x dx → Rp X.K mu T H y dy → g dx dy = some w → (∀ v H', Same H H' → Rp X.K mu T H' v w → Q v H') → r x y H Q) : OpD X f g :=
  fun pins s σ H x y v u Q mu T S dx dy w I rx ry st bn r1 r2 e q => h pins s σ H x y v u Q I rx ry (k H x y Q mu T S dx dy w st bn r1 r2 e q)
def mBin (g : Wd → Wd → Option Wd) (fa fb : Mx) : Mx := fun ρ S => (fa ρ S).bnd fun x S1 => (fb ρ S1).bnd fun y S2 => R.of (g x y) S2
section
variable {X : Cx} {a b : Expr} {fa fb : Mx} {g : Wd → Wd → Option Wd} {pos : Pos}
theorem bin_run (ha : De X a fa) (hb : De X b fb) {f : Value → Value → Sem Value} (ho : OpD X f g) {pins : List (Addr × Obj)} {s : Shared} {σ : Sg} {H : Hp} {Q : VK} (I : Inv X pins σ H s) (h : tD X.K (mBin g fa fb) σ H Q) :
    wpAny (model X.prog X.w) X.A (eval a X.env) (fun v s₁ => wpAny (model X.prog X.w) X.A (eval b X.env) (fun u s₂ => wpAny (model X.prog X.w) X.A (f v u) (EP X pins σ Q) X.xe s₂) X.xe s₁) X.xe s := by
  obtain ⟨ρ, S, mu, B, O, rl, w, S', e, q⟩ := h
  obtain ⟨x, S1, e1, e⟩ := R.bnd_inv e
  obtain ⟨y, S2, e2, e⟩ := R.bnd_inv e
  obtain ⟨e3, rfl⟩ := R.of_inv e
  refine thn (ha.run pins s σ H (fun x' H1 => ∃ mu1, Ext mu mu1 H H1 ∧ StOk X.K mu1 (fun a => B a ∨ O a) H1 S1 ∧ Rp X.K mu1 (fun a => B a ∨ O a) H1 x' x) I ⟨ρ, S, mu, B, O, rl, x, S1, e1, fun v H' mu' h1 h2 h3 => ⟨mu', h1, h2, h3⟩⟩) fun v s1 ⟨x', H1, I1, r1, mu1, E1, st1, p1⟩ => ?_
  have rl1 := rl.ext E1 st1
  refine thn (hb.run pins s1 σ H1 (fun y' H2 => ∃ mu2, Ext mu1 mu2 H1 H2 ∧ StOk X.K mu2 (fun a => B a ∨ O a) H2 S2 ∧ Rp X.K mu2 (fun a => B a ∨ O a) H2 y' y) I1 ⟨ρ, S1, mu1, B, O, rl1, y, S2, e2, fun v H' mu' h1 h2 h3 => ⟨mu', h1, h2, h3⟩⟩) fun u s2 ⟨y', H2, I2, r2, mu2, E2, st2, p2⟩ => ?_
  refine ho pins s2 σ H2 x' y' v u Q mu2 _ S2 x y w I2 r1 r2 st2 ((rl1.bn).ext E2) (p1.ext E2) p2 e3 fun z H3 sm rz => ?_
  exact q z H3 mu2 ((E1.trans E2).trans (.same sm)) (st2.same sm) rz
theorem de_op {op : Operator} (ho : OpD X (binaryOp op) g) (ha : De X a fa) (hb : De X b fb) : De X (.BinOp a op b pos) (mBin g fa fb) := ⟨fun pins s σ H Q I h => wpAny_BinOp (bin_run ha hb ho I h)⟩
theorem de_cmp {op : CmpOp} (ho : OpD X (compareOp op) g) (ha : De X a fa) (hb : De X b fb) (hm : behindInMarks op b = false) : De X (.Compare a [op] [b] pos) (mBin g fa fb) := ⟨fun pins s σ H Q I h => wpAny_Compare1 (bin_run ha hb ho I h) hm⟩
end
end DL
namespace DL
open PySem PySem.Spec PyProof.Rows L2
section
variable {K : Fg} {mu : List Addr} {T : Addr → Prop} {H : Hp} {S : Sto} {xs : List V} {ws : List Wd} {p : Addr} {kvs : List (Key × V)} {kws : List (Wd × Wd)}
theorem new_lst (st : StOk K mu T H S) (bn : Bn mu T H) (r : RpAll K mu T H xs ws) (n : H p = none) : Rp K mu T (upd H p (.lst xs)) (.ref p) (.list ws) :=
  .lst (.inl ⟨.inl upd_same, st.fresh n, bn.fresh n⟩) (r.same (same_upd n))
theorem new_tup {o : Obj} (st : StOk K mu T H S) (bn : Bn mu T H) (r : RpAll K mu T H xs ws) (n : H p = none) (d : o.dict = none) : Rp K mu T (upd H p (.frz o (.tup xs))) (.ref p) (.tuple ws) :=
  .tup (.inl ⟨⟨o, d, upd_same⟩, st.fresh n, bn.fresh n⟩) (r.same (same_upd n))
mutual
theorem Rp.dp : ∀ (w : Wd) (v : V), Rp K mu T H v w → w.canLay0 = true → Dp K H v w
  | .none, _, h, _ => by cases h; exact .non
  | .bool b, _, h, _ => by cases h; exact .bl b
  | .int i, _, h, _ => by cases h; exact .int i
  | .str x, _, h, _ => by cases h; exact .str x
  | .list ds, _, h, c => by
    cases h with
    | lst a b => exact .lst a.sq (RpAll.dp ds _ b c)
  | .tuple ds, _, h, c => by
    cases h with
    | tup a b => exact .tup a.sq (RpAll.dp ds _ b c)
  | .dict ds, _, h, c => by cases c
theorem RpAll.dp : ∀ (ws : List Wd) (vs : List V), RpAll K mu T H vs ws → PyData.canLayAll0 ws = true → DpAll K H vs ws
  | [], _, h, _ => by cases h; exact .nil
  | d :: ds, _, h, c => by
    cases h with
    | cons a b =>
      have c' : (PyData.canLay0 d && PyData.canLayAll0 ds) = true := c
      obtain ⟨c1, c2⟩ := Bool.and_eq_true_iff.mp c'
      exact .cons (Rp.dp d _ a c1) (RpAll.dp ds _ b c2)
end
end
def gAdd : Wd → Wd → Option Wd
  | .int i, .int j => some (.int (i + j))
  | .str a, .str b => if a.length + b.length ≤ sizeLine then some (.str (a ++ b)) else none
  | .list a, .list b => if a.length + b.length ≤ sizeLine then some (.list (a ++ b)) else none
  | .tuple a, .tuple b => if a.length + b.length ≤ sizeLine then some (.tuple (a ++ b)) else none
  | _, _ => none
def gSub : Wd → Wd → Option Wd
  | .int i, .int j => some (.int (i - j))
  | _, _ => none
def gMul : Wd → Wd → Option Wd
  | .int i, .int j => if (-(2 ^ 64) < i ∧ i < 2 ^ 64) ∨ (-(2 ^ 64) < j ∧ j < 2 ^ 64) then some (.int (i * j)) else none
  | _, _ => none
def gDiv : Wd → Wd → Option Wd
  | .int i, .int j => if 0 < j ∧ j < 1073741824 then some (.int (i / j)) else none
  | _, _ => none
def gMod : Wd → Wd → Option Wd
  | .int i, .int j => if 0 < j then some (.int (i % j)) else none
  | _, _ => none
def gPow : Wd → Wd → Option Wd
  | .int i, .int j => if 0 ≤ j ∧ j ≤ 1000000 ∧ i.natAbs < 2 ^ 64 then some (.int (i ^ j.toNat)) else none
  | _, _ => none
theorem ite_inv {α : Type} {c : Prop} [Decidable c] {a b : α} (h : (if c then some a else none) = some b) : c ∧ a = b := by
  by_cases q : c
  · rw [if_pos q] at h
    exact ⟨q, Option.some.inj h⟩
  · rw [if_neg q] at h
    cases h
section
variable {X : Cx}
theorem lst_at {pins : List (Addr × Obj)} {s : Shared} {σ : Sg} {H : Hp} {a : Addr} {xs : List V} {mu : List Addr} {T : Addr → Prop} (I : Inv X pins σ H s) (h : LsR X.K mu T H a xs) : ∃ (its : List Value) (n : Nat), Vals xs its ∧ xs.length ≤ sizeLine ∧ s.heap.get? a = some { cls := .type "list", data := .seq its.toArray n } := by
  rcases h with ⟨h, _⟩ | ⟨its, n, h, r, z⟩
  · obtain ⟨z, its, n, r, e⟩ := Rd.ok h I.hok
    exact ⟨its, n, r, z, e⟩
  · exact ⟨its, n, r, z, I.kIn _ _ h⟩
theorem op_catW : OpR X (binaryOp .Add) (fun x y H Q => ∃ l b xs zs, x = .ref l ∧ y = .ref b ∧ (∃ mu T, LsR X.K mu T H l xs) ∧ (∃ mu T, LsR X.K mu T H b zs) ∧ xs.length + zs.length ≤ sizeLine ∧ ∀ p, H p = none → Q (.ref p) (upd H p (.lst (xs ++ zs)))) := by
  intro pins s σ H x y v u Q I rx ry h
  obtain ⟨l, b, xs, zs, rfl, rfl, ⟨_, _, h1⟩, ⟨_, _, h2⟩, hz, q⟩ := h
  cases rx
  cases ry
  obtain ⟨i1, n1, r1, z1, e1⟩ := lst_at I h1
  obtain ⟨i2, n2, r2, z2, e2⟩ := lst_at I h2
  have l1 := r1.length
  have l2 := r2.length
  refine PySem.P.add_list e1 e2 ?_ (by rw [List.size_toArray, List.size_toArray]; omega)
  have ea : i1.toArray ++ i2.toArray = (i1 ++ i2).toArray := by simp
  rw [ea]
  exact ⟨.ref _, _, I.lnew (t' := s.toks) (r1.append r2) (by rw [List.length_append]; omega), rfl, q _ I.fresh⟩
theorem Inv.ftup {pins : List (Addr × Obj)} {s : Shared} {σ : Sg} {H : Hp} {xs : List V} {us : List Value} {t' : Nat} (I : Inv X pins σ H s) (r : Vals xs us) (hz : xs.length ≤ sizeLine) :
    Inv X pins σ (upd H s.heap.objs.size (.frz { cls := .type "tuple", data := .seq us.toArray } (.tup xs))) { s with heap := s.heap.push { cls := .type "tuple", data := .seq us.toArray }, toks := t' } := by
  refine I.laid (fun b o e => Heap.get?_push_of_some _ e) (Nat.le_refl _) ?_
  exact ⟨Heap.get?_push_size _ rfl, hz, us, r, IsTup.new _ _⟩
theorem op_catF : OpR X (binaryOp .Add) (fun x y H Q => ∃ a b xs ys, x = .ref a ∧ y = .ref b ∧ SqT X.K H a xs ∧ SqT X.K H b ys ∧ xs.length + ys.length ≤ sizeLine ∧
    (xs = [] → Q (.ref b) H) ∧ (xs ≠ [] → ys = [] → Q (.ref a) H) ∧ (xs ≠ [] → ys ≠ [] → ∀ (p : Addr) (o : Obj), H p = none → o.dict = none → Q (.ref p) (upd H p (.frz o (.tup (xs ++ ys)))))) := by
  intro pins s σ H x y v u Q I rx ry h
  obtain ⟨a, b, xs, ys, rfl, rfl, ha, hb, hz, q0, q1, q2⟩ := h
  cases rx
  cases ry
  obtain ⟨i1, r1, p1, _⟩ := I.tuple ha
  obtain ⟨i2, r2, p2, _⟩ := I.tuple hb
  by_cases hx : xs = []
  · subst hx
    cases r1
    exact cat_tup0 p1 p2 ⟨.ref b, H, I, rfl, q0 rfl⟩
  · refine HT.cat_tup p1 p2 (fun z => hx (r1.nil_iff.mp z)) (fun z => ⟨.ref a, H, I, rfl, q1 hx (r2.nil_iff.mp z)⟩) (fun z => ?_) (by rw [← r1.length, ← r2.length]; exact hz)
    have I2 := Inv.ftup (t' := s.toks) I (r1.append r2) (by rw [List.length_append]; exact hz)
    exact ⟨.ref s.heap.objs.size, _, I2, rfl, q2 hx (fun w => z (r2.nil_iff.mpr w)) _ _ (I.hok.fresh (Nat.le_refl _)) rfl⟩
theorem od_add : OpD X (binaryOp .Add) gAdd := by
  intro pins s σ H x y v u Q mu T S dx dy w I rx ry st bn r1 r2 e q
  unfold gAdd at e
  split at e
  · cases e; cases r1; cases r2
    exact op_add pins s σ H _ _ v u Q I rx ry ⟨_, _, rfl, rfl, q _ H (Same.refl H) (.int _)⟩
  · obtain ⟨hz, rfl⟩ := ite_inv e
    cases r1; cases r2
    exact op_add_str pins s σ H _ _ v u Q I rx ry ⟨_, _, rfl, rfl, hz, q _ H (Same.refl H) (.str _)⟩
  · obtain ⟨hz, rfl⟩ := ite_inv e
    cases r1 with
    | lst a1 b1 => cases r2 with
      | lst a2 b2 =>
        refine op_catW pins s σ H _ _ v u Q I rx ry ⟨_, _, _, _, rfl, rfl, ⟨_, _, a1⟩, ⟨_, _, a2⟩, by rw [b1.length, b2.length]; exact hz, fun p hp => q _ _ (same_upd hp) (new_lst st bn (b1.append b2) hp)⟩
  · obtain ⟨hz, rfl⟩ := ite_inv e
    cases r1 with
    | tup a1 b1 => cases r2 with
      | tup a2 b2 =>
        refine op_catF pins s σ H _ _ v u Q I rx ry ⟨_, _, _, _, rfl, rfl, a1.sq, a2.sq, by rw [b1.length, b2.length]; exact hz, fun e => ?_, fun _ e => ?_, fun _ _ p o hp d => q _ _ (same_upd hp) (new_tup st bn (b1.append b2) hp d)⟩
        · subst e
          cases b1
          exact q _ H (Same.refl H) (.tup a2 b2)
        · subst e
          cases b2
          rw [List.append_nil] at q
          exact q _ H (Same.refl H) (.tup a1 b1)
  · cases e
theorem od_sub : OpD X (binaryOp .Sub) gSub := by
  intro pins s σ H x y v u Q mu T S dx dy w I rx ry st bn r1 r2 e q
  unfold gSub at e
  split at e
  · cases e; cases r1; cases r2
    exact op_sub pins s σ H _ _ v u Q I rx ry ⟨_, _, rfl, rfl, q _ H (Same.refl H) (.int _)⟩
  · cases e
theorem od_mul : OpD X (binaryOp .Mult) gMul := by
  intro pins s σ H x y v u Q mu T S dx dy w I rx ry st bn r1 r2 e q
  unfold gMul at e
  split at e
  · obtain ⟨hz, rfl⟩ := ite_inv e
    cases r1; cases r2
    exact op_mul pins s σ H _ _ v u Q I rx ry ⟨_, _, rfl, rfl, hz, q _ H (Same.refl H) (.int _)⟩
  · cases e
theorem od_div : OpD X (binaryOp .FloorDiv) gDiv := by
  intro pins s σ H x y v u Q mu T S dx dy w I rx ry st bn r1 r2 e q
  unfold gDiv at e
  split at e
  · obtain ⟨hz, rfl⟩ := ite_inv e
    cases r1; cases r2
    exact op_fdiv pins s σ H _ _ v u Q I rx ry ⟨_, _, rfl, rfl, hz, q _ H (Same.refl H) (.int _)⟩
  · cases e
theorem od_mod : OpD X (binaryOp .Mod) gMod := by
  intro pins s σ H x y v u Q mu T S dx dy w I rx ry st bn r1 r2 e q
  unfold gMod at e
  split at e
  · obtain ⟨hz, rfl⟩ := ite_inv e
    cases r1; cases r2
    exact op_mod pins s σ H _ _ v u Q I rx ry ⟨_, _, rfl, rfl, hz, q _ H (Same.refl H) (.int _)⟩
  · cases e
theorem od_pow : OpD X (binaryOp .Pow) gPow := by
  intro pins s σ H x y v u Q mu T S dx dy w I rx ry st bn r1 r2 e q
  unfold gPow at e
  split at e
  · obtain ⟨hz, rfl⟩ := ite_inv e
    cases r1; cases r2
    exact op_pow pins s σ H _ _ v u Q I rx ry ⟨_, _, rfl, rfl, hz, q _ H (Same.refl H) (.int _)⟩
  · cases e
end
def gEq : Wd → Wd → Option Wd
  | .str a, .str b => some (.bool (decide (a = b)))
  | x, y => if SeqAt.shaped x = true ∧ SeqAt.shaped y = true then some (.bool (PyData.eqv x y)) else none
def gNe : Wd → Wd → Option Wd
  | .str a, .str b => some (.bool (!decide (a = b)))
  | x, y => if SeqAt.shaped x = true ∧ SeqAt.shaped y = true then some (.bool (!PyData.eqv x y)) else none
def gCmp (p : Int → Int → Bool) (q : List Nat → List Nat → Bool) : Wd → Wd → Option Wd
  | .int i, .int j => some (.bool (p i j))
  | .str a, .str b => some (.bool (q a.cps.toList b.cps.toList))
  | _, _ => none
abbrev gLt := gCmp (fun i j => decide (i < j)) (fun a b => decide (a < b))
abbrev gLe := gCmp (fun i j => decide (i ≤ j)) (fun a b => !decide (b < a))
abbrev gGt := gCmp (fun i j => decide (j < i)) (fun a b => decide (b < a))
abbrev gGe := gCmp (fun i j => decide (j ≤ i)) (fun a b => !decide (a < b))
def noneD : Wd → Bool
  | .none => true
  | _ => false
def gIsN : Wd → Wd → Option Wd
  | x, .none => some (.bool (noneD x))
  | _, _ => none
def gNotN : Wd → Wd → Option Wd
  | x, .none => some (.bool (!noneD x))
  | _, _ => none
section
variable {X : Cx}
theorem od_eq (hu : X.A.units + 64 < cLine) : OpD X (compareOp .Eq) gEq := by
  intro pins s σ H x y v u Q mu T S dx dy w I rx ry st bn r1 r2 e q
  unfold gEq at e
  split at e
  · rename_i a b
    cases e; cases r1; cases r2
    refine op_eq pins s σ H _ _ v u Q I rx ry ⟨rfl, ?_⟩
    have e2 : decide (V.str a = V.str b) = decide (a = b) := decide_eq_decide.mpr ⟨fun h => by cases h; rfl, fun h => by rw [h]⟩
    rw [e2]
    exact q _ H (Same.refl H) (.bl _)
  · obtain ⟨⟨h1, h2⟩, rfl⟩ := ite_inv e
    exact op_eqD hu pins s σ H _ _ v u Q I rx ry ⟨dx, dy, Rp.dp _ _ r1 (SeqAt.canLay_of_shaped h1), Rp.dp _ _ r2 (SeqAt.canLay_of_shaped h2), h1, h2, q _ H (Same.refl H) (.bl _)⟩
theorem od_ne (hu : X.A.units + 64 < cLine) : OpD X (compareOp .NotEq) gNe := by
  intro pins s σ H x y v u Q mu T S dx dy w I rx ry st bn r1 r2 e q
  unfold gNe at e
  split at e
  · rename_i a b
    cases e; cases r1; cases r2
    refine op_ne pins s σ H _ _ v u Q I rx ry ⟨rfl, ?_⟩
    have e2 : decide (V.str a = V.str b) = decide (a = b) := decide_eq_decide.mpr ⟨fun h => by cases h; rfl, fun h => by rw [h]⟩
    rw [e2]
    exact q _ H (Same.refl H) (.bl _)
  · obtain ⟨⟨h1, h2⟩, rfl⟩ := ite_inv e
    exact op_neD hu pins s σ H _ _ v u Q I rx ry ⟨dx, dy, Rp.dp _ _ r1 (SeqAt.canLay_of_shaped h1), Rp.dp _ _ r2 (SeqAt.canLay_of_shaped h2), h1, h2, q _ H (Same.refl H) (.bl _)⟩
theorem od_cmp {op : CmpOp} {p : Int → Int → Bool} {q : List Nat → List Nat → Bool} (hi : OpR X (compareOp op) (rI0 fun i j => .bl (p i j)))
    (hs : OpR X (compareOp op) (fun x y H Q => ∃ i j, x = .str i ∧ y = .str j ∧ Q (.bl (q i.cps.toList j.cps.toList)) H)) : OpD X (compareOp op) (gCmp p q) := by
  intro pins s σ H x y v u Q mu T S dx dy w I rx ry st bn r1 r2 e k
  unfold gCmp at e
  split at e
  · cases e; cases r1; cases r2
    exact hi pins s σ H _ _ v u Q I rx ry ⟨_, _, rfl, rfl, k _ H (Same.refl H) (.bl _)⟩
  · cases e; cases r1; cases r2
    exact hs pins s σ H _ _ v u Q I rx ry ⟨_, _, rfl, rfl, k _ H (Same.refl H) (.bl _)⟩
  · cases e
theorem od_lt : OpD X (compareOp .Lt) gLt := od_cmp op_lt op_lt_str
theorem od_gt : OpD X (compareOp .Gt) gGt := od_cmp op_gt op_gt_str
theorem od_ge : OpD X (compareOp .GtE) gGe := od_cmp op_ge op_ge_str
theorem Rp.nonB {K : Fg} {mu : List Addr} {T : Addr → Prop} {H : Hp} {v : V} {w : Wd} (h : Rp K mu T H v w) : decide (v = V.non) = noneD w := by
  cases h <;> rfl
theorem od_is : OpD X (compareOp .Is) gIsN := by
  intro pins s σ H x y v u Q mu T S dx dy w I rx ry st bn r1 r2 e q
  unfold gIsN at e
  split at e
  · cases e
    cases r2
    exact op_isN pins s σ H _ _ v u Q I rx ry ⟨rfl, q _ H (Same.refl H) (by rw [r1.nonB]; exact .bl _)⟩
  · cases e
theorem od_isnot : OpD X (compareOp .IsNot) gNotN := by
  intro pins s σ H x y v u Q mu T S dx dy w I rx ry st bn r1 r2 e q
  unfold gNotN at e
  split at e
  · cases e
    cases r2
    exact op_notN pins s σ H _ _ v u Q I rx ry ⟨rfl, q _ H (Same.refl H) (by rw [r1.nonB]; exact .bl _)⟩
  · cases e
end
def flatD : Wd → Bool
  | .none => true
  | .bool _ => true
  | .int _ => true
  | .str _ => true
  | _ => false
def lookD : List (Wd × Wd) → Wd → Option Wd
  | [], _ => none
  | (k, v) :: r, x => if PyData.eqv k x = true then some v else lookD r x
def gIn : Wd → Wd → Option Wd
  | x, .list ys => if SeqAt.shaped x = true ∧ SeqAt.shaped (.list ys) = true then some (.bool (ys.any fun z => PyData.eqv z x)) else none
  | x, .tuple ys => if flatD x = true ∧ ys.all flatD = true then some (.bool (ys.any fun z => PyData.eqv z x)) else none
  | .str a, .str b => some (.bool (!(Builtin.Str.occurrences b a 0 b.length 1).isEmpty))
  | _, _ => none
def gNotIn (x y : Wd) : Option Wd := match gIn x y with
  | some (.bool b) => some (.bool (!b))
  | _ => none
section
variable {K : Fg} {mu : List Addr} {T : Addr → Prop} {H : Hp}
theorem flat_of {v : V} {w : Wd} (h : Rp K mu T H v w) (f : flatD w = true) : flatV v = true := by cases h <;> first | rfl | cases f
theorem flat_all : ∀ {vs : List V} {ws : List Wd}, RpAll K mu T H vs ws → ws.all flatD = true → vs.all flatV = true
  | [], [], _, _ => rfl
  | v :: vs, w :: ws, h, f => by
    cases h with
    | cons a b =>
      rw [List.all_cons] at f ⊢
      obtain ⟨f1, f2⟩ := Bool.and_eq_true_iff.mp f
      rw [flat_of a f1, flat_all b f2]
      rfl
theorem eq_flat {v v' : V} {w w' : Wd} (h : Rp K mu T H v w) (h' : Rp K mu T H v' w') (f : flatD w = true) (f' : flatD w' = true) : eqV v v' = PyData.eqv w w' := by
  cases h <;> first | (cases f; done) | (cases h' <;> first | (cases f'; done) | (simp only [eqV, PyData.eqv]; done) | (simp [eqV, PyData.eqv]; done))
theorem in_flat {v : V} {w : Wd} (h : Rp K mu T H v w) (f : flatD w = true) : ∀ {vs : List V} {ws : List Wd}, RpAll K mu T H vs ws → ws.all flatD = true → inV v vs = ws.any fun z => PyData.eqv z w
  | [], [], _, _ => rfl
  | v' :: vs, w' :: ws, h', f' => by
    cases h' with
    | cons a b =>
      rw [List.all_cons] at f'
      obtain ⟨f1, f2⟩ := Bool.and_eq_true_iff.mp f'
      have ih := in_flat h f b f2
      unfold inV at ih ⊢
      rw [List.any_cons, List.any_cons, ih, eq_flat a h f1 f]
end
section
variable {X : Cx}
theorem od_in (hu : X.A.units + 65 < cLine) : OpD X (compareOp .In) gIn := by
  intro pins s σ H x y v u Q mu T S dx dy w I rx ry st bn r1 r2 e q
  unfold gIn at e
  split at e
  · obtain ⟨⟨h1, h2⟩, rfl⟩ := ite_inv e
    exact op_inD hu pins s σ H _ _ v u Q I rx ry ⟨_, _, Rp.dp _ _ r1 (SeqAt.canLay_of_shaped h1), Rp.dp _ _ r2 (SeqAt.canLay_of_shaped h2), h1, h2, q _ H (Same.refl H) (.bl _)⟩
  · obtain ⟨⟨h1, h2⟩, rfl⟩ := ite_inv e
    cases r2 with
    | tup a b =>
      refine op_in_seq pins s σ H _ _ v u Q I rx ry ⟨_, _, rfl, .inr a.sq, flat_of r1 h1, flat_all b h2, q _ H (Same.refl H) ?_⟩
      rw [if_neg Bool.false_ne_true, in_flat r1 h1 b h2]
      exact .bl _
  · cases e; cases r1; cases r2
    exact op_in_str pins s σ H _ _ v u Q I rx ry ⟨_, _, rfl, rfl, q _ H (Same.refl H) (.bl _)⟩
  · cases e
theorem od_notin (hu : X.A.units + 65 < cLine) : OpD X (compareOp .NotIn) gNotIn := by
  intro pins s σ H x y v u Q mu T S dx dy w I rx ry st bn r1 r2 e q
  unfold gNotIn at e
  split at e
  · rename_i b e'
    cases e
    unfold gIn at e'
    split at e'
    · obtain ⟨⟨h1, h2⟩, e2⟩ := ite_inv e'
      cases e2
      exact op_notInD hu pins s σ H _ _ v u Q I rx ry ⟨_, _, Rp.dp _ _ r1 (SeqAt.canLay_of_shaped h1), Rp.dp _ _ r2 (SeqAt.canLay_of_shaped h2), h1, h2, q _ H (Same.refl H) (.bl _)⟩
    · obtain ⟨⟨h1, h2⟩, e2⟩ := ite_inv e'
      cases e2
      cases r2 with
      | tup a b =>
        refine op_notIn_seq pins s σ H _ _ v u Q I rx ry ⟨_, _, rfl, .inr a.sq, flat_of r1 h1, flat_all b h2, q _ H (Same.refl H) ?_⟩
        rw [if_pos rfl, in_flat r1 h1 b h2]
        exact .bl _
    · cases e'; cases r1; cases r2
      exact op_notin_str pins s σ H _ _ v u Q I rx ry ⟨_, _, rfl, rfl, q _ H (Same.refl H) (.bl _)⟩
    · cases e'
  · cases e
end
end DL
namespace DL
open PySem PySem.Spec PyProof.Rows L2
section
variable {K : Fg} {ρ : Ev} {S S1 : Sto} {mu : List Addr} {B O : Addr → Prop} {σ : Sg} {H : Hp}
theorem tD.mk {f : Mx} {w : Wd} {Q : VK} (rl : Rel K mu B O H σ ρ S) (e : f ρ S = .ok w S1)
    (q : ∀ v H1 mu1, Ext mu mu1 H H1 → Rel K mu1 B O H1 σ ρ S1 → Rp K mu1 (fun a => B a ∨ O a) H1 v w → Q v H1) : tD K f σ H Q :=
  ⟨ρ, S, mu, B, O, rl, w, S1, e, fun v H1 mu1 x st r => q v H1 mu1 x (rl.ext x st) r⟩
theorem tDt.mk {f : Mt} {w : Bool} {Q : Bool → Hp → Prop} (rl : Rel K mu B O H σ ρ S) (e : f ρ S = .ok w S1) (q : ∀ H1 mu1, Ext mu mu1 H H1 → Rel K mu1 B O H1 σ ρ S1 → Q w H1) : tDt K f σ H Q :=
  ⟨ρ, S, mu, B, O, rl, w, S1, e, fun H1 mu1 x st => q H1 mu1 x (rl.ext x st)⟩
theorem tDa.mk {f : Ma} {ws : List Wd} {Q : List V → Hp → Prop} (rl : Rel K mu B O H σ ρ S) (e : f ρ S = .ok ws S1)
    (q : ∀ vs H1 mu1, Ext mu mu1 H H1 → Rel K mu1 B O H1 σ ρ S1 → RpAll K mu1 (fun a => B a ∨ O a) H1 vs ws → Q vs H1) : tDa K f σ H Q :=
  ⟨ρ, S, mu, B, O, rl, ws, S1, e, fun vs H1 mu1 x st r => q vs H1 mu1 x (rl.ext x st) r⟩
end
def truD : Wd → Option Bool
  | .none => some false
  | .bool b => some b
  | .int i => some (i != 0)
  | .str y => if y.length ≤ sizeLine then some ((y.length : Int) != 0) else none
  | .list ys => some (!ys.isEmpty)
  | .tuple ys => some (!ys.isEmpty)
  | .dict ((.none, _) :: _) => none
  | .dict ys => some (!ys.isEmpty)
theorem tru_of {K : Fg} {mu : List Addr} {T : Addr → Prop} {H : Hp} {v : V} {w : Wd} {k : Bool} (h : Rp K mu T H v w) (e : truD w = some k) : TruV K v H k := by
  cases h with
  | non => cases e; rfl
  | bl b => cases e; rfl
  | int i => cases e; rfl
  | str x =>
    obtain ⟨h1, rfl⟩ := ite_inv e
    exact ⟨h1, rfl⟩
  | @lst a xs ds a1 b1 =>
    cases e
    refine .inl ⟨_, a1.sq, ?_⟩
    cases b1 <;> rfl
  | @tup a xs ds a1 b1 =>
    cases e
    refine .inr (.inl ⟨_, a1.sq, ?_⟩)
    cases b1 <;> rfl
  | @dct a kvs ds a1 b1 =>
    refine .inr (.inr ⟨_, a1.1, ?_⟩)
    cases b1 with
    | nil => cases e; rfl
    | @cons k _ _ _ _ _ _ => cases k <;> (cases e; rfl)
  | obj e' => cases e
def mTru (f : Mx) : Mt := fun ρ S => (f ρ S).bnd fun w S1 => R.of (truD w) S1
section
variable {X : Cx} {e a b : Expr} {f fa fb : Mx} {pos : Pos} {t tb : Mt}
theorem dt_truth (h : De X e f) (he : ∀ whole, isTrue e X.env whole = (do let v ← whole; standAt e.pos; holding [v] (truthy v)) := by intro _; rfl) : Dt X e (mTru f) := by
  refine PT.weak (pt_truth h he) fun σ H Q ⟨ρ, S, mu, B, O, rl, w, S', e1, q⟩ => ?_
  obtain ⟨x, S1, e2, e1⟩ := R.bnd_inv e1
  obtain ⟨e3, rfl⟩ := R.of_inv e1
  exact tD.mk rl e2 fun v H1 mu1 E r p => ⟨w, tru_of p e3, q H1 mu1 E r.sto⟩
theorem dt_cmp {op : CmpOp} {g : Wd → Wd → Option Wd} (ho : OpD X (compareOp op) g) (ha : De X a fa) (hb : De X b fb) (hm : behindInMarks op b = false) : Dt X (.Compare a [op] [b] pos) (mTru (mBin g fa fb)) := by
  refine ⟨fun pins s σ H Q I ⟨ρ, S, mu, B, O, rl, w, S', e1, q⟩ => ?_⟩
  obtain ⟨x, S1, e2, e1⟩ := R.bnd_inv e1
  obtain ⟨e3, rfl⟩ := R.of_inv e1
  refine wpAny_isTrue_Compare1 (thn (bin_run (Q := fun v H1 => ∃ mu1, Ext mu mu1 H H1 ∧ StOk X.K mu1 (fun a => B a ∨ O a) H1 S1 ∧ Rp X.K mu1 (fun a => B a ∨ O a) H1 v x) ha hb ho I ⟨ρ, S, mu, B, O, rl, x, S1, e2, fun v H1 mu1 h1 h2 h3 => ⟨mu1, h1, h2, h3⟩⟩) fun v s1 h1 => thn h1 fun u s2 h2 => thn h2 fun c s3 ⟨y, H1, I1, r1, mu1, E1, st1, p1⟩ => ?_) hm
  exact tru_ok pins s3 σ H1 y c Q I1 r1 ⟨w, tru_of p1 e3, q H1 mu1 E1 st1⟩
def mAndT (t u : Mt) : Mt := fun ρ S => (t ρ S).bnd fun b S1 => if b = true then u ρ S1 else .ok false S1
def mOrT (t u : Mt) : Mt := fun ρ S => (t ρ S).bnd fun b S1 => if b = true then .ok true S1 else u ρ S1
def mNotT (t : Mt) : Mt := fun ρ S => (t ρ S).bnd fun b S1 => .ok (!b) S1
def Dw (X : Cx) (e : Expr) (f : Mt) : Prop := PW X e (tDt X.K f)
theorem dw_and1 (ha : Dt X a t) : Dw X (.BoolOp .And [a] pos) t := pw_and1 ha
theorem dw_or1 (ha : Dt X a t) : Dw X (.BoolOp .Or [a] pos) t := pw_or1 ha
theorem dw_and {rest : List Expr} (ha : Dt X a t) (hb : Dw X (.BoolOp .And (b :: rest) pos) tb) : Dw X (.BoolOp .And (a :: b :: rest) pos) (mAndT t tb) :=
  PW.weak (pw_and ha hb) fun σ H Q ⟨ρ, S, mu, B, O, rl, w, S', e1, q⟩ => by
    obtain ⟨x, S1, e2, e1⟩ := R.bnd_inv e1
    refine tDt.mk rl e2 fun H1 mu1 E r => ?_
    cases x with
    | true =>
      rw [if_pos rfl] at e1 ⊢
      exact tDt.mk r e1 fun H2 mu2 E2 r2 => q H2 mu2 (E.trans E2) r2.sto
    | false =>
      rw [if_neg Bool.false_ne_true] at e1 ⊢
      cases e1
      exact q H1 mu1 E r.sto
theorem dw_or {rest : List Expr} (ha : Dt X a t) (hb : Dw X (.BoolOp .Or (b :: rest) pos) tb) : Dw X (.BoolOp .Or (a :: b :: rest) pos) (mOrT t tb) :=
  PW.weak (pw_or ha hb) fun σ H Q ⟨ρ, S, mu, B, O, rl, w, S', e1, q⟩ => by
    obtain ⟨x, S1, e2, e1⟩ := R.bnd_inv e1
    refine tDt.mk rl e2 fun H1 mu1 E r => ?_
    cases x with
    | true =>
      rw [if_pos rfl] at e1 ⊢
      cases e1
      exact q H1 mu1 E r.sto
    | false =>
      rw [if_neg Bool.false_ne_true] at e1 ⊢
      exact tDt.mk r e1 fun H2 mu2 E2 r2 => q H2 mu2 (E.trans E2) r2.sto
theorem Dw.dt {e : Expr} {f : Mt} (h : Dw X e f) : Dt X e f := PW.pt h
theorem dt_not (ha : Dt X a t) : Dt X (.UnaryOp .Not a pos) (mNotT t) :=
  PT.weak (pt_not ha) fun σ H Q ⟨ρ, S, mu, B, O, rl, w, S', e1, q⟩ => by
    obtain ⟨x, S1, e2, e1⟩ := R.bnd_inv e1
    cases e1
    exact tDt.mk rl e2 fun H1 mu1 E r => q H1 mu1 E r.sto
def mAnd (fa fb : Mx) : Mx := fun ρ S => (fa ρ S).bnd fun x S1 => match truD x with
  | some true => fb ρ S1
  | some false => .ok x S1
  | none => .bad
def mNot (fa : Mx) : Mx := fun ρ S => (fa ρ S).bnd fun x S1 => R.of ((truD x).map fun b => .bool (!b)) S1
def mIf (t : Mt) (fa fb : Mx) : Mx := fun ρ S => (t ρ S).bnd fun b S1 => if b = true then fa ρ S1 else fb ρ S1
theorem de_and1 {op : BoolOp} (ha : De X a fa) : De X (.BoolOp op [a] pos) fa := pe_one ha
theorem de_and {rest : List Expr} (ha : De X a fa) (hb : De X (.BoolOp .And (b :: rest) pos) fb) : De X (.BoolOp .And (a :: b :: rest) pos) (mAnd fa fb) :=
  PE.weak (pe_andT ha hb) fun σ H Q ⟨ρ, S, mu, B, O, rl, w, S', e1, q⟩ => by
    obtain ⟨x, S1, e2, e1⟩ := R.bnd_inv e1
    refine tD.mk rl e2 fun v H1 mu1 E r p => ?_
    split at e1
    · rename_i h
      exact ⟨true, tru_of p h, iteT (tD.mk r e1 fun v2 H2 mu2 E2 r2 p2 => q v2 H2 mu2 (E.trans E2) r2.sto p2)⟩
    · rename_i h
      cases e1
      exact ⟨false, tru_of p h, iteF (q v H1 mu1 E r.sto p)⟩
    · cases e1
theorem de_not (ha : De X a fa) : De X (.UnaryOp .Not a pos) (mNot fa) :=
  PE.weak (pe_notT ha) fun σ H Q ⟨ρ, S, mu, B, O, rl, w, S', e1, q⟩ => by
    obtain ⟨x, S1, e2, e1⟩ := R.bnd_inv e1
    obtain ⟨e3, rfl⟩ := R.of_inv e1
    obtain ⟨k, e4, rfl⟩ := Option.map_eq_some_iff.mp e3
    exact tD.mk rl e2 fun v H1 mu1 E r p => ⟨k, tru_of p e4, q _ H1 mu1 E r.sto (.bl _)⟩
theorem de_if {c : Expr} (hc : Dt X c t) (ha : De X a fa) (hb : De X b fb) : De X (.IfExp c a b pos) (mIf t fa fb) :=
  PE.weak (pe_ifExp hc ha hb) fun σ H Q ⟨ρ, S, mu, B, O, rl, w, S', e1, q⟩ => by
    obtain ⟨x, S1, e2, e1⟩ := R.bnd_inv e1
    refine tDt.mk rl e2 fun H1 mu1 E r => ?_
    cases x with
    | true =>
      rw [if_pos rfl] at e1 ⊢
      exact tD.mk r e1 fun v2 H2 mu2 E2 r2 p2 => q v2 H2 mu2 (E.trans E2) r2.sto p2
    | false =>
      rw [if_neg Bool.false_ne_true] at e1 ⊢
      exact tD.mk r e1 fun v2 H2 mu2 E2 r2 p2 => q v2 H2 mu2 (E.trans E2) r2.sto p2
def gNeg : Wd → Option Wd
  | .int i => some (.int (-i))
  | _ => none
def mUn (g : Wd → Option Wd) (fa : Mx) : Mx := fun ρ S => (fa ρ S).bnd fun x S1 => R.of (g x) S1
theorem de_neg (ha : De X a fa) : De X (.UnaryOp .USub a pos) (mUn gNeg fa) :=
  PE.weak (pe_un un_neg ha) fun σ H Q ⟨ρ, S, mu, B, O, rl, w, S', e1, q⟩ => by
    obtain ⟨x, S1, e2, e1⟩ := R.bnd_inv e1
    obtain ⟨e3, rfl⟩ := R.of_inv e1
    refine tD.mk rl e2 fun v H1 mu1 E r p => ?_
    cases p with
    | int i =>
      cases e3
      exact ⟨i, rfl, q _ H1 mu1 E r.sto (.int _)⟩
    | _ => cases e3
def mChain (g g' : Wd → Wd → Option Wd) (fa fb fc : Mx) : Mx := fun ρ S => (fa ρ S).bnd fun x S1 => (fb ρ S1).bnd fun y S2 => match g x y with
  | some (.bool true) => (fc ρ S2).bnd fun z S3 => R.of (g' y z) S3
  | some (.bool false) => .ok (.bool false) S2
  | _ => .bad
end
section
variable {X : Cx} {e : Expr} {es : List Expr} {f : Mx} {fs : Ma} {pos p : Pos}
def aNil : Ma := fun _ S => .ok [] S
def aCons (f : Mx) (fs : Ma) : Ma := fun ρ S => (f ρ S).bnd fun x S1 => (fs ρ S1).bnd fun xs S2 => .ok (x :: xs) S2
theorem da_nil : Da X [] aNil := PA.weak pa_nil fun σ H Q ⟨ρ, S, mu, B, O, rl, w, S', e1, q⟩ => by
  cases e1
  exact q [] H mu (.refl _ _) rl.sto .nil
theorem da_cons (ha : De X e f) (hr : Da X es fs) (hs : starEach (e :: es) X.env = (false, eval e X.env) :: starEach es X.env := by rfl) : Da X (e :: es) (aCons f fs) :=
  PA.weak (pa_cons ha hr hs) fun σ H Q ⟨ρ, S, mu, B, O, rl, w, S', e1, q⟩ => by
    obtain ⟨x, S1, e2, e1⟩ := R.bnd_inv e1
    obtain ⟨xs, S2, e3, e1⟩ := R.bnd_inv e1
    cases e1
    refine tD.mk rl e2 fun v H1 mu1 E r p1 => ?_
    exact tDa.mk r e3 fun vs H2 mu2 E2 r2 p2 => q _ H2 mu2 (E.trans E2) r2.sto (.cons (p1.ext E2) p2)
def mCB (g : List Wd → Option Wd) (fs : Ma) : Mx := fun ρ S => (fs ρ S).bnd fun xs S1 => R.of (g xs) S1
theorem cb_weak {g : List Wd → Option Wd} {fs : Ma} (K : Fg) : ∀ σ H Q, tD K (mCB g fs) σ H Q → tCB (rCD K g) (tDa K fs) σ H Q := fun σ H Q ⟨ρ, S, mu, B, O, rl, w, S', e1, q⟩ => by
  obtain ⟨xs, S1, e2, e1⟩ := R.bnd_inv e1
  obtain ⟨e3, rfl⟩ := R.of_inv e1
  exact tDa.mk rl e2 fun vs H1 mu1 E r p1 => ⟨mu1, _, S1, xs, w, r.sto, r.bn, p1, e3, fun v H2 sm pv => q v H2 mu1 (E.trans (.same sm)) (r.sto.same sm) pv⟩
theorem de_callB {id : String} {x : Str} {g : List Wd → Option Wd} (hc : CallD X (.builtin id) g) (hg : Gl X x) (hm : X.mg x = none) (hv : bootBuiltins x = some (.builtin id)) (ha : Da X (e :: es) fs) (hn : x ≠ "__name__" := by decide) (hdb : (x == ("__debug__" : Str)) = false := by decide)
    (he : starEach (e :: es) X.env = (false, eval e X.env) :: starEach es X.env := by rfl) (hpl : (backTo pos (starEach es X.env)).any (·.1) = false := by rfl) : De X (.Call (.Name x p) (e :: es) [] pos) (mCB g fs) :=
  PE.weak (pe_callB hc.r hg hm hv ha hn hdb he hpl) (cb_weak X.K)
theorem de_callTy {T : String} {x : Str} {g : List Wd → Option Wd} (hc : CallD X (.type T) g) (hg : Gl X x) (hm : X.mg x = none) (hv : bootBuiltins x = some (.type T)) (ha : Da X (e :: es) fs) (hn : x ≠ "__name__" := by decide) (hdb : (x == ("__debug__" : Str)) = false := by decide)
    (he : starEach (e :: es) X.env = (false, eval e X.env) :: starEach es X.env := by rfl) (hp : (backTo pos (starEach es X.env)).any (·.1) = false := by rfl) : De X (.Call (.Name x p) (e :: es) [] pos) (mCB g fs) :=
  PE.weak (pe_callTy hc.r hg hm hv ha hn hdb he hp) (cb_weak X.K)
end
end DL
namespace DL
open PySem PySem.Spec PyProof.Rows L2
section
variable {X : Cx}
def gLen : List Wd → Option Wd
  | [.str y] => if y.length ≤ sizeLine then some (.int y.length) else none
  | [.list ys] => some (.int ys.length)
  | [.tuple ys] => some (.int ys.length)
  | _ => none
theorem cd_len : CallD X (.builtin "len") gLen := by
  intro pins s σ H xs us Q mu T S ws w I r st bn p e q
  unfold gLen at e
  split at e
  · obtain ⟨hz, rfl⟩ := ite_inv e
    cases p with
    | cons p1 p2 =>
      cases p1; cases p2
      exact call_len pins s σ H _ us Q I r ⟨_, _, rfl, ⟨hz, rfl⟩, q _ H (Same.refl H) (.int _)⟩
  · cases e
    cases p with
    | cons p1 p2 =>
      cases p2
      cases p1 with
      | lst a b => exact call_len pins s σ H _ us Q I r ⟨_, _, rfl, .inl ⟨_, a.sq, rfl⟩, q _ H (Same.refl H) (by rw [b.length]; exact .int _)⟩
  · cases e
    cases p with
    | cons p1 p2 =>
      cases p2
      cases p1 with
      | tup a b => exact call_len pins s σ H _ us Q I r ⟨_, _, rfl, .inr ⟨_, a.sq, rfl⟩, q _ H (Same.refl H) (by rw [b.length]; exact .int _)⟩
  · cases e
def intsD : List Wd → Option (List Int)
  | [] => some []
  | .int i :: r => (intsD r).map (i :: ·)
  | _ => none
def boolsD : List Wd → Option (List Bool)
  | [] => some []
  | .bool i :: r => (boolsD r).map (i :: ·)
  | _ => none
theorem ints_of {K : Fg} {mu : List Addr} {T : Addr → Prop} {H : Hp} : ∀ {vs : List V} {ws : List Wd} {ns : List Int}, RpAll K mu T H vs ws → intsD ws = some ns → vs = ns.map V.int
  | [], [], _, _, e => by cases e; rfl
  | v :: vs, w :: ws, ns, h, e => by
    cases h with
    | cons a b =>
      cases a with
      | int i =>
        obtain ⟨m, e1, rfl⟩ := Option.map_eq_some_iff.mp (show (intsD ws).map (i :: ·) = some ns from e)
        rw [ints_of b e1]
        rfl
      | _ => cases e
theorem bools_of {K : Fg} {mu : List Addr} {T : Addr → Prop} {H : Hp} : ∀ {vs : List V} {ws : List Wd} {ns : List Bool}, RpAll K mu T H vs ws → boolsD ws = some ns → vs = ns.map V.bl
  | [], [], _, _, e => by cases e; rfl
  | v :: vs, w :: ws, ns, h, e => by
    cases h with
    | cons a b =>
      cases a with
      | bl i =>
        obtain ⟨m, e1, rfl⟩ := Option.map_eq_some_iff.mp (show (boolsD ws).map (i :: ·) = some ns from e)
        rw [bools_of b e1]
        rfl
      | _ => cases e
def gAll : List Wd → Option Wd
  | [.list ys] => (boolsD ys).map fun ns => .bool (ns.all id)
  | _ => none
def gAny : List Wd → Option Wd
  | [.list ys] => (boolsD ys).map fun ns => .bool (ns.any id)
  | _ => none
theorem cd_all (hc : X.calm = true) : CallD X (.builtin "all") gAll := by
  intro pins s σ H xs us Q mu T S ws w I r st bn p e q
  unfold gAll at e
  split at e
  · obtain ⟨ns, e1, rfl⟩ := Option.map_eq_some_iff.mp e
    cases p with
    | cons p1 p2 =>
      cases p2
      cases p1 with
      | lst a b =>
        have z := bools_of b e1
        subst z
        exact cr_all hc pins s σ H _ us Q I r ⟨_, _, rfl, a.sq, q _ H (Same.refl H) (.bl _)⟩
  · cases e
theorem cd_any (hc : X.calm = true) : CallD X (.builtin "any") gAny := by
  intro pins s σ H xs us Q mu T S ws w I r st bn p e q
  unfold gAny at e
  split at e
  · obtain ⟨ns, e1, rfl⟩ := Option.map_eq_some_iff.mp e
    cases p with
    | cons p1 p2 =>
      cases p2
      cases p1 with
      | lst a b =>
        have z := bools_of b e1
        subst z
        exact cr_any hc pins s σ H _ us Q I r ⟨_, _, rfl, a.sq, q _ H (Same.refl H) (.bl _)⟩
  · cases e
def maxL : List Int → Option Int
  | [] => none
  | [x] => some x
  | x :: r => (maxL r).map fun y => if x < y then y else x
def gMax : List Wd → Option Wd
  | [.int i, .int j] => some (.int (if j > i then j else i))
  | [.list ys] => (intsD ys).bind fun ns => (maxL ns).map .int
  | _ => none
def gInt : List Wd → Option Wd
  | [.int i] => some (.int i)
  | [.bool k] => some (.int (if k then 1 else 0))
  | _ => none
theorem cd_int : CallD X (.type "int") gInt := by
  intro pins s σ H xs us Q mu T S ws w I r st bn p e q
  unfold gInt at e
  split at e
  · cases e
    cases p with
    | cons p1 p2 =>
      cases p1; cases p2
      exact call_int1 pins s σ H _ us Q I r (.inl ⟨_, rfl, q _ H (Same.refl H) (.int _)⟩)
  · cases e
    cases p with
    | cons p1 p2 =>
      cases p1; cases p2
      exact call_int1 pins s σ H _ us Q I r (.inr ⟨_, rfl, q _ H (Same.refl H) (.int _)⟩)
  · cases e
def gList : List Wd → Option Wd
  | [.list ys] => some (.list ys)
  | [.tuple ys] => some (.list ys)
  | _ => none
theorem cd_list : CallD X (.type "list") gList := by
  intro pins s σ H xs us Q mu T S ws w I r st bn p e q
  unfold gList at e
  split at e
  · cases e
    cases p with
    | cons p1 p2 =>
      cases p2
      cases p1 with
      | lst a b => exact call_list_of pins s σ H _ us Q I r ⟨_, _, rfl, .inl a.sq, fun l hl => q _ _ (same_upd hl) (new_lst st bn b hl)⟩
  · cases e
    cases p with
    | cons p1 p2 =>
      cases p2
      cases p1 with
      | tup a b => exact call_list_of pins s σ H _ us Q I r ⟨_, _, rfl, .inr a.sq, fun l hl => q _ _ (same_upd hl) (new_lst st bn b hl)⟩
  · cases e
def gTuple : List Wd → Option Wd
  | [.list ys] => some (.tuple ys)
  | [.tuple ys] => some (.tuple ys)
  | _ => none
theorem cd_tuple : CallD X (.type "tuple") gTuple := by
  intro pins s σ H xs us Q mu T S ws w I r st bn p e q
  unfold gTuple at e
  split at e
  · cases e
    cases p with
    | cons p1 p2 =>
      cases p2
      obtain ⟨u, rfl, rx⟩ := vals1 r
      cases p1 with
      | lst a b =>
        cases rx
        obtain ⟨its, r', pl, hz⟩ := I.list a.sq
        have hlen := r'.length
        refine call_tuple_list pl.isList (fun h' kp => ?_) (by simp only [List.size_toArray] <;> omega)
        have I1 : Inv X pins σ H { s with heap := h' } := I.kept (t' := s.toks) kp
        have I2 := Inv.ftup (t' := s.toks) I1 r' hz
        have n1 : H h'.objs.size = none := I1.hok.fresh (Nat.le_refl _)
        exact ⟨.ref h'.objs.size, _, I2, rfl, q _ _ (same_upd n1) (new_tup st bn b n1 rfl)⟩
  · cases e
    cases p with
    | cons p1 p2 =>
      cases p2
      cases p1 with
      | tup a b => exact call_tupleT pins s σ H _ us Q I r ⟨_, _, rfl, a.sq, q _ H (Same.refl H) (.tup a b)⟩
  · cases e
def gRepr : List Wd → Option Wd
  | [d] => if d.showable = true ∧ SeqAt.shaped d = true ∧ d.shown.length ≤ sizeLine then some (.str d.shown) else none
  | _ => none
theorem cd_repr (hg : X.A.guards = some []) (hu : X.A.units + 66 < cLine) : CallD X (.builtin "repr") gRepr := by
  intro pins s σ H xs us Q mu T S ws w I r st bn p e q
  unfold gRepr at e
  split at e
  · rename_i d
    obtain ⟨⟨h1, h2, h3⟩, rfl⟩ := ite_inv e
    have hdep := SeqAt.depth_of_shaped h2
    have hnd := PyData.hasDict_of_canLay d (SeqAt.canLay_of_shaped h2)
    cases p with
    | @cons v _ _ _ p1 p2 =>
      cases p2
      obtain ⟨u, rfl, rx⟩ := vals1 r
      have fin : ∀ (h' : Heap) (t : Tok) (tk : Nat), (∀ b o, s.heap.get? b = some o → h'.get? b = some o) → EP X pins σ Q (.str d.shown t) { s with heap := h', toks := tk } := fun h' t tk k =>
        ⟨.str d.shown, H, I.kept k, ⟨t, rfl⟩, q _ H (Same.refl H) (.str _)⟩
      obtain ⟨as, rd⟩ := Dp.reads I d v u (Rp.dp _ _ p1 (SeqAt.canLay_of_shaped h2)) rx
      cases p1 with
      | non => cases rx; exact PySem.P.repr_of_none (fin s.heap _ _ fun _ _ z => z)
      | bl b => cases rx; exact PySem.P.repr_of_bool (fin s.heap _ _ fun _ _ z => z)
      | int i =>
        obtain ⟨t, rfl⟩ := rx
        exact PySem.P.repr_of_int (of_decide_eq_true h1) (fin s.heap _ _ fun _ _ z => z)
      | str x =>
        obtain ⟨t, rfl⟩ := rx
        exact PySem.P.repr_of_str (fin s.heap _ _ fun _ _ z => z) h3
      | lst a b => cases rx; exact repr_of_reads' rd h1 (PyData.noDict_hsm hnd) hg (by omega) (fun _ _ z => z) (fun h' t tk k => fin h' t tk k) h3
      | tup a b => cases rx; exact repr_of_reads' rd h1 (PyData.noDict_hsm hnd) hg (by omega) (fun _ _ z => z) (fun h' t tk k => fin h' t tk k) h3
      | dct a b => cases hnd
      | obj a => cases hnd
  · cases e
end
end DL
namespace DL
open PySem PySem.Spec PyProof.Rows L2
section
variable {X : Cx} {es : List Expr} {fs : Ma} {pos : Pos}
def mLst (fs : Ma) : Mx := fun ρ S => (fs ρ S).bnd fun ws S1 => if ws.length ≤ sizeLine then .ok (.list ws) S1 else .bad
def mTup (fs : Ma) : Mx := fun ρ S => (fs ρ S).bnd fun ws S1 => if ws.length ≤ sizeLine then .ok (.tuple ws) S1 else .bad
theorem okIte {α : Type} {c : Prop} [Decidable c] {a b : α} {S S' : Sto} (h : (if c then R.ok a S else R.bad) = R.ok b S') : c ∧ a = b ∧ S = S' := by
  by_cases q : c
  · rw [if_pos q] at h
    cases h
    exact ⟨q, rfl, rfl⟩
  · rw [if_neg q] at h
    cases h
theorem de_lst (h : Da X es fs) : De X (.List es pos) (mLst fs) :=
  PE.weak (pe_lst h) fun σ H Q ⟨ρ, S, mu, B, O, rl, w, S', e1, q⟩ => by
    obtain ⟨ws, S1, e2, e1⟩ := R.bnd_inv e1
    obtain ⟨hz, rfl, rfl⟩ := okIte e1
    exact tDa.mk rl e2 fun vs H1 mu1 E r p => ⟨by rw [p.length]; exact hz, fun l hl => q _ _ mu1 (E.trans (.same (same_upd hl))) (r.sto.same (same_upd hl)) (new_lst r.sto r.bn p hl)⟩
theorem de_tup {k : Nat} (h : Da X es fs) : De X (.Tuple es k pos) (mTup fs) := by
  refine ⟨fun pins s σ H Q I ⟨ρ, S, mu, B, O, rl, w, S', e1, q⟩ => ?_⟩
  obtain ⟨ws, S1, e2, e1⟩ := R.bnd_inv e1
  obtain ⟨hz, rfl, rfl⟩ := okIte e1
  refine wpAny_Tuple_spliced (thn (h.run pos pins s σ H (fun vs H1 => ∃ mu1, Ext mu mu1 H H1 ∧ Rel X.K mu1 B O H1 σ ρ S1 ∧ RpAll X.K mu1 (fun a => B a ∨ O a) H1 vs ws) I (tDa.mk rl e2 fun vs H1 mu1 E r p => ⟨mu1, E, r, p⟩)) fun us s1 ⟨xs, H1, I1, r, mu1, E, rl1, p⟩ => ?_)
  have hl : xs.length ≤ sizeLine := by rw [p.length]; exact hz
  refine ⟨by rw [← r.length]; exact hl, ?_⟩
  have nf : H1 s1.heap.objs.size = none := I1.hok.fresh (Nat.le_refl _)
  exact ⟨.ref s1.heap.objs.size, _, Inv.ftup (t' := s1.toks) I1 r hl, rfl, q _ _ mu1 (E.trans (.same (same_upd nf))) (rl1.sto.same (same_upd nf)) (new_tup rl1.sto rl1.bn p nf rfl)⟩
end
def recGet (S : Sto) (l : Nat) (x : Str) : Option Wd := match S[l]? with
  | some (.dct fs) => fs.lookup x
  | _ => none
def putS (x : Str) (w : Wd) (fs : List (Str × Wd)) : List (Str × Wd) := if (fs.any fun q => decide (q.1 = x)) = true then fs.map (fun q => if q.1 = x then (q.1, w) else q) else fs ++ [(x, w)]
def recPut (S : Sto) (l : Nat) (x : Str) (w : Wd) : Option Sto := match S[l]? with
  | some (.dct fs) => if fs.length < sizeLine then some (S.set l (.dct (putS x w fs))) else none
  | _ => none
section
variable {K : Fg} {mu : List Addr} {T : Addr → Prop} {H : Hp} {S : Sto}
theorem FsR.look : ∀ {kvs : List (Key × V)} {fs : List (Str × Wd)} {x : Str} {w : Wd}, FsR K mu T H kvs fs → fs.lookup x = some w → ∃ v, valV kvs (Sum.inr x) = some v ∧ Rp K mu T H v w
  | [], [], _, _, _, e => by cases e
  | (k, v) :: r, (y, d) :: ds, x, w, h, e => by
    obtain ⟨rfl, h1, h2⟩ := h
    rw [List.lookup_cons] at e
    by_cases c : x = y
    · subst c
      rw [beq_self_eq_true] at e
      cases e
      exact ⟨v, valV_pos rfl, h1⟩
    · rw [beq_eq_false_iff_ne.mpr c] at e
      obtain ⟨v', e1, e2⟩ := FsR.look h2 e
      exact ⟨v', by rw [valV_neg (fun z => c (Sum.inr.inj z).symm)]; exact e1, e2⟩
  | [], _ :: _, _, _, h, _ => h.elim
  | _ :: _, [], _, _, h, _ => h.elim
theorem FsR.mapPut {v : V} {w : Wd} (x : Str) (p : Rp K mu T H v w) : ∀ {kvs : List (Key × V)} {fs : List (Str × Wd)}, FsR K mu T H kvs fs →
    FsR K mu T H (kvs.map fun q => if q.1 = Sum.inr x then (q.1, v) else q) (fs.map fun q => if q.1 = x then (q.1, w) else q)
  | [], [], _ => trivial
  | (k, v') :: r, (y, d) :: ds, h => by
    obtain ⟨rfl, h1, h2⟩ := h
    have ih := FsR.mapPut x p h2
    rw [List.map_cons, List.map_cons]
    by_cases c : y = x
    · subst c
      rw [if_pos rfl, if_pos rfl]
      exact ⟨rfl, p, ih⟩
    · rw [if_neg c, if_neg (fun z => c (Sum.inr.inj z))]
      exact ⟨rfl, h1, ih⟩
  | [], _ :: _, h => h.elim
  | _ :: _, [], h => h.elim
theorem FsR.snoc {v : V} {w : Wd} (x : Str) (p : Rp K mu T H v w) : ∀ {kvs : List (Key × V)} {fs : List (Str × Wd)}, FsR K mu T H kvs fs → FsR K mu T H (kvs ++ [(Sum.inr x, v)]) (fs ++ [(x, w)])
  | [], [], _ => ⟨rfl, p, trivial⟩
  | (k, v') :: r, (y, d) :: ds, h => ⟨h.1, h.2.1, FsR.snoc x p h.2.2⟩
  | [], _ :: _, h => h.elim
  | _ :: _, [], h => h.elim
theorem FsR.put {v : V} {w : Wd} (x : Str) (p : Rp K mu T H v w) {kvs : List (Key × V)} {fs : List (Str × Wd)} (h : FsR K mu T H kvs fs) : FsR K mu T H (putK kvs (Sum.inr x) v) (putS x w fs) := by
  unfold putK putS
  rw [FsR.any x h]
  split
  · exact FsR.mapPut x p h
  · exact FsR.snoc x p h
theorem Ext.at_mu {a : Addr} {o : HO} (h : a ∈ mu) : Ext mu mu H (upd H a o) := ⟨fun _ _ q => q, fun b x e n => by rw [upd_ne (show b ≠ a from fun z => n (z ▸ h))]; exact e, fun _ q n => absurd q n⟩
theorem nodup_ad {N : List Addr} (hN : N.Nodup) {i j : Nat} {x : Addr} (p : N[i]? = some x) (q : N[j]? = some x) : i = j := by
  obtain ⟨h1, e1⟩ := List.getElem?_eq_some_iff.mp p
  obtain ⟨h2, e2⟩ := List.getElem?_eq_some_iff.mp q
  exact (List.getElem_inj hN).mp (e1.trans e2.symm)
theorem StOk.put (st : StOk K mu T H S) {l : Nat} {a : Addr} {fs : List (Str × Wd)} {kvs : List (Key × V)} {x : Str} {v : V} {w : Wd} (hl : mu[l]? = some a) (hs : S[l]? = some (.dct fs)) (hH : H a = some (.dK kvs)) (hf : FsR K mu T H kvs fs) (p : Rp K mu T H v w) :
    StOk K mu T (upd H a (.dK (putK kvs (Sum.inr x) v))) (S.set l (.dct (putS x w fs))) := by
  have hm : a ∈ mu := List.mem_of_getElem? hl
  have ex : Ext mu mu H (upd H a (.dK (putK kvs (Sum.inr x) v))) := .at_mu hm
  refine ⟨by rw [List.length_set]; exact st.len, st.nd, fun j b r h1 h2 => ?_⟩
  by_cases c : j = l
  · subst c
    rw [hl] at h1
    cases h1
    have hj : j < S.length := (List.getElem?_eq_some_iff.mp hs).1
    rw [List.getElem?_set_self hj] at h2
    cases h2
    exact ⟨_, upd_same, FsR.map (fun _ _ z => z.ext ex) (hf.put x p)⟩
  · rw [List.getElem?_set_ne (Ne.symm c)] at h2
    have nb : b ≠ a := fun z => c (nodup_ad st.nd h1 (z ▸ hl))
    exact RecOk.map (fun _ z => by rw [upd_ne nb]; exact z) (fun _ _ z => z.ext ex) (fun c _ _ z n => ⟨ex.keep _ _ z n, n⟩) (st.ok j b r h1 h2)
theorem StOk.newRec (st : StOk K mu T H S) {p : Addr} {kvs0 kvs : List (Key × V)} {fs : List (Str × Wd)} (hp : H p = some (.dK kvs0)) (np : p ∉ mu) (tp : T p) (bn : Bn mu T H) (hf : FsR K mu T H kvs fs) :
    StOk K (mu ++ [p]) T (upd H p (.dK kvs)) (S ++ [.dct fs]) := by
  have up : ∀ v w, Rp K mu T H v w → Rp K (mu ++ [p]) T (upd H p (.dK kvs)) v w := fun v w h => by
    have h1 : Rp K mu T (upd H p (.dK kvs)) v w := h.at_ban tp
    refine Rp.map (fun a xs z => z.imp (fun z => ⟨z.1, fun m => ?_, z.2.2⟩) id) (fun a xs z => z.imp (fun z => ⟨z.1, fun m => ?_, z.2.2⟩) id) (fun a xs z => ⟨z.1, fun m => ?_, z.2.2⟩) (fun l a z => ?_) _ _ h1
    · rcases List.mem_append.mp m with m | m
      · exact z.2.1 m
      · rw [List.mem_singleton] at m
        exact z.2.2 (m ▸ tp)
    · rcases List.mem_append.mp m with m | m
      · exact z.2.1 m
      · rw [List.mem_singleton] at m
        exact z.2.2 (m ▸ tp)
    · rcases List.mem_append.mp m with m | m
      · exact z.2.1 m
      · rw [List.mem_singleton] at m
        exact z.2.2 (m ▸ tp)
    · rw [List.getElem?_append_left (List.getElem?_eq_some_iff.mp z).1]
      exact z
  refine ⟨by rw [List.length_append, List.length_append, st.len]; rfl, ?_, fun l a r h1 h2 => ?_⟩
  · rw [List.nodup_append]
    refine ⟨st.nd, by simp, fun x hx y hy => ?_⟩
    rw [List.mem_singleton] at hy
    subst hy
    exact fun e => np (e ▸ hx)
  · by_cases c : l < S.length
    · rw [List.getElem?_append_left c] at h2
      rw [List.getElem?_append_left (by rw [st.len]; exact c)] at h1
      have na : a ≠ p := fun e => np (e ▸ List.mem_of_getElem? h1)
      exact RecOk.map (fun _ z => by rw [upd_ne na]; exact z) up (fun c o f z n => have ne : c ≠ p := fun e => by rw [e, hp] at z; cases z; rcases f with ⟨_, _, f⟩ | ⟨_, f⟩ | ⟨_, f⟩ <;> exact (nomatch f)
        ⟨by rw [upd_ne ne]; exact z, fun m => (List.mem_append.mp m).elim n fun m => ne (List.mem_singleton.mp m)⟩) (st.ok l a r h1 h2)
    · rw [List.getElem?_append_right (by omega)] at h2
      rw [List.getElem?_append_right (by rw [st.len]; omega)] at h1
      have hl : l - S.length = 0 := by
        have := (List.getElem?_eq_some_iff.mp h2).1
        simp at this
        omega
      rw [st.len, hl] at h1
      rw [hl] at h2
      cases h1
      cases h2
      exact ⟨kvs, upd_same, FsR.map up hf⟩
end
def keyD : Wd → Bool
  | .int _ => true
  | .str _ => true
  | _ => false
def gIx (S : Sto) : Wd → Wd → Option Wd
  | .list ys, .int i => atI ys i
  | .tuple ys, .int i => atI ys i
  | .str z, .int i => if z.length ≤ sizeLine then (atI z.cps.toList i).map fun c => .str ⟨#[c]⟩ else none
  | .dict [(.none, .int (.ofNat l))], .str x => recGet S l x
  | .dict ys, k => if keyD k = true then lookD ys k else none
  | _, _ => none
def mIx (fa fb : Mx) : Mx := fun ρ S => (fa ρ S).bnd fun x S1 => (fb ρ S1).bnd fun y S2 => R.of (gIx S2 x y) S2
section
variable {K : Fg} {mu : List Addr} {T : Addr → Prop} {H : Hp} {S : Sto}
theorem atI_rp {vs : List V} {ws : List Wd} {i : Int} {w : Wd} (h : RpAll K mu T H vs ws) (e : atI ws i = some w) : ∃ v, atI vs i = some v ∧ Rp K mu T H v w := by
  unfold atI at e ⊢
  rw [h.length]
  cases z : ixN ws.length i with
  | none =>
    rw [z] at e
    cases e
  | some j =>
    rw [z] at e
    obtain ⟨v, e1, e2⟩ := h.get (show ws[j]? = some w from e)
    exact ⟨v, e1, e2⟩
theorem eqv_key (k k' : Key) : PyData.eqv (kW k) (kW k') = decide (k = k') := by
  cases k with
  | inl i => cases k' with
    | inl j => rw [key_ll]; rfl
    | inr y => rw [key_lr]; rfl
  | inr x => cases k' with
    | inl j => rw [key_rl]; rfl
    | inr y =>
      rw [key_rr]
      show (x == y) = decide (x = y)
      by_cases c : x = y
      · subst c
        simp
      · rw [decide_eq_false c]
        exact beq_eq_false_iff_ne.mpr c
theorem kv_keys : ∀ {kvs : List (Key × V)} {ds : List (Wd × Wd)}, RpKv K mu T H kvs ds → ∀ q ∈ ds, q.1 ≠ .none
  | [], [], _, q, hq => by cases hq
  | (k, v) :: r, (_, d) :: ds, h, q, hq => by
    cases h with
    | cons a b =>
      rcases List.mem_cons.mp hq with rfl | hq
      · exact kW_ne
      · exact kv_keys b q hq
theorem kv_none {kvs : List (Key × V)} {d : Wd} {ds : List (Wd × Wd)} (h : RpKv K mu T H kvs ((.none, d) :: ds)) : False := kv_keys h (.none, d) List.mem_cons_self rfl
theorem look_kv (k : Key) : ∀ {kvs : List (Key × V)} {ds : List (Wd × Wd)} {w : Wd}, RpKv K mu T H kvs ds → lookD ds (kW k) = some w → ∃ v, valV kvs k = some v ∧ Rp K mu T H v w
  | [], [], _, _, e => by cases e
  | (k', v) :: r, (_, d) :: ds, w, h, e => by
    cases h with
    | cons a b =>
      unfold lookD at e
      rw [eqv_key] at e
      by_cases c : k' = k
      · rw [decide_eq_true c, if_pos rfl] at e
        cases e
        exact ⟨v, valV_pos c, a⟩
      · rw [decide_eq_false c, if_neg Bool.false_ne_true] at e
        obtain ⟨v', e1, e2⟩ := look_kv k b e
        exact ⟨v', by rw [valV_neg c]; exact e1, e2⟩
end
section
variable {X : Cx} {a b : Expr} {fa fb : Mx} {pos : Pos}
theorem tail_of {prog : Program} {w : World} {A : Around} {E : Value → Shared → Prop} {s : Shared} {value slice : Expr} {o i : Value} {Tn id : String} {Q : Value → Shared → Prop} (hT : s.TypeIs o Tn) (hl : typeLookup (.type Tn) "__getitem__" = pure (some (.builtin id)))
    (hs : subscripted slice false o i = operate [o, i] (getItem o i)) (h : wpAny (model prog w) A (getItem o i) Q E s) : wpAny (model prog w) A (subscriptTail value slice o i) Q E s := by
  have go : wpAny (model prog w) A (subscripted slice false o i) (fun r s₃ => wpAny (model prog w) A (letTemporaryGo value o r >>= fun _ => pure r) Q E s₃) E s := by
    rw [hs]
    exact wpAny_operating (thn h fun r s₃ h₃ => wpAny_bind (wpAny_letTemporaryGo (wpAny_pure h₃)))
  unfold subscriptTail
  refine wpAny_bind ?_
  rw [getitemInPython_of_ne hT.not_modules]
  refine wpAny_bind (wpAny_specialOf hT hl ?_)
  first
    | exact wpAny_pure (wpAny_bind go)
    | exact wpAny_bind (wpAny_pure (wpAny_bind go))
    | exact wpAny_bind go
theorem de_ix (hu : X.A.units + 1 < cLine) (ha : De X a fa) (hb : De X b fb) (hs : PlainIx b) : De X (.Subscript a b pos) (mIx fa fb) := by
  refine ⟨fun pins s σ H Q I ⟨ρ, S, mu, B, O, rl, w, S', e, q⟩ => ?_⟩
  obtain ⟨x, S1, e1, e⟩ := R.bnd_inv e
  obtain ⟨y, S2, e2, e⟩ := R.bnd_inv e
  obtain ⟨e3, rfl⟩ := R.of_inv e
  refine Subscript_ (thn (ha.run pins s σ H (fun x' H1 => ∃ mu1, Ext mu mu1 H H1 ∧ Rel X.K mu1 B O H1 σ ρ S1 ∧ Rp X.K mu1 (fun a => B a ∨ O a) H1 x' x) I (tD.mk rl e1 fun v H1 mu1 h1 h2 h3 => ⟨mu1, h1, h2, h3⟩)) fun v s1 ⟨x', H1, I1, r1, mu1, E1, rl1, p1⟩ => ?_)
  refine thn (hb.run pins s1 σ H1 (fun y' H2 => ∃ mu2, Ext mu1 mu2 H1 H2 ∧ Rel X.K mu2 B O H2 σ ρ S2 ∧ Rp X.K mu2 (fun a => B a ∨ O a) H2 y' y) I1 (tD.mk rl1 e2 fun v H1 mu1 h1 h2 h3 => ⟨mu1, h1, h2, h3⟩)) fun u s2 ⟨y', H2, I2, r2, mu2, E2, rl2, p2⟩ => ?_
  have p1 := p1.ext E2
  have fin : ∀ {z : V}, Rp X.K mu2 (fun a => B a ∨ O a) H2 z w → Q z H2 := fun {z} p => q z H2 mu2 (E1.trans E2) rl2.sto p
  have dict : ∀ {ad : Addr} {z : V}, x' = .ref ad → DGet H2 ad y' (some z) → Q z H2 → wpAny (model X.prog X.w) X.A (subscriptTail a b v u) (EP X pins σ Q) X.xe s2 := fun {ad z} ex g qz => by
    subst ex
    cases r1
    exact tail_of (dict_typeIs I2 g) PySem.F.slot_dict_getitem.lookup (hs _ _) (d_getItem hu I2 g r2 fun w' s3 I3 rw' => ⟨z, H2, I3, rw', qz⟩)
  unfold gIx at e3
  split at e3
  · cases p1 with
    | lst h1 h2 =>
      cases p2
      obtain ⟨z, z1, z2⟩ := atI_rp h2 e3
      exact ix_list a b pins s2 σ H2 _ _ v u Q I2 r1 r2 ⟨_, _, _, z, rfl, rfl, h1.sq, z1, fin z2⟩ (hs _ _)
  · cases p1 with
    | tup h1 h2 =>
      cases p2
      obtain ⟨z, z1, z2⟩ := atI_rp h2 e3
      exact ix_tup a b pins s2 σ H2 _ _ v u Q I2 r1 r2 ⟨_, _, _, z, rfl, rfl, h1.sq, z1, fin z2⟩ (hs _ _)
  · split at e3
    · rename_i hz
      obtain ⟨c, c1, rfl⟩ := Option.map_eq_some_iff.mp e3
      cases p1; cases p2
      exact ix_str a b pins s2 σ H2 _ _ v u Q I2 r1 r2 ⟨_, _, c, rfl, rfl, hz, c1, fin (.str _)⟩ (hs _ _)
    · cases e3
  · rename_i l nm
    cases p2
    cases p1 with
    | obj hl =>
      unfold recGet at e3
      split at e3
      · rename_i fs hS
        obtain ⟨kvs, h1, h2⟩ := rl2.sto.ok _ _ _ hl hS
        obtain ⟨z, z1, z2⟩ := h2.look e3
        refine dict (z := z) rfl ?_ (fin z2)
        rw [← z1]
        exact DGet.k (k := Sum.inr _) h1
      · cases e3
    | dct h1 h2 => exact (kv_none h2).elim
  · rename_i ys k hne
    split at e3
    · rename_i hk
      cases p1 with
      | dct h1 h2 =>
        cases p2 with
        | int i =>
          obtain ⟨z, z1, z2⟩ := look_kv (Sum.inl i) h2 e3
          refine dict (z := z) rfl ?_ (fin z2)
          rw [← z1]
          exact DGet.k (k := Sum.inl i) h1.1
        | str i =>
          obtain ⟨z, z1, z2⟩ := look_kv (Sum.inr i) h2 e3
          refine dict (z := z) rfl ?_ (fin z2)
          rw [← z1]
          exact DGet.k (k := Sum.inr i) h1.1
        | _ => cases hk
      | obj hl =>
        cases p2 with
        | int i => cases e3
        | str i => cases e3
        | _ => cases hk
    · cases e3
  · cases e3
def cutD (xs : List Wd) (lo hi : Option Int) : List Wd := (xs.drop (HT.sIx xs.length 0 lo)).take (HT.sIx xs.length xs.length hi - HT.sIx xs.length 0 lo)
def gSl (lo hi : Option Int) : Wd → Option Wd
  | .list ys => some (.list (cutD ys lo hi))
  | .tuple ys => some (.tuple (cutD ys lo hi))
  | .str z => if z.length ≤ sizeLine then some (.str (cutS z lo hi)) else none
  | _ => none
abbrev Mo := Ev → Sto → R (Option Int)
def oNone : Mo := fun _ S => .ok none S
def oSome (f : Mx) : Mo := fun ρ S => (f ρ S).bnd fun w S1 => match w with
  | .int i => .ok (some i) S1
  | _ => .bad
def mSl (f : Mx) (lo hi : Mo) : Mx := fun ρ S => (f ρ S).bnd fun x S1 => (lo ρ S1).bnd fun l S2 => (hi ρ S2).bnd fun h S3 => R.of (gSl l h x) S3
def tDo (K : Fg) (f : Mo) : TO := fun σ H Q => ∃ ρ S mu B O, Rel K mu B O H σ ρ S ∧ ∃ w S', f ρ S = .ok w S' ∧ ∀ H' mu', Ext mu mu' H H' → StOk K mu' (fun a => B a ∨ O a) H' S' → Q w H'
def Dso (X : Cx) (e : Option Expr) (f : Mo) : Prop := PO X e (tDo X.K f)
theorem tDo.mk {K : Fg} {ρ : Ev} {S S1 : Sto} {mu : List Addr} {B O : Addr → Prop} {σ : Sg} {H : Hp} {f : Mo} {w : Option Int} {Q : Option Int → Hp → Prop} (rl : Rel K mu B O H σ ρ S) (e : f ρ S = .ok w S1) (q : ∀ H1 mu1, Ext mu mu1 H H1 → Rel K mu1 B O H1 σ ρ S1 → Q w H1) : tDo K f σ H Q :=
  ⟨ρ, S, mu, B, O, rl, w, S1, e, fun H1 mu1 x st => q H1 mu1 x (rl.ext x st)⟩
theorem do_none : Dso X none oNone := ⟨fun pins s σ H Q I ⟨ρ, S, mu, B, O, rl, w, S', e, q⟩ => by
  cases e
  exact po_none.run pins s σ H Q I (q H mu (.refl _ _) rl.sto)⟩
theorem do_some (h : De X a fa) : Dso X (some a) (oSome fa) := ⟨fun pins s σ H Q I ⟨ρ, S, mu, B, O, rl, w, S', e, q⟩ => by
  obtain ⟨x, S1, e1, e⟩ := R.bnd_inv e
  refine (po_some h).run pins s σ H Q I (tD.mk rl e1 fun v H1 mu1 E r p => ?_)
  split at e
  · cases e
    cases p
    exact ⟨_, rfl, q H1 mu1 E r.sto⟩
  · cases e⟩
theorem sl_tupF : SlR X (fun x lo hi H Q => ∃ a xs, x = .ref a ∧ SqT X.K H a xs ∧ (HT.sIx xs.length 0 lo = 0 ∧ HT.sIx xs.length xs.length hi = xs.length → Q (.ref a) H) ∧
    (¬ (HT.sIx xs.length 0 lo = 0 ∧ HT.sIx xs.length xs.length hi = xs.length) → ∀ (p : Addr) (o : Obj), H p = none → o.dict = none → Q (.ref p) (upd H p (.frz o (.tup (cutV xs lo hi)))))) := by
  intro pins s σ H x v vl vu lo hi sl Q I rx hs pl pu h
  obtain ⟨ad, xs, rfl, hx, q1, q2⟩ := h
  cases rx
  obtain ⟨its, r, ht, hz⟩ := I.tuple hx
  have hlen : its.toArray.size = xs.length := by rw [List.size_toArray]; exact r.length.symm
  refine ⟨"tuple", _, PyProof.Rows.slot_tuple_getitem.lookup, ht.typeIs, ?_⟩
  by_cases hw : HT.sIx xs.length 0 lo = 0 ∧ HT.sIx xs.length xs.length hi = xs.length
  · exact getItem_tuple_whole ht hs pl pu (by rw [hlen]; exact hw) ⟨.ref ad, H, I, rfl, q1 hw⟩
  · refine HT.getItem_tuple_cut ht hs pl pu (by rw [hlen]; exact hw) ?_ (by rw [hlen]; exact hz)
    rw [hlen]
    have I2 := Inv.ftup (t' := s.toks) I ((r.drop (HT.sIx xs.length 0 lo)).take (HT.sIx xs.length xs.length hi - HT.sIx xs.length 0 lo)) (Nat.le_trans (cutV_length xs lo hi) hz)
    exact ⟨.ref s.heap.objs.size, _, I2, rfl, q2 hw _ _ (I.hok.fresh (Nat.le_refl _)) rfl⟩
theorem cut_rp {K : Fg} {mu : List Addr} {T : Addr → Prop} {H : Hp} {vs : List V} {ws : List Wd} (lo hi : Option Int) (h : RpAll K mu T H vs ws) : RpAll K mu T H (cutV vs lo hi) (cutD ws lo hi) := by
  unfold cutV cutD
  rw [h.length]
  exact (h.drop _).take _
theorem cut_whole {ws : List Wd} {lo hi : Option Int} (h : HT.sIx ws.length 0 lo = 0 ∧ HT.sIx ws.length ws.length hi = ws.length) : cutD ws lo hi = ws := by
  unfold cutD
  rw [h.1, h.2, Nat.sub_zero]
  exact List.take_length
def rSD (K : Fg) : V → Option Int → Option Int → Hp → VK → Prop := fun x lo hi H Q => ∃ mu T S dx w, StOk K mu T H S ∧ Bn mu T H ∧ Rp K mu T H x dx ∧ gSl lo hi dx = some w ∧ ∀ v H', Same H H' → Rp K mu T H' v w → Q v H'
theorem sl_D : SlR X (rSD X.K) := by
  intro pins s σ H x v vl vu lo hi sl Q I rx hs pl pu ⟨mu, T, S, dx, w, st, bn, p, e, q⟩
  unfold gSl at e
  split at e
  · cases e
    cases p with
    | lst h1 h2 => exact sl_list pins s σ H _ v vl vu lo hi sl Q I rx hs pl pu ⟨_, _, rfl, h1.sq, fun p hp => q _ _ (same_upd hp) (new_lst st bn (cut_rp lo hi h2) hp)⟩
  · cases e
    cases p with
    | tup h1 h2 =>
      refine sl_tupF pins s σ H _ v vl vu lo hi sl Q I rx hs pl pu ⟨_, _, rfl, h1.sq, fun z => ?_, fun _ p o hp d => q _ _ (same_upd hp) (new_tup st bn (cut_rp lo hi h2) hp d)⟩
      rw [h2.length] at z
      rw [cut_whole z] at q
      exact q _ H (Same.refl H) (.tup h1 h2)
  · obtain ⟨hz, rfl⟩ := ite_inv e
    cases p
    exact sl_str pins s σ H _ v vl vu lo hi sl Q I rx hs pl pu ⟨_, rfl, hz, q _ H (Same.refl H) (.str _)⟩
  · cases e
theorem de_slice {lo hi : Option Expr} {fl fh : Mo} {p2 : Pos} (he : De X a fa) (hl : Dso X lo fl) (hh : Dso X hi fh) : De X (.Subscript a (.Slice lo hi none p2) pos) (mSl fa fl fh) :=
  PE.weak (pe_slice sl_D he hl hh) fun σ H Q ⟨ρ, S, mu, B, O, rl, w, S', e, q⟩ => by
    obtain ⟨x, S1, e1, e⟩ := R.bnd_inv e
    obtain ⟨l, S2, e2, e⟩ := R.bnd_inv e
    obtain ⟨h, S3, e3, e⟩ := R.bnd_inv e
    obtain ⟨e4, rfl⟩ := R.of_inv e
    exact tD.mk rl e1 fun v H1 mu1 E1 r1 p1 => tDo.mk r1 e2 fun H2 mu2 E2 r2 => tDo.mk r2 e3 fun H3 mu3 E3 r3 =>
      ⟨mu3, _, S3, x, w, r3.sto, r3.bn, (p1.ext E2).ext E3, e4, fun v H4 sm p4 => q v H4 mu3 (((E1.trans E2).trans E3).trans (.same sm)) (r3.sto.same sm) p4⟩
end
end DL
namespace DL
open PySem PySem.Spec PyProof.Rows L2
structure ExtS (mu mu' : List Addr) (O O' : Addr → Prop) (H H' : Hp) : Prop where
  pre : ∀ (l : Nat) (a : Addr), mu[l]? = some a → mu'[l]? = some a
  keep : ∀ a o, H a = some o → a ∉ mu → ¬ O a → H' a = some o
  new : ∀ a, a ∈ mu' → a ∉ mu → H a = none
  own : ∀ a, O' a → O a ∨ H a = none
  tr : ∀ a, H a ≠ none → H' a ≠ none
section
variable {K : Fg} {mu m1 m2 : List Addr} {B O O1 O2 : Addr → Prop} {H H1 H2 : Hp} {S S1 : Sto}
theorem ExtS.refl (mu : List Addr) (O : Addr → Prop) (H : Hp) : ExtS mu mu O O H H := ⟨fun _ _ h => h, fun _ _ h _ _ => h, fun _ h n => absurd h n, fun _ h => .inl h, fun _ h => h⟩
theorem ExtS.notin (e : ExtS mu m1 O O1 H H1) {a : Addr} {o : HO} (h : H a = some o) (n : a ∉ mu) : a ∉ m1 := fun q => by
  have z := e.new a q n
  rw [h] at z
  cases z
theorem ExtS.trans (a : ExtS mu m1 O O1 H H1) (b : ExtS m1 m2 O1 O2 H1 H2) : ExtS mu m2 O O2 H H2 := by
  have back : ∀ x, H1 x = none → H x = none := fun x z => by
    cases e : H x with
    | none => rfl
    | some o => exact absurd z (a.tr x (by rw [e]; exact fun z => nomatch z))
  refine ⟨fun l x h => b.pre l x (a.pre l x h), fun x o h n no => b.keep x o (a.keep x o h n no) (a.notin h n) fun q => ?_, fun x h n => ?_, fun x h => ?_, fun x h => b.tr x (a.tr x h)⟩
  · rcases a.own x q with q | q
    · exact no q
    · rw [h] at q
      cases q
  · by_cases q : x ∈ m1
    · exact a.new x q n
    · exact back x (b.new x h q)
  · rcases b.own x h with q | q
    · exact a.own x q
    · exact .inr (back x q)
theorem Ext.toS (e : Ext mu m1 H H1) (st : StOk K m1 (fun a => B a ∨ O a) H1 S1) : ExtS mu m1 O O H H1 :=
  ⟨e.pre, fun a o h n _ => e.keep a o h n, e.new, fun _ h => .inl h, fun a h => by
    by_cases q : a ∈ mu
    · obtain ⟨kvs, z⟩ := st.tracked (e.sub q)
      rw [z]
      exact fun z => nomatch z
    · cases z : H a with
      | none => exact absurd z h
      | some o =>
        rw [e.keep a o z q]
        exact fun z => nomatch z⟩
theorem Rp.extS {v : V} {w : Wd} (h : Rp K mu (fun a => B a ∨ O a) H v w) (e : ExtS mu m1 O O1 H H1) : Rp K m1 (fun a => B a ∨ O1 a) H1 v w := by
  have no : ∀ {a : Addr} {o : HO}, H a = some o → ¬ (B a ∨ O a) → ¬ (B a ∨ O1 a) := fun {a o} h1 h2 h3 => by
    rcases h3 with h3 | h3
    · exact h2 (.inl h3)
    · rcases e.own a h3 with z | z
      · exact h2 (.inr z)
      · rw [h1] at z
        cases z
  refine Rp.map (fun a xs z => z.imp (fun z => ?_) id) (fun a xs z => z.imp (fun z => ?_) id) (fun a xs z => ?_) e.pre _ _ h
  · obtain ⟨z1, z2, z3⟩ := z
    rcases z1 with z1 | ⟨o, z1⟩
    · exact ⟨.inl (e.keep _ _ z1 z2 fun q => z3 (.inr q)), e.notin z1 z2, no z1 z3⟩
    · exact ⟨.inr ⟨o, e.keep _ _ z1 z2 fun q => z3 (.inr q)⟩, e.notin z1 z2, no z1 z3⟩
  · obtain ⟨⟨o, d, z1⟩, z2, z3⟩ := z
    exact ⟨⟨o, d, e.keep _ _ z1 z2 fun q => z3 (.inr q)⟩, e.notin z1 z2, no z1 z3⟩
  · obtain ⟨z1, z2, z3⟩ := z
    exact ⟨e.keep _ _ z1 z2 fun q => z3 (.inr q), e.notin z1 z2, no z1 z3⟩
theorem RpAll.extS {v : List V} {w : List Wd} (h : RpAll K mu (fun a => B a ∨ O a) H v w) (e : ExtS mu m1 O O1 H H1) : RpAll K m1 (fun a => B a ∨ O1 a) H1 v w := by
  have no : ∀ {a : Addr} {o : HO}, H a = some o → ¬ (B a ∨ O a) → ¬ (B a ∨ O1 a) := fun {a o} h1 h2 h3 => by
    rcases h3 with h3 | h3
    · exact h2 (.inl h3)
    · rcases e.own a h3 with z | z
      · exact h2 (.inr z)
      · rw [h1] at z
        cases z
  refine RpAll.map (fun a xs z => z.imp (fun z => ?_) id) (fun a xs z => z.imp (fun z => ?_) id) (fun a xs z => ?_) e.pre _ _ h
  · obtain ⟨z1, z2, z3⟩ := z
    rcases z1 with z1 | ⟨o, z1⟩
    · exact ⟨.inl (e.keep _ _ z1 z2 fun q => z3 (.inr q)), e.notin z1 z2, no z1 z3⟩
    · exact ⟨.inr ⟨o, e.keep _ _ z1 z2 fun q => z3 (.inr q)⟩, e.notin z1 z2, no z1 z3⟩
  · obtain ⟨⟨o, d, z1⟩, z2, z3⟩ := z
    exact ⟨⟨o, d, e.keep _ _ z1 z2 fun q => z3 (.inr q)⟩, e.notin z1 z2, no z1 z3⟩
  · obtain ⟨z1, z2, z3⟩ := z
    exact ⟨e.keep _ _ z1 z2 fun q => z3 (.inr q), e.notin z1 z2, no z1 z3⟩
end
def postS (K : Fg) (D : Ends) (mu : List Addr) (B O : Addr → Prop) (H : Hp) : Out → Prop
  | .nx ρ S => ∀ σ' H' mu' O', ExtS mu mu' O O' H H' → Rel K mu' B O' H' σ' ρ S → D.nx σ' H'
  | .rt w S => ∀ v H' mu' O', ExtS mu mu' O O' H H' → StOk K mu' (fun a => B a ∨ O' a) H' S → Rp K mu' (fun a => B a ∨ O' a) H' v w → D.rt v H'
  | .bk ρ S => ∀ σ' H' mu' O', ExtS mu mu' O O' H H' → Rel K mu' B O' H' σ' ρ S → D.bk σ' H'
  | .ct ρ S => ∀ σ' H' mu' O', ExtS mu mu' O O' H H' → Rel K mu' B O' H' σ' ρ S → D.ct σ' H'
  | .bad => False
def tDs (K : Fg) (m : Ms) : TS := fun D σ H => ∃ ρ S mu B O, Rel K mu B O H σ ρ S ∧ postS K D mu B O H (m ρ S)
def Ds (X : Cx) (st : Stmt) (m : Ms) : Prop := PS X st (tDs X.K m)
def Dss (X : Cx) (st : List Stmt) (m : Ms) : Prop := PSs X st (tDs X.K m)
theorem postS.mono {K : Fg} {D D' : Ends} {mu m1 : List Addr} {B O O1 : Addr → Prop} {H H1 : Hp} {o : Out} (e : ExtS mu m1 O O1 H H1) (h : postS K D mu B O H o) (hn : ∀ σ H, D.nx σ H → D'.nx σ H) (hr : ∀ v H, D.rt v H → D'.rt v H) (hb : ∀ σ H, D.bk σ H → D'.bk σ H) (hc : ∀ σ H, D.ct σ H → D'.ct σ H) :
    postS K D' m1 B O1 H1 o := by
  cases o with
  | nx ρ S => exact fun σ' H' mu' O' x r => hn _ _ (h σ' H' mu' O' (e.trans x) r)
  | rt w S => exact fun v H' mu' O' x s r => hr _ _ (h v H' mu' O' (e.trans x) s r)
  | bk ρ S => exact fun σ' H' mu' O' x r => hb _ _ (h σ' H' mu' O' (e.trans x) r)
  | ct ρ S => exact fun σ' H' mu' O' x r => hc _ _ (h σ' H' mu' O' (e.trans x) r)
  | bad => exact h
theorem postS.ext {K : Fg} {D : Ends} {mu m1 : List Addr} {B O O1 : Addr → Prop} {H H1 : Hp} {o : Out} (e : ExtS mu m1 O O1 H H1) (h : postS K D mu B O H o) : postS K D m1 B O1 H1 o := h.mono e (fun _ _ z => z) (fun _ _ z => z) (fun _ _ z => z) fun _ _ z => z
section
variable {X : Cx} {st : Stmt} {rest : List Stmt} {m m' : Ms} {e : Expr} {f : Mx} {pos : Pos} {t : Mt}
def sNil : Ms := fun ρ S => .nx ρ S
def sSeq (m m' : Ms) : Ms := fun ρ S => match m ρ S with
  | .nx ρ' S' => m' ρ' S'
  | o => o
theorem dss_nil : Dss X [] sNil := PSs.weak pss_nil fun D σ H ⟨ρ, S, mu, B, O, rl, q⟩ => q σ H mu O (.refl _ _ _) rl
theorem seq_weak {K : Fg} : ∀ D σ H, tDs K (sSeq m m') D σ H → tSeq (tDs K m) (tDs K m') D σ H := fun D σ H ⟨ρ, S, mu, B, O, rl, q⟩ => by
  refine ⟨ρ, S, mu, B, O, rl, ?_⟩
  unfold sSeq at q
  cases z : m ρ S with
  | nx ρ' S' =>
    rw [z] at q
    exact fun σ' H' mu' O' x r => ⟨ρ', S', mu', B, O', r, q.ext x⟩
  | rt w S' => rw [z] at q; exact q
  | bk ρ' S' => rw [z] at q; exact q
  | ct ρ' S' => rw [z] at q; exact q
  | bad => rw [z] at q; exact q
theorem dss_cons (h1 : Ds X st m) (h2 : Dss X rest m') : Dss X (st :: rest) (sSeq m m') := PSs.weak (pss_cons h1 h2) seq_weak
theorem dss_one (h : Ds X st m) : Dss X [st] m := pss_one h
def sBad : Ms := fun _ _ => .bad
theorem ds_never : Ds X st sBad := PS.weak ps_never fun D σ H ⟨ρ, S, mu, B, O, rl, q⟩ => q
def sOf (x : R Wd) (k : Wd → Sto → Out) : Out := match x with
  | .ok w S => k w S
  | .bad => .bad
@[simp] theorem sOf_ok (w : Wd) (S : Sto) (k : Wd → Sto → Out) : sOf (.ok w S) k = k w S := rfl
@[simp] theorem sOf_bad (k : Wd → Sto → Out) : sOf .bad k = .bad := rfl
def sTest (x : R Bool) (k : Bool → Sto → Out) : Out := match x with
  | .ok w S => k w S
  | .bad => .bad
@[simp] theorem sTest_ok (w : Bool) (S : Sto) (k : Bool → Sto → Out) : sTest (.ok w S) k = k w S := rfl
@[simp] theorem sTest_bad (k : Bool → Sto → Out) : sTest .bad k = .bad := rfl
def sRet (f : Mx) : Ms := fun ρ S => sOf (f ρ S) fun w S1 => .rt w S1
def sExpr (f : Mx) : Ms := fun ρ S => sOf (f ρ S) fun _ S1 => .nx ρ S1
def sIf (t : Mt) (m m' : Ms) : Ms := fun ρ S => sTest (t ρ S) fun b S1 => if b = true then m ρ S1 else m' ρ S1
theorem ds_ret (h : De X e f) : Ds X (.Return (some e) pos) (sRet f) := PS.weak (ps_ret h) fun D σ H ⟨ρ, S, mu, B, O, rl, q⟩ => by
  unfold sRet at q
  cases z : f ρ S with
  | ok w S1 =>
    rw [z] at q
    exact tD.mk rl z fun v H1 mu1 E r p => q v H1 mu1 O (E.toS r.sto) r.sto p
  | bad => rw [z] at q; exact q.elim
theorem ds_expr (h : De X e f) (hs : swapsWith e none pos.line X.env = pure false := by rfl) : Ds X (.Expr e pos) (sExpr f) := PS.weak (ps_expr h hs) fun D σ H ⟨ρ, S, mu, B, O, rl, q⟩ => by
  unfold sExpr at q
  cases z : f ρ S with
  | ok w S1 =>
    rw [z] at q
    exact tD.mk rl z fun v H1 mu1 E r p => q σ H1 mu1 O (E.toS r.sto) r
  | bad => rw [z] at q; exact q.elim
theorem ds_if {c : Expr} {a b : List Stmt} (hc : Dt X c t) (ha : Dss X a m) (hb : Dss X b m') : Ds X (.If c a b pos) (sIf t m m') := PS.weak (ps_if hc ha hb) fun D σ H ⟨ρ, S, mu, B, O, rl, q⟩ => by
  unfold sIf at q
  cases z : t ρ S with
  | ok w S1 =>
    rw [z] at q
    refine tDt.mk rl z fun H1 mu1 E r => ?_
    cases w with
    | true =>
      rw [if_pos rfl]
      exact ⟨ρ, S1, mu1, B, O, r, postS.ext (E.toS r.sto) q⟩
    | false =>
      rw [if_neg Bool.false_ne_true]
      exact ⟨ρ, S1, mu1, B, O, r, postS.ext (E.toS r.sto) q⟩
  | bad => rw [z] at q; exact q.elim
end
section
variable {K : Fg} {mu : List Addr} {B O : Addr → Prop} {H : Hp} {σ : Sg} {ρ : Ev} {S : Sto}
end
section
variable {X : Cx} {e : Expr} {f : Mx} {pos : Pos}
def sSet (i : Nat) (f : Mx) : Ms := fun ρ S => sOf (f ρ S) fun w S1 => .nx (ρ.set i (some (.val w))) S1
theorem ds_set {i : Nat} {x : Str} {pos' : Pos} (hN : X.N.Nodup) (hi : X.N[i]? = some x) (hx : Loc X.env.scope x) (he : De X e f) (hs : swapsWith e (some (.Name x pos')) pos.line X.env = pure false := by rfl)
    (hf : X.fn x = true ∨ X.env.scope.names.lookup x = some .local := by first | exact .inl rfl | exact .inr rfl | assumption) : Ds X (.Assign [.Name x pos'] e pos) (sSet i f) :=
  PS.weak (ps_set hN hi hx he hs hf) fun D σ H ⟨ρ, S, mu, B, O, rl, q⟩ => by
    unfold sSet at q
    cases z : f ρ S with
    | ok w S1 =>
      rw [z] at q
      exact tD.mk rl z fun v H1 mu1 E r p => q _ H1 mu1 O (E.toS r.sto) (r.set i p)
    | bad => rw [z] at q; exact q.elim
end
abbrev Mgs := List Wd → Ev → Option Ev
def DgF {ι : Type} (F : ι → Cx) (K : Fg) (vs : List Nat) (tg : Expr) (g : Mg) : Prop := ∃ t, (∀ i, PG (F i) tg t) ∧ ∀ (mu : List Addr) (B O : Addr → Prop) (H : Hp) (σ : Sg) (ρ ρ' : Ev) (S : Sto) (v : V) (w : Wd) (Q : Sg → Hp → Prop), Rel K mu B O H σ ρ S → Rp K mu (fun a => B a ∨ O a) H v w → g w ρ = some ρ' →
  (∀ σ', Rel K mu B O H σ' ρ' S → wipe σ' vs = wipe σ vs → Q σ' H) → t v σ H Q
def DgPF {ι : Type} (F : ι → Cx) (K : Fg) (vs : List Nat) (tg : Expr) (g : Mg) : Prop := ∃ t, (∀ i, PG (F i) tg t) ∧ ∀ (mu : List Addr) (B O : Addr → Prop) (H : Hp) (σ : Sg) (ρ ρ' : Ev) (S : Sto) (v : V) (w : Wd) (Q : Sg → Hp → Prop), Rel K mu B O H σ ρ S → RpI K mu (fun a => B a ∨ O a) H v w → g w ρ = some ρ' →
  (∀ σ', Rel K mu B O H σ' ρ' S → wipe σ' vs = wipe σ vs → Q σ' H) → t v σ H Q
def DgsF {ι : Type} (F : ι → Cx) (K : Fg) (vs : List Nat) (ts : List Expr) (g : Mgs) : Prop := ∃ t, (∀ i, PGs (F i) ts t) ∧ (∀ ws ρ ρ', g ws ρ = some ρ' → ws.length = ts.length) ∧ ∀ (mu : List Addr) (B O : Addr → Prop) (H : Hp) (σ : Sg) (ρ ρ' : Ev) (S : Sto) (us : List V) (ws : List Wd) (Q : Sg → Hp → Prop), Rel K mu B O H σ ρ S → RpAll K mu (fun a => B a ∨ O a) H us ws → g ws ρ = some ρ' →
  (∀ σ', Rel K mu B O H σ' ρ' S → wipe σ' vs = wipe σ vs → Q σ' H) → t us σ H Q
theorem wipe_set {σ : Sg} {i : Nat} {x : Option V} : ∀ {vs : List Nat}, i ∈ vs → wipe (σ.set i x) vs = wipe σ vs
  | [], h => by cases h
  | v :: vs, h => by
    unfold wipe
    by_cases c : i ∈ vs
    · rw [wipe_set c]
    · have e : i = v := by
        rcases List.mem_cons.mp h with h | h
        · exact h
        · exact absurd h c
      subst e
      have aux : ∀ (ws : List Nat) (τ : Sg), i ∉ ws → wipe (τ.set i x) ws = (wipe τ ws).set i x := by
        intro ws
        induction ws with
        | nil => intro τ _; rfl
        | cons k ws ih =>
          intro τ hn
          unfold wipe
          rw [ih τ (fun z => hn (List.mem_cons_of_mem _ z)), List.set_comm _ _ (fun z => hn (by rw [z]; exact List.mem_cons_self))]
      rw [aux vs σ c, List.set_set]
def gtN (i : Nat) : Mg := fun w ρ => some (ρ.set i (some (.val w)))
def gtNil : Mgs := fun ws ρ => match ws with
  | [] => some ρ
  | _ => none
def gtCons (g : Mg) (gs : Mgs) : Mgs := fun ws ρ => match ws with
  | w :: r => (g w ρ).bind (gs r)
  | [] => none
def gtT (gs : Mgs) : Mg := fun w ρ => match w with
  | .tuple ds => gs ds ρ
  | _ => none
theorem assignEach_len (env : Env) : ∀ es : List Expr, (assignEach es env).length = es.length := by
  intro es
  induction es with
  | nil => rfl
  | cons e es ih => first | (show (assignEach es env).length + 1 = es.length + 1; rw [ih]) | (cases e <;> first | (show (assignEach es env).length + 1 = es.length + 1; rw [ih]) | skip)
section
variable {ι : Type} {F : ι → Cx} {K : Fg} {vs : List Nat} {pos : Pos}
theorem dg_name {i : Nat} {x : Str} (hN : ∀ k, (F k).N.Nodup) (hi : ∀ k, (F k).N[i]? = some x) (hx : ∀ k, Loc (F k).env.scope x) (hv : i ∈ vs) (hf : ∀ k, (F k).fn x = true ∨ (F k).env.scope.names.lookup x = some .local) : DgF F K vs (.Name x pos) (gtN i) :=
  ⟨_, fun k => pg_name (hN k) (hi k) (hx k) (hf k), fun mu B O H σ ρ ρ' S v w Q rl p e q => by
    cases e
    exact q _ (rl.set i p) (wipe_set hv)⟩
theorem dgs_nil : DgsF F K vs [] gtNil := by
  refine ⟨_, fun _ => pgs_nil, fun ws ρ ρ' e => ?_, fun mu B O H σ ρ ρ' S us ws Q rl p e q => ?_⟩
  · cases ws with
    | nil => rfl
    | cons _ _ => cases e
  · cases p with
    | nil =>
      cases e
      exact ⟨rfl, q σ rl rfl⟩
    | cons _ _ => cases e
theorem dgs_cons {e : Expr} {es : List Expr} {g : Mg} {gs : Mgs} (h1 : DgF F K vs e g) (h2 : DgsF F K vs es gs) (hs : ∀ k, (assignEach (e :: es) (F k).env).map (·.2) = assign e (F k).env :: (assignEach es (F k).env).map (·.2) := by intro _; rfl) : DgsF F K vs (e :: es) (gtCons g gs) := by
  obtain ⟨t1, p1, k1⟩ := h1
  obtain ⟨t2, p2, l2, k2⟩ := h2
  refine ⟨_, fun k => pgs_cons (p1 k) (p2 k) (hs k), fun ws ρ ρ' e => ?_, fun mu B O H σ ρ ρ' S us ws Q rl p e q => ?_⟩
  · cases ws with
    | nil => cases e
    | cons w ws =>
      obtain ⟨ρ1, e1, e2⟩ := Option.bind_eq_some_iff.mp (show (g w ρ).bind (gs ws) = some ρ' from e)
      rw [List.length_cons, List.length_cons, l2 ws ρ1 ρ' e2]
  cases p with
  | nil => cases e
  | @cons v us w ws a b =>
    obtain ⟨ρ1, e1, e2⟩ := Option.bind_eq_some_iff.mp (show (g w ρ).bind (gs ws) = some ρ' from e)
    exact ⟨v, us, rfl, k1 mu B O H σ ρ ρ1 S v w _ rl a e1 fun σ1 r1 w1 => k2 mu B O H σ1 ρ1 ρ' S us ws _ r1 b e2 fun σ2 r2 w2 => q σ2 r2 (w2.trans w1)⟩
theorem pg_tupF {es : List Expr} {k : Nat} {t : TGs} (hc : ∀ i, (F i).calm = true) (hK : ∀ i, (F i).K = K) (p : ∀ i, PGs (F i) es t) (hst : ∀ i, (assignEach es (F i).env).findIdx? (·.1) = none) (i : ι) : PG (F i) (.Tuple es k pos) (gTup K es.length t) := by
  have z := pg_tup (n := es.length) (pos := pos) (k := k) (hc i) (p i) (assignEach_len _ _) (hst i)
  rw [hK i] at z
  exact z
theorem dg_tup {es : List Expr} {k : Nat} {gs : Mgs} (hc : ∀ i, (F i).calm = true) (hK : ∀ i, (F i).K = K) (h : DgsF F K vs es gs) (hst : ∀ i, (assignEach es (F i).env).findIdx? (·.1) = none := by intro _; rfl) : DgF F K vs (.Tuple es k pos) (gtT gs) := by
  obtain ⟨t, p, l, q⟩ := h
  refine ⟨_, pg_tupF hc hK p hst, fun mu B O H σ ρ ρ' S v w Q rl r e z => ?_⟩
  cases r with
  | @tup a xs ds a1 b1 =>
    have e : gs ds ρ = some ρ' := e
    exact ⟨a, xs, rfl, a1.sq, by rw [b1.length]; exact l ds ρ ρ' e, q mu B O H σ ρ ρ' S xs ds Q rl b1 e z⟩
  | _ => cases e
theorem dgp_tup {es : List Expr} {k : Nat} {gs : Mgs} (hc : ∀ i, (F i).calm = true) (hK : ∀ i, (F i).K = K) (h : DgsF F K vs es gs) (hst : ∀ i, (assignEach es (F i).env).findIdx? (·.1) = none := by intro _; rfl) : DgPF F K vs (.Tuple es k pos) (gtT gs) := by
  obtain ⟨t, p, l, q⟩ := h
  refine ⟨_, pg_tupF hc hK p hst, fun mu B O H σ ρ ρ' S v w Q rl r e z => ?_⟩
  rcases r with r | ⟨a, xs, ds, rfl, rfl, r1, r2⟩
  · cases r with
    | @tup a xs ds a1 b1 =>
      have e : gs ds ρ = some ρ' := e
      exact ⟨a, xs, rfl, a1.sq, by rw [b1.length]; exact l ds ρ ρ' e, q mu B O H σ ρ ρ' S xs ds Q rl b1 e z⟩
    | _ => cases e
  · have e : gs ds ρ = some ρ' := e
    exact ⟨a, xs, rfl, r1, by rw [r2.length]; exact l ds ρ ρ' e, q mu B O H σ ρ ρ' S xs ds Q rl r2 e z⟩
end
abbrev Dg (X : Cx) (vs : List Nat) (tg : Expr) (g : Mg) : Prop := DgF (fun _ : Unit => X) X.K vs tg g
abbrev DgP (X : Cx) (vs : List Nat) (tg : Expr) (g : Mg) : Prop := DgPF (fun _ : Unit => X) X.K vs tg g
section
variable {X : Cx} {vs : List Nat} {pos : Pos}
def sAsg (g : Mg) (f : Mx) : Ms := fun ρ S => sOf (f ρ S) fun w S1 => match g w ρ with
  | some ρ' => .nx ρ' S1
  | none => .bad
theorem ds_asg {tg e : Expr} {f : Mx} {g : Mg} (he : De X e f) (hg : Dg X vs tg g) (hs : swapsWithSole [tg] e pos.line X.env = pure false := by rfl) (hw : swappedStores [tg] e X.env = pure none := by rfl)
    (h1 : (assignEach [tg] X.env).map (·.2) = [assign tg X.env] := by rfl) : Ds X (.Assign [tg] e pos) (sAsg g f) := by
  obtain ⟨t, p, k⟩ := hg
  refine PS.weak (ps_asg he (p ()) hs hw h1) fun D σ H ⟨ρ, S, mu, B, O, rl, q⟩ => ?_
  unfold sAsg at q
  cases z : f ρ S with
  | ok w S1 =>
    rw [z, sOf_ok] at q
    refine tD.mk rl z fun v H1 mu1 E r p => ?_
    cases y : g w ρ with
    | none => rw [y] at q; exact q.elim
    | some ρ' =>
      rw [y] at q
      exact k mu1 B O H1 σ ρ ρ' S1 v w _ r p y fun σ' r' _ => q σ' H1 mu1 O (E.toS r'.sto) r'
  | bad => rw [z] at q; exact q.elim
end
end DL
namespace DL
open PySem PySem.Spec PyProof.Rows L2
def itemsD : Wd → Option (List Wd)
  | .list ys => some ys
  | .tuple ys => some ys
  | _ => none
def iSeq (f : Mx) : Mi := fun ρ S => (f ρ S).bnd fun w S1 => R.of (itemsD w) S1
section
variable {X : Cx} {tg l : Expr} {f : Mx}
theorem it_list {K : Fg} {a : Addr} {ws : List Wd} : ItOk K (Itl K a) [.ref a] [.list ws] ws := fun mu T H S st bn r => by
  cases r with
  | cons r _ => cases r with
  | lst h1 h2 =>
    refine ⟨fun i d e => ?_, ⟨_, h1.sq, by rw [h2.length]; exact Nat.le_refl _⟩⟩
    obtain ⟨x, e1, e2⟩ := h2.get e
    refine ⟨⟨_, x, h1.sq, e1⟩, fun y H' hy => ?_⟩
    obtain ⟨rfl, hy⟩ := hy
    have e3 := hy _ h1.sq
    rw [e1] at e3
    cases e3
    exact ⟨Same.refl _, e2⟩
theorem it_tup {K : Fg} {a : Addr} {ws : List Wd} : ItOk K (Itt K a) [.ref a] [.tuple ws] ws := fun mu T H S st bn r => by
  cases r with
  | cons r _ => cases r with
  | tup h1 h2 =>
    refine ⟨fun i d e => ?_, ⟨_, h1.sq, by rw [h2.length]; exact Nat.le_refl _⟩⟩
    obtain ⟨x, e1, e2⟩ := h2.get e
    refine ⟨⟨_, x, h1.sq, e1⟩, fun y H' hy => ?_⟩
    obtain ⟨rfl, hy⟩ := hy
    have e3 := hy _ h1.sq
    rw [e1] at e3
    cases e3
    exact ⟨Same.refl _, e2⟩
theorem di_seq (h : De X l f) : Di X tg l (iSeq f) := by
  refine ⟨fun pins s σ H Rr I ⟨ρ, S, mu, B, O, rl, ws, S', e, q⟩ => ?_⟩
  obtain ⟨w, S1, e1, e⟩ := R.bnd_inv e
  obtain ⟨e2, rfl⟩ := R.of_inv e
  refine thn (h.run pins s σ H (fun v H1 => ∃ mu1, Ext mu mu1 H H1 ∧ Rel X.K mu1 B O H1 σ ρ S1 ∧ Rp X.K mu1 (fun a => B a ∨ O a) H1 v w) I (tD.mk rl e1 fun v H1 mu1 E r p => ⟨mu1, E, r, p⟩)) fun u s1 ⟨v, H1, I1, r1, mu1, E, rl1, p⟩ => ?_
  cases p with
  | @lst a xs ds h1 h2 =>
    cases e2
    cases r1
    obtain ⟨its, rv, pl, hz⟩ := I1.list h1.sq
    refine wpAny_pyIter_list pl.isList ?_
    refine ⟨s1.heap.objs.size, [s1.heap.objs.size], _, _, H1, rfl, I1.kept (t' := s1.toks) fun b o e => Heap.get?_push_of_some _ e, turn_list a _, ⟨_, Heap.get?_push_size _ rfl, rfl, rfl⟩, fun b hb => ?_, q _ _ _ H1 mu1 it_list E rl1.sto (.cons (.lst h1 h2) .nil)⟩
    have e : b = s1.heap.objs.size := by simpa using hb
    subst e
    exact I1.fpOk (Nat.le_refl _) (I1.hok.fresh (Nat.le_refl _))
  | @tup a xs ds h1 h2 =>
    cases e2
    cases r1
    obtain ⟨its, rv, pl, hz⟩ := I1.tuple h1.sq
    refine wpAny_pyIter_tuple (show s1.heap.IsTuple a its.toArray from pl) ?_
    refine ⟨s1.heap.objs.size, [s1.heap.objs.size], _, _, H1, rfl, I1.kept (t' := s1.toks) fun b o e => Heap.get?_push_of_some _ e, turn_tuple a _, ⟨_, Heap.get?_push_size _ rfl, rfl, rfl⟩, fun b hb => ?_, q _ _ _ H1 mu1 it_tup E rl1.sto (.cons (.tup h1 h2) .nil)⟩
    have e : b = s1.heap.objs.size := by simpa using hb
    subst e
    exact I1.fpOk (Nat.le_refl _) (I1.hok.fresh (Nat.le_refl _))
  | _ => cases e2
def rangeD (lo : Int) (n : Nat) : List Wd := (List.range n).map fun (i : Nat) => .int (lo + i)
theorem rangeD_get {lo : Int} {n i : Nat} {d : Wd} (h : (rangeD lo n)[i]? = some d) : i < n ∧ d = .int (lo + i) := by
  unfold rangeD at h
  rw [List.getElem?_map] at h
  by_cases c : i < n
  · rw [List.getElem?_range c] at h
    cases h
    exact ⟨c, rfl⟩
  · rw [List.getElem?_eq_none (by rw [List.length_range]; omega)] at h
    cases h
theorem it_range {K : Fg} {lo : Int} {n : Nat} : ItOk K (Itr lo n) [] [] (rangeD lo n) := fun mu T H S st bn r => by
  refine ⟨fun i d e => ?_, ?_⟩
  · obtain ⟨h1, rfl⟩ := rangeD_get e
    refine ⟨h1, fun x H' hy => ?_⟩
    obtain ⟨rfl, rfl⟩ := hy
    exact ⟨Same.refl _, .int _⟩
  · show n ≤ _
    unfold rangeD
    rw [List.length_map, List.length_range]
    exact Nat.le_refl _
def iRange1 (fs : Ma) : Mi := fun ρ S => (fs ρ S).bnd fun ws S1 => match ws with
  | [.int j] => if -(2 ^ 62) ≤ j ∧ j < 2 ^ 62 then .ok (rangeD 0 j.toNat) S1 else .bad
  | _ => .bad
variable {a b : Expr} {fs : Ma} {p pos : Pos}
theorem di_range1 (hg : Gl X "range") (hm : X.mg "range" = none) (ha : Da X [a] fs) (hs : starEach [a] X.env = [(false, eval a X.env)] := by rfl) : Di X tg (.Call (.Name "range" p) [a] [] pos) (iRange1 fs) :=
  PI.weak (pi_range1 hg hm ha hs) fun σ H Rr ⟨ρ, S, mu, B, O, rl, ws, S', e, q⟩ => by
    obtain ⟨us, S1, e1, e⟩ := R.bnd_inv e
    refine tDa.mk rl e1 fun vs H1 mu1 E r p => ?_
    split at e
    · obtain ⟨h1, rfl, rfl⟩ := okIte e
      cases p with
      | cons p1 p2 =>
        cases p1; cases p2
        exact ⟨_, rfl, h1.1, h1.2, q _ [] [] H1 mu1 it_range E r.sto .nil⟩
    · cases e
def signsD (z : Str) : List Wd := z.cps.toList.map fun c => .str ⟨#[c]⟩
def iStr (f : Mx) : Mi := fun ρ S => (f ρ S).bnd fun w S1 => match w with
  | .str z => .ok (signsD z) S1
  | _ => .bad
end
def forLoop (g : Mg) (body : Ms) : List Wd → Ev → Sto → Out
  | [], ρ, S => .nx ρ S
  | w :: ws, ρ, S => match g w ρ with
    | none => .bad
    | some ρ1 => match body ρ1 S with
      | .nx ρ2 S2 => forLoop g body ws ρ2 S2
      | .ct ρ2 S2 => forLoop g body ws ρ2 S2
      | .bk ρ2 S2 => .nx ρ2 S2
      | .rt w S2 => .rt w S2
      | .bad => .bad
def sFor (fi : Mi) (g : Mg) (body : Ms) : Ms := fun ρ S => match fi ρ S with
  | .ok ws S1 => forLoop g body ws ρ S1
  | .bad => .bad
section
variable {X : Cx} {tg iter : Expr} {fi : Mi} {g : Mg} {m : Ms} {body : List Stmt} {pos : Pos} {vs : List Nat}
theorem for_core {t : TG} {P : It → List V → List Wd → List Wd → Prop}
    (hP : ∀ J v w ws, P J v w ws → ∀ (mu : List Addr) (B O : Addr → Prop) (H : Hp) (S : Sto), StOk X.K mu (fun a => B a ∨ O a) H S → Bn mu (fun a => B a ∨ O a) H → RpAll X.K mu (fun a => B a ∨ O a) H v w →
      (∀ (i : Nat) (d : Wd), ws[i]? = some d → J.go i H ∧ ∀ x H', J.yld i H x H' → Same H H' ∧ ∀ (σ : Sg) (ρ ρ' : Ev) (Q : Sg → Hp → Prop), Rel X.K mu B O H' σ ρ S → g d ρ = some ρ' → (∀ σ', Rel X.K mu B O H' σ' ρ' S → Q σ' H') → t x σ H' Q) ∧ J.stop ws.length H) :
    ∀ D σ H, tDs X.K (sFor fi g m) D σ H → tFor (tDi X.K P fi) t (tDs X.K m) D σ H := fun D σ H ⟨ρ, S, mu, B, O, rl, q⟩ => by
  unfold sFor at q
  cases z : fi ρ S with
  | bad => rw [z] at q; exact q.elim
  | ok ws S1 =>
    rw [z] at q
    refine ⟨ρ, S, mu, B, O, rl, ws, S1, z, fun J v w H1 mu1 hJ E st p => ?_⟩
    have rl1 := rl.ext E st
    have q1 : postS X.K D mu1 B O H1 (forLoop g m ws ρ S1) := postS.ext (E.toS st) q
    refine ⟨fun i k σ2 H2 => k = ws.length - i ∧ i ≤ ws.length ∧ ∃ ρ2 S2 mu2 O2, ExtS mu1 mu2 O O2 H1 H2 ∧ Rel X.K mu2 B O2 H2 σ2 ρ2 S2 ∧ postS X.K D mu2 B O2 H2 (forLoop g m (ws.drop i) ρ2 S2),
      ⟨ws.length, by omega, Nat.zero_le _, ρ, S1, mu1, O, .refl _ _ _, rl1, q1⟩, fun i k σ2 H2 ⟨ek, hi, ρ2, S2, mu2, O2, x2, r2, q2⟩ => ?_⟩
    obtain ⟨hgo, hstop⟩ := hP J v w ws hJ mu2 B O2 H2 S2 r2.sto r2.bn (p.extS x2)
    by_cases c : i < ws.length
    · obtain ⟨go, yld⟩ := hgo i ws[i] (List.getElem?_eq_getElem c)
      rw [List.drop_eq_getElem_cons c] at q2
      unfold forLoop at q2
      cases y : g ws[i] ρ2 with
      | none => rw [y] at q2; exact q2.elim
      | some ρ3 =>
        rw [y] at q2
        simp only at q2
        refine .inr ⟨go, fun σ' H' => ∃ ρ4 S4 mu4 O4, ExtS mu1 mu4 O O4 H1 H' ∧ Rel X.K mu4 B O4 H' σ' ρ4 S4 ∧ postS X.K D mu4 B O4 H' (forLoop g m (ws.drop (i + 1)) ρ4 S4), fun σ' H' ⟨ρ4, S4, mu4, O4, x4, r4, q4⟩ => ⟨ws.length - (i + 1), by omega, rfl, by omega, ρ4, S4, mu4, O4, x4, r4, q4⟩, fun x H' hy => ?_⟩
        obtain ⟨sm, k2⟩ := yld x H' hy
        have r3 := r2.ext (.same sm) (r2.sto.same sm)
        have x3 : ExtS mu1 mu2 O O2 H1 H' := x2.trans ((Ext.same sm).toS r3.sto)
        have xs : ExtS mu2 mu2 O2 O2 H2 H' := (Ext.same sm).toS r3.sto
        refine k2 σ2 ρ2 ρ3 _ r3 y fun σ' r' => ⟨ρ3, S2, mu2, B, O2, r', ?_⟩
        cases u : m ρ3 S2 with
        | nx ρ4 S4 =>
          rw [u] at q2
          exact fun σ5 H5 mu5 O5 x5 r5 => ⟨ρ4, S4, mu5, O5, x3.trans x5, r5, postS.ext (xs.trans x5) q2⟩
        | ct ρ4 S4 =>
          rw [u] at q2
          exact fun σ5 H5 mu5 O5 x5 r5 => ⟨ρ4, S4, mu5, O5, x3.trans x5, r5, postS.ext (xs.trans x5) q2⟩
        | bk ρ4 S4 =>
          rw [u] at q2
          exact fun σ5 H5 mu5 O5 x5 r5 => q2 σ5 H5 mu5 O5 (xs.trans x5) r5
        | rt w' S4 =>
          rw [u] at q2
          exact fun v5 H5 mu5 O5 x5 s5 r5 => q2 v5 H5 mu5 O5 (xs.trans x5) s5 r5
        | bad => rw [u] at q2; exact q2.elim
    · have e : i = ws.length := by omega
      subst e
      rw [List.drop_length] at q2
      exact .inl ⟨hstop, q2 σ2 H2 mu2 O2 (.refl _ _ _) r2⟩
theorem ds_for (hp : PassesOwn (model X.prog X.w) X.A X.env X.xe) (hc : X.calm = true) (hi : Di X tg iter fi) (hg : Dg X vs tg g) (hb : Dss X body m) (hs : ∀ x, foldedSetIterable iter X.env x = pure x := by intro _; rfl) : Ds X (.For tg iter body [] pos) (sFor fi g m) := by
  obtain ⟨t, pt, kt⟩ := hg
  refine PS.weak (ps_for hp hc hi (pt ()) hb hs) (for_core fun J v w ws hJ mu B O H S st bn p => ?_)
  obtain ⟨h1, h2⟩ := hJ mu _ H S st bn p
  exact ⟨fun i d e => ⟨(h1 i d e).1, fun x H' hy => ⟨((h1 i d e).2 x H' hy).1, fun σ ρ ρ' Q r eg k => kt mu B O H' σ ρ ρ' S x d Q r ((h1 i d e).2 x H' hy).2 eg fun σ' r' _ => k σ' r'⟩⟩, h2⟩
theorem ds_forP (hp : PassesOwn (model X.prog X.w) X.A X.env X.xe) (hc : X.calm = true) (hi : DiP X tg iter fi) (hg : DgP X vs tg g) (hb : Dss X body m) (hs : ∀ x, foldedSetIterable iter X.env x = pure x := by intro _; rfl) : Ds X (.For tg iter body [] pos) (sFor fi g m) := by
  obtain ⟨t, pt, kt⟩ := hg
  refine PS.weak (ps_for hp hc hi (pt ()) hb hs) (for_core fun J v w ws hJ mu B O H S st bn p => ?_)
  obtain ⟨h1, h2⟩ := hJ mu _ H S st bn p
  exact ⟨fun i d e => ⟨(h1 i d e).1, fun x H' hy => ⟨((h1 i d e).2 x H' hy).1, fun σ ρ ρ' Q r eg k => kt mu B O H' σ ρ ρ' S x d Q r ((h1 i d e).2 x H' hy).2 eg fun σ' r' _ => k σ' r'⟩⟩, h2⟩
end
end DL
namespace DL
open PySem PySem.Spec PyProof.Rows L2
def wipeE (ρ : Ev) : List Nat → Ev
  | [] => ρ
  | v :: vs => (wipeE ρ vs).set v none
section
variable {K : Fg} {mu : List Addr} {B O : Addr → Prop} {H : Hp} {σ : Sg} {ρ : Ev} {S : Sto}
theorem Rel.setNone (h : Rel K mu B O H σ ρ S) (i : Nat) : Rel K mu B O H (σ.set i none) (ρ.set i none) S := by
  refine ⟨by rw [List.length_set, List.length_set]; exact h.len, fun j w' e => ?_, fun j ws e => ?_, fun j k ws ws' a e1 e2 e3 e4 => ?_, h.sto, h.bn⟩
  · rcases set_get e with ⟨rfl, e1, hl⟩ | ⟨c, e⟩
    · cases e1
    · obtain ⟨u, h1, h2⟩ := h.val j w' e
      exact ⟨u, by rw [List.getElem?_set_ne c]; exact h1, h2⟩
  · rcases set_get e with ⟨rfl, e1, hl⟩ | ⟨c, e⟩
    · cases e1
    · obtain ⟨a, xs, h1, h2⟩ := h.own j ws e
      exact ⟨a, xs, by rw [List.getElem?_set_ne c]; exact h1, h2⟩
  · rcases set_get e1 with ⟨rfl, e1, hl⟩ | ⟨c, e1⟩
    · cases e1
    rcases set_get e2 with ⟨rfl, e2, hl⟩ | ⟨c2, e2⟩
    · cases e2
    rw [List.getElem?_set_ne c] at e3
    rw [List.getElem?_set_ne c2] at e4
    exact h.dif j k ws ws' a e1 e2 e3 e4
theorem Rel.wipe (h : Rel K mu B O H σ ρ S) : ∀ vs : List Nat, Rel K mu B O H (wipe σ vs) (wipeE ρ vs) S
  | [] => h
  | v :: vs => (Rel.wipe h vs).setNone v
theorem Rel.ban (h : Rel K mu B O H σ ρ S) {D : Addr} (n : H D = none) (o : HO) (pl : PlH (some o) := by first | exact PlH.lst | exact PlH.dK) : Rel K mu (fun a => B a ∨ a = D) O (upd H D o) σ ρ S := by
  have tr : ∀ a, ((B a ∨ a = D) ∨ O a) → ((B a ∨ O a) ∨ a = D) := fun a z => z.elim (fun z => z.elim (fun z => .inl (.inl z)) .inr) fun z => .inl (.inr z)
  have up : ∀ {v : V} {w : Wd}, Rp K mu (fun a => B a ∨ O a) H v w → Rp K mu (fun a => (B a ∨ a = D) ∨ O a) (upd H D o) v w := fun p => ((p.ban n).weak tr).same (same_upd n)
  have upA : ∀ {v : List V} {w : List Wd}, RpAll K mu (fun a => B a ∨ O a) H v w → RpAll K mu (fun a => (B a ∨ a = D) ∨ O a) (upd H D o) v w := fun p => ((p.ban n).weak tr).same (same_upd n)
  refine ⟨h.len, fun i w e => let ⟨v, a, b⟩ := h.val i w e; ⟨v, a, up b⟩, fun i ws e => let ⟨a, xs, h1, h2, h3, h4, h5⟩ := h.own i ws e; ⟨a, xs, h1, h2, fun z => z.elim h3 fun z => ne_of_none h4 n z, (upd_ne (ne_of_none h4 n)).trans h4, upA h5⟩, h.dif, ((h.sto.ban n).weak tr).same (same_upd n), fun a t => ?_⟩
  rcases tr a t with t | t
  · obtain ⟨h1, h2⟩ := h.bn a t
    refine ⟨?_, h2⟩
    cases e : H a with
    | none => exact absurd e h1.1.1
    | some u =>
      rw [upd_ne (ne_of_none e n)]
      exact h1
  · subst t
    refine ⟨?_, h.sto.fresh n⟩
    rw [upd_same]
    exact pl
theorem Rel.at_ban (h : Rel K mu B O H σ ρ S) {D : Addr} (b : B D) (o : HO) (pl : PlH (some o) := by first | exact PlH.lst | exact PlH.dK) : Rel K mu B O (upd H D o) σ ρ S := by
  refine ⟨h.len, fun i w e => let ⟨v, a, p⟩ := h.val i w e; ⟨v, a, p.at_ban (.inl b)⟩, fun i ws e => let ⟨a, xs, h1, h2, h3, h4, h5⟩ := h.own i ws e; ⟨a, xs, h1, h2, h3, by rw [upd_ne (show a ≠ D from fun z => h3 (z ▸ b))]; exact h4, h5.at_ban (.inl b)⟩, h.dif, h.sto.at_ban h.bn (.inl b), fun a t => ?_⟩
  obtain ⟨h1, h2⟩ := h.bn a t
  refine ⟨?_, h2⟩
  by_cases c : a = D
  · subst c
    rw [upd_same]
    exact pl
  · rw [upd_ne c]
    exact h1
end
def lcLoop (g : Mg) (t : Mt) (fe : Mx) (ρ : Ev) : List Wd → List Wd → Sto → R (List Wd)
  | [], acc, S => .ok acc S
  | w :: ws, acc, S => match g w ρ with
    | none => .bad
    | some ρ1 => (t ρ1 S).bnd fun b S1 => if b = true then (fe ρ1 S1).bnd fun y S2 => if acc.length < sizeLine then lcLoop g t fe ρ ws (acc ++ [y]) S2 else .bad else lcLoop g t fe ρ ws acc S1
def mLc (vs : List Nat) (fi : Mi) (g : Mg) (t : Mt) (fe : Mx) : Mx := fun ρ S => (fi ρ S).bnd fun ws S1 => (lcLoop g t fe (wipeE ρ vs) ws [] S1).bnd fun acc S2 => .ok (.list acc) S2
def tTrue : Mt := fun _ S => .ok true S
def DTs (X : Cx) (ifs : List Expr) (t : Mt) : Prop := PTs X ifs (tDt X.K t)
theorem dts_nil {X : Cx} : DTs X [] tTrue := ⟨fun pins s σ H Q I ⟨ρ, S, mu, B, O, rl, w, S', e, q⟩ => by
  cases e
  exact pts_nil.run pins s σ H Q I (q H mu (.refl _ _) rl.sto)⟩
theorem dts_one {X : Cx} {c : Expr} {t : Mt} (h : Dt X c t) : DTs X [c] t := pts_one h
theorem Ext.at_new {mu mu' : List Addr} {H H' : Hp} {D : Addr} {o : HO} (e : Ext mu mu' H H') (n : H D = none) : Ext mu mu' H (upd H' D o) :=
  ⟨e.pre, fun a u h q => by rw [upd_ne (ne_of_none h n)]; exact e.keep a u h q, e.new⟩
section
variable {X : Cx} {fi : Mi} {g : Mg} {t : Mt} {fe : Mx} {vs : List Nat}
theorem lc_core' {K : Fg} {tg : TG} {P : It → List V → List Wd → List Wd → Prop}
    (hP : ∀ J v w ws, P J v w ws → ∀ (mu : List Addr) (B O : Addr → Prop) (H : Hp) (S : Sto), StOk K mu (fun a => B a ∨ O a) H S → Bn mu (fun a => B a ∨ O a) H → RpAll K mu (fun a => B a ∨ O a) H v w →
      (∀ (i : Nat) (d : Wd), ws[i]? = some d → J.go i H ∧ ∀ x H', J.yld i H x H' → Same H H' ∧ ∀ (σ : Sg) (ρ ρ' : Ev) (Q : Sg → Hp → Prop), Rel K mu B O H' σ ρ S → g d ρ = some ρ' → (∀ σ', Rel K mu B O H' σ' ρ' S → wipe σ' vs = wipe σ vs → Q σ' H') → tg x σ H' Q) ∧ J.stop ws.length H)
    (hv : ∀ σ : Sg, wipe (wipe σ vs) vs = wipe σ vs) :
    ∀ σ H Q, tD K (mLc vs fi g t fe) σ H Q → tLc (tDi K P fi) tg (tDt K t) (tD K fe) vs σ H Q := fun σ H Q ⟨ρ, S, mu, B, O, rl, w, S', e, q⟩ => by
  obtain ⟨ws, S1, e1, e⟩ := R.bnd_inv e
  obtain ⟨res, S2, e2, e⟩ := R.bnd_inv e
  cases e
  refine ⟨ρ, S, mu, B, O, rl, ws, S1, e1, fun J v u H1 mu1 hJ E st p D nD => ?_⟩
  have rl1 := rl.ext E st
  have nT : ¬ (B D ∨ O D) := rl1.bn.fresh nD
  have rb := (rl1.wipe vs).ban nD (.lst [])
  have pb : RpAll K mu1 (fun a => (B a ∨ a = D) ∨ O a) (upd H1 D (.lst [])) v u := ((p.ban nD).weak fun a z => z.elim (fun z => z.elim (fun z => .inl (.inl z)) .inr) fun z => .inl (.inr z)).same (same_upd nD)
  refine ⟨fun i k H2 => k = ws.length - i ∧ i ≤ ws.length ∧ ∃ av acc S3 mu2, Ext mu1 mu2 H1 H2 ∧ Rel K mu2 (fun a => B a ∨ a = D) O H2 (wipe σ vs) (wipeE ρ vs) S3 ∧ RpAll K mu2 (fun a => (B a ∨ a = D) ∨ O a) H2 v u ∧ H2 D = some (.lst av) ∧ RpAll K mu2 (fun a => (B a ∨ a = D) ∨ O a) H2 av acc ∧
      lcLoop g t fe (wipeE ρ vs) (ws.drop i) acc S3 = .ok res S',
    ⟨ws.length, by omega, Nat.zero_le _, [], [], S1, mu1, (Ext.refl _ _).at_new nD, rb, pb, upd_same, .nil, e2⟩, fun i k H2 ⟨ek, hi, av, acc, S3, mu2, x2, r2, p2, hD, pa, el⟩ => ?_⟩
  obtain ⟨hgo, hstop⟩ := hP J v u ws hJ mu2 (fun a => B a ∨ a = D) O H2 S3 r2.sto r2.bn p2
  by_cases c : i < ws.length
  · obtain ⟨go, yld⟩ := hgo i ws[i] (List.getElem?_eq_getElem c)
    rw [List.drop_eq_getElem_cons c] at el
    unfold lcLoop at el
    cases y : g ws[i] (wipeE ρ vs) with
    | none => rw [y] at el; cases el
    | some ρ3 =>
      rw [y] at el
      simp only at el
      obtain ⟨b, S4, e4, el⟩ := R.bnd_inv el
      refine .inr ⟨go, fun H' => ∃ av acc S3 mu2, Ext mu1 mu2 H1 H' ∧ Rel K mu2 (fun a => B a ∨ a = D) O H' (wipe σ vs) (wipeE ρ vs) S3 ∧ RpAll K mu2 (fun a => (B a ∨ a = D) ∨ O a) H' v u ∧ H' D = some (.lst av) ∧ RpAll K mu2 (fun a => (B a ∨ a = D) ∨ O a) H' av acc ∧
          lcLoop g t fe (wipeE ρ vs) (ws.drop (i + 1)) acc S3 = .ok res S', fun H' ⟨av, acc, S5, mu5, h1, h2, h3, h4, h5, h6⟩ => ⟨ws.length - (i + 1), by omega, rfl, by omega, av, acc, S5, mu5, h1, h2, h3, h4, h5, h6⟩, fun x H' hy => ?_⟩
      obtain ⟨sm, k2⟩ := yld x H' hy
      have r3 := r2.ext (.same sm) (r2.sto.same sm)
      refine k2 (wipe σ vs) (wipeE ρ vs) ρ3 _ r3 y fun σ' r' hw => ⟨hw.trans (hv σ), ?_⟩
      refine tDt.mk r' e4 fun H4 mu4 E4 r4 => ?_
      have D4 : H4 D = some (.lst av) := E4.keep D _ (sm D _ hD) (r2.bn D (.inl (.inr rfl))).2
      have q4 : Ext mu2 mu4 H2 H4 := (Ext.same sm).trans E4
      have r40 : Rel K mu4 (fun a => B a ∨ a = D) O H4 (wipe σ vs) (wipeE ρ vs) S4 := r2.ext q4 r4.sto
      cases b with
      | false =>
        rw [if_neg Bool.false_ne_true] at el ⊢
        exact ⟨av, acc, S4, mu4, x2.trans q4, r40, p2.ext q4, D4, pa.ext q4, el⟩
      | true =>
        rw [if_pos rfl] at el ⊢
        obtain ⟨z, S5, e5, el⟩ := R.bnd_inv el
        by_cases hz : acc.length < sizeLine
        · rw [if_pos hz] at el
          refine tD.mk r4 e5 fun yv H5 mu5 E5 r5 p5 => ?_
          have q5 : Ext mu2 mu5 H2 H5 := q4.trans E5
          have D5 : H5 D = some (.lst av) := E5.keep D _ D4 (r40.bn D (.inl (.inr rfl))).2
          have r50 : Rel K mu5 (fun a => B a ∨ a = D) O H5 (wipe σ vs) (wipeE ρ vs) S5 := r2.ext q5 r5.sto
          have pa5 := pa.ext q5
          refine ⟨av, D5, by rw [pa.length]; exact hz, av ++ [yv], acc ++ [z], S5, mu5, (x2.trans q5).at_new nD, r50.at_ban (.inr rfl) _, (p2.ext q5).at_ban (.inl (.inr rfl)), upd_same, ?_, el⟩
          exact (pa5.append (.cons p5 .nil)).at_ban (.inl (.inr rfl))
        · rw [if_neg hz] at el
          cases el
  · have ei : i = ws.length := by omega
    subst ei
    rw [List.drop_length] at el
    cases el
    refine .inl ⟨hstop, q (.ref D) H2 mu2 (E.trans x2) (r2.sto.weak fun a z => z.imp .inl id) (.lst (.inl ⟨.inl hD, (r2.bn D (.inl (.inr rfl))).2, nT⟩) (pa.weak fun a z => z.imp .inl id))⟩
theorem wipe_idem (σ : Sg) : ∀ vs : List Nat, wipe (wipe σ vs) vs = wipe σ vs := by
  have mem : ∀ (vs ws : List Nat) (τ : Sg), (∀ i ∈ ws, i ∈ vs) → wipe (wipe τ ws) vs = wipe τ vs := by
    intro vs ws
    induction ws with
    | nil => intro τ _; rfl
    | cons k ws ih =>
      intro τ h
      show wipe ((wipe τ ws).set k none) vs = _
      rw [wipe_set (h k List.mem_cons_self), ih τ fun i hi => h i (List.mem_cons_of_mem _ hi)]
  exact fun vs => mem vs vs σ fun i hi => hi
abbrev _root_.L2.Cx.fam (X : Cx) (scope : Scope) (i : Shared × Hp × Addr × List (Str × Addr) × List Addr) : Cx := X.blk i.1 i.2.1 scope (compEnvC scope i.2.2.2.1 i.2.2.1 X.env) i.2.2.2.2
variable {elt tgx iter : Expr} {ifs : List Expr} {scope : Scope} {own : List (Str × Nat)} {pos : Pos}
theorem de_lc (hc : X.calm = true) (hN : X.N.Nodup) (hi : Di X tgx iter fi) (ok : BlkOk X.N X.env.scope scope own)
    (hg : DgF (X.fam scope) X.K (own.map (·.2)) tgx g)
    (ht : ∀ (s : Shared) (H : Hp) (C : Addr) (cl : List (Str × Addr)) (fp : List Addr), DTs (X.blk s H scope (compEnvC scope cl C X.env) fp) ifs t)
    (he : ∀ (s : Shared) (H : Hp) (C : Addr) (cl : List (Str × Addr)) (fp : List Addr), De (X.blk s H scope (compEnvC scope cl C X.env) fp) elt fe) (hs : ∀ x, foldedSetIterable iter X.env x = pure x := by intro _; rfl) :
    De X (.ListComp elt [⟨tgx, iter, ifs, 0⟩] scope pos) (mLc (own.map (·.2)) fi g t fe) := by
  obtain ⟨tg, pg, kg⟩ := hg
  refine PE.weak (pe_lc (tt := tDt X.K t) (te := tD X.K fe) hc hN hi ok (fun s H C cl fp => pg (s, H, C, cl, fp)) ht he hs) (lc_core' (fun J v w ws hJ mu B O H S st bn p => ?_) (fun σ => wipe_idem σ _))
  obtain ⟨h1, h2⟩ := hJ mu _ H S st bn p
  exact ⟨fun i d e => ⟨(h1 i d e).1, fun x H' hy => ⟨((h1 i d e).2 x H' hy).1, fun σ ρ ρ' Q r eg k => kg mu B O H' σ ρ ρ' S x d Q r ((h1 i d e).2 x H' hy).2 eg k⟩⟩, h2⟩
end
end DL
namespace DL
open PySem PySem.Spec PyProof.Rows L2
section
variable {X : Cx} {tg l : Expr} {f : Mx}
def enumD : Nat → List Wd → List Wd
  | _, [] => []
  | n, w :: ws => .tuple [.int n, w] :: enumD (n + 1) ws
theorem enumD_get : ∀ (ws : List Wd) (n i : Nat) (d : Wd), (enumD n ws)[i]? = some d → ∃ w, ws[i]? = some w ∧ d = .tuple [.int ((n + i : Nat) : Int), w]
  | [], n, i, d, h => by cases h
  | w :: ws, n, 0, d, h => by cases h; exact ⟨w, rfl, rfl⟩
  | w :: ws, n, i + 1, d, h => by
    obtain ⟨u, e1, e2⟩ := enumD_get ws (n + 1) i d h
    exact ⟨u, e1, by rw [e2, show n + 1 + i = n + (i + 1) by omega]⟩
theorem enumD_length : ∀ (ws : List Wd) (n : Nat), (enumD n ws).length = ws.length
  | [], n => rfl
  | w :: ws, n => by
    show (enumD (n + 1) ws).length + 1 = ws.length + 1
    rw [enumD_length ws (n + 1)]
theorem it_enum {K : Fg} {a : Addr} {ws : List Wd} : ItOkP K (Ite K a) [.ref a] [.list ws] (enumD 0 ws) := fun mu T H S st bn r => by
  cases r with
  | cons r _ => cases r with
  | lst h1 h2 =>
    refine ⟨fun i d e => ?_, ⟨_, h1.sq, by rw [h2.length, enumD_length]; exact Nat.le_refl _⟩⟩
    obtain ⟨w, e1, rfl⟩ := enumD_get ws 0 i d e
    obtain ⟨x, e2, e3⟩ := h2.get e1
    refine ⟨⟨_, x, h1.sq, e2⟩, fun y H' hy => ?_⟩
    obtain ⟨Tn, x', rfl, hn, rfl, hx⟩ := hy
    have e4 := hx _ h1.sq
    rw [e2] at e4
    cases e4
    refine ⟨same_upd hn, .inr ⟨Tn, _, _, rfl, rfl, .inl (.inl upd_same), .cons ?_ (.cons (e3.same (same_upd hn)) .nil)⟩⟩
    rw [Nat.zero_add]
    exact .int _
def zipD : List Wd → List Wd → List Wd
  | x :: xs, y :: ys => .tuple [x, y] :: zipD xs ys
  | _, _ => []
theorem zipD_get : ∀ (xs ys : List Wd) (i : Nat) (d : Wd), (zipD xs ys)[i]? = some d → ∃ x y, xs[i]? = some x ∧ ys[i]? = some y ∧ d = .tuple [x, y]
  | [], _, i, d, h => by cases h
  | _ :: _, [], i, d, h => by cases h
  | x :: xs, y :: ys, 0, d, h => by cases h; exact ⟨x, y, rfl, rfl, rfl⟩
  | x :: xs, y :: ys, i + 1, d, h => zipD_get xs ys i d h
theorem zipD_end : ∀ (xs ys : List Wd), xs.length ≤ (zipD xs ys).length ∨ ys.length ≤ (zipD xs ys).length
  | [], _ => .inl (Nat.zero_le _)
  | _ :: _, [] => .inr (Nat.zero_le _)
  | x :: xs, y :: ys => (zipD_end xs ys).imp (fun h => Nat.succ_le_succ h) fun h => Nat.succ_le_succ h
theorem it_zip {K : Fg} {a b : Addr} {xs ys : List Wd} : ItOkP K (Itz K a b) [.ref a, .ref b] [.list xs, .list ys] (zipD xs ys) := fun mu T H S st bn r => by
  cases r with
  | cons r r' => cases r' with
  | cons r' _ => cases r with
  | lst h1 h2 => cases r' with
  | lst k1 k2 =>
    refine ⟨fun i d e => ?_, ⟨_, _, h1.sq, k1.sq, by rw [h2.length, k2.length]; exact zipD_end xs ys⟩⟩
    obtain ⟨x, y, e1, e2, rfl⟩ := zipD_get xs ys i d e
    obtain ⟨u, e3, e4⟩ := h2.get e1
    obtain ⟨v, e5, e6⟩ := k2.get e2
    refine ⟨⟨_, _, u, v, h1.sq, k1.sq, e3, e5⟩, fun z H' hy => ?_⟩
    obtain ⟨Tn, x', y', rfl, hn, rfl, hx, hy⟩ := hy
    have e7 := hx _ h1.sq
    have e8 := hy _ k1.sq
    rw [e3] at e7
    rw [e5] at e8
    cases e7
    cases e8
    exact ⟨same_upd hn, .inr ⟨Tn, _, _, rfl, rfl, .inl (.inl upd_same), .cons (e4.same (same_upd hn)) (.cons (e6.same (same_upd hn)) .nil)⟩⟩
theorem it_zipT {K : Fg} {a b : Addr} {xs ys : List Wd} : ItOkP K (RZ.ItzT K a b) [.ref a, .ref b] [.tuple xs, .tuple ys] (zipD xs ys) := fun mu T H S st bn r => by
  cases r with
  | cons r r' => cases r' with
  | cons r' _ => cases r with
  | tup h1 h2 => cases r' with
  | tup k1 k2 =>
    refine ⟨fun i d e => ?_, ⟨_, _, h1.sq, k1.sq, by rw [h2.length, k2.length]; exact zipD_end xs ys⟩⟩
    obtain ⟨x, y, e1, e2, rfl⟩ := zipD_get xs ys i d e
    obtain ⟨u, e3, e4⟩ := h2.get e1
    obtain ⟨v, e5, e6⟩ := k2.get e2
    refine ⟨⟨_, _, u, v, h1.sq, k1.sq, e3, e5⟩, fun z H' hy => ?_⟩
    obtain ⟨Tn, x', y', rfl, hn, rfl, hx, hy⟩ := hy
    have e7 := hx _ h1.sq
    have e8 := hy _ k1.sq
    rw [e3] at e7
    rw [e5] at e8
    cases e7
    cases e8
    exact ⟨same_upd hn, .inr ⟨Tn, _, _, rfl, rfl, .inl (.inl upd_same), .cons (e4.same (same_upd hn)) (.cons (e6.same (same_upd hn)) .nil)⟩⟩
def iZipD (fs : Ma) : Mi := fun ρ S => (fs ρ S).bnd fun ws S1 => match ws with
  | [.list xs, .list ys] => .ok (zipD xs ys) S1
  | [.tuple xs, .tuple ys] => .ok (zipD xs ys) S1
  | _ => .bad
theorem dip_zip {e e2 : Expr} {fs : Ma} {p pos tpos : Pos} {elts : List Expr} {kk : Nat} (hg : Gl X "zip") (hm : X.mg "zip" = none) (ha : Da X [e, e2] fs)
    (hs : starEach [e, e2] X.env = (false, eval e X.env) :: starEach [e2] X.env := by rfl) (hpl : (backTo pos (starEach [e2] X.env)).any (·.1) = false := by rfl) :
    DiP X (.Tuple elts kk tpos) (.Call (.Name "zip" p) [e, e2] [] pos) (iZipD fs) :=
  PI.weak (RZ.pi_zipA hg hm ha hs hpl) fun σ H Rr ⟨ρ, S, mu, B, O, rl, ws, S', e, q⟩ => by
    obtain ⟨us, S1, e1, e⟩ := R.bnd_inv e
    refine tDa.mk rl e1 fun vs H1 mu1 E r p => ?_
    split at e
    · cases e
      cases p with
      | cons p1 p2 => cases p2 with
      | cons p2 p3 =>
        cases p3
        cases p1 with
        | @lst a xs ds h1 h2 => cases p2 with
        | @lst b ys ds' k1 k2 => exact ⟨a, b, _, _, rfl, .inl ⟨h1.sq, k1.sq, q _ _ _ H1 mu1 it_zip E r.sto (.cons (.lst h1 h2) (.cons (.lst k1 k2) .nil))⟩⟩
    · cases e
      cases p with
      | cons p1 p2 => cases p2 with
      | cons p2 p3 =>
        cases p3
        cases p1 with
        | @tup a xs ds h1 h2 => cases p2 with
        | @tup b ys ds' k1 k2 => exact ⟨a, b, _, _, rfl, .inr ⟨h1.sq, k1.sq, q _ _ _ H1 mu1 it_zipT E r.sto (.cons (.tup h1 h2) (.cons (.tup k1 k2) .nil))⟩⟩
    · cases e
end
def whLoop (t : Mt) (m : Ms) : Nat → Ev → Sto → Out
  | 0, _, _ => .bad
  | n + 1, ρ, S => sTest (t ρ S) fun b S1 => if b = true then (match m ρ S1 with
      | .nx ρ2 S2 => whLoop t m n ρ2 S2
      | .ct ρ2 S2 => whLoop t m n ρ2 S2
      | .bk ρ2 S2 => .nx ρ2 S2
      | .rt w S2 => .rt w S2
      | .bad => .bad) else .nx ρ S1
def sWhile (fuel : Ev → Sto → Nat) (t : Mt) (m : Ms) : Ms := fun ρ S => whLoop t m (fuel ρ S) ρ S
section
variable {X : Cx} {c : Expr} {body : List Stmt} {t : Mt} {m : Ms} {pos : Pos}
theorem ds_while (fuel : Ev → Sto → Nat) (hp : PassesOwn (model X.prog X.w) X.A X.env X.xe) (hc : Dt X c t) (hb : Dss X body m) : Ds X (.While c body [] pos) (sWhile fuel t m) :=
  PS.weak (ps_while hp hc hb) fun D σ H ⟨ρ, S, mu, B, O, rl, q⟩ => by
    refine ⟨fun n σ2 H2 => ∃ ρ2 S2 mu2 O2, Rel X.K mu2 B O2 H2 σ2 ρ2 S2 ∧ postS X.K D mu2 B O2 H2 (whLoop t m n ρ2 S2), ⟨fuel ρ S, ρ, S, mu, O, rl, q⟩, fun n σ2 H2 ⟨ρ2, S2, mu2, O2, r2, q2⟩ => ?_⟩
    cases n with
    | zero => exact q2.elim
    | succ n =>
      unfold whLoop at q2
      cases z : t ρ2 S2 with
      | bad => rw [z] at q2; exact q2.elim
      | ok b S3 =>
        rw [z, sTest_ok] at q2
        refine tDt.mk r2 z fun H3 mu3 E3 r3 => ?_
        have x3 := E3.toS r3.sto
        cases b with
        | false =>
          rw [if_neg Bool.false_ne_true] at q2 ⊢
          exact q2 σ2 H3 mu3 O2 x3 r3
        | true =>
          rw [if_pos rfl] at q2 ⊢
          refine ⟨fun σ' H' => ∃ ρ2 S2 mu2 O2, Rel X.K mu2 B O2 H' σ' ρ2 S2 ∧ postS X.K D mu2 B O2 H' (whLoop t m n ρ2 S2), fun σ' H' h => ⟨n, Nat.lt_succ_self n, h⟩, ρ2, S3, mu3, B, O2, r3, ?_⟩
          cases u : m ρ2 S3 with
          | nx ρ4 S4 =>
            rw [u] at q2
            exact fun σ5 H5 mu5 O5 x5 r5 => ⟨ρ4, S4, mu5, O5, r5, postS.ext (x3.trans x5) q2⟩
          | ct ρ4 S4 =>
            rw [u] at q2
            exact fun σ5 H5 mu5 O5 x5 r5 => ⟨ρ4, S4, mu5, O5, r5, postS.ext (x3.trans x5) q2⟩
          | bk ρ4 S4 =>
            rw [u] at q2
            exact fun σ5 H5 mu5 O5 x5 r5 => q2 σ5 H5 mu5 O5 (x3.trans x5) r5
          | rt w' S4 =>
            rw [u] at q2
            exact fun v5 H5 mu5 O5 x5 s5 r5 => q2 v5 H5 mu5 O5 (x3.trans x5) s5 r5
          | bad => rw [u] at q2; exact q2.elim
end
def kindD : Wd → Option String
  | .none => some "NoneType"
  | .bool _ => some "bool"
  | .int _ => some "int"
  | .str _ => some "str"
  | .list _ => some "list"
  | .tuple _ => some "tuple"
  | .dict ((.none, _) :: _) => none
  | .dict _ => some "dict"
def gIsi (Tn : String) (w : Wd) : Option Wd := (kindD w).bind fun k => (kitB k Tn).map .bool
theorem ty_of {K : Fg} {mu : List Addr} {T : Addr → Prop} {H : Hp} {v : V} {w : Wd} {k : String} (h : Rp K mu T H v w) (e : kindD w = some k) : TyX K H v (.type k) := by
  cases h with
  | non => cases e; exact .base .non
  | bl b => cases e; exact .base (.bl b)
  | int i => cases e; exact .base (.int i)
  | str x => cases e; exact .base (.str x)
  | lst a b =>
    cases e
    rcases a with ⟨z | ⟨o, z⟩, _⟩ | ⟨its, n, z, _⟩
    · exact .base (.lst z)
    · exact .base (.frz z)
    · exact .kList z rfl
  | tup a b =>
    cases e
    rcases a with ⟨⟨o, d, z⟩, _⟩ | ⟨z, o, z1, z2⟩
    · exact .fTuple z
    · rcases z (fun _ => none) with (y | ⟨_, y⟩) | ⟨o', _, _, y1, y2, _⟩
      · cases y
      · cases y
      · exact .kTuple y1 y2
  | dct a b =>
    cases b with
    | nil => cases e; exact .base (.dK a.1)
    | @cons k _ _ _ _ _ _ => cases k <;> (cases e; exact .base (.dK a.1))
  | obj a => cases e
section
variable {X : Cx} {a : Expr} {fa : Mx} {pos p p2 : Pos}
theorem de_isi {x : Str} {Tn : String} (hg : Gl X "isinstance") (hm : X.mg "isinstance" = none) (gx : Gl X x) (mx : X.mg x = none) (bx : bootBuiltins x = some (.type Tn)) (ha : De X a fa) (nx : x ≠ "__name__" := by decide) (dx : (x == ("__debug__" : Str)) = false := by decide)
    (he : starEach [a, .Name x p2] X.env = (false, eval a X.env) :: starEach [.Name x p2] X.env := by rfl) (h2 : starEach [Expr.Name x p2] X.env = [(false, eval (.Name x p2) X.env)] := by rfl) (hpl : (backTo pos (starEach [Expr.Name x p2] X.env)).any (·.1) = false := by rfl) :
    De X (.Call (.Name "isinstance" p) [a, .Name x p2] [] pos) (mUn (gIsi Tn) fa) := by
  have hT : PE X (.Name x p2) (tC (.ty Tn)) := pe_bltn gx mx bx rfl nx dx
  refine PE.weak (pe_callB call_isi hg hm (by decide +kernel) (pa_cons ha (pa_cons hT pa_nil h2) he) (by decide) (by decide) he hpl) fun σ H Q ⟨ρ, S, mu, B, O, rl, w, S', e, q⟩ => ?_
  obtain ⟨d, S1, e1, e⟩ := R.bnd_inv e
  obtain ⟨e2, rfl⟩ := R.of_inv e
  obtain ⟨k, e3, e4⟩ := Option.bind_eq_some_iff.mp e2
  obtain ⟨b, e5, rfl⟩ := Option.map_eq_some_iff.mp e4
  refine tD.mk rl e1 fun v H1 mu1 E r p => ?_
  exact ⟨v, .ty Tn, .type k, .type Tn, b, rfl, .ty Tn, ty_of p e3, kit_ty e5, q _ H1 mu1 E r.sto (.bl b)⟩
end
end DL
namespace DL
open PySem PySem.Spec PyProof.Rows L2
section
variable {K : Fg} {mu : List Addr} {B O : Addr → Prop} {H : Hp} {σ : Sg} {ρ : Ev} {S : Sto}
theorem Rel.newOwn (h : Rel K mu B O H σ ρ S) (i : Nat) {p : Addr} {xs : List V} {ws : List Wd} (n : H p = none) (r : RpAll K mu (fun a => B a ∨ O a) H xs ws) :
    Rel K mu B (fun a => O a ∨ a = p) (upd H p (.lst xs)) (σ.set i (some (.ref p))) (ρ.set i (some (.own ws))) S := by
  have tr : ∀ a, (B a ∨ O a ∨ a = p) → ((B a ∨ O a) ∨ a = p) := fun a z => z.elim (fun z => .inl (.inl z)) fun z => z.elim (fun z => .inl (.inr z)) .inr
  have up : ∀ {v : V} {w : Wd}, Rp K mu (fun a => B a ∨ O a) H v w → Rp K mu (fun a => B a ∨ O a ∨ a = p) (upd H p (.lst xs)) v w := fun q => ((q.ban n).weak tr).same (same_upd n)
  have upA : ∀ {v : List V} {w : List Wd}, RpAll K mu (fun a => B a ∨ O a) H v w → RpAll K mu (fun a => B a ∨ O a ∨ a = p) (upd H p (.lst xs)) v w := fun q => ((q.ban n).weak tr).same (same_upd n)
  have nB : ¬ B p := fun z => (h.bn p (.inl z)).1.1.1 n
  have old : ∀ {j : Nat} {us : List Wd} {b : Addr}, ρ[j]? = some (some (.own us)) → σ[j]? = some (some (V.ref b)) → b ≠ p := fun {j us b} e1 e2 e => by
    obtain ⟨a, ys, h1, h2, h3, h4, h5⟩ := h.own j us e1
    rw [h1] at e2
    cases e2
    rw [e, n] at h4
    cases h4
  refine ⟨by rw [List.length_set, List.length_set]; exact h.len, fun j w e => ?_, fun j us e => ?_, fun j k us us' a e1 e2 e3 e4 => ?_, ((h.sto.ban n).weak tr).same (same_upd n), fun a t => ?_⟩
  · rcases set_get e with ⟨rfl, e1, hl⟩ | ⟨c, e⟩
    · cases e1
    · obtain ⟨u, h1, h2⟩ := h.val j w e
      exact ⟨u, by rw [List.getElem?_set_ne c]; exact h1, up h2⟩
  · rcases set_get e with ⟨rfl, e1, hl⟩ | ⟨c, e⟩
    · cases e1
      exact ⟨p, xs, by rw [List.getElem?_set_self (by rw [h.len]; exact hl)], .inr rfl, nB, upd_same, upA r⟩
    · obtain ⟨a, ys, h1, h2, h3, h4, h5⟩ := h.own j us e
      exact ⟨a, ys, by rw [List.getElem?_set_ne c]; exact h1, .inl h2, h3, (upd_ne (ne_of_none h4 n)).trans h4, upA h5⟩
  · rcases set_get e1 with ⟨rfl, e1, hl⟩ | ⟨c, e1⟩
    · rcases set_get e2 with ⟨rfl, e2, hl2⟩ | ⟨c2, e2⟩
      · rfl
      · rw [List.getElem?_set_self (by rw [h.len]; exact hl)] at e3
        rw [List.getElem?_set_ne c2] at e4
        cases e3
        exact absurd rfl (old e2 e4)
    · rcases set_get e2 with ⟨rfl, e2, hl2⟩ | ⟨c2, e2⟩
      · rw [List.getElem?_set_self (by rw [h.len]; exact hl2)] at e4
        rw [List.getElem?_set_ne c] at e3
        cases e4
        exact absurd rfl (old e1 e3)
      · rw [List.getElem?_set_ne c] at e3
        rw [List.getElem?_set_ne c2] at e4
        exact h.dif j k us us' a e1 e2 e3 e4
  · rcases tr a t with t | t
    · obtain ⟨h1, h2⟩ := h.bn a t
      refine ⟨?_, h2⟩
      cases e : H a with
      | none => exact absurd e h1.1.1
      | some u =>
        rw [upd_ne (ne_of_none e n)]
        exact h1
    · subst t
      refine ⟨?_, h.sto.fresh n⟩
      rw [upd_same]
      exact .lst
theorem ExtS.newOwn {p : Addr} {o : HO} (n : H p = none) : ExtS mu mu O (fun a => O a ∨ a = p) H (upd H p o) :=
  ⟨fun _ _ h => h, fun a u h _ _ => by rw [upd_ne (ne_of_none h n)]; exact h, fun _ h q => absurd h q, fun a h => h.imp id fun (h : a = p) => (congrArg H h).trans n, fun a h => by
    by_cases c : a = p
    · subst c
      rw [upd_same]
      exact fun z => nomatch z
    · rw [upd_ne c]
      exact h⟩
theorem Rel.grow (h : Rel K mu B O H σ ρ S) {i : Nat} {a : Addr} {xs : List V} {ws ws' : List Wd} {ys : List V} (hi : ρ[i]? = some (some (.own ws))) (ha : σ[i]? = some (some (V.ref a))) (hO : O a) (hB : ¬ B a) (r : RpAll K mu (fun a => B a ∨ O a) H ys ws') :
    Rel K mu B O (upd H a (.lst ys)) σ (ρ.set i (some (.own ws'))) S := by
  refine ⟨by rw [List.length_set]; exact h.len, fun j w e => ?_, fun j us e => ?_, fun j k us us' b e1 e2 e3 e4 => ?_, h.sto.at_ban h.bn (.inr hO), fun b t => ?_⟩
  · rcases set_get e with ⟨rfl, e1, hl⟩ | ⟨c, e⟩
    · cases e1
    · obtain ⟨u, h1, h2⟩ := h.val j w e
      exact ⟨u, h1, h2.at_ban (.inr hO)⟩
  · rcases set_get e with ⟨rfl, e1, hl⟩ | ⟨c, e⟩
    · cases e1
      exact ⟨a, ys, ha, hO, hB, upd_same, r.at_ban (.inr hO)⟩
    · obtain ⟨b, zs, h1, h2, h3, h4, h5⟩ := h.own j us e
      have nb : b ≠ a := fun z => c (h.dif i j ws us a hi e ha (z ▸ h1))
      exact ⟨b, zs, h1, h2, h3, (upd_ne nb).trans h4, h5.at_ban (.inr hO)⟩
  · have o1 : ∃ vs, ρ[j]? = some (some (.own vs)) := by
      rcases set_get e1 with ⟨rfl, e1, hl⟩ | ⟨c, e1⟩
      · exact ⟨ws, hi⟩
      · exact ⟨us, e1⟩
    have o2 : ∃ vs, ρ[k]? = some (some (.own vs)) := by
      rcases set_get e2 with ⟨rfl, e2, hl⟩ | ⟨c, e2⟩
      · exact ⟨ws, hi⟩
      · exact ⟨us', e2⟩
    obtain ⟨v1, o1⟩ := o1
    obtain ⟨v2, o2⟩ := o2
    exact h.dif j k v1 v2 b o1 o2 e3 e4
  · obtain ⟨h1, h2⟩ := h.bn b t
    refine ⟨?_, h2⟩
    by_cases c : b = a
    · subst c
      rw [upd_same]
      exact .lst
    · rw [upd_ne c]
      exact h1
theorem ExtS.at_own {a : Addr} {o : HO} (hO : O a) : ExtS mu mu O O H (upd H a o) :=
  ⟨fun _ _ h => h, fun b u h _ no => by rw [upd_ne (show b ≠ a from fun z => no (z ▸ hO))]; exact h, fun _ h q => absurd h q, fun _ h => .inl h, fun b h => by
    by_cases c : b = a
    · subst c
      rw [upd_same]
      exact fun z => nomatch z
    · rw [upd_ne c]
      exact h⟩
theorem Rel.freeze (h : Rel K mu B O H σ ρ S) {i : Nat} {ws : List Wd} (hi : ρ[i]? = some (some (.own ws))) : ∃ O', (∀ a, O' a → O a) ∧ Rel K mu B O' H σ (ρ.set i (some (.val (.list ws)))) S := by
  obtain ⟨a, xs, h1, h2, h3, h4, h5⟩ := h.own i ws hi
  have tr : ∀ b, (B b ∨ O b ∧ b ≠ a) → (B b ∨ O b) := fun b z => z.imp id fun z => z.1
  refine ⟨fun b => O b ∧ b ≠ a, fun b z => z.1, by rw [List.length_set]; exact h.len, fun j w e => ?_, fun j us e => ?_, fun j k us us' b e1 e2 e3 e4 => ?_, h.sto.weak tr, fun b t => h.bn b (tr b t)⟩
  · rcases set_get e with ⟨rfl, e1, hl⟩ | ⟨c, e⟩
    · cases e1
      exact ⟨.ref a, h1, .lst (.inl ⟨.inl h4, (h.bn a (.inr h2)).2, fun z => z.elim h3 fun z => z.2 rfl⟩) (h5.weak tr)⟩
    · obtain ⟨u, e1, e2⟩ := h.val j w e
      exact ⟨u, e1, e2.weak tr⟩
  · rcases set_get e with ⟨rfl, e1, hl⟩ | ⟨c, e⟩
    · cases e1
    · obtain ⟨b, zs, k1, k2, k3, k4, k5⟩ := h.own j us e
      exact ⟨b, zs, k1, ⟨k2, fun z => c (h.dif i j ws us a hi e h1 (z ▸ k1))⟩, k3, k4, k5.weak tr⟩
  · rcases set_get e1 with ⟨rfl, e1, hl⟩ | ⟨c, e1⟩
    · cases e1
    rcases set_get e2 with ⟨rfl, e2, hl⟩ | ⟨c2, e2⟩
    · cases e2
    exact h.dif j k us us' b e1 e2 e3 e4
theorem ExtS.less {O' : Addr → Prop} (h : ∀ a, O' a → O a) : ExtS mu mu O O' H H := ⟨fun _ _ h => h, fun _ _ h _ _ => h, fun _ h q => absurd h q, fun a z => .inl (h a z), fun _ h => h⟩
end
section
variable {X : Cx} {e : Expr} {es : List Expr} {f : Mx} {fs : Ma} {pos : Pos} {m : Ms}
def sOwn (i : Nat) (fs : Ma) : Ms := fun ρ S => match fs ρ S with
  | .ok ws S1 => if ws.length ≤ sizeLine then .nx (ρ.set i (some (.own ws))) S1 else .bad
  | .bad => .bad
theorem ds_own {i : Nat} {x : Str} {pos' lpos : Pos} (hN : X.N.Nodup) (hi : X.N[i]? = some x) (hx : Loc X.env.scope x) (he : Da X es fs) (hs : swapsWith (.List es lpos) (some (.Name x pos')) pos.line X.env = pure false := by rfl)
    (hf : X.fn x = true ∨ X.env.scope.names.lookup x = some .local := by first | exact .inl rfl | exact .inr rfl | assumption) : Ds X (.Assign [.Name x pos'] (.List es lpos) pos) (sOwn i fs) :=
  PS.weak (ps_set hN hi hx (pe_lst he) hs hf) fun D σ H ⟨ρ, S, mu, B, O, rl, q⟩ => by
    unfold sOwn at q
    cases z : fs ρ S with
    | bad => rw [z] at q; exact q.elim
    | ok ws S1 =>
      rw [z] at q
      simp only at q
      by_cases hz : ws.length ≤ sizeLine
      · rw [if_pos hz] at q
        refine tDa.mk rl z fun vs H1 mu1 E r p => ⟨by rw [p.length]; exact hz, fun l hl => ?_⟩
        exact q _ _ mu1 _ ((E.toS r.sto).trans (ExtS.newOwn hl)) (r.newOwn i hl p)
      · rw [if_neg hz] at q
        exact q.elim
def sApp (i : Nat) (f : Mx) : Ms := fun ρ S => match ρ[i]? with
  | some (some (.own ws)) => sOf (f ρ S) fun w S1 => if ws.length < sizeLine then .nx (ρ.set i (some (.own (ws ++ [w])))) S1 else .bad
  | _ => .bad
theorem ds_append {i : Nat} {x : Str} {apos cpos xpos : Pos} (hN : X.N[i]? = some x) (hv : Vis X.env.scope x) (he : De X e f) (hd : (x == ("__debug__" : Str)) = false := by decide) (hcd : (x == ("__classdict__" : Str)) = false := by decide)
    (hbase : attributeBase (.Name x xpos) "append" X.env (eval (.Name x xpos) X.env) = eval (.Name x xpos) X.env := by rfl)
    (hfew : ((backTo cpos (starEach [e] X.env)).all (fun x => !x.1) && (backToKw cpos (keywordEach [] X.env)).all (fun x => x.1.isSome) && decide ([e].length + ([] : List Keyword).length + (if ([] : List Keyword).isEmpty then 0 else 1) < 30)) = true := by rfl)
    (hline : (apos.endLine == cpos.line) = true := by rfl) (hs1 : starEach [e] X.env = [(false, eval e X.env)] := by rfl)
    (hs : swapsWith (.Call (.Attribute (.Name x xpos) "append" apos) [e] [] cpos) none pos.line X.env = pure false := by rfl) : Ds X (.Expr (.Call (.Attribute (.Name x xpos) "append" apos) [e] [] cpos) pos) (sApp i f) :=
  PS.weak (ps_expr (pe_bm PySem.F.plainAttrs_list PySem.F.slot_list_append PySem.F.type_list_append mt_append (pe_var hN hv hd hcd) (pa_cons he pa_nil hs1) hbase hfew hline hs1 rfl) hs) fun D σ H ⟨ρ, S, mu, B, O, rl, q⟩ => by
    unfold sApp at q
    split at q
    · rename_i ws hi
      cases z : f ρ S with
      | bad => rw [z] at q; exact q.elim
      | ok w S1 =>
        rw [z, sOf_ok] at q
        by_cases hz : ws.length < sizeLine
        · rw [if_pos hz] at q
          obtain ⟨a, xs, h1, h2, h3, h4, h5⟩ := rl.own i ws hi
          refine ⟨.ref a, h1, .inl ⟨rfl, xs, .inl (.inl h4)⟩, ?_⟩
          refine tD.mk rl z fun v H1 mu1 E r p => ?_
          have h4' : H1 a = some (.lst xs) := E.keep a _ h4 (rl.bn a (.inr h2)).2
          refine ⟨a, xs, v, rfl, rfl, h4', by rw [h5.length]; exact hz, ?_⟩
          exact q σ _ mu1 O ((E.toS r.sto).trans (ExtS.at_own h2)) (r.grow (xs := xs) hi h1 h2 h3 ((h5.ext E).append (.cons p .nil)))
        · rw [if_neg hz] at q
          exact q.elim
    · exact q.elim
def frzE (i : Nat) (ρ : Ev) : Ev := match ρ[i]? with
  | some (some (.own ws)) => ρ.set i (some (.val (.list ws)))
  | _ => ρ
def sFrz (i : Nat) (m : Ms) : Ms := fun ρ S => m (frzE i ρ) S
theorem frz_weak {K : Fg} (i : Nat) : ∀ D σ H, tDs K (sFrz i m) D σ H → tDs K m D σ H := fun D σ H ⟨ρ, S, mu, B, O, rl, q⟩ => by
  unfold sFrz frzE at q
  split at q
  · rename_i ws hi
    obtain ⟨O', hO, r⟩ := rl.freeze hi
    exact ⟨_, S, mu, B, O', r, postS.ext (ExtS.less hO) q⟩
  · exact ⟨ρ, S, mu, B, O, rl, q⟩
theorem dss_frz {sts : List Stmt} (i : Nat) (h : Dss X sts m) : Dss X sts (sFrz i m) := PSs.weak h (frz_weak i)
def sPar (i j : Nat) (fs : Ma) : Ms := fun ρ S => match fs ρ S with
  | .ok [v, w] S1 => .nx ((ρ.set i (some (.val v))).set j (some (.val w))) S1
  | _ => .bad
theorem ds_par {i j : Nat} {x y : Str} {a b : Expr} {px py pt pt2 : Pos} {kt k2 : Nat} (hc : X.calm = true) (hN : X.N.Nodup) (hi : X.N[i]? = some x) (hj : X.N[j]? = some y) (hij : i ≠ j) (hx : X.env.scope.names.lookup x = some .local) (hy : X.env.scope.names.lookup y = some .local) (ha : Da X [a, b] fs)
    (hw : swappedStores [.Tuple [.Name x px, .Name y py] kt pt] (.Tuple [a, b] k2 pt2) X.env = pure (some [x, y])) (hs : swapsWithSole [.Tuple [.Name x px, .Name y py] kt pt] (.Tuple [a, b] k2 pt2) pos.line X.env = pure false := by rfl) :
    Ds X (.Assign [.Tuple [.Name x px, .Name y py] kt pt] (.Tuple [a, b] k2 pt2) pos) (sPar i j fs) :=
  PS.weak (ps_par hc hN hi hj hij hx hy ha hw hs) fun D σ H ⟨ρ, S, mu, B, O, rl, q⟩ => by
    unfold sPar at q
    split at q
    · rename_i v w S1 z
      refine tDa.mk rl z fun vs H1 mu1 E r p => ?_
      cases p with
      | cons p1 p2 => cases p2 with
      | cons p2 p3 =>
        cases p3
        exact ⟨_, _, rfl, q _ H1 mu1 O (E.toS r.sto) ((r.set i p1).set j p2)⟩
    · exact q.elim
end
end DL
namespace DL
open PySem PySem.Spec PyProof.Rows L2
def tDps (K : Fg) (names : List Str) (fs : Ma) : Sg → Hp → (List (V × V) → Hp → Prop) → Prop := fun σ H Q => ∃ ρ S mu B O, Rel K mu B O H σ ρ S ∧ ∃ ws S', fs ρ S = .ok ws S' ∧ ∀ vs H' mu', Ext mu mu' H H' → StOk K mu' (fun a => B a ∨ O a) H' S' → RpAll K mu' (fun a => B a ∨ O a) H' vs ws → Q ((names.map V.str).zip vs) H'
def Dps (X : Cx) (pos : Pos) (keys : List (Option Expr)) (values : List Expr) (names : List Str) (fs : Ma) : Prop := ∃ trs, PPs X pos keys values trs ∧ (∀ σ H Q, tDps X.K names fs σ H Q → tPairs trs σ H Q) ∧ (∀ ρ S ws S', fs ρ S = .ok ws S' → ws.length = names.length)
section
variable {X : Cx} {pos : Pos}
theorem dps_nil : Dps X pos [] [] [] aNil := ⟨_, pps_nil, fun σ H Q ⟨ρ, S, mu, B, O, rl, ws, S', e, q⟩ => by
  cases e
  exact q [] H mu (.refl _ _) rl.sto .nil, fun ρ S ws S' e => by cases e; rfl⟩
theorem dps_cons {x : Str} {j : Nat} {kp : Pos} {v : Expr} {f : Mx} {ks : List (Option Expr)} {vs : List Expr} {names : List Str} {fs : Ma} (hv : De X v f) (hr : Dps X pos ks vs names fs) : Dps X pos (some (.Constant (.str x) j kp) :: ks) (v :: vs) (x :: names) (aCons f fs) := by
  obtain ⟨trs, p, k, l⟩ := hr
  refine ⟨_, pps_cons pe_str hv p, fun σ H Q ⟨ρ, S, mu, B, O, rl, ws, S', e, q⟩ => ?_, fun ρ S ws S' e => ?_⟩
  · obtain ⟨w, S1, e1, e⟩ := R.bnd_inv e
    obtain ⟨wr, S2, e2, e⟩ := R.bnd_inv e
    cases e
    show tD X.K f σ H _
    refine tD.mk rl e1 fun v' H1 mu1 E r p1 => k σ H1 _ ⟨ρ, S1, mu1, B, O, r, wr, _, e2, fun vs' H2 mu2 E2 st2 p2 => ?_⟩
    exact q (v' :: vs') H2 mu2 (E.trans E2) st2 (.cons (p1.ext E2) p2)
  · obtain ⟨w, S1, e1, e⟩ := R.bnd_inv e
    obtain ⟨wr, S2, e2, e⟩ := R.bnd_inv e
    cases e
    rw [List.length_cons, List.length_cons, l _ _ _ _ e2]
def mRec (names : List Str) (fs : Ma) : Mx := fun ρ S => (fs ρ S).bnd fun ws S1 => .ok (oW S1.length) (S1 ++ [.dct (names.zip ws)])
theorem merge_nodup : ∀ (kvs acc : List (Key × V)), (kvs.map (·.1)).Nodup → (∀ q ∈ kvs, ∀ r ∈ acc, r.1 ≠ q.1) → mergeK acc kvs = acc ++ kvs
  | [], acc, _, _ => by rw [List.append_nil]; rfl
  | (k, v) :: r, acc, h, d => by
    have h' : k ∉ r.map (·.1) ∧ (r.map (·.1)).Nodup := by rw [List.map_cons, List.nodup_cons] at h; exact h
    have e : putK acc k v = acc ++ [(k, v)] := by
      unfold putK
      rw [if_neg]
      intro z
      obtain ⟨q, h1, h2⟩ := List.any_eq_true.mp z
      exact d (k, v) List.mem_cons_self q h1 (of_decide_eq_true h2)
    show mergeK (putK acc k v) r = _
    rw [e, merge_nodup r (acc ++ [(k, v)]) h'.2 fun q hq s hs => ?_]
    · rw [List.append_assoc]
      rfl
    · rcases List.mem_append.mp hs with hs | hs
      · exact d q (List.mem_cons_of_mem _ hq) s hs
      · rw [List.mem_singleton] at hs
        subst hs
        exact fun z => h'.1 (List.mem_map.mpr ⟨q, hq, z.symm⟩)
theorem fs_zip {K : Fg} {mu : List Addr} {T : Addr → Prop} {H : Hp} : ∀ {names : List Str} {vs : List V} {ws : List Wd}, names.length = vs.length → RpAll K mu T H vs ws → FsR K mu T H (names.map (Sum.inr (α := Int)) |>.zip vs) (names.zip ws)
  | [], [], [], _, _ => trivial
  | x :: names, v :: vs, w :: ws, hl, h => by
    cases h with
    | cons a b => exact ⟨rfl, a, fs_zip (by simpa using hl) b⟩
  | [], _ :: _, _, hl, _ => by simp at hl
  | _ :: _, [], _, hl, _ => by simp at hl
theorem zip_keys : ∀ (names : List Str) (vs : List V), (names.map V.str).zip vs = ((names.map (Sum.inr (α := Int))).zip vs).map fun kv => (kV kv.1, kv.2)
  | [], vs => by simp
  | _ :: _, [] => by simp
  | x :: names, v :: vs => by
    simp only [List.map_cons, List.zip_cons_cons]
    rw [zip_keys names vs]
    rfl
theorem de_rec {keys : List (Option Expr)} {values : List Expr} {names : List Str} {fs : Ma} (h : Dps X pos keys values names fs) (hall : keys.all (·.isSome) = true) (hl : keys.length = values.length) (h0 : keys ≠ []) (h15 : keys.length ≤ 15) (hn : names.length ≤ 15) (hnd : names.Nodup) : De X (.Dict keys values pos) (mRec names fs) := by
  obtain ⟨trs, p, k, l⟩ := h
  refine PE.weak (pe_disp p hall hl h0 h15) fun σ H Q ⟨ρ, S, mu, B, O, rl, w, S', e, q⟩ => ?_
  obtain ⟨ws, S1, e1, e⟩ := R.bnd_inv e
  cases e
  intro p np
  have r0 := rl.ban np (.dK [])
  have nT : ¬ (B p ∨ O p) := rl.bn.fresh np
  refine k σ _ _ ⟨ρ, S, mu, _, O, r0, ws, S1, e1, fun vs H1 mu1 E st pv => ?_⟩
  have lw := l ρ S ws S1 e1
  have lv : names.length = vs.length := by rw [pv.length]; exact lw.symm
  have np1 : p ∉ mu := (r0.bn p (.inl (.inr rfl))).2
  have ep : H1 p = some (.dK []) := E.keep p _ upd_same np1
  have np2 : p ∉ mu1 := E.notin upd_same np1
  refine ⟨ep, (names.map (Sum.inr (α := Int))).zip vs, zip_keys names vs, by rw [List.length_zip, List.length_map]; omega, ?_⟩
  have nk : (((names.map (Sum.inr (α := Int))).zip vs).map (·.1)).Nodup := by
    rw [List.map_fst_zip (by rw [List.length_map]; omega)]
    exact List.pairwise_map.mpr (hnd.imp fun h z => h (Sum.inr.inj z))
  rw [merge_nodup _ [] nk (fun _ _ r hr => by cases hr), List.nil_append]
  have bn1 : Bn mu1 (fun a => (B a ∨ a = p) ∨ O a) H1 := (r0.bn).ext E
  have st2 := StOk.newRec st ep np2 (.inl (.inr rfl)) bn1 (fs_zip lv pv)
  have hlen : mu1.length = S1.length := st.len
  refine q (.ref p) _ (mu1 ++ [p]) ⟨fun l a h => ?_, fun a o h n => ?_, fun a h n => ?_⟩ (st2.weak fun a z => z.imp .inl id) (.obj ?_)
  · have h2 := E.pre l a h
    rw [List.getElem?_append_left (List.getElem?_eq_some_iff.mp h2).1]
    exact h2
  · rw [upd_ne (ne_of_none h np)]
    exact E.keep a o (same_upd np a o h) n
  · rcases List.mem_append.mp h with h | h
    · by_cases c : a = p
      · rw [c]; exact np
      · have := E.new a h n
        rw [upd_ne c] at this
        exact this
    · rw [List.mem_singleton] at h
      rw [h]; exact np
  · rw [← hlen, List.getElem?_append_right (Nat.le_refl _), Nat.sub_self]
    rfl
def sPut (fo : Mx) (x : Str) (f : Mx) : Ms := fun ρ S => sOf (f ρ S) fun w S1 => sOf (fo ρ S1) fun o S2 => match o with
  | .dict [(.none, .int (.ofNat l))] => (match recPut S2 l x w with
    | some S3 => .nx ρ S3
    | none => .bad)
  | _ => .bad
theorem ds_put {o value : Expr} {fo f : Mx} {x : Str} {j : Nat} {kp pos' : Pos} (hu : X.A.units + 1 < cLine) (ho : De X o fo) (hv : De X value f) (hs : swapsWith value (some (.Subscript o (.Constant (.str x) j kp) pos')) pos.line X.env = pure false := by rfl) :
    Ds X (.Assign [.Subscript o (.Constant (.str x) j kp) pos'] value pos) (sPut fo x f) :=
  PS.weak (ps_dput hu ho pe_str hv hs) fun D σ H ⟨ρ, S, mu, B, O, rl, q⟩ => by
    unfold sPut at q
    cases z : f ρ S with
    | bad => rw [z] at q; exact q.elim
    | ok w S1 =>
      rw [z, sOf_ok] at q
      cases y : fo ρ S1 with
      | bad => rw [y] at q; exact q.elim
      | ok od S2 =>
        rw [y, sOf_ok] at q
        refine tD.mk rl z fun v H1 mu1 E1 r1 p1 => tD.mk r1 y fun u H2 mu2 E2 r2 p2 => ?_
        split at q
        · rename_i l
          cases t : recPut S2 l x w with
          | none => rw [t] at q; exact q.elim
          | some S3 =>
            rw [t] at q
            unfold recPut at t
            split at t
            · rename_i fs hS
              obtain ⟨hz, rfl⟩ := ite_inv t
              cases p2 with
              | @obj a _ hl =>
                obtain ⟨kvs, h1, h2⟩ := r2.sto.ok _ _ _ hl hS
                refine ⟨a, _, rfl, DPut.k (k := Sum.inr x) h1 (by rw [h2.length]; exact hz), ?_⟩
                have st := r2.sto.put (x := x) hl hS h1 h2 (p1.ext E2)
                have ex : Ext mu2 mu2 H2 (upd H2 a (.dK (putK kvs (Sum.inr x) v))) := .at_mu (List.mem_of_getElem? hl)
                exact q σ _ mu2 O (((E1.trans E2).trans ex).toS st) (r2.ext ex st)
              | dct a b => exact (kv_none b).elim
            · cases t
        · exact q.elim
end
section
variable {X : Cx} {fi : Mi} {g : Mg} {t : Mt} {fe : Mx} {elt tgx iter : Expr} {ifs : List Expr} {scope : Scope} {own : List (Str × Nat)} {pos spos py : Pos} {i : Nat} {y : Str}
theorem ds_setLc (hc : X.calm = true) (hN : X.N.Nodup) (hy : X.N[i]? = some y) (hyl : X.env.scope.names.lookup y = some .local) (hsw : swapsWith (.ListComp elt [⟨tgx, iter, ifs, 0⟩] scope pos) (some (.Name y py)) spos.line X.env = pure true) (hi : Di X tgx iter fi) (ok : BlkOk X.N X.env.scope scope own)
    (hg : DgF (X.fam scope) X.K (own.map (·.2)) tgx g)
    (ht : ∀ (s : Shared) (H : Hp) (C : Addr) (cl : List (Str × Addr)) (fp : List Addr), DTs (X.blk s H scope (compEnvC scope cl C X.env) fp) ifs t)
    (he : ∀ (s : Shared) (H : Hp) (C : Addr) (cl : List (Str × Addr)) (fp : List Addr), De (X.blk s H scope (compEnvC scope cl C X.env) fp) elt fe) (hs : ∀ x, foldedSetIterable iter X.env x = pure x := by intro _; rfl) :
    Ds X (.Assign [.Name y py] (.ListComp elt [⟨tgx, iter, ifs, 0⟩] scope pos) spos) (sSet i (mLc (own.map (·.2)) fi g t fe)) := by
  obtain ⟨tg, pg, kg⟩ := hg
  refine PS.weak (ps_setLc (tt := tDt X.K t) (te := tD X.K fe) hc hN hy hyl hsw hi ok (fun s H C cl fp => pg (s, H, C, cl, fp)) ht he hs) fun D σ H ⟨ρ, S, mu, B, O, rl, q⟩ => ?_
  unfold sSet at q
  cases z : mLc (own.map (·.2)) fi g t fe ρ S with
  | bad => rw [z] at q; exact q.elim
  | ok w S1 =>
    rw [z, sOf_ok] at q
    refine lc_core' (fun J v w ws hJ mu B O H S st bn p => ?_) (fun σ => wipe_idem σ _) σ H _ (tD.mk rl z fun v H1 mu1 E r p => q _ H1 mu1 O (E.toS r.sto) (r.set i p))
    obtain ⟨h1, h2⟩ := hJ mu _ H S st bn p
    exact ⟨fun i d e => ⟨(h1 i d e).1, fun x H' hy => ⟨((h1 i d e).2 x H' hy).1, fun σ ρ ρ' Q r eg k => kg mu B O H' σ ρ ρ' S x d Q r ((h1 i d e).2 x H' hy).2 eg k⟩⟩, h2⟩
end
def spD (K : Fg) (g : Gd) (vs : List V) (H : Hp) (Q : VK) : Prop := ∃ ws S mu T, StOk K mu T H S ∧ Bn mu T H ∧ RpAll K mu T H vs ws ∧ ∃ w S', g ws S = .ok w S' ∧ ∀ v H' mu', Ext mu mu' H H' → StOk K mu' T H' S' → Rp K mu' T H' v w → Q v H'
structure FnD (G : Bool) (P : Program) (w : World) (K : Fg) (mg : Str → Option Value) (base : Heap) (k : Nat) (f : Addr) (fd : FuncData) (ps : List Str) (g : Gd) : Prop where
  len : ∀ ws S v S', g ws S = .ok v S' → ws.length = ps.length
  run : ∀ (A : Around) (outer : List Env) (s : Shared) (H : Hp) (args : Args) (us : List Value) (vs : List V) (Q : VK), Room k A → (G = true → A.guards = some []) → Env0 P w K mg base A outer s H → BindsTo s fd args (ps.zip us) → Vals vs us → spD K g vs H Q →
    codeAny (model P w) A (.call (.ref f) args) (CR CX0 outer P w H s Q E0) s
variable {G : Bool}
theorem nog {p : Prop} : (false = true → p) := fun z => by cases z
def startE (n : Nat) (ws : List Wd) : Ev := ws.map (fun w => some (.val w)) ++ List.replicate (n - ws.length) none
def runDef (n p : Nat) (m : Ms) : Gd := fun ws S => if ws.length = p then (match m (startE n ws) S with
  | .nx _ S' => .ok .none S'
  | .rt w S' => .ok w S'
  | _ => .bad) else .bad
theorem FnD.mono {P : Program} {w : World} {K : Fg} {mg : Str → Option Value} {base : Heap} {j k : Nat} {f : Addr} {fd : FuncData} {ps : List Str} {g : Gd} (F : FnD G P w K mg base j f fd ps g) (h : j ≤ k) : FnD G P w K mg base k f fd ps g :=
  ⟨F.len, fun A outer s H args us vs Q hr => F.run A outer s H args us vs Q (hr.mono h)⟩
theorem FnD.imp {P : Program} {w : World} {K : Fg} {mg : Str → Option Value} {base : Heap} {k : Nat} {f : Addr} {fd : FuncData} {ps : List Str} {g g' : Gd} (F : FnD G P w K mg base k f fd ps g) (h : ∀ ws S v S', g' ws S = .ok v S' → g ws S = .ok v S') : FnD G P w K mg base k f fd ps g' :=
  ⟨fun ws S v S' e => F.len ws S v S' (h _ _ _ _ e), fun A outer s H args us vs Q hr hg e0 hb r ⟨ws, S, mu, T, h1, h2, h3, v, S', e, q⟩ => F.run A outer s H args us vs Q hr hg e0 hb r ⟨ws, S, mu, T, h1, h2, h3, v, S', h _ _ _ _ e, q⟩⟩
theorem start_rel {K : Fg} {mu : List Addr} {T : Addr → Prop} {H : Hp} {S : Sto} {N : List Str} {vs : List V} {ws : List Wd} (st : StOk K mu T H S) (bn : Bn mu T H) (r : RpAll K mu T H vs ws) : Rel K mu T (fun _ => False) H (L2.start N vs) (startE N.length ws) S := by
  have tr : ∀ a, (T a ∨ False) → T a := fun a z => z.elim id False.elim
  have hl := r.length
  refine ⟨?_, fun i w e => ?_, fun i us e => ?_, fun i j us us' a e _ _ _ => ?_, st.weak tr, fun a t => bn a (tr a t)⟩
  · unfold L2.start startE
    rw [List.length_append, List.length_append, List.length_map, List.length_map, List.length_replicate, List.length_replicate, hl]
  · unfold startE at e
    by_cases c : i < ws.length
    · rw [List.getElem?_append_left (by rw [List.length_map]; exact c), List.getElem?_map] at e
      obtain ⟨w', e1, e2⟩ := Option.map_eq_some_iff.mp e
      cases e2
      obtain ⟨v, e3, e4⟩ := r.get e1
      refine ⟨v, ?_, e4.weak tr⟩
      unfold L2.start
      rw [List.getElem?_append_left (by rw [List.length_map, hl]; exact c), List.getElem?_map, e3]
      rfl
    · rw [List.getElem?_append_right (by rw [List.length_map]; omega)] at e
      have := List.mem_of_getElem? e
      rw [List.mem_replicate] at this
      cases this.2
  all_goals
    unfold startE at e
    by_cases c : i < ws.length
    · rw [List.getElem?_append_left (by rw [List.length_map]; exact c), List.getElem?_map] at e
      obtain ⟨w', e1, e2⟩ := Option.map_eq_some_iff.mp e
      cases e2
    · rw [List.getElem?_append_right (by rw [List.length_map]; omega)] at e
      have := List.mem_of_getElem? e
      rw [List.mem_replicate] at this
      cases this.2
section
variable {P : Program} {w : World} {K : Fg} {mg : Str → Option Value} {base : Heap} {x qual : Str} {params : Arguments} {body : List Stmt} {scope : Scope} {dvs : List V} {kws : List (Str × V)} {f : Addr} {fd : FuncData}
theorem fnD_of {N ps : List Str} {k n p : Nat} {m : Ms} (F : FunD K x qual params body scope dvs kws f fd) (Sc : FnScope N ps scope) (hn : N.length = n) (hp : ps.length = p)
    (hbody : ∀ (cdv : Value) (A : Around) (outer : List Env) (s : Shared) (H : Hp), Room k (A.deeper (envOfC qual scope s.heap.objs.size f cdv)) → (G = true → (A.deeper (envOfC qual scope s.heap.objs.size f cdv)).guards = some []) → Dss (cxOf CX0 P w K mg base N qual scope f cdv A outer s H E0).nox body m) :
    FnD G P w K mg base (k + 1) f fd ps (runDef n p m) := by
  subst hn hp
  obtain ⟨oc, od, dV, kV, doc, pm, an, cdv, ct, osl, rfl, lk, hcd, _, _⟩ := F.ex
  refine ⟨fun ws S v S' e => ?_, fun A outer s H args us vs Q hr hg e0 hb r h => ?_⟩
  · unfold runDef at e
    by_cases c : ws.length = ps.length
    · exact c
    · rw [if_neg c] at e
      cases e
  obtain ⟨ws, S, mu, T, st, bn, rp, v, S', e, q⟩ := h
  unfold runDef at e
  have c : ws.length = ps.length := by
    by_cases c : ws.length = ps.length
    · exact c
    · rw [if_neg c] at e
      cases e
  rw [if_pos c] at e
  have hlen : vs.length = ps.length := by rw [rp.length]; exact c
  have KX : K.In s.heap := e0.mod.kin.keeps fun b o z => (e0.bs b o z).1
  have lim : s.heap.NoLimit := e0.mod.nolimit.keeps fun b o z => (e0.bs b o z).1
  have hkind : ∀ y ∈ ps.zip us, scope.names.lookup y.1 = some .local ∨ (scope.names.lookup y.1 = some .cell ∧ ((cellsFrom (s.heap.objs.size + 1) scope.names []).lookup y.1).isSome = true) := by
    rintro ⟨nm, val⟩ hy
    rcases Sc.par nm (List.of_mem_zip hy).1 with z | z
    · exact .inl z
    · exact .inr ⟨z, PySem.W.cellsFrom_some _ _ _ (.inl z)⟩
  refine codeAny_call_function hr.depth (KX _ _ lk) rfl Sc.co Sc.gen rfl (PySem.W.codeRec_of KX hcd) (hb _ _ _ _ ?_)
  refine wpAny_newFunctionEnv_cells Sc.kind hkind fun env he s1 ic => ?_
  subst he
  refine ⟨lim.keeps ic.toInCall.keep, codeAny_func ?_⟩
  have I : Inv (cxOf CX0 P w K mg base N qual scope f cdv A outer s H E0) [] (L2.start N vs) H s1 := inv_start Sc hr.hd e0 hlen r ic
  have B := hbody cdv A outer s H (hr.deeper _) hg
  have go : tDs K m { nx := fun _ H' => Q .non H', rt := Q } (L2.start N vs) H := by
    refine ⟨startE N.length ws, S, mu, T, fun _ => False, start_rel st bn rp, ?_⟩
    have toE : ∀ {H' : Hp} {mu' : List Addr} {O' : Addr → Prop}, ExtS mu mu' (fun _ => False) O' H H' → Ext mu mu' H H' := fun y => ⟨y.pre, fun a o h n => y.keep a o h n fun z => z, y.new⟩
    cases z : m (startE N.length ws) S with
    | nx ρ' S2 =>
      rw [z] at e
      cases e
      exact fun σ' H' mu' O' y r' => q _ H' mu' (toE y) (r'.sto.weak fun a t => .inl t) .non
    | rt u S2 =>
      rw [z] at e
      cases e
      exact fun v' H' mu' O' y s' r' => q _ H' mu' (toE y) (s'.weak fun a t => .inl t) (r'.weak fun a t => .inl t)
    | bk ρ' S2 => rw [z] at e; cases e
    | ct ρ' S2 => rw [z] at e; cases e
    | bad => rw [z] at e; cases e
  refine wpAny_mono (B.nox.run [] s1 (L2.start N vs) H _ I go) (fun fl s' hs => ?_) fun e s' hs => hs
  have fin : ∀ {σ' : Sg} {H' : Hp} {v' : V} {u : Value}, Inv (cxOf CX0 P w K mg base N qual scope f cdv A outer s H E0) [] σ' H' s' → RelV v' u → Q v' H' → CE outer P w H s Q u s' :=
    fun {σ' H' v' u} J rv z => ⟨v', H', J.os, J.bare, J.base, J.hok, rv, z⟩
  cases fl with
  | ret u =>
    obtain ⟨v', σ', H', J, rv, z⟩ := hs
    exact fin J rv z
  | next =>
    obtain ⟨σ', H', J, z⟩ := hs
    exact fin (v' := V.non) (u := Value.none) J rfl z
  | brk =>
    obtain ⟨_, _, _, z⟩ := hs
    exact False.elim z
  | cont =>
    obtain ⟨_, _, _, z⟩ := hs
    exact False.elim z
end
def mCall (g : Gd) (fs : Ma) : Mx := fun ρ S => (fs ρ S).bnd fun ws S1 => g ws S1
section
variable {X : Cx} {k : Nat} {f : Addr} {fd : FuncData} {ps : List Str} {g : Gd} {x : Str} {p pos : Pos} {e : Expr} {es : List Expr} {fs : Ma}
theorem run_fnD {pins : List (Addr × Obj)} {σ : Sg} {H : Hp} {s : Shared} {Q : VK} {args : Args} {us : List Value} {vs : List V} (F : FnD G X.prog X.w X.K X.mg X.base k f fd ps g) (hr : Room k X.A) (hg : G = true → X.A.guards = some []) (hb : BindsTo s fd args (ps.zip us))
    (I : Inv X pins σ H s) (r : Vals vs us) (h : spD X.K g vs H Q) : wpAny (model X.prog X.w) X.A (call (.ref f) args.pos args.kw) (EP X pins σ Q) X.xe s := by
  refine wpAny_call (codeAny_mono (F.run X.A X.stack s H args us vs Q hr hg I.env0 hb r h) fun r s' hq => ?_)
  cases r with
  | error e => exact False.elim hq
  | ok fl =>
    cases fl with
    | ret u => exact I.after hq
    | next => exact False.elim hq
    | brk => exact False.elim hq
    | cont => exact False.elim hq
theorem call_sp {ws : List Wd} {S1 : Sto} {v : Wd} {S' : Sto} {K : Fg} {mu mu1 : List Addr} {B O : Addr → Prop} {H H1 : Hp} {vs : List V} {Q : VK} (E : Ext mu mu1 H H1) (st : StOk K mu1 (fun a => B a ∨ O a) H1 S1) (bn : Bn mu1 (fun a => B a ∨ O a) H1) (p : RpAll K mu1 (fun a => B a ∨ O a) H1 vs ws) (e : g ws S1 = .ok v S')
    (q : ∀ v' H' mu', Ext mu mu' H H' → StOk K mu' (fun a => B a ∨ O a) H' S' → Rp K mu' (fun a => B a ∨ O a) H' v' v → Q v' H') : spD K g vs H1 Q :=
  ⟨ws, S1, mu1, _, st, bn, p, v, S', e, fun v' H' mu' x s' r' => q v' H' mu' (E.trans x) s' r'⟩
theorem de_call (F : FnD G X.prog X.w X.K X.mg X.base k f fd ps g) (hr : Room k X.A) (hgd : G = true → X.A.guards = some []) (hg : Gl X x) (hm : X.mg x = some (.ref f)) (hk : PySem.W.keepIn X.K (.ref f) = true) (hb : Binds X.K fd ps []) (ha : Da X (e :: es) fs)
    (hdb : (x == ("__debug__" : Str)) = false := by decide) (he : starEach (e :: es) X.env = (false, eval e X.env) :: starEach es X.env := by rfl) (hpl : (backTo pos (starEach es X.env)).any (·.1) = false := by rfl) : De X (.Call (.Name x p) (e :: es) [] pos) (mCall g fs) := by
  refine ⟨fun pins s σ H Q I ⟨ρ, S, mu, B, O, rl, v, S', e1, q⟩ => ?_⟩
  obtain ⟨ws, S1, e2, e3⟩ := R.bnd_inv e1
  refine wpAny_Call_Name_kw (ld_glob I hg hm ?_ hdb)
  refine PySem.W.callWith_K (h₀ := X.base) I.ok.mod.kin hk (thn (ha.run pos pins s σ H (fun vs H1 => ∃ mu1, Ext mu mu1 H H1 ∧ Rel X.K mu1 B O H1 σ ρ S1 ∧ RpAll X.K mu1 (fun a => B a ∨ O a) H1 vs ws) I (tDa.mk rl e2 fun vs H1 mu1 E r p => ⟨mu1, E, r, p⟩)) fun us s1 ⟨vs, H1, I1, r, mu1, E, rl1, p⟩ => ⟨I1.kIn, ?_⟩) he hpl
  have hl : (us ++ []).length = ps.length := by
    rw [List.append_nil, ← r.length, p.length]
    exact F.len _ _ _ _ e3
  have hb1 := hb s1 us I1.kIn hl
  rw [List.append_nil] at hb1
  exact run_fnD (args := ⟨us, []⟩) F hr hgd hb1 I1 r (call_sp E rl1.sto rl1.bn p e3 q)
theorem de_call0 (F : FnD G X.prog X.w X.K X.mg X.base k f fd ps g) (hr : Room k X.A) (hgd : G = true → X.A.guards = some []) (hg : Gl X x) (hm : X.mg x = some (.ref f)) (hk : PySem.W.keepIn X.K (.ref f) = true) (hb : Binds X.K fd ps [])
    (hdb : (x == ("__debug__" : Str)) = false := by decide) : De X (.Call (.Name x p) [] [] pos) (mCall g aNil) := by
  refine ⟨fun pins s σ H Q I ⟨ρ, S, mu, B, O, rl, v, S', e1, q⟩ => ?_⟩
  obtain ⟨ws, S1, e2, e3⟩ := R.bnd_inv e1
  cases e2
  refine wpAny_Call_Name_kw (ld_glob I hg hm ?_ hdb)
  have hb1 := hb s [] I.kIn (F.len _ _ _ _ e3)
  exact PySem.W.callWith_K0 I.kIn hk (run_fnD (args := ⟨[], []⟩) F hr hgd hb1 I .nil (call_sp (.refl _ _) rl.sto rl.bn .nil e3 q))
end
end DL
namespace DL
open PySem PySem.Spec PyProof.Rows L2
section
variable {K : Fg} {mu : List Addr} {T : Addr → Prop} {H : Hp}
end
section
variable {X : Cx}
def KnD (K : Fg) (v : V) (w : Wd) : Prop := ∀ mu T H, Rp K mu T H v w
theorem de_gdat {x : Str} {a : Addr} {w : Wd} {pos : Pos} (hg : Gl X x) (hm : X.mg x = some (.ref a)) (h : KnD X.K (.ref a) w) (hd : (x == ("__debug__" : Str)) = false := by decide) : De X (.Name x pos) (mC w) := de_c (pe_glob (v := .ref a) hg hm rfl hd) fun mu T H => h mu T H
end
end DL
namespace DL
open PySem PySem.Spec PyProof.Rows L2
variable {G : Bool}
def Dfn (K : Fg) (mg : Str → Option Value) (x : Str) (st : Stmt) : Prop := ∃ f fd, mg x = some (.ref f) ∧ FunD K x x (defArgs st) (defBody st) (defScope st) [] [] f fd
def Cal (G : Bool) (P : Program) (w : World) (K : Fg) (mg : Str → Option Value) (base : Heap) (k : Nat) (x : Str) (st : Stmt) (ps : List Str) (g : Gd) : Prop :=
  ∃ f fd, mg x = some (.ref f) ∧ FunD K x x (defArgs st) (defBody st) (defScope st) [] [] f fd ∧ Binds K fd ps [] ∧ FnD G P w K mg base k f fd ps g
section
variable {X : Cx} {k k' : Nat} {x : Str} {st : Stmt} {ps : List Str} {g : Gd} {p pos : Pos} {e : Expr} {es : List Expr} {fs : Ma}
theorem dc_call (C : Cal G X.prog X.w X.K X.mg X.base k x st ps g) (hr : Room k' X.A) (hk : k ≤ k') (hgd : G = true → X.A.guards = some []) (hg : Gl X x) (ha : Da X (e :: es) fs)
    (hdb : (x == ("__debug__" : Str)) = false := by decide) (he : starEach (e :: es) X.env = (false, eval e X.env) :: starEach es X.env := by rfl) (hpl : (backTo pos (starEach es X.env)).any (·.1) = false := by rfl) : De X (.Call (.Name x p) (e :: es) [] pos) (mCall g fs) := by
  obtain ⟨f, fd, hm, F, hb, G⟩ := C
  exact de_call G (hr.mono hk) hgd hg hm F.kp hb ha hdb he hpl
theorem dc_call0 (C : Cal G X.prog X.w X.K X.mg X.base k x st ps g) (hr : Room k' X.A) (hk : k ≤ k') (hgd : G = true → X.A.guards = some []) (hg : Gl X x) (hdb : (x == ("__debug__" : Str)) = false := by decide) : De X (.Call (.Name x p) [] [] pos) (mCall g aNil) := by
  obtain ⟨f, fd, hm, F, hb, G⟩ := C
  exact de_call0 G (hr.mono hk) hgd hg hm F.kp hb hdb
end
section
variable {P : Program} {w : World} {K : Fg} {mg : Str → Option Value} {base : Heap} {x : Str} {st : Stmt}
theorem cal_of {N ps : List Str} {k n p : Nat} {m : Ms} (D : Dfn K mg x st) (Sc : FnScope N ps (defScope st)) (hn : N.length = n) (hp : ps.length = p)
    (hb : ∀ (kV doc pm : Value) (an : Option Addr) (cdv ct : Value) (us : List Value), us.length = ps.length → bindArgs (PySem.W.fnOf x x (defArgs st) (defBody st) (defScope st) .none kV doc pm an cdv ct) ⟨us, []⟩ = pure (ps.zip us))
    (hbody : ∀ (f : Addr) (cdv : Value) (A : Around) (outer : List Env) (s : Shared) (H : Hp), Room k (A.deeper (envOfC x (defScope st) s.heap.objs.size f cdv)) → (G = true → (A.deeper (envOfC x (defScope st) s.heap.objs.size f cdv)).guards = some []) → Dss (cxOf CX0 P w K mg base N x (defScope st) f cdv A outer s H E0).nox (defBody st) m) :
    Cal G P w K mg base (k + 1) x st ps (runDef n p m) := by
  obtain ⟨f, fd, hm, F⟩ := D
  exact ⟨f, fd, hm, F, F.bindsN hb, fnD_of F Sc hn hp fun cdv A outer s H hr hg => hbody f cdv A outer s H hr hg⟩
theorem Cal.mono {j k : Nat} {ps : List Str} {g : Gd} (C : Cal G P w K mg base j x st ps g) (h : j ≤ k) : Cal G P w K mg base k x st ps g := by
  obtain ⟨f, fd, hm, F, hb, G⟩ := C
  exact ⟨f, fd, hm, F, hb, G.mono h⟩
theorem Cal.imp {k : Nat} {ps : List Str} {g g' : Gd} (C : Cal G P w K mg base k x st ps g) (h : ∀ ws S v S', g' ws S = .ok v S' → g ws S = .ok v S') : Cal G P w K mg base k x st ps g' := by
  obtain ⟨f, fd, hm, F, hb, G⟩ := C
  exact ⟨f, fd, hm, F, hb, G.imp h⟩
end
theorem rp_ints {K : Fg} {mu : List Addr} {T : Addr → Prop} {H : Hp} : ∀ ns : List Int, RpAll K mu T H (ns.map V.int) (ns.map PyData.int)
  | [] => .nil
  | n :: ns => .cons (.int n) (rp_ints ns)
theorem mod_hide {K : Fg} {mg : Str → Option Value} {h : Heap} {H : Hp} (M : Mod K mg h) (away : ∀ b o, h.get? b = some o → K.lookup b = some o ∨ (∃ es ep, o.data = .dict es ep) → H b = none) : Mod K mg (hidT h H) := by
  have ns : ∀ {x : Addr} {m : Str → Option Value}, h.Ns x m → (hidT h H).Ns x m := fun ⟨o, es, ep, e, d, r⟩ => ⟨o, es, ep, hidT_get e (away _ _ e (.inr ⟨es, ep, d⟩)), d, r⟩
  obtain ⟨m1, m2, ⟨mb, m3, m4⟩, mc, m5, m6⟩ := M
  exact ⟨fun b o e => hidT_get (m1 b o e) (away _ _ (m1 b o e) (.inl e)), ns m2, ⟨mb, ns m3, m4⟩, mc, ns m5, m6⟩
section
variable {P : Program} {w : World} {K : Fg} {mg : Str → Option Value} {k : Nat} {fa a : Addr} {fd : FuncData} {x : Str} {g : Gd} {s : Shared} {vs : List Value} {ns : List Int}
abbrev LawEnds (s : Shared) (r : Result) (s' : Shared) : Prop := r = .ok (.ret (.bool true)) ∧ OldK s.heap s'.heap ∧ s'.os = s.os ∧ AllBare s'.gens
theorem law_run {H : Hp} (M : Mod K mg (hidT s.heap H)) (fz : ∀ b u, H b = some u → ∃ o v, u = .frz o v) (hok : HOk P w H s.heap) (hS : LsR K [] (fun _ => False) H a (ns.map V.int)) (hgn : s.gens = #[]) (hr : Room k callerA)
    (F : FnD G P w K mg (hidT s.heap H) k fa fd [x] g) (hbind : ∀ (s : Shared) (u : Value), BindsTo s fd ⟨[u], []⟩ [(x, u)]) (hg : ∃ S', g [.list (ns.map PyData.int)] [] = .ok (.bool true) S') :
    codeAny (model P w) callerA (.call (.ref fa) ⟨[.ref a], []⟩) (LawEnds s) s := by
  obtain ⟨S', hg⟩ := hg
  have none_of : ∀ {b : Addr} {p : Prop}, b ∈ ([] : List Addr) → p := fun h => by cases h
  refine codeAny_mono (F.run callerA [] s H ⟨[.ref a], []⟩ [.ref a] [.ref a] (fun v _ => v = .bl true) hr (fun _ => rfl) ⟨rfl, M, fun _ _ => of_hidT, Nat.le_of_eq (hidT_size ..), trivial, fun _ => none_of, hok, .of_eq hgn⟩ (hbind s _) (.cons rfl .nil)
    ⟨_, [], [], fun _ => False, ⟨rfl, .nil, fun _ _ _ z => by cases z⟩, fun _ => False.elim, .cons (.lst hS (rp_ints ns)) .nil, _, S', hg, fun _ _ _ _ _ z => by cases z; rfl⟩) fun r s' h => ?_
  match r, h with
  | .ok (.ret u), ⟨v, H', os, bare, un, hok', hv, q⟩ =>
    subst q
    obtain rfl : u = Value.bool true := hv
    refine ⟨rfl, OldK.of_keep fun b o e => ?_, os, bare⟩
    cases y : H b with
    | none => exact un.keep b o e y none_of (by simp)
    | some z =>
      obtain ⟨o', v', rfl⟩ := fz b z y
      have same := (hok b _ y).1.symm.trans e
      cases same
      exact (hok' b _ (un.frzs b _ _ y)).1
theorem law_D {mb : Str → Option Value} (KX : K.In s.heap) (hns : s.heap.Ns mainGlobals mg) (hb : s.heap.Ns builtinsNs mb) (hbb : ∀ x : Str, x ≠ "__name__" → mb x = bootBuiltins x) (hlim : s.heap.NoLimit) (hgn : s.gens = #[])
    (ha : s.heap.get? a = some { cls := .type "list", data := .seq vs.toArray }) (hi : IntsAre vs ns) (hl : ns.length ≤ sizeLine) (hr : Room k callerA)
    (F : ∀ base : Heap, K.In base → base.Ns mainGlobals mg → FnD G P w K mg base k fa fd [x] g) (hbind : ∀ (s : Shared) (u : Value), BindsTo s fd ⟨[u], []⟩ [(x, u)])
    (hg : ∃ S', g [.list (ns.map PyData.int)] [] = .ok (.bool true) S') : codeAny (model P w) callerA (.call (.ref fa) ⟨[.ref a], []⟩) (LawEnds s) s := by
  have M : Mod K mg s.heap := ⟨KX, hns, ⟨mb, hb, hbb⟩, hlim⟩
  have z : (ns.map V.int).length ≤ sizeLine := by rw [List.length_map]; exact hl
  cases hk : K.lookup a with
  | some o =>
    obtain rfl := Option.some.inj ((KX a o hk).symm.trans ha)
    have M2 := mod_hide M (H := fun _ => none) fun _ _ _ _ => rfl
    exact law_run M2 (fun _ _ y => by cases y) (fun _ _ y => by cases y) (.inr ⟨vs, _, hk, vals_ints hi, z⟩) hgn hr (F _ M2.kin M2.glob) hbind hg
  | none =>
    have one : ∀ {b : Addr} {u : HO}, (if b = a then some (HO.frz { cls := .type "list", data := .seq vs.toArray } (.lst (ns.map V.int))) else none) = some u → b = a ∧ u = .frz { cls := .type "list", data := .seq vs.toArray } (.lst (ns.map V.int)) := fun {b u} y => by
      split at y
      · exact ⟨by assumption, (Option.some.inj y).symm⟩
      · cases y
    have M2 := mod_hide M (H := fun b => if b = a then some (.frz { cls := .type "list", data := .seq vs.toArray } (.lst (ns.map V.int))) else none) fun b o e c => if_neg fun q => by
      subst q
      rcases c with c | ⟨es, ep, d⟩
      · rw [hk] at c
        cases c
      · obtain rfl := Option.some.inj (e.symm.trans ha)
        cases d
    refine law_run M2 (fun b u y => ⟨_, _, (one y).2⟩) (fun b u y => ?_) (.inl ⟨.inr ⟨_, if_pos rfl⟩, by simp, id⟩) hgn hr (F _ M2.kin M2.glob) hbind hg
    obtain ⟨rfl, rfl⟩ := one y
    exact ⟨ha, z, vs, _, vals_ints hi, ha⟩
end
theorem walk_D {l : PySem.W.OpenLaw} {n k : Nat} {q : Program} {loose : List Str} {XP : (Str → Option Value) → Heap → Prop} {YP : World → Heap → Prop} {d : DefRec} {x : Str} {g : Gd} (hn : l.most = some n) (hn2 : n ≤ sizeLine) (hdf : d.params.defaults = []) (hr : Room k callerA)
    (F : ∀ (w : World) (mg : Str → Option Value) (fa : Addr) (h : Heap), YP w h → h.Ns mainGlobals mg → mg d.name = some (.ref fa) →
      ∃ (K : Fg) (fd : FuncData), K.In h ∧ (∀ (s : Shared) (u : Value), BindsTo s fd ⟨[u], []⟩ [(x, u)]) ∧ ∀ base : Heap, K.In base → base.Ns mainGlobals mg → FnD G l.prog w K mg base k fa fd [x] g)
    (hg : ∀ ns : List Int, ns.length ≤ n → ∃ S', g [.list (ns.map PyData.int)] [] = .ok (.bool true) S') : PySem.W.WalkO q loose XP YP l.row.toRowW d [] (fun f vs => PySem.call f vs) := by
  refine Att.attach_call hn hdf fun w s₀ s₁ mg mb fa o pm cd doc a vs ns G Y ho hd hcd hmg hobj hints hlen hgn => ?_
  obtain ⟨K, fd, KX, hb, hF⟩ := F w mg fa _ Y G.T.g hmg
  exact law_D KX G.T.g G.T.b G.T.builtins G.T.nolimit hgn hobj hints (Nat.le_trans hlen hn2) hr hF hb (hg ns hlen)
end DL
namespace DL
open PySem PySem.Spec PyProof.Rows L2
theorem _root_.L2.Room.u65 {k : Nat} {A : Around} (r : Room k A) : A.units + 65 < cLine := by have := r.un; omega
theorem _root_.L2.Room.u66 {k : Nat} {A : Around} (r : Room k A) : A.units + 66 < cLine := by have := r.un; omega
theorem _root_.L2.Room.u1 {k : Nat} {A : Around} (r : Room k A) : A.units + 1 < cLine := by have := r.un; omega
theorem bt_len : bootBuiltins "len" = some (.builtin "len") := by decide +kernel
theorem bt_all : bootBuiltins "all" = some (.builtin "all") := by decide +kernel
theorem bt_any : bootBuiltins "any" = some (.builtin "any") := by decide +kernel
theorem bt_repr : bootBuiltins "repr" = some (.builtin "repr") := by decide +kernel
theorem bt_int : bootBuiltins "int" = some (.type "int") := by decide +kernel
theorem bt_bool : bootBuiltins "bool" = some (.type "bool") := by decide +kernel
theorem bt_str : bootBuiltins "str" = some (.type "str") := by decide +kernel
theorem bt_list : bootBuiltins "list" = some (.type "list") := by decide +kernel
theorem bt_tuple : bootBuiltins "tuple" = some (.type "tuple") := by decide +kernel
section
variable {X : Cx}
theorem vl (i : Nat) {x : Str} {pos : Pos} (hN : X.N[i]? = some x := by rfl) (hv : X.env.scope.names.lookup x = some .local := by rfl) (hd : (x == ("__debug__" : Str)) = false := by rfl) (hcd : (x == ("__classdict__" : Str)) = false := by rfl) : De X (.Name x pos) (mV i) := de_var hN (.inl hv) hd hcd
theorem vc (i : Nat) {x : Str} {pos : Pos} (hN : X.N[i]? = some x := by rfl) (hv : X.env.scope.names.lookup x = some .cell := by rfl) (hd : (x == ("__debug__" : Str)) = false := by rfl) (hcd : (x == ("__classdict__" : Str)) = false := by rfl) : De X (.Name x pos) (mV i) := de_var hN (.inr (.inl hv)) hd hcd
end
theorem cal_bad {G : Bool} {P : Program} {w : World} {K : Fg} {mg : Str → Option Value} {base : Heap} {x : Str} {st : Stmt} {ps : List Str} {k : Nat} (D : Dfn K mg x st)
    (hb : ∀ (kV doc pm : Value) (an : Option Addr) (cdv ct : Value) (us : List Value), us.length = ps.length → bindArgs (PySem.W.fnOf x x (defArgs st) (defBody st) (defScope st) .none kV doc pm an cdv ct) ⟨us, []⟩ = pure (ps.zip us)) : Cal G P w K mg base k x st ps (fun _ _ => .bad) := by
  obtain ⟨f, fd, hm, F⟩ := D
  refine ⟨f, fd, hm, F, F.bindsN hb, ⟨fun ws S v S' e => ?_, fun A outer s H args us vs Q hr hg e0 hb' r h => ?_⟩⟩
  · cases e
  · obtain ⟨_, _, _, _, _, _, _, _, _, e, _⟩ := h
    cases e
end DL
namespace DL
open PySem PySem.Spec PyProof.Rows L2
section
variable {prog : Program} {w : World} {A : Around} {E : Value → Shared → Prop} {s : Shared} {zo Ti To T i1 i2 : Addr} {fp1 fp2 : List Addr} {n1 n2 k : Nat} {P1 P2 : Nat → Value → Prop} {St1 St2 : Nat → Heap → Prop} {b : Bool} {oT : Obj}
end
end DL
namespace DL
open PySem PySem.Spec
open AutoSeq1 (wpAny_loadPart')
def PairsIn (h0 h : Heap) (bad : List Addr) (xs ys acc : Array Value) : Prop := ∀ (j : Nat) (v : Value), acc[j]? = some v → ∃ (t : Addr) (x y : Value), v = .ref t ∧ xs[j]? = some x ∧ ys[j]? = some y ∧ IsPair h t x y ∧ t ∉ bad ∧ h0.objs.size ≤ t ∧ ∀ i, i < j → acc[i]? ≠ some v
abbrev ZT (zo Ti To i1 i2 l1 l2 : Addr) (xs ys : Array Value) := ZS zo Ti To i1 i2 (fun i h => h.IsTupleIter i1 l1 i ∧ h.IsTuple l1 xs) (fun i h => h.IsListIter i2 l2 i ∧ h.IsList l2 ys)
section
variable {prog : Program} {w : World} {A : Around} {E : Value → Shared → Prop} {s : Shared} {zo Ti To i1 i2 l1 l2 L : Addr} {xs ys : Array Value}
theorem ZT.fr {k : Nat} {h h' : Heap} (x : ZT zo Ti To i1 i2 l1 l2 xs ys k h) (al : ∀ c o, h.get? c = some o → ∃ o', h'.get? c = some o') (f : ∀ c ∈ [zo, Ti, To, i1, i2, l1, l2], ∀ o, h.get? c = some o → h'.get? c = some o) : ZT zo Ti To i1 i2 l1 l2 xs ys k h' where
  z := x.z.imp (fun ⟨a, b, c, d⟩ => ⟨f zo (by simp) _ a, b, c, f To (by simp) _ d⟩) fun ⟨T, b, a, ⟨o, c⟩, d⟩ => ⟨T, b, f zo (by simp) _ a, al T o c, d⟩
  ti := f Ti (by simp) _ x.ti
  s1 := ⟨x.s1.1.at (f i1 (by simp)), x.s1.2.at (f l1 (by simp))⟩
  s2 := ⟨x.s2.1.at (f i2 (by simp)), x.s2.2.at (f l2 (by simp))⟩
theorem PairsIn.mono {h0 h h' : Heap} {bad : List Addr} {acc : Array Value} (p : PairsIn h0 h bad xs ys acc) (f : ∀ c o, c ∉ bad → h.get? c = some o → h'.get? c = some o) : PairsIn h0 h' bad xs ys acc := fun j v hj =>
  let ⟨t, x, y, a1, a2, a3, a4, a5, a6⟩ := p j v hj
  ⟨t, x, y, a1, a2, a3, f t _ a5 a4, a5, a6⟩
theorem PairsIn.snoc {h0 h h' : Heap} {bad : List Addr} {acc : Array Value} {t : Addr} {x y : Value} (p : PairsIn h0 h bad xs ys acc) (f : ∀ c o, c ∉ bad → h.get? c = some o → h'.get? c = some o) (new : h.get? t = none) (hx : xs[acc.size]? = some x) (hy : ys[acc.size]? = some y)
    (ht : IsPair h' t x y) (hb : t ∉ bad) (h0t : h0.objs.size ≤ t) : PairsIn h0 h' bad xs ys (acc.push (.ref t)) := fun j v hj => by
  have old : ∀ {i : Nat} {u : Value}, i < acc.size → (acc.push (.ref t))[i]? = some u → acc[i]? = some u := fun {i u} hi e => by rwa [Array.getElem?_push, if_neg (Nat.ne_of_lt hi)] at e
  have le : j < acc.size + 1 := by simpa using (Array.getElem?_eq_some_iff.1 hj).1
  by_cases c : j < acc.size
  · obtain ⟨t', x', y', a1, a2, a3, a4, a5, a6, a7⟩ := p j v (old c hj)
    exact ⟨t', x', y', a1, a2, a3, f t' _ a5 a4, a5, a6, fun i hi e => a7 i hi (old (Nat.lt_trans hi c) e)⟩
  · obtain rfl : j = acc.size := by omega
    obtain rfl : Value.ref t = v := by simpa using hj
    refine ⟨t, x, y, rfl, hx, hy, ht, hb, h0t, fun i hi e => ?_⟩
    obtain ⟨t', _, _, a1, _, _, a4, _⟩ := p i _ (old hi e)
    cases a1
    exact absurd (new.symm.trans a4) nofun
end
end DL
namespace DL
open PySem PySem.Spec PyProof.Rows L2
theorem zipD_len : ∀ (xs ys : List Wd), (zipD xs ys).length = min xs.length ys.length
  | [], _ => by simp [zipD]
  | _ :: _, [] => by simp [zipD]
  | a :: xs, b :: ys => by simp [zipD, zipD_len xs ys]
section
variable {X : Cx} {pins : List (Addr × Obj)} {σ : Sg} {s1 : Shared}
end
section
variable {X : Cx} {a b : Expr} {fa fb : Mx} {p p2 pos pos2 : Pos}
end
end DL
namespace DL
open PySem PySem.Spec PyProof.Rows L2
variable {G : Bool}
mutual
theorem knW_ok {K : Fg} : ∀ (d : Wd) (u : Value), knW K d u = true → ∃ v, RelV v u ∧ KnD K v d
  | .none, u, h => by
    cases u with
    | none => exact ⟨.non, rfl, fun _ _ _ => .non⟩
    | _ => cases h
  | .bool b, u, h => by
    cases u with
    | bool c =>
      have e : b = c := by
        have h1 : (b == c) = true := h
        exact eq_of_beq h1
      subst e
      exact ⟨.bl b, rfl, fun _ _ _ => .bl b⟩
    | _ => cases h
  | .int i, u, h => by
    cases u with
    | int j t =>
      have e : i = j := of_decide_eq_true h
      subst e
      exact ⟨.int i, ⟨t, rfl⟩, fun _ _ _ => .int i⟩
    | _ => cases h
  | .str x, u, h => by
    cases u with
    | str y t =>
      have e : x = y := of_decide_eq_true h
      subst e
      exact ⟨.str x, ⟨t, rfl⟩, fun _ _ _ => .str x⟩
    | _ => cases h
  | .tuple ds, u, h => by
    cases u with
    | ref a =>
      have h1 : (match K.lookup a with
        | some ⟨.type "tuple", none, .seq its _, _⟩ => decide (its.size ≤ sizeLine) && knAll K ds its.toList
        | _ => false) = true := h
      split at h1
      · rename_i its n sl q
        obtain ⟨h2, h3⟩ := Bool.and_eq_true_iff.mp h1
        obtain ⟨vs, r, k⟩ := knAll_ok ds its.toList h3
        refine ⟨.ref a, rfl, fun mu T H => .tup (.inr ⟨fun H' => .inr ⟨_, its, n, q, rfl, rfl, of_decide_eq_true h2, r⟩, _, q, rfl⟩) (k mu T H)⟩
      · cases h1
    | _ => cases h
  | .list ds, u, h => by cases u <;> cases h
  | .dict ds, u, h => by cases u <;> cases h
theorem knAll_ok {K : Fg} : ∀ (ds : List Wd) (us : List Value), knAll K ds us = true → ∃ vs, Vals vs us ∧ ∀ mu T H, RpAll K mu T H vs ds
  | [], [], _ => ⟨[], .nil, fun _ _ _ => .nil⟩
  | [], _ :: _, h => by cases h
  | _ :: _, [], h => by cases h
  | d :: ds, u :: us, h => by
    obtain ⟨h1, h2⟩ := Bool.and_eq_true_iff.mp (show (knW K d u && knAll K ds us) = true from h)
    obtain ⟨v, r, k⟩ := knW_ok d u h1
    obtain ⟨vs, rs, ks⟩ := knAll_ok ds us h2
    exact ⟨v :: vs, .cons r rs, fun mu T H => .cons (k mu T H) (ks mu T H)⟩
end
theorem knB_ok {K : Fg} {h : Heap} {mg : Str → Option Value} (X : K.In h) (G : h.Ns mainGlobals mg) {x : Str} {d : Wd} (c : knB x d K = true) : ∃ a, mg x = some (.ref a) ∧ KnD K (.ref a) d := by
  unfold knB at c
  split at c
  · rename_i a e
    obtain ⟨v, r, k⟩ := knW_ok d (.ref a) c
    have ev : v = .ref a := RelV.inj r (show RelV (.ref a) (.ref a) from rfl)
    subst ev
    exact ⟨a, PySem.W.mg_of X G e, k⟩
  · cases c
theorem Cal.fnD {P : Program} {w : World} {K : Fg} {mg : Str → Option Value} {base : Heap} {k : Nat} {x : Str} {st : Stmt} {ps : List Str} {g : Gd} {f : Addr} {fd : FuncData} (C : Cal G P w K mg base k x st ps g) (hm : mg x = some (.ref f))
    (F : FunD K x x (defArgs st) (defBody st) (defScope st) [] [] f fd) : FnD G P w K mg base k f fd ps g := by
  obtain ⟨f', fd', hm', F', _, G⟩ := C
  rw [hm] at hm'
  cases hm'
  obtain ⟨_, _, _, _, _, _, _, _, _, _, _, l1, _⟩ := F.ex
  obtain ⟨_, _, _, _, _, _, _, _, _, _, _, l2, _⟩ := F'.ex
  rw [l1] at l2
  cases l2
  exact G
end DL
set_option maxHeartbeats 0
namespace K11
open PySem PySem.Spec PyProof.Rows L2 DL
theorem hob_eq (s : PySem.W.SharedT) : hob s = hhk.obs s.abs := He.obsX_eq (HandSHeadRun.getT_eq s)
end K11
namespace DL
open PySem PySem.Spec PyProof.Rows L2
def wpE {α : Type} (x : R α) (Q : α → Sto → Prop) : Prop := match x with
  | .ok a S => Q a S
  | .bad => False
def wpS (o : Out) (N : Ev → Sto → Prop) (Rt : Wd → Sto → Prop) : Prop := match o with
  | .nx ρ S => N ρ S
  | .rt w S => Rt w S
  | _ => False
theorem wpE_mono {α : Type} {x : R α} {Q Q' : α → Sto → Prop} (h : wpE x Q) (q : ∀ a S, Q a S → Q' a S) : wpE x Q' := by
  cases x with
  | ok a S => exact q a S h
  | bad => exact h
theorem wpS_mono {x : Out} {N N' : Ev → Sto → Prop} {Q Q' : Wd → Sto → Prop} (h : wpS x N Q) (n : ∀ a S, N a S → N' a S) (q : ∀ a S, Q a S → Q' a S) : wpS x N' Q' := by
  cases x with
  | nx ρ S => exact n ρ S h
  | rt w S => exact q w S h
  | bk => exact h
  | ct => exact h
  | bad => exact h
@[simp] theorem wpE_ok {α : Type} {a : α} {S : Sto} {Q : α → Sto → Prop} : wpE (.ok a S) Q = Q a S := rfl
@[simp] theorem wpE_bad {α : Type} {Q : α → Sto → Prop} : wpE (.bad : R α) Q = False := rfl
@[simp] theorem wpE_bnd {α β : Type} {x : R α} {k : α → Sto → R β} {Q : β → Sto → Prop} : wpE (x.bnd k) Q = wpE x fun a S => wpE (k a S) Q := by cases x <;> rfl
@[simp] theorem wpE_ite {α : Type} {c : Prop} [Decidable c] {x y : R α} {Q : α → Sto → Prop} : wpE (if c then x else y) Q = if c then wpE x Q else wpE y Q := by split <;> rfl
theorem wpE_ex {α : Type} {x : R α} {Q : α → Sto → Prop} : wpE x Q ↔ ∃ a S, x = .ok a S ∧ Q a S := by
  cases x with
  | ok a S => exact ⟨fun h => ⟨a, S, rfl, h⟩, fun ⟨_, _, e, q⟩ => by cases e; exact q⟩
  | bad => exact ⟨fun h => h.elim, fun ⟨_, _, e, _⟩ => by cases e⟩
@[simp] theorem wpS_nx {ρ : Ev} {S : Sto} {N : Ev → Sto → Prop} {Q : Wd → Sto → Prop} : wpS (.nx ρ S) N Q = N ρ S := rfl
@[simp] theorem wpS_rt {ρ : Wd} {S : Sto} {N : Ev → Sto → Prop} {Q : Wd → Sto → Prop} : wpS (.rt ρ S) N Q = Q ρ S := rfl
@[simp] theorem wpS_bad {N : Ev → Sto → Prop} {Q : Wd → Sto → Prop} : wpS .bad N Q = False := rfl
@[simp] theorem wpS_ite {c : Prop} [Decidable c] {x y : Out} {N : Ev → Sto → Prop} {Q : Wd → Sto → Prop} : wpS (if c then x else y) N Q = if c then wpS x N Q else wpS y N Q := by split <;> rfl
section
variable {N : Ev → Sto → Prop} {Rt : Wd → Sto → Prop} {ρ : Ev} {S : Sto}
theorem wp_seq {m m' : Ms} : wpS (sSeq m m' ρ S) N Rt = wpS (m ρ S) (fun ρ' S' => wpS (m' ρ' S') N Rt) Rt := by
  unfold sSeq
  cases m ρ S <;> rfl
theorem wp_ret {f : Mx} : wpS (sRet f ρ S) N Rt = wpE (f ρ S) Rt := by
  unfold sRet
  cases f ρ S <;> rfl
theorem wp_expr {f : Mx} : wpS (sExpr f ρ S) N Rt = wpE (f ρ S) fun _ S1 => N ρ S1 := by
  unfold sExpr
  cases f ρ S <;> rfl
theorem wp_set {i : Nat} {f : Mx} : wpS (sSet i f ρ S) N Rt = wpE (f ρ S) fun w S1 => N (ρ.set i (some (.val w))) S1 := by
  unfold sSet
  cases f ρ S <;> rfl
theorem wp_ifS {t : Mt} {m m' : Ms} : wpS (sIf t m m' ρ S) N Rt = wpE (t ρ S) fun b S1 => if b = true then wpS (m ρ S1) N Rt else wpS (m' ρ S1) N Rt := by
  unfold sIf
  cases t ρ S with
  | ok b S1 => simp only [sTest_ok, wpE_ok, wpS_ite]
  | bad => rfl
theorem wp_asg {g : Mg} {f : Mx} : wpS (sAsg g f ρ S) N Rt = wpE (f ρ S) fun w S1 => ∃ ρ', g w ρ = some ρ' ∧ N ρ' S1 := by
  unfold sAsg
  cases f ρ S with
  | bad => rfl
  | ok w S1 =>
    simp only [sOf_ok, wpE_ok]
    cases h : g w ρ with
    | none => simp [wpS]
    | some ρ' => simp [wpS]
theorem wp_own {i : Nat} {fs : Ma} : wpS (sOwn i fs ρ S) N Rt = wpE (fs ρ S) fun ws S1 => ws.length ≤ sizeLine ∧ N (ρ.set i (some (.own ws))) S1 := by
  unfold sOwn
  cases fs ρ S with
  | bad => rfl
  | ok ws S1 =>
    simp only [wpE_ok, wpS_ite, wpS_nx, wpS_bad]
    by_cases h : ws.length ≤ sizeLine <;> simp [h]
theorem wp_app {i : Nat} {f : Mx} {ws : List Wd} (h : ρ[i]? = some (some (.own ws))) : wpS (sApp i f ρ S) N Rt = wpE (f ρ S) fun w S1 => ws.length < sizeLine ∧ N (ρ.set i (some (.own (ws ++ [w])))) S1 := by
  unfold sApp
  rw [h]
  cases f ρ S with
  | bad => rfl
  | ok w S1 =>
    simp only [sOf_ok, wpE_ok, wpS_ite, wpS_nx, wpS_bad]
    by_cases h : ws.length < sizeLine <;> simp [h]
theorem wp_par {i j : Nat} {fs : Ma} : wpS (sPar i j fs ρ S) N Rt = wpE (fs ρ S) fun ws S1 => ∃ v w, ws = [v, w] ∧ N ((ρ.set i (some (.val v))).set j (some (.val w))) S1 := by
  unfold sPar
  cases fs ρ S with
  | bad => rfl
  | ok ws S1 =>
    simp only [wpE_ok]
    match ws with
    | [] => simp
    | [_] => simp
    | [v, w] => exact propext ⟨fun h => ⟨v, w, rfl, h⟩, fun ⟨_, _, e, h⟩ => by cases e; exact h⟩
    | _ :: _ :: _ :: _ => simp
theorem wp_put {fo : Mx} {x : Str} {f : Mx} : wpS (sPut fo x f ρ S) N Rt = wpE (f ρ S) fun w S1 => wpE (fo ρ S1) fun o S2 => ∃ l S3, o = oW l ∧ recPut S2 l x w = some S3 ∧ N ρ S3 := by
  unfold sPut
  cases f ρ S with
  | bad => rfl
  | ok w S1 =>
    simp only [sOf_ok, wpE_ok]
    cases fo ρ S1 with
    | bad => rfl
    | ok o S2 =>
      simp only [sOf_ok, wpE_ok]
      split
      · rename_i l
        cases h : recPut S2 l x w with
        | none =>
          simp only [wpS_bad, false_iff, eq_iff_iff]
          rintro ⟨l', S3, e, e2, _⟩
          cases e
          rw [h] at e2
          cases e2
        | some S3 =>
          simp only [wpS_nx, eq_iff_iff]
          constructor
          · intro n
            exact ⟨l, S3, rfl, h, n⟩
          · rintro ⟨l', S3', e, e2, n⟩
            cases e
            rw [h] at e2
            cases e2
            exact n
      · rename_i hn
        simp only [wpS_bad, eq_iff_iff, false_iff]
        rintro ⟨l, _, e, _⟩
        exact hn l e
theorem wp_for0 {fi : Mi} {g : Mg} {m : Ms} : wpS (sFor fi g m ρ S) N Rt = wpE (fi ρ S) fun ws S1 => wpS (forLoop g m ws ρ S1) N Rt := by
  unfold sFor
  cases fi ρ S <;> rfl
theorem wp_for {g : Mg} {m : Ms} (I : List Wd → Ev → Sto → Prop) (hs : ∀ w r ρ S, I (w :: r) ρ S → ∃ ρ1, g w ρ = some ρ1 ∧ wpS (m ρ1 S) (fun ρ2 S2 => I r ρ2 S2) Rt) (he : ∀ ρ S, I [] ρ S → N ρ S) : ∀ (ws : List Wd) (ρ : Ev) (S : Sto), I ws ρ S → wpS (forLoop g m ws ρ S) N Rt
  | [], ρ, S, h => he ρ S h
  | w :: r, ρ, S, h => by
    obtain ⟨ρ1, e, q⟩ := hs w r ρ S h
    unfold forLoop
    rw [e]
    simp only
    cases hm : m ρ1 S with
    | nx ρ2 S2 => rw [hm] at q; exact wp_for I hs he r ρ2 S2 q
    | rt w S2 => rw [hm] at q; exact q
    | bk _ _ => rw [hm] at q; exact q.elim
    | ct _ _ => rw [hm] at q; exact q.elim
    | bad => rw [hm] at q; exact q.elim
end
theorem wp_lc {g : Mg} {t : Mt} {fe : Mx} {ρ : Ev} {Q : List Wd → Sto → Prop} (I : List Wd → List Wd → Sto → Prop)
    (hs : ∀ w r acc S, I (w :: r) acc S → ∃ ρ1, g w ρ = some ρ1 ∧ wpE (t ρ1 S) fun b S1 => if b = true then wpE (fe ρ1 S1) fun y S2 => acc.length < sizeLine ∧ I r (acc ++ [y]) S2 else I r acc S1)
    (he : ∀ acc S, I [] acc S → Q acc S) : ∀ (ws acc : List Wd) (S : Sto), I ws acc S → wpE (lcLoop g t fe ρ ws acc S) Q
  | [], acc, S, h => he acc S h
  | w :: r, acc, S, h => by
    obtain ⟨ρ1, e, q⟩ := hs w r acc S h
    unfold lcLoop
    rw [e]
    simp only [wpE_bnd]
    refine wpE_mono q fun b S1 h1 => ?_
    cases b with
    | false =>
      simp only [Bool.false_eq_true, if_false] at h1 ⊢
      exact wp_lc I hs he r acc S1 h1
    | true =>
      simp only [if_true, wpE_bnd] at h1 ⊢
      refine wpE_mono h1 fun y S2 h2 => ?_
      rw [if_pos h2.1]
      exact wp_lc I hs he r _ S2 h2.2
theorem lc_pure {α : Type} {g : Mg} {t : Mt} {fe : Mx} {ρ : Ev} {S : Sto} {enc : α → Wd} {p : α → Bool} {out : α → Wd} : ∀ (xs : List α) (acc : List Wd), acc.length + xs.length ≤ sizeLine →
    (∀ x ∈ xs, ∃ ρ1, g (enc x) ρ = some ρ1 ∧ t ρ1 S = .ok (p x) S ∧ (p x = true → fe ρ1 S = .ok (out x) S)) → lcLoop g t fe ρ (xs.map enc) acc S = .ok (acc ++ (xs.filter p).map out) S
  | [], acc, _, _ => by simp [lcLoop]
  | x :: xs, acc, hl, h => by
    obtain ⟨ρ1, e1, e2, e3⟩ := h x (List.mem_cons_self ..)
    simp only [List.map_cons, List.length_cons] at hl ⊢
    unfold lcLoop
    rw [e1]
    simp only [e2, R.bnd_ok]
    cases hp : p x with
    | false =>
      simp only [Bool.false_eq_true, if_false]
      rw [lc_pure xs acc (by omega) fun y hy => h y (List.mem_cons_of_mem _ hy)]
      simp [hp]
    | true =>
      simp only [if_true, e3 hp, R.bnd_ok]
      rw [if_pos (by omega), lc_pure xs (acc ++ [out x]) (by simp; omega) fun y hy => h y (List.mem_cons_of_mem _ hy)]
      simp [hp]
structure Sz (n k : Nat) (d : Wd) : Prop where
  sh : d.showable = true
  cl : d.canLay0 = true
  dp : d.depth ≤ k
  ls : d.leavesShort 13 = true
  wt : d.weight ≤ n
theorem Sz.mono {n k n' k' : Nat} {d : Wd} (h : Sz n k d) (hn : n ≤ n') (hk : k ≤ k') : Sz n' k' d := ⟨h.sh, h.cl, Nat.le_trans h.dp hk, h.ls, Nat.le_trans h.wt hn⟩
theorem Sz.all {n k : Nat} : ∀ {xs : List Wd}, (∀ x ∈ xs, Sz n k x) → PyData.showableAll xs = true ∧ PyData.canLayAll0 xs = true ∧ PyData.depthAll xs ≤ k ∧ PyData.leavesShortAll 13 xs = true ∧ PyData.weightAll xs ≤ xs.length * (n + 1)
  | [], _ => by simp [PyData.showableAll, PyData.canLayAll0, PyData.depthAll, PyData.leavesShortAll, PyData.weightAll]
  | x :: xs, h => by
    have h1 := h x (List.mem_cons_self ..)
    obtain ⟨a, b, c, d, e⟩ := Sz.all fun y hy => h y (List.mem_cons_of_mem x hy)
    refine ⟨by simp [PyData.showableAll, h1.sh, a], by simp [PyData.canLayAll0, h1.cl, b], ?_, by simp [PyData.leavesShortAll, h1.ls, d], ?_⟩
    · have := h1.dp
      simp only [PyData.depthAll]
      omega
    · have := h1.wt
      simp only [PyData.weightAll, List.length_cons, Nat.succ_mul]
      omega
theorem Sz.tup {n k m n' : Nat} {xs : List Wd} (h : ∀ x ∈ xs, Sz n k x) (hm : xs.length ≤ m) (hn : m * (n + 1) ≤ n') : Sz n' (k + 1) (.tuple xs) := by
  obtain ⟨a, b, c, d, e⟩ := Sz.all h
  have := Nat.mul_le_mul_right (n + 1) hm
  exact ⟨by simp [PyData.showable, a], by simp [PyData.canLay0, b], by simp [PyData.depth, c], by simp [PyData.leavesShort, d], by simp only [PyData.weight]; omega⟩
theorem Sz.lst {n k m n' : Nat} {xs : List Wd} (h : ∀ x ∈ xs, Sz n k x) (hm : xs.length ≤ m) (hn : m * (n + 1) ≤ n') : Sz n' (k + 1) (.list xs) := by
  obtain ⟨a, b, c, d, e⟩ := Sz.all h
  have := Nat.mul_le_mul_right (n + 1) hm
  exact ⟨by simp [PyData.showable, a], by simp [PyData.canLay0, b], by simp [PyData.depth, c], by simp [PyData.leavesShort, d], by simp only [PyData.weight]; omega⟩
theorem Sz.int {i : Int} (h : i.natAbs < 2 ^ 30) : Sz 30 0 (.int i) := by
  have h1 : i.natAbs.log2 < 30 := by
    by_cases h0 : i.natAbs = 0
    · rw [h0]; decide
    · exact (Nat.log2_lt h0).2 h
  refine ⟨?_, rfl, Nat.le_refl _, ?_, ?_⟩
  · simp only [PyData.showable, decide_eq_true_eq]
    omega
  · simp only [PyData.leavesShort, decide_eq_true_eq]
    exact PyData.shown_int_le (by omega)
  · simp only [PyData.weight]
    split <;> omega
theorem Sz.non : Sz 0 0 .none := ⟨rfl, rfl, Nat.le_refl _, rfl, Nat.le_refl _⟩
theorem Sz.str {x : Str} {n : Nat} (h : PyData.strOk x = true) (hl : x.cps.size ≤ n) : Sz n 0 (.str x) := by
  refine ⟨rfl, by simpa [PyData.canLay0] using h, Nat.le_refl _, ?_, hl⟩
  simp only [PyData.leavesShort, List.all_eq_true, decide_eq_true_eq]
  intro c hc
  simp only [PyData.strOk, Array.all_eq_true', decide_eq_true_eq] at h
  have := h c (by simpa using hc)
  omega
theorem Sz.shaped {n k : Nat} {d : Wd} (h : Sz n k d) (hk : k ≤ 64) : SeqAt.shaped d = true := by
  have := h.dp
  simp only [SeqAt.shaped, h.cl, Bool.true_and, decide_eq_true_eq]
  omega
theorem Sz.repr {n k : Nat} {d : Wd} (h : Sz n k d) (hn : n ≤ 2 ^ 20) (hk : k ≤ 64) : gRepr [d] = some (.str d.shown) := by
  simp only [gRepr]
  rw [if_pos ⟨h.sh, h.shaped hk, PyData.shown_fits (by decide) (by decide) h.ls (Nat.le_trans h.wt hn)⟩]
end DL
namespace DL
open PySem PySem.Spec PyProof.Rows L2
def wpO {α : Type} (o : Option α) (k : α → Prop) : Prop := ∃ w, o = some w ∧ k w
theorem wpO_rfl {α : Type} {o : Option α} {w : α} {k : α → Prop} (h : o = some w) (q : k w) : wpO o k := ⟨w, h, q⟩
section
variable {N : Ev → Sto → Prop} {Rt : Wd → Sto → Prop} {ρ : Ev} {S : Sto} {Q : Wd → Sto → Prop} {Qb : Bool → Sto → Prop} {Qs : List Wd → Sto → Prop} {Qo : Option Int → Sto → Prop}
theorem zq15 {m m' : Ms} (h : wpS (m ρ S) (fun ρ' S' => wpS (m' ρ' S') N Rt) Rt) : wpS (sSeq m m' ρ S) N Rt := by rw [wp_seq]; exact h
theorem w_seqJ {m m' : Ms} (J : Ev → Sto → Prop) (h : wpS (m ρ S) J Rt) (h2 : ∀ ρ' S', J ρ' S' → wpS (m' ρ' S') N Rt) : wpS (sSeq m m' ρ S) N Rt := zq15 (wpS_mono h h2 fun _ _ h => h)
theorem w_ret {f : Mx} (h : wpE (f ρ S) Rt) : wpS (sRet f ρ S) N Rt := by rw [wp_ret]; exact h
theorem w_expr {f : Mx} (h : wpE (f ρ S) fun _ S1 => N ρ S1) : wpS (sExpr f ρ S) N Rt := by rw [wp_expr]; exact h
theorem w_set {i : Nat} {f : Mx} (h : wpE (f ρ S) fun w S1 => N (ρ.set i (some (.val w))) S1) : wpS (sSet i f ρ S) N Rt := by rw [wp_set]; exact h
theorem w_ifS {t : Mt} {m m' : Ms} (h : wpE (t ρ S) fun b S1 => if b = true then wpS (m ρ S1) N Rt else wpS (m' ρ S1) N Rt) : wpS (sIf t m m' ρ S) N Rt := by rw [wp_ifS]; exact h
theorem w_asg {g : Mg} {f : Mx} (h : wpE (f ρ S) fun w S1 => wpO (g w ρ) fun ρ' => N ρ' S1) : wpS (sAsg g f ρ S) N Rt := by rw [wp_asg]; exact h
theorem w_own {i : Nat} {fs : Ma} (h : wpE (fs ρ S) fun ws S1 => ws.length ≤ sizeLine ∧ N (ρ.set i (some (.own ws))) S1) : wpS (sOwn i fs ρ S) N Rt := by rw [wp_own]; exact h
theorem w_app {i : Nat} {f : Mx} {ws : List Wd} (h : ρ[i]? = some (some (.own ws))) (q : wpE (f ρ S) fun w S1 => ws.length < sizeLine ∧ N (ρ.set i (some (.own (ws ++ [w])))) S1) : wpS (sApp i f ρ S) N Rt := by rw [wp_app h]; exact q
theorem w_par {i j : Nat} {f g : Mx} (h : wpE (f ρ S) fun v S1 => wpE (g ρ S1) fun w S2 => N ((ρ.set i (some (.val v))).set j (some (.val w))) S2) : wpS (sPar i j (aCons f (aCons g aNil)) ρ S) N Rt := by
  rw [wp_par]
  simp only [aCons, aNil, wpE_bnd, wpE_ok]
  exact wpE_mono h fun v S1 h => wpE_mono h fun w S2 h => ⟨v, w, rfl, h⟩
theorem w_put {l : Nat} {fo : Mx} {x : Str} {f : Mx} (h : wpE (f ρ S) fun w S1 => wpE (fo ρ S1) fun o S2 => o = oW l ∧ wpO (recPut S2 l x w) fun S3 => N ρ S3) : wpS (sPut fo x f ρ S) N Rt := by
  rw [wp_put]
  exact wpE_mono h fun w S1 h => wpE_mono h fun o S2 ⟨e, S3, e2, n⟩ => ⟨l, S3, e, e2, n⟩
theorem w_frz {i : Nat} {m : Ms} (h : wpS (m (frzE i ρ) S) N Rt) : wpS (sFrz i m ρ S) N Rt := h
theorem w_nil (h : N ρ S) : wpS (sNil ρ S) N Rt := h
theorem w_for {fi : Mi} {g : Mg} {m : Ms} (h : wpE (fi ρ S) fun ws S1 => wpS (forLoop g m ws ρ S1) N Rt) : wpS (sFor fi g m ρ S) N Rt := by rw [wp_for0]; exact h
theorem w_C {w : Wd} (h : Q w S) : wpE (mC w ρ S) Q := h
theorem w_V {i : Nat} {w : Wd} (e : ρ[i]? = some (some (.val w))) (h : Q w S) : wpE (mV i ρ S) Q := by
  unfold mV
  rw [e]
  exact h
theorem w_bin {g : Wd → Wd → Option Wd} {fa fb : Mx} (h : wpE (fa ρ S) fun x S1 => wpE (fb ρ S1) fun y S2 => wpO (g x y) fun w => Q w S2) : wpE (mBin g fa fb ρ S) Q := by
  unfold mBin
  simp only [wpE_bnd]
  refine wpE_mono h fun x S1 h => wpE_mono h fun y S2 ⟨w, e, q⟩ => ?_
  rw [e]
  exact q
theorem w_un {g : Wd → Option Wd} {fa : Mx} (h : wpE (fa ρ S) fun x S1 => wpO (g x) fun w => Q w S1) : wpE (mUn g fa ρ S) Q := by
  unfold mUn
  simp only [wpE_bnd]
  refine wpE_mono h fun x S1 ⟨w, e, q⟩ => ?_
  rw [e]
  exact q
theorem w_CB {g : List Wd → Option Wd} {fs : Ma} (h : wpE (fs ρ S) fun x S1 => wpO (g x) fun w => Q w S1) : wpE (mCB g fs ρ S) Q := by
  unfold mCB
  simp only [wpE_bnd]
  refine wpE_mono h fun x S1 ⟨w, e, q⟩ => ?_
  rw [e]
  exact q
theorem w_ix {fa fb : Mx} (h : wpE (fa ρ S) fun x S1 => wpE (fb ρ S1) fun y S2 => wpO (gIx S2 x y) fun w => Q w S2) : wpE (mIx fa fb ρ S) Q := by
  unfold mIx
  simp only [wpE_bnd]
  refine wpE_mono h fun x S1 h => wpE_mono h fun y S2 ⟨w, e, q⟩ => ?_
  rw [e]
  exact q
theorem w_and {fa fb : Mx} (h : wpE (fa ρ S) fun x S1 => wpO (truD x) fun b => if b = true then wpE (fb ρ S1) Q else Q x S1) : wpE (mAnd fa fb ρ S) Q := by
  unfold mAnd
  simp only [wpE_bnd]
  refine wpE_mono h fun x S1 ⟨b, e, q⟩ => ?_
  rw [e]
  cases b <;> exact q
theorem w_not {fa : Mx} (h : wpE (fa ρ S) fun x S1 => wpO (truD x) fun b => Q (.bool (!b)) S1) : wpE (mNot fa ρ S) Q := by
  unfold mNot
  simp only [wpE_bnd]
  refine wpE_mono h fun x S1 ⟨b, e, q⟩ => ?_
  rw [e]
  exact q
theorem w_if {t : Mt} {fa fb : Mx} (h : wpE (t ρ S) fun b S1 => if b = true then wpE (fa ρ S1) Q else wpE (fb ρ S1) Q) : wpE (mIf t fa fb ρ S) Q := by
  unfold mIf
  simp only [wpE_bnd, wpE_ite]
  exact h
theorem w_tru {f : Mx} (h : wpE (f ρ S) fun x S1 => wpO (truD x) fun b => Qb b S1) : wpE (mTru f ρ S) Qb := by
  unfold mTru
  simp only [wpE_bnd]
  refine wpE_mono h fun x S1 ⟨b, e, q⟩ => ?_
  rw [e]
  exact q
theorem w_andT {t u : Mt} (h : wpE (t ρ S) fun b S1 => if b = true then wpE (u ρ S1) Qb else Qb false S1) : wpE (mAndT t u ρ S) Qb := by
  unfold mAndT
  simp only [wpE_bnd, wpE_ite, wpE_ok]
  exact h
theorem w_orT {t u : Mt} (h : wpE (t ρ S) fun b S1 => if b = true then Qb true S1 else wpE (u ρ S1) Qb) : wpE (mOrT t u ρ S) Qb := by
  unfold mOrT
  simp only [wpE_bnd, wpE_ite, wpE_ok]
  exact h
theorem w_notT {t : Mt} (h : wpE (t ρ S) fun b S1 => Qb (!b) S1) : wpE (mNotT t ρ S) Qb := by
  unfold mNotT
  simp only [wpE_bnd, wpE_ok]
  exact h
theorem w_true (h : Qb true S) : wpE (tTrue ρ S) Qb := h
theorem w_aNil (h : Qs [] S) : wpE (aNil ρ S) Qs := h
theorem w_aCons {f : Mx} {fs : Ma} (h : wpE (f ρ S) fun x S1 => wpE (fs ρ S1) fun xs S2 => Qs (x :: xs) S2) : wpE (aCons f fs ρ S) Qs := by
  unfold aCons
  simp only [wpE_bnd, wpE_ok]
  exact h
theorem w_lst {fs : Ma} (h : wpE (fs ρ S) fun ws S1 => ws.length ≤ sizeLine ∧ Q (.list ws) S1) : wpE (mLst fs ρ S) Q := by
  unfold mLst
  simp only [wpE_bnd, wpE_ite, wpE_ok]
  exact wpE_mono h fun ws S1 h => by rw [if_pos h.1]; exact h.2
theorem w_tup {fs : Ma} (h : wpE (fs ρ S) fun ws S1 => ws.length ≤ sizeLine ∧ Q (.tuple ws) S1) : wpE (mTup fs ρ S) Q := by
  unfold mTup
  simp only [wpE_bnd, wpE_ite, wpE_ok]
  exact wpE_mono h fun ws S1 h => by rw [if_pos h.1]; exact h.2
theorem w_oNone (h : Qo none S) : wpE (oNone ρ S) Qo := h
theorem w_oSome {f : Mx} (h : wpE (f ρ S) fun w S1 => ∃ i, w = .int i ∧ Qo (some i) S1) : wpE (oSome f ρ S) Qo := by
  unfold oSome
  simp only [wpE_bnd]
  refine wpE_mono h fun w S1 ⟨i, e, q⟩ => ?_
  subst e
  exact q
theorem w_sl {f : Mx} {lo hi : Mo} (h : wpE (f ρ S) fun x S1 => wpE (lo ρ S1) fun l S2 => wpE (hi ρ S2) fun u S3 => wpO (gSl l u x) fun w => Q w S3) : wpE (mSl f lo hi ρ S) Q := by
  unfold mSl
  simp only [wpE_bnd]
  refine wpE_mono h fun x S1 h => wpE_mono h fun y S2 h => wpE_mono h fun z S3 ⟨w, e, q⟩ => ?_
  rw [e]
  exact q
theorem w_rec {names : List Str} {fs : Ma} (h : wpE (fs ρ S) fun ws S1 => Q (oW S1.length) (S1 ++ [.dct (names.zip ws)])) : wpE (mRec names fs ρ S) Q := by
  unfold mRec
  simp only [wpE_bnd, wpE_ok]
  exact h
theorem w_call {g : Gd} {fs : Ma} (h : wpE (fs ρ S) fun ws S1 => wpE (g ws S1) Q) : wpE (mCall g fs ρ S) Q := by
  unfold mCall
  simp only [wpE_bnd]
  exact h
theorem w_lc {vs : List Nat} {fi : Mi} {g : Mg} {t : Mt} {fe : Mx} (h : wpE (fi ρ S) fun ws S1 => wpE (lcLoop g t fe (wipeE ρ vs) ws [] S1) fun acc S2 => Q (.list acc) S2) : wpE (mLc vs fi g t fe ρ S) Q := by
  unfold mLc
  simp only [wpE_bnd, wpE_ok]
  exact h
theorem w_iSeq {f : Mx} (h : wpE (f ρ S) fun w S1 => wpO (itemsD w) fun ws => Qs ws S1) : wpE (iSeq f ρ S) Qs := by
  unfold iSeq
  simp only [wpE_bnd]
  refine wpE_mono h fun x S1 ⟨b, e, q⟩ => ?_
  rw [e]
  exact q
theorem w_range1 {f : Mx} (h : wpE (f ρ S) fun w S1 => ∃ j, w = .int j ∧ (-(2 ^ 62) ≤ j ∧ j < 2 ^ 62) ∧ Qs (rangeD 0 j.toNat) S1) : wpE (iRange1 (aCons f aNil) ρ S) Qs := by
  unfold iRange1 aCons aNil
  simp only [wpE_bnd, wpE_ok]
  refine wpE_mono h fun w S1 ⟨j, e, hj, q⟩ => ?_
  subst e
  simp only [if_pos hj]
  exact q
theorem w_iStr {f : Mx} (h : wpE (f ρ S) fun w S1 => ∃ y, w = .str y ∧ Qs (signsD y) S1) : wpE (iStr f ρ S) Qs := by
  unfold iStr
  simp only [wpE_bnd]
  refine wpE_mono h fun w S1 ⟨j, e, q⟩ => ?_
  subst e
  exact q
theorem w_forC {g : Mg} {m : Ms} {w : Wd} {r : List Wd} {ρ1 : Ev} (e : g w ρ = some ρ1) (h : wpS (m ρ1 S) (fun ρ2 S2 => wpS (forLoop g m r ρ2 S2) N Rt) Rt) : wpS (forLoop g m (w :: r) ρ S) N Rt := by
  unfold forLoop
  rw [e]
  simp only
  cases hm : m ρ1 S with
  | nx ρ2 S2 => rw [hm] at h; exact h
  | rt w S2 => rw [hm] at h; exact h
  | bk _ _ => rw [hm] at h; exact h.elim
  | ct _ _ => rw [hm] at h; exact h.elim
  | bad => rw [hm] at h; exact h.elim
theorem w_ok {α : Type} {a : α} {Q : α → Sto → Prop} (h : Q a S) : wpE (.ok a S) Q := h
theorem w_eq {α : Type} {x : R α} {a : α} {S' : Sto} {Q : α → Sto → Prop} (e : x = .ok a S') (h : Q a S') : wpE x Q := by rw [e]; exact h
theorem w_def {n p : Nat} {m : Ms} {ws : List Wd} (h : ws.length = p) (q : wpS (m (startE n ws) S) (fun _ S' => Q .none S') Q) : wpE (runDef n p m ws S) Q := by
  unfold runDef
  rw [if_pos h]
  cases hm : m (startE n ws) S <;> rw [hm] at q <;> first | exact q | exact q.elim
theorem w_t {A B : Prop} (h : A) : if true = true then A else B := h
theorem w_f {A B : Prop} (h : B) : if false = true then A else B := h
theorem w_b {b : Bool} {A B : Prop} (h : b = true → A) (h2 : b = false → B) : if b = true then A else B := by cases b; exact h2 rfl; exact h rfl
theorem w_bt {b : Bool} {A B : Prop} (e : b = true) (h : A) : if b = true then A else B := by rw [if_pos e]; exact h
theorem w_bf {b : Bool} {A B : Prop} (e : b = false) (h : B) : if b = true then A else B := by subst e; exact h
theorem w_len {A : Prop} {ws : List Wd} (h : A) (e : decide (ws.length ≤ sizeLine) = true) : ws.length ≤ sizeLine ∧ A := ⟨of_decide_eq_true e, h⟩
theorem wpR_ok {g : Gd} {ws : List Wd} {w : Wd} {S' : Sto} (h : wpE (g ws S) fun w' S1 => w' = w ∧ S1 = S') : g ws S = .ok w S' := by
  obtain ⟨a, S1, e, rfl, rfl⟩ := wpE_ex.1 h
  exact e
end
theorem wo_le {i j : Int} {k : Wd → Prop} (h : k (.bool (decide (i ≤ j)))) : wpO (gLe (.int i) (.int j)) k := ⟨_, rfl, h⟩
theorem wo_lt {i j : Int} {k : Wd → Prop} (h : k (.bool (decide (i < j)))) : wpO (gLt (.int i) (.int j)) k := ⟨_, rfl, h⟩
theorem wo_ge {i j : Int} {k : Wd → Prop} (h : k (.bool (decide (j ≤ i)))) : wpO (gGe (.int i) (.int j)) k := ⟨_, rfl, h⟩
theorem wo_gt {i j : Int} {k : Wd → Prop} (h : k (.bool (decide (j < i)))) : wpO (gGt (.int i) (.int j)) k := ⟨_, rfl, h⟩
theorem wo_eqi {i j : Int} {k : Wd → Prop} (h : k (.bool (decide (i = j)))) : wpO (gEq (.int i) (.int j)) k := ⟨_, by show some (PyData.bool (i == j)) = _; rw [show (i == j) = decide (i = j) from rfl], h⟩
theorem wo_nei {i j : Int} {k : Wd → Prop} (h : k (.bool (!decide (i = j)))) : wpO (gNe (.int i) (.int j)) k := ⟨_, by show some (PyData.bool (!(i == j))) = _; rw [show (i == j) = decide (i = j) from rfl], h⟩
theorem wo_mod {i j : Int} {k : Wd → Prop} (h : 0 < j) (q : k (.int (i % j))) : wpO (gMod (.int i) (.int j)) k := ⟨_, by simp only [gMod]; rw [if_pos h], q⟩
theorem wo_div {i j : Int} {k : Wd → Prop} (h : 0 < j) (h1 : j < 1073741824) (q : k (.int (i / j))) : wpO (gDiv (.int i) (.int j)) k := ⟨_, by simp only [gDiv]; rw [if_pos ⟨h, h1⟩], q⟩
theorem wo_mul {i j : Int} {k : Wd → Prop} (h : (-(2 ^ 64) < i ∧ i < 2 ^ 64) ∨ (-(2 ^ 64) < j ∧ j < 2 ^ 64)) (q : k (.int (i * j))) : wpO (gMul (.int i) (.int j)) k := ⟨_, by simp only [gMul]; rw [if_pos h], q⟩
theorem wo_pow {i j : Int} {k : Wd → Prop} (h : 0 ≤ j ∧ j ≤ 1000000 ∧ i.natAbs < 2 ^ 64) (q : k (.int (i ^ j.toNat))) : wpO (gPow (.int i) (.int j)) k := ⟨_, by simp only [gPow]; rw [if_pos h], q⟩
section
variable {c : List Int} {a l t i : Int} {S0 : Sto}
end
theorem cells_shaped {c : List Int} : SeqAt.shaped (.list (c.map PyData.int)) = true := by
    have h1 : PyData.canLayAll0 (c.map PyData.int) = true ∧ PyData.depthAll (c.map PyData.int) = 0 := by
      induction c with
      | nil => exact ⟨rfl, rfl⟩
      | cons x c ih => simp only [List.map_cons, PyData.canLayAll0, PyData.depthAll, PyData.canLay0, PyData.depth, ih.1, ih.2]; exact ⟨rfl, rfl⟩
    simp only [SeqAt.shaped, PyData.canLay0, PyData.depth, h1.1, h1.2]
    rfl
theorem gEq_cells {c : List Int} : gEq (.list (c.map PyData.int)) (.list []) = some (.bool c.isEmpty) := by
  have h := @cells_shaped c
  simp only [gEq]
  rw [if_pos ⟨h, rfl⟩]
  cases c <;> rfl
section
variable {c : List Int} {a l t i : Int} {S0 : Sto} {k : Sto → Prop}
theorem gNe_cells {c : List Int} : gNe (.list (c.map PyData.int)) (.list []) = some (.bool (!c.isEmpty)) := by
  have h := @cells_shaped c
  simp only [gNe]
  rw [if_pos ⟨h, rfl⟩]
  cases c <;> rfl
theorem wo_cells {k : Wd → Prop} (h : k (.bool c.isEmpty)) : wpO (gEq (.list (c.map PyData.int)) (.list [])) k := ⟨_, gEq_cells, h⟩
end
theorem lc_map {α : Type} {g : Mg} {fe : Mx} {ρ : Ev} {S : Sto} {enc : α → Wd} {out : α → Wd} {Q : List Wd → Sto → Prop} (xs : List α) (hl : xs.length ≤ sizeLine)
    (h : ∀ x ∈ xs, ∃ ρ1, g (enc x) ρ = some ρ1 ∧ fe ρ1 S = .ok (out x) S) (q : Q (xs.map out) S) : wpE (lcLoop g tTrue fe ρ (xs.map enc) [] S) Q := by
  rw [lc_pure (t := tTrue) (p := fun _ => true) (out := out) xs [] (by simpa using hl) fun x hx => let ⟨ρ1, a, b⟩ := h x hx; ⟨ρ1, a, rfl, fun _ => b⟩]
  rw [List.filter_eq_self.2 (fun _ _ => rfl)]
  exact q
theorem atI_in {α : Type} {xs : List α} {i : Int} (h0 : 0 ≤ i) (h1 : i < xs.length) : atI xs i = some (xs[i.toNat]'(by omega)) := by
  unfold atI ixN
  rw [if_pos h0, if_pos h1]
  simp only [Option.bind_some]
  exact List.getElem?_eq_getElem (by omega)
end DL
namespace DL
open PySem PySem.Spec PyProof.Rows L2
section
variable {X : Cx} {fi : Mi} {g : Mg} {t : Mt} {fe : Mx} {elt tgx iter : Expr} {ifs : List Expr} {scope : Scope} {own : List (Str × Nat)} {pos spos py : Pos} {i : Nat} {y : Str}
theorem de_lcP (hc : X.calm = true) (hN : X.N.Nodup) (hi : DiP X tgx iter fi) (ok : BlkOk X.N X.env.scope scope own)
    (hg : DgPF (X.fam scope) X.K (own.map (·.2)) tgx g)
    (ht : ∀ (s : Shared) (H : Hp) (C : Addr) (cl : List (Str × Addr)) (fp : List Addr), DTs (X.blk s H scope (compEnvC scope cl C X.env) fp) ifs t)
    (he : ∀ (s : Shared) (H : Hp) (C : Addr) (cl : List (Str × Addr)) (fp : List Addr), De (X.blk s H scope (compEnvC scope cl C X.env) fp) elt fe) (hs : ∀ x, foldedSetIterable iter X.env x = pure x := by intro _; rfl) :
    De X (.ListComp elt [⟨tgx, iter, ifs, 0⟩] scope pos) (mLc (own.map (·.2)) fi g t fe) := by
  obtain ⟨tg, pg, kg⟩ := hg
  refine PE.weak (pe_lc (tt := tDt X.K t) (te := tD X.K fe) hc hN hi ok (fun s H C cl fp => pg (s, H, C, cl, fp)) ht he hs) (lc_core' (fun J v w ws hJ mu B O H S st bn p => ?_) (fun σ => wipe_idem σ _))
  obtain ⟨h1, h2⟩ := hJ mu _ H S st bn p
  exact ⟨fun i d e => ⟨(h1 i d e).1, fun x H' hy => ⟨((h1 i d e).2 x H' hy).1, fun σ ρ ρ' Q r eg k => kg mu B O H' σ ρ ρ' S x d Q r ((h1 i d e).2 x H' hy).2 eg k⟩⟩, h2⟩
end
theorem RpAll.reverse {K : Fg} {mu : List Addr} {T : Addr → Prop} {H : Hp} : ∀ {vs : List V} {ws : List Wd}, RpAll K mu T H vs ws → RpAll K mu T H vs.reverse ws.reverse
  | [], [], _ => .nil
  | _ :: _, _ :: _, h => by
    cases h with
    | cons a b =>
      rw [List.reverse_cons, List.reverse_cons]
      exact b.reverse.append (.cons a .nil)
theorem RpAll.dropLast {K : Fg} {mu : List Addr} {T : Addr → Prop} {H : Hp} {vs : List V} {ws : List Wd} (h : RpAll K mu T H vs ws) : RpAll K mu T H vs.dropLast ws.dropLast := by
  rw [List.dropLast_eq_take, List.dropLast_eq_take, h.length]
  exact h.take _
def gRev : Wd → Option Wd
  | .list ws => some (.list ws.reverse)
  | _ => none
section
variable {X : Cx} {e : Expr} {f : Mx} {es : List Expr} {fs : Ma} {pos : Pos}
theorem de_rev {k : Nat} {p1 p2 p3 : Pos} (he : De X e f) : De X (.Subscript e (.Slice none none (some (.UnaryOp .USub (.Constant (.int 1) k p1) p2)) p3) pos) (mUn gRev f) :=
  PE.weak (pe_revL he) fun σ H Q ⟨ρ, S, mu, B, O, rl, w, S', e1, q⟩ => by
    obtain ⟨w0, S1, e2, e1⟩ := R.bnd_inv e1
    obtain ⟨e3, rfl⟩ := R.of_inv e1
    refine tD.mk rl e2 fun v H1 mu1 E r p => ?_
    unfold gRev at e3
    split at e3
    · cases e3
      cases p with
      | lst a b => exact ⟨_, _, rfl, a.sq, fun l hl => q _ _ mu1 (E.trans (.same (same_upd hl))) (r.sto.same (same_upd hl)) (new_lst r.sto r.bn b.reverse hl)⟩
    · cases e3
def aStar (f : Mx) (fs : Ma) : Ma := fun ρ S => (f ρ S).bnd fun x S1 => match itemsD x with
  | some xs => (fs ρ S1).bnd fun ys S2 => .ok (xs ++ ys) S2
  | none => .bad
theorem da_star {p : Pos} (he : De X e f) (hr : Da X es fs) (hs : starEach (.Starred e p :: es) X.env = (true, eval e X.env) :: starEach es X.env := by rfl) : Da X (.Starred e p :: es) (aStar f fs) :=
  PA.weak (StX.pa_star he hr hs) fun σ H Q ⟨ρ, S, mu, B, O, rl, w, S', e1, q⟩ => by
    obtain ⟨w0, S1, e2, e1⟩ := R.bnd_inv e1
    refine tD.mk rl e2 fun v H1 mu1 E r p => ?_
    cases hx : itemsD w0 with
    | none => rw [hx] at e1; cases e1
    | some xs =>
      rw [hx] at e1
      simp only at e1
      obtain ⟨ys, S2, e3, e1⟩ := R.bnd_inv e1
      cases e1
      have fin : ∀ (vs : List V), RpAll X.K mu1 (fun a => B a ∨ O a) H1 vs xs → tDa X.K fs σ H1 fun us H2 => Q (vs ++ us) H2 := fun vs pv =>
        tDa.mk r e3 fun us H2 mu2 E2 r2 p2 => q _ H2 mu2 (E.trans E2) r2.sto ((pv.ext E2).append p2)
      unfold itemsD at hx
      split at hx
      · cases hx
        cases p with
        | lst a b => exact ⟨_, _, rfl, .inr a.sq, fin _ b⟩
      · cases hx
        cases p with
        | tup a b => exact ⟨_, _, rfl, .inl a.sq, fin _ b⟩
      · cases hx
end
theorem bt_sorted : bootBuiltins "sorted" = some (.builtin "sorted") := by decide +kernel
section
variable {X : Cx} {e : Expr} {f : Mx} {pos : Pos} {i : Nat} {x : Str}
def mLenO (i : Nat) : Mx := fun ρ S => match ρ[i]? with
  | some (some (.own ws)) => .ok (.int ws.length) S
  | _ => .bad
def sExt (i : Nat) (f : Mx) : Ms := fun ρ S => match ρ[i]? with
  | some (some (.own ws)) => sOf (f ρ S) fun w S1 => match w with
    | .list zs => if ws.length + zs.length ≤ sizeLine then .nx (ρ.set i (some (.own (ws ++ zs)))) S1 else .bad
    | _ => .bad
  | _ => .bad
def rExtW (K : Fg) : V → List V → Hp → VK → Prop := fun x vs H Q => ∃ l b xs zs, x = .ref l ∧ vs = [.ref b] ∧ H l = some (.lst xs) ∧ (∃ mu T, LsR K mu T H b zs) ∧ xs.length + zs.length ≤ sizeLine ∧ Q .non (upd H l (.lst (xs ++ zs)))
theorem mt_extW : MtM X "list.extend" (rExtW X.K) := by
  intro pins s σ H x vs v us Q I rx rv h
  obtain ⟨l, b, xs, zs, rfl, rfl, hH, ⟨_, _, hB⟩, hz, q⟩ := h
  cases rx
  obtain ⟨u, rfl, ru⟩ := rv.one
  cases ru
  obtain ⟨z, its, n, r, hl, e⟩ := I.lstM hH
  obtain ⟨i2, n2, r2, z2, e2⟩ := lst_at I hB
  have l2 := r2.length
  have l1 := r.length
  have hs : its.toArray.size + i2.toArray.size ≤ sizeLine := by rw [List.size_toArray, List.size_toArray]; omega
  refine call_meets F.slot_list_extend ⟨_, e, rfl⟩ F.entry_list_extend (F.args_list_extend_2 _ _)
    (AutoSeq1.list_extend_list_list_0 l its.toArray n b i2.toArray n2 (by rw [notLongL hs, Bool.and_false]; exact Bool.false_ne_true) (by rw [List.size_toArray]; omega) (by rw [List.size_toArray] at *; omega)) ⟨e, e2, ?_⟩
  exact ⟨.non, _, I.lset (its' := its ++ i2) hH e (by simp) (r.append r2) (by rw [List.length_append]; omega), rfl, q⟩
theorem ds_extend {apos cpos xpos : Pos} (hN : X.N[i]? = some x) (hv : Vis X.env.scope x) (he : De X e f) (hd : (x == ("__debug__" : Str)) = false := by decide) (hcd : (x == ("__classdict__" : Str)) = false := by decide)
    (hbase : attributeBase (.Name x xpos) "extend" X.env (eval (.Name x xpos) X.env) = eval (.Name x xpos) X.env := by rfl)
    (hfew : ((backTo cpos (starEach [e] X.env)).all (fun x => !x.1) && (backToKw cpos (keywordEach [] X.env)).all (fun x => x.1.isSome) && decide ([e].length + ([] : List Keyword).length + (if ([] : List Keyword).isEmpty then 0 else 1) < 30)) = true := by rfl)
    (hline : (apos.endLine == cpos.line) = true := by rfl) (hs1 : starEach [e] X.env = [(false, eval e X.env)] := by rfl)
    (hs : swapsWith (.Call (.Attribute (.Name x xpos) "extend" apos) [e] [] cpos) none pos.line X.env = pure false := by rfl) : Ds X (.Expr (.Call (.Attribute (.Name x xpos) "extend" apos) [e] [] cpos) pos) (sExt i f) :=
  PS.weak (ps_expr (pe_bm PySem.F.plainAttrs_list PySem.F.slot_list_extend PySem.F.type_list_extend mt_extW (pe_var hN hv hd hcd) (pa_cons he pa_nil hs1) hbase hfew hline hs1 rfl) hs) fun D σ H ⟨ρ, S, mu, B, O, rl, q⟩ => by
    unfold sExt at q
    split at q
    · rename_i ws hi
      cases z : f ρ S with
      | bad => rw [z] at q; exact q.elim
      | ok w S1 =>
        rw [z, sOf_ok] at q
        split at q
        · rename_i zs
          by_cases hz : ws.length + zs.length ≤ sizeLine
          · rw [if_pos hz] at q
            obtain ⟨a, xs, h1, h2, h3, h4, h5⟩ := rl.own i ws hi
            refine ⟨.ref a, h1, .inl ⟨rfl, xs, .inl (.inl h4)⟩, ?_⟩
            refine tD.mk rl z fun v H1 mu1 E r p => ?_
            cases p with
            | lst b c =>
              have h4' : H1 a = some (.lst xs) := E.keep a _ h4 (rl.bn a (.inr h2)).2
              refine ⟨a, _, xs, _, rfl, rfl, h4', ⟨_, _, b⟩, by rw [h5.length, c.length]; exact hz, ?_⟩
              exact q σ _ mu1 O ((E.toS r.sto).trans (ExtS.at_own h2)) (r.grow (xs := xs) hi h1 h2 h3 ((h5.ext E).append c))
          · rw [if_neg hz] at q
            exact q.elim
        · exact q.elim
    · exact q.elim
def sPop (g : Mg) (i : Nat) : Ms := fun ρ S => match ρ[i]? with
  | some (some (.own ws)) => match ws[ws.length - 1]? with
    | some w => match g w (ρ.set i (some (.own ws.dropLast))) with
      | some ρ' => .nx ρ' S
      | none => .bad
    | none => .bad
  | _ => .bad
theorem ds_pop {tg : Expr} {g : Mg} {vs : List Nat} {apos cpos xpos : Pos} (hN : X.N[i]? = some x) (hv : Vis X.env.scope x) (hg : Dg X vs tg g) (hd : (x == ("__debug__" : Str)) = false := by decide) (hcd : (x == ("__classdict__" : Str)) = false := by decide)
    (hbase : attributeBase (.Name x xpos) "pop" X.env (eval (.Name x xpos) X.env) = eval (.Name x xpos) X.env := by rfl) (hline : (apos.endLine == cpos.line) = true := by rfl)
    (hs : swapsWithSole [tg] (.Call (.Attribute (.Name x xpos) "pop" apos) [] [] cpos) pos.line X.env = pure false := by rfl) (hw : swappedStores [tg] (.Call (.Attribute (.Name x xpos) "pop" apos) [] [] cpos) X.env = pure none := by rfl)
    (h1 : (assignEach [tg] X.env).map (·.2) = [assign tg X.env] := by rfl) : Ds X (.Assign [tg] (.Call (.Attribute (.Name x xpos) "pop" apos) [] [] cpos) pos) (sPop g i) := by
  obtain ⟨t, p, k⟩ := hg
  refine PS.weak (ps_asg (pe_bm0 PySem.F.plainAttrs_list PySem.F.slot_list_pop PySem.F.type_list_pop mt_pop (pe_var hN hv hd hcd) hbase hline) (p ()) hs hw h1) fun D σ H ⟨ρ, S, mu, B, O, rl, q⟩ => ?_
  unfold sPop at q
  split at q
  · rename_i ws hi
    split at q
    · rename_i w hw
      split at q
      · rename_i ρ' hr
        obtain ⟨a, xs, h1, h2, h3, h4, h5⟩ := rl.own i ws hi
        obtain ⟨v, e1, e2⟩ := h5.get hw
        rw [← h5.length] at e1
        refine ⟨.ref a, h1, .inl ⟨rfl, xs, .inl (.inl h4)⟩, ?_⟩
        refine ⟨a, xs, v, rfl, rfl, h4, e1, ?_⟩
        have r2 := rl.grow (xs := xs) hi h1 h2 h3 h5.dropLast
        exact k mu B O _ σ _ ρ' S v w _ r2 (e2.at_ban (.inr h2)) hr fun σ' r' _ => q σ' _ mu O (ExtS.at_own h2) r'
      · exact q.elim
    · exact q.elim
  · exact q.elim
end
end DL
namespace DL
open PySem PySem.Spec PyProof.Rows L2
section
variable {X : Cx} {pos p xp : Pos} {i : Nat} {x : Str}
theorem de_lenO (hN : X.N[i]? = some x) (hv : Vis X.env.scope x) (hg : Gl X "len") (hm : X.mg "len" = none) (hd : (x == ("__debug__" : Str)) = false := by decide) (hcd : (x == ("__classdict__" : Str)) = false := by decide)
    (he : starEach [.Name x xp] X.env = (false, eval (.Name x xp) X.env) :: starEach [] X.env := by rfl) : De X (.Call (.Name "len" p) [.Name x xp] [] pos) (mLenO i) :=
  PE.weak (pe_callB call_len hg hm bt_len (pa_cons (pe_var hN hv hd hcd) pa_nil he) (by decide) (by decide) he rfl) fun σ H Q ⟨ρ, S, mu, B, O, rl, w, S', e1, q⟩ => by
    unfold mLenO at e1
    split at e1
    · rename_i ws hi
      cases e1
      obtain ⟨a, xs, h1, h2, h3, h4, h5⟩ := rl.own i ws hi
      refine ⟨.ref a, h1, ?_⟩
      refine ⟨_, _, rfl, .inl ⟨xs, .inl (.inl h4), rfl⟩, ?_⟩
      exact q _ H mu (.refl _ _) rl.sto (by rw [h5.length]; exact .int _)
    · cases e1
end
theorem enumT_new (a : Addr) (items : Array Value) :
    Meets (Builtin.«enumerate.__new__» ⟨[.type "enumerate", .ref a], []⟩) (fun _ R s => s.heap.IsTuple a items ∧
      R (.ok (.ret (.ref (s.heap.objs.size + 1)))) { s with heap := (s.heap.push { cls := .type "tuple_iterator", data := .fields #[.ref a, .int 0 0] }).push { cls := .type "enumerate", data := .fields #[.none, .bool false, .ref s.heap.objs.size, rawInt 0, .none, .none] } }) :=
  .of_wp fun prog w A R ⟨hp, g, d, tk, os⟩ ⟨ht, h⟩ => by
    have sub := sub_enumerate
    have ht' : Heap.IsTuple (Shared.heap ⟨hp, g, d, tk, os⟩) a items := ht
    have sz : (hp.push { cls := .type "tuple_iterator", data := .fields #[.ref a, .int 0 0] }).objs.size = hp.objs.size + 1 := Heap.size_push ..
    wp_walk using wpAny_pyIter_tuple ht'
    refine wpAny_stack_any fun st => wpAny_pure ?_
    split
    · rename_i c _ _ _ _ _
      cases (c == Value.type "enumerate") <;> (wp_walk using wpAny_pyIter_tuple ht'; exact ⟨_, rfl, by rw [sz]; exact h⟩)
    · wp_walk using wpAny_pyIter_tuple ht'; exact ⟨_, rfl, by rw [sz]; exact h⟩
def IteT (K : Fg) (a : Addr) : It :=
  ⟨fun i H => ∃ (xs : List V) (x : V), SqT K H a xs ∧ xs[i]? = some x, fun i H v H' => ∃ T x, v = .ref T ∧ H T = none ∧ H' = upd H T (.tup [.int (i : Nat), x]) ∧ ∀ xs, SqT K H a xs → xs[i]? = some x, fun i H => ∃ xs : List V, SqT K H a xs ∧ xs.length = i⟩
structure EnT (a e it : Addr) (i : Nat) (h : Heap) : Prop where
  en : ∃ old, IsEnum h e it i old
  tu : h.IsTupleIter it a i
  ei : e ≠ it
  ea : e ≠ a
  ai : a ≠ it
theorem turn_enumT {P : Program} {w : World} {K : Fg} {elts : List Expr} {kk : Nat} {tpos : Pos} (a e it : Addr) : Turn P w K (.Tuple elts kk tpos) (IteT K a) [e, it] e (EnT a e it) where
  mem := .head _
  obj := fun i h z b hb => by
    obtain ⟨old, q⟩ := z.en
    obtain ⟨o, q1, _, q2⟩ := z.tu
    have c : b = e ∨ b = it := by simpa using hb
    rcases c with rfl | rfl
    · exact ⟨_, q, nofun⟩
    · exact ⟨o, q1, by rw [q2]; exact nofun⟩
  keep := fun i h h' z k => ⟨z.en.imp fun old q => k e (by simp) _ q, z.tu.at (k it (by simp)), z.ei, z.ea, z.ai⟩
  item := fun X hP hw hK hc i pins s σ H E I hf z ⟨xs, x, hq, hx⟩ => by
    subst hP hw hK
    obtain ⟨its, rv, p, hz⟩ := I.tuple hq
    obtain ⟨u, hu, ru⟩ := rv.get hx
    have W := WalksT.enumerateD (prog := X.prog) (w := X.w) (Draws.tuple (show X.A.in1.handled = none from I.ok.hd hc) it a z.ai its.toArray) e z.ei (by simp [z.ei, z.ea]) (by simp)
    refine W.item i s _ _ (by simpa using (List.getElem?_eq_some_iff.1 hu).1) ⟨z.en, z.tu, p⟩ fun T vals h' tk ⟨t, y, hy, hv⟩ hT tp mid k => ⟨_, rfl, W.go _ _ _ i T _ _ _ mid fun h2 st2 k2 => ?_⟩
    subst hv
    obtain rfl : y = u := by simpa [hu] using hy.symm
    have far := W.apart i T _ mid
    have tp2 : h2.IsTuple T #[.int i t, y] := tp.at fun o q => k2 T o far q
    refine ⟨.ref T, _, I.turnedNew (t' := tk) (ch := [e, it]) (fun b o hb q => k2 b o hb (k b o hb q)) hf hT (ob := .tup [.int (i : Nat), x]) ?_, rfl, ⟨T, x, rfl, I.hok.fresh hT, rfl, fun ys hy => by rw [I.tuple_inj hy hq]; exact hx⟩, ⟨st2.1, st2.2.1, z.ei, z.ea, z.ai⟩, fun b hb => ?_⟩
    · exact ⟨by show 2 ≤ sizeLine; decide, [.int i t, y], .cons ⟨_, rfl⟩ (.cons ru .nil), tp2⟩
    · exact (upd_ne fun q : b = T => far (by rw [← q]; exact hb)).trans (hf b hb).1
  done := fun X hP hw hK hc i pins s σ H E I hf z ⟨xs, hq, hx⟩ => by
    subst hP hw hK
    obtain ⟨its, rv, p, hz⟩ := I.tuple hq
    have n : its.toArray.size = i := by simpa [← hx] using rv.length.symm
    have W := WalksT.enumerateD (prog := X.prog) (w := X.w) (Draws.tuple (show X.A.in1.handled = none from I.ok.hd hc) it a z.ai its.toArray) e z.ei (by simp [z.ei, z.ea]) (by simp)
    refine W.done s _ _ ?_ fun h' tk k => ⟨rfl, I.turnedL k hf⟩
    rw [n]
    exact ⟨z.en, z.tu, p⟩
  self := fun A i s Q E z q => let ⟨_, h⟩ := z.en; wpAny_pyIter_enum h q
def iEnT (K : Fg) (ta : TA) : TI := fun σ H R => ta σ H fun vs H1 => ∃ a xs, vs = [.ref a] ∧ SqT K H1 a xs ∧ R (IteT K a) H1
section
variable {X : Cx} {e : Expr} {ta : TA} {p pos tpos : Pos} {elts : List Expr} {kk : Nat}
theorem pi_enT (hg : Gl X "enumerate") (hm : X.mg "enumerate" = none) (ha : PA X [e] ta) (hs : starEach [e] X.env = [(false, eval e X.env)] := by rfl) : PI X (.Tuple elts kk tpos) (.Call (.Name "enumerate" p) [e] [] pos) (iEnT X.K ta) := ⟨fun pins s σ H R I h =>
  Call_ (ld_blt I hg hm boot_enumerate (PyProof.Rows.callWith_type1 (thn (ha.run pos pins s σ H _ I h) fun us s1 ⟨vs, H1, I1, r1, a, xs, ev, hq, q⟩ => by
    subst ev
    obtain ⟨u, rfl, ru⟩ := vals1 r1
    cases ru
    obtain ⟨its, rv, tp, hz⟩ := I1.tuple hq
    have la := tp.lt
    have new : ∀ b ∈ [s1.heap.objs.size + 1, s1.heap.objs.size], s1.heap.objs.size ≤ b := by simp
    have k1 : ∀ o, (s1.heap.push o).objs.size = s1.heap.objs.size + 1 := fun o => Heap.size_push ..
    refine callType_new F.called_enumerate (by decide) (F.typeCall_enumerate_1 _) (F.newCall_enumerate_1 _) (fun obj => F.args_object_init_2 obj _) F.entry_enumerate_new (enumT_new a its.toArray) ⟨tp, ?_⟩
    have at1 := Heap.get?_push_size (s1.heap.push { cls := .type "tuple_iterator", data := .fields #[.ref a, .int 0 0] }) (o := { cls := .type "enumerate", data := .fields #[.none, .bool false, .ref s1.heap.objs.size, rawInt 0, .none, .none] }) rfl
    rw [k1] at at1
    have en : IsEnum ((s1.heap.push { cls := .type "tuple_iterator", data := .fields #[.ref a, .int 0 0] }).push { cls := .type "enumerate", data := .fields #[.none, .bool false, .ref s1.heap.objs.size, rawInt 0, .none, .none] }) (s1.heap.objs.size + 1) s1.heap.objs.size 0 .none := at1
    refine ⟨⟨_, en, rfl⟩, wpAny_pyIter_enum en ⟨s1.heap.objs.size + 1, [s1.heap.objs.size + 1, s1.heap.objs.size], EnT a _ _, IteT X.K a, H1, rfl, I1.kept (t' := s1.toks) fun b o z => Heap.get?_push_of_some _ (Heap.get?_push_of_some _ z), turn_enumT a _ _, ?_, fun b hb => I1.fpOk (new b hb) (I1.hok.fresh (new b hb)), q⟩⟩
    exact ⟨⟨.none, en⟩, ⟨_, Heap.get?_push_of_some _ (Heap.get?_push_size _ rfl), rfl, rfl⟩, Nat.succ_ne_self _, Nat.ne_of_gt (Nat.lt_succ_of_lt la), Nat.ne_of_lt la⟩) hs rfl))⟩
theorem pi_or {tg it : Expr} {w1 w2 : TI} (p : PI X tg it w1) (q : PI X tg it w2) : PI X tg it (fun σ H R => w1 σ H R ∨ w2 σ H R) := ⟨fun pins s σ H R I h => h.elim (p.run pins s σ H R I) (q.run pins s σ H R I)⟩
end
theorem it_enumT {K : Fg} {a : Addr} {ws : List Wd} : ItOkP K (IteT K a) [.ref a] [.tuple ws] (enumD 0 ws) := fun mu T H S st bn r => by
  cases r with
  | cons r _ => cases r with
  | tup h1 h2 =>
    refine ⟨fun i d e => ?_, ⟨_, h1.sq, by rw [h2.length, enumD_length]⟩⟩
    obtain ⟨w, e1, rfl⟩ := enumD_get ws 0 i d e
    obtain ⟨x, e2, e3⟩ := h2.get e1
    refine ⟨⟨_, x, h1.sq, e2⟩, fun y H' hy => ?_⟩
    obtain ⟨Tn, x', rfl, hn, rfl, hx⟩ := hy
    have e4 := hx _ h1.sq
    rw [e2] at e4
    cases e4
    refine ⟨same_upd hn, .inr ⟨Tn, _, _, rfl, rfl, .inl (.inl upd_same), .cons ?_ (.cons (e3.same (same_upd hn)) .nil)⟩⟩
    rw [Nat.zero_add]
    exact .int _
def iEnumA (fs : Ma) : Mi := fun ρ S => (fs ρ S).bnd fun ws S1 => match ws with
  | [w] => R.of ((itemsD w).map (enumD 0)) S1
  | _ => .bad
theorem dip_enA {X : Cx} {e : Expr} {fs : Ma} {p pos tpos : Pos} {elts : List Expr} {kk : Nat} (hg : Gl X "enumerate") (hm : X.mg "enumerate" = none) (ha : Da X [e] fs) (hs : starEach [e] X.env = [(false, eval e X.env)] := by rfl) :
    DiP X (.Tuple elts kk tpos) (.Call (.Name "enumerate" p) [e] [] pos) (iEnumA fs) :=
  PI.weak (pi_or (pi_enum hg hm ha hs) (pi_enT hg hm ha hs)) fun σ H Rr ⟨ρ, S, mu, B, O, rl, ws, S', e, q⟩ => by
    obtain ⟨us, S1, e1, e2⟩ := R.bnd_inv e
    split at e2
    · rename_i w
      obtain ⟨e3, rfl⟩ := R.of_inv e2
      obtain ⟨zs, e4, rfl⟩ := Option.map_eq_some_iff.mp e3
      cases w with
      | list ys =>
        cases e4
        refine .inl (tDa.mk rl e1 fun vs H1 mu1 E r p => ?_)
        cases p with
        | cons p1 p2 =>
          cases p2
          cases p1 with
          | @lst a xs _ h1 h2 => exact ⟨a, xs, rfl, h1.sq, q _ _ _ H1 mu1 it_enum E r.sto (.cons (.lst h1 h2) .nil)⟩
      | tuple ys =>
        cases e4
        refine .inr (tDa.mk rl e1 fun vs H1 mu1 E r p => ?_)
        cases p with
        | cons p1 p2 =>
          cases p2
          cases p1 with
          | @tup a xs _ h1 h2 => exact ⟨a, xs, rfl, h1.sq, q _ _ _ H1 mu1 it_enumT E r.sto (.cons (.tup h1 h2) .nil)⟩
      | _ => cases e4
    · cases e2
section
variable {N : Ev → Sto → Prop} {Rt : Wd → Sto → Prop} {ρ : Ev} {S : Sto} {Q : Wd → Sto → Prop} {Qs : List Wd → Sto → Prop}
theorem w_enA {f : Mx} (h : wpE (f ρ S) fun w S1 => ∃ ys, itemsD w = some ys ∧ Qs (enumD 0 ys) S1) : wpE (iEnumA (aCons f aNil) ρ S) Qs := by
  unfold iEnumA aCons aNil
  simp only [wpE_bnd, wpE_ok]
  refine wpE_mono h fun w S1 ⟨ys, e, q⟩ => ?_
  rw [e]
  exact q
theorem w_star {f : Mx} {fs : Ma} (h : wpE (f ρ S) fun w S1 => ∃ xs, itemsD w = some xs ∧ wpE (fs ρ S1) fun ys S2 => Qs (xs ++ ys) S2) : wpE (aStar f fs ρ S) Qs := by
  unfold aStar
  simp only [wpE_bnd]
  refine wpE_mono h fun w S1 ⟨xs, e, q⟩ => ?_
  rw [e]
  simp only [wpE_bnd, wpE_ok]
  exact q
theorem w_lenO {i : Nat} {ws : List Wd} (h : ρ[i]? = some (some (.own ws))) (q : Q (.int ws.length) S) : wpE (mLenO i ρ S) Q := by
  unfold mLenO
  rw [h]
  exact q
theorem w_ext {i : Nat} {f : Mx} {ws : List Wd} (h : ρ[i]? = some (some (.own ws))) (q : wpE (f ρ S) fun w S1 => ∃ zs, w = .list zs ∧ ws.length + zs.length ≤ sizeLine ∧ N (ρ.set i (some (.own (ws ++ zs)))) S1) : wpS (sExt i f ρ S) N Rt := by
  unfold sExt
  rw [h]
  cases z : f ρ S with
  | bad => rw [z] at q; exact q.elim
  | ok w S1 =>
    rw [z] at q
    obtain ⟨zs, rfl, hl, q⟩ := q
    simp only [sOf_ok, if_pos hl]
    exact q
theorem w_pop {i : Nat} {g : Mg} {ws : List Wd} {w : Wd} (h : ρ[i]? = some (some (.own (ws ++ [w])))) (q : wpO (g w (ρ.set i (some (.own ws)))) fun ρ' => N ρ' S) : wpS (sPop g i ρ S) N Rt := by
  obtain ⟨ρ', e, q⟩ := q
  unfold sPop
  rw [h]
  simp only [List.length_append, List.length_singleton, Nat.add_sub_cancel, List.getElem?_append_right (Nat.le_refl _), Nat.sub_self, List.getElem?_cons_zero, List.dropLast_concat, e]
  exact q
theorem w_wh {t : Mt} {m : Ms} {fuel : Ev → Sto → Nat} (h : wpS (whLoop t m (fuel ρ S) ρ S) N Rt) : wpS (sWhile fuel t m ρ S) N Rt := h
theorem w_whS {t : Mt} {m : Ms} {n : Nat} (h : wpE (t ρ S) fun b S1 => if b = true then wpS (m ρ S1) (fun ρ2 S2 => wpS (whLoop t m n ρ2 S2) N Rt) Rt else N ρ S1) : wpS (whLoop t m (n + 1) ρ S) N Rt := by
  unfold whLoop
  cases z : t ρ S with
  | bad => rw [z] at h; exact h.elim
  | ok b S1 =>
    rw [z] at h
    simp only [sTest_ok]
    cases b with
    | false => exact h
    | true =>
      simp only [if_true, wpE_ok] at h ⊢
      cases y : m ρ S1 <;> rw [y] at h <;> first | exact h | exact h.elim
end
end DL
namespace DL
open PySem PySem.Spec PyProof.Rows L2
def strsD : List Wd → Option (List Str)
  | [] => some []
  | .str x :: r => (strsD r).map (x :: ·)
  | _ => none
def findS (z : Str) : List Str → Nat → Option Nat
  | [], _ => none
  | y :: r, n => if y = z then some n else findS z r (n + 1)
def gIndexT : Wd → Wd → Option Wd
  | .tuple ys, .str z => (strsD ys).bind fun xs => (findS z xs 0).map fun (j : Nat) => .int (j : Int)
  | _, _ => none
theorem strs_of {K : Fg} {mu : List Addr} {T : Addr → Prop} {H : Hp} : ∀ {vs : List V} {ws : List Wd} {ns : List Str}, RpAll K mu T H vs ws → strsD ws = some ns → vs = ns.map V.str
  | [], [], ns, _, e => by cases e; rfl
  | v :: vs, w :: ws, ns, h, e => by
    cases h with
    | cons a b =>
      unfold strsD at e
      split at e
      · rename_i e0; cases e0
      · rename_i x r e0
        cases e0
        obtain ⟨xs, e1, rfl⟩ := Option.map_eq_some_iff.mp e
        cases a
        rw [strs_of b e1]
        rfl
      · cases e
theorem findS_spec (z : Str) : ∀ (ys : List Str) (n j : Nat), findS z ys n = some j → ∃ i, j = n + i ∧ ys[i]? = some z ∧ ∀ m, m < i → ys[m]? ≠ some z
  | [], n, j, h => by cases h
  | y :: ys, n, j, h => by
    unfold findS at h
    by_cases c : y = z
    · rw [if_pos c] at h
      cases h
      subst c
      exact ⟨0, rfl, rfl, fun m hm => absurd hm (Nat.not_lt_zero m)⟩
    · rw [if_neg c] at h
      obtain ⟨i, e1, e2, e3⟩ := findS_spec z ys (n + 1) j h
      refine ⟨i + 1, by omega, e2, fun m hm => ?_⟩
      cases m with
      | zero => intro q; cases q; exact c rfl
      | succ m => exact e3 m (by omega)
section
variable {X : Cx}
theorem tup_ty {pins : List (Addr × Obj)} {s : Shared} {σ : Sg} {H : Hp} {mu : List Addr} {T : Addr → Prop} {a : Addr} {xs : List V} (I : Inv X pins σ H s) (h : TpR X.K mu T H a xs) : s.TypeIs (.ref a) "tuple" ∧ ∀ a', Value.ref a = .ref a' → ∃ ob, s.heap.get? a' = some ob ∧ ob.dict = none := by
  obtain ⟨its, _, ⟨o, ho, hc, _⟩, _⟩ := I.tuple h.sq
  refine ⟨⟨o, ho, hc⟩, fun a' e => ?_⟩
  cases e
  rcases h with ⟨⟨o', d, q⟩, _⟩ | ⟨_, o', q, d⟩
  · exact ⟨o', (I.hok a _ q).1, d⟩
  · exact ⟨o', I.kIn a o' q, d⟩
theorem de_tm {o e : Expr} {es : List Expr} {name : Str} {id : String} {fo : Mx} {t : TA} {r : V → List V → Hp → VK → Prop} {g : Mx} {apos cpos : Pos} (slot : Slot "tuple" name id) (hty : typeOf (.builtin id) = pure (.type "method_descriptor")) (hm : MtR X id r) (ho : De X o fo) (ha : PA X (e :: es) t)
    (k : ∀ σ H Q, tD X.K g σ H Q → tD X.K fo σ H fun x H1 => (∃ a xs mu T, x = .ref a ∧ TpR X.K mu T H1 a xs) ∧ t σ H1 fun xs H2 => r x xs H2 Q)
    (hbase : attributeBase o name X.env (eval o X.env) = eval o X.env := by rfl)
    (hfew : ((backTo cpos (starEach (e :: es) X.env)).all (fun x => !x.1) && (backToKw cpos (keywordEach [] X.env)).all (fun x => x.1.isSome) && decide ((e :: es).length + ([] : List Keyword).length + (if ([] : List Keyword).isEmpty then 0 else 1) < 30)) = true := by rfl)
    (hline : (apos.endLine == cpos.line) = true := by rfl) (hs : starEach (e :: es) X.env = (false, eval e X.env) :: starEach es X.env := by rfl) (hplain : (backTo cpos (starEach es X.env)).any (·.1) = false := by rfl) :
    De X (.Call (.Attribute o name apos) (e :: es) [] cpos) g := by
  refine ⟨fun pins s σ H Q I h => ?_⟩
  refine wpAny_Call_method_late hbase hfew hline rfl (thn (ho.run pins s σ H _ I (k σ H Q h)) fun v s1 ⟨x, H1, I1, r1, ⟨a, xs, mu, T, ex, hT⟩, q1⟩ => ?_)
  subst ex
  cases r1
  obtain ⟨h1, h2⟩ := tup_ty I1 hT
  refine ⟨"tuple", id, PySem.F.plainAttrs_tuple, slot, hty, h1, h2, ?_⟩
  have hA := ha.run cpos pins s1 σ H1 _ I1 q1
  rw [hs] at hA ⊢
  refine Calls.callWith_builtin (by show (false || (backTo cpos (starEach es X.env)).any (·.1)) = false; rw [hplain] <;> rfl) (Calls.evalArgs_plain ?_)
  exact thn hA fun us s2 ⟨vs, H2, I2, r2, q2⟩ => hm pins s2 σ H2 (.ref a) vs _ us Q I2 rfl r2 q2
theorem de_indexT {o e : Expr} {fo fe : Mx} {apos cpos : Pos} (ho : De X o fo) (he : De X e fe) (hbase : attributeBase o "index" X.env (eval o X.env) = eval o X.env := by rfl)
    (hfew : ((backTo cpos (starEach [e] X.env)).all (fun x => !x.1) && (backToKw cpos (keywordEach [] X.env)).all (fun x => x.1.isSome) && decide ([e].length + ([] : List Keyword).length + (if ([] : List Keyword).isEmpty then 0 else 1) < 30)) = true := by rfl)
    (hline : (apos.endLine == cpos.line) = true := by rfl) (hs : starEach [e] X.env = [(false, eval e X.env)] := by rfl) : De X (.Call (.Attribute o "index" apos) [e] [] cpos) (mBin gIndexT fo fe) := by
  refine de_tm PySem.F.slot_tuple_index PySem.F.type_tuple_index mt_tup_index ho (pa_cons he pa_nil hs) ?_ hbase hfew hline hs rfl
  intro σ H Q ⟨ρ, S, mu, B, O, rl, w, S', e, q⟩
  obtain ⟨x, S1, e1, e⟩ := R.bnd_inv e
  obtain ⟨y, S2, e2, e⟩ := R.bnd_inv e
  obtain ⟨e3, rfl⟩ := R.of_inv e
  unfold gIndexT at e3
  split at e3
  · rename_i ys z _
    obtain ⟨xs, h1, h2⟩ := Option.bind_eq_some_iff.mp e3
    obtain ⟨j, h3, rfl⟩ := Option.map_eq_some_iff.mp h2
    obtain ⟨i, rfl, h4, h5⟩ := findS_spec z xs 0 j h3
    refine tD.mk rl e1 fun v H1 mu1 E1 r1 p1 => ?_
    cases p1 with
    | @tup a vs ds a1 b1 =>
      refine ⟨⟨a, vs, _, _, rfl, a1⟩, tD.mk r1 e2 fun u H2 mu2 E2 r2 p2 => ?_⟩
      have p1 : Rp X.K mu2 (fun a => B a ∨ O a) H2 (.ref a) (.tuple ys) := Rp.ext (.tup a1 b1) E2
      cases p1 with
      | tup a2 b2 =>
        cases p2
        refine ⟨a, xs, z, i, rfl, rfl, ?_, h4, h5, q _ H2 mu2 (E1.trans E2) r2.sto ?_⟩
        · rw [← strs_of b2 h1]
          exact a2.sq
        · rw [Nat.zero_add]
          exact .int _
  · cases e3
end
end DL
namespace DL
open PySem PySem.Spec PyProof.Rows L2
variable {G : Bool}
mutual
def bndW (n : Nat) : Wd → Bool
  | .list ws => bndAll n ws
  | .tuple ws => bndAll n ws
  | .dict kvs => bndKv n kvs
  | _ => true
def bndAll (n : Nat) : List Wd → Bool
  | [] => true
  | w :: ws => bndW n w && bndAll n ws
def bndKv (n : Nat) : List (Wd × Wd) → Bool
  | [] => true
  | (k, v) :: r => (match k, v with
    | .none, .int i => decide (i.toNat < n)
    | _, _ => bndW n v) && bndKv n r
end
def Rec.bnd (n : Nat) : Rec → Bool
  | .dct fs => fs.all fun q => bndW n q.2
  | .tdc kvs => kvs.all fun q => bndW n q.2
  | .tab _ => true
  | .exn _ fs => fs.all fun q => bndW n q.2
  | .ins _ fs => fs.all fun q => bndW n q.2
  | .slt _ fs => fs.all fun q => bndW n q.2
  | .lst ws => bndAll n ws
section
variable {K : Fg} {mu : List Addr} {T : Addr → Prop} {H : Hp} {n : Nat}
theorem take_notin {a : Addr} (h : a ∉ mu) : a ∉ mu.take n := fun q => h (List.mem_of_mem_take q)
mutual
theorem Rp.take : ∀ (w : Wd) (v : V), bndW n w = true → Rp K mu T H v w → Rp K (mu.take n) T H v w
  | .none, _, _, h => by cases h; exact .non
  | .bool b, _, _, h => by cases h; exact .bl b
  | .int i, _, _, h => by cases h; exact .int i
  | .str x, _, _, h => by cases h; exact .str x
  | .list ds, _, c, h => by
    cases h with
    | lst a b => exact .lst (a.imp (fun z => ⟨z.1, take_notin z.2.1, z.2.2⟩) id) (RpAll.takeM ds _ c b)
  | .tuple ds, _, c, h => by
    cases h with
    | tup a b => exact .tup (a.imp (fun z => ⟨z.1, take_notin z.2.1, z.2.2⟩) id) (RpAll.takeM ds _ c b)
  | .dict ds, _, c, h => by
    cases h with
    | dct a b => exact .dct ⟨a.1, take_notin a.2.1, a.2.2⟩ (RpKv.takeM ds _ c b)
    | @obj a l e =>
      refine .obj ?_
      have hl : l < n := by
        unfold bndW bndKv at c
        simp only [Bool.and_eq_true, decide_eq_true_eq] at c
        exact c.1
      rw [List.getElem?_take]
      rw [if_pos hl]
      exact e
theorem RpAll.takeM : ∀ (ws : List Wd) (vs : List V), bndAll n ws = true → RpAll K mu T H vs ws → RpAll K (mu.take n) T H vs ws
  | [], _, _, h => by cases h; exact .nil
  | d :: ds, _, c, h => by
    cases h with
    | cons a b =>
      unfold bndAll at c
      obtain ⟨c1, c2⟩ := Bool.and_eq_true_iff.mp c
      exact .cons (Rp.take d _ c1 a) (RpAll.takeM ds _ c2 b)
theorem RpKv.takeM : ∀ (ws : List (Wd × Wd)) (vs : List (Key × V)), bndKv n ws = true → RpKv K mu T H vs ws → RpKv K (mu.take n) T H vs ws
  | [], _, _, h => by cases h; exact .nil
  | (_, d) :: ds, _, c, h => by
    cases h with
    | @cons k v r d ds a b =>
      unfold bndKv at c
      obtain ⟨c1, c2⟩ := Bool.and_eq_true_iff.mp c
      refine .cons (Rp.take d _ ?_ a) (RpKv.takeM ds _ c2 b)
      cases k with
      | inl i => exact c1
      | inr x => exact c1
end
theorem FsR.takeM : ∀ {kvs : List (Key × V)} {fs : List (Str × Wd)}, (fs.all fun q => bndW n q.2) = true → FsR K mu T H kvs fs → FsR K (mu.take n) T H kvs fs
  | [], [], _, _ => trivial
  | (k, v) :: r, (x, d) :: ds, c, h => by
    rw [List.all_cons] at c
    obtain ⟨c1, c2⟩ := Bool.and_eq_true_iff.mp c
    exact ⟨h.1, Rp.take _ _ c1 h.2.1, FsR.takeM c2 h.2.2⟩
  | [], _ :: _, _, h => h.elim
  | _ :: _, [], _, h => h.elim
theorem bnd_ints (k : List Int) : bndAll n (k.map PyData.int) = true := by
  induction k with
  | nil => rfl
  | cons x k ih => simp only [List.map_cons, bndAll, bndW, ih]; rfl
theorem TdR.takeM : ∀ {kvs : List (List Int × Wd)} {es : List (List Int × Addr × Value)}, (kvs.all fun q => bndW n q.2) = true → TdR K mu T H kvs es → TdR K (mu.take n) T H kvs es
  | [], [], _, _ => trivial
  | (k, d) :: r, (k', b, u) :: es, c, h => by
    rw [List.all_cons] at c
    obtain ⟨c1, c2⟩ := Bool.and_eq_true_iff.mp c
    obtain ⟨v, h1, h2⟩ := h.2.2.1
    exact ⟨h.1, Rp.take _ _ (by unfold bndW; exact bnd_ints k) h.2.1, ⟨v, h1, Rp.take _ _ c1 h2⟩, TdR.takeM c2 h.2.2.2⟩
  | [], _ :: _, _, h => h.elim
  | _ :: _, [], _, h => h.elim
theorem lookup_mem' {y : Str} {w : Wd} : ∀ {l : List (Str × Wd)}, l.lookup y = some w → (y, w) ∈ l
  | [], h => by cases h
  | (x, v) :: l, h => by
    by_cases c : y = x
    · subst c
      have e : List.lookup y ((y, v) :: l) = some v := by simp [List.lookup]
      rw [e] at h
      cases h
      exact List.mem_cons_self
    · have e : List.lookup y ((x, v) :: l) = l.lookup y := by simp [List.lookup, beq_eq_false_iff_ne.mpr c]
      rw [e] at h
      exact List.mem_cons_of_mem _ (lookup_mem' h)
theorem FlR.takeM : ∀ {fs : List (Str × Wd)} {vs : List (Str × V)}, (fs.all fun q => bndW n q.2) = true → FlR K mu T H fs vs → FlR K (mu.take n) T H fs vs
  | [], [], _, _ => trivial
  | (x, d) :: ds, (y, v) :: vs, c, h => by
    rw [List.all_cons] at c
    obtain ⟨c1, c2⟩ := Bool.and_eq_true_iff.mp c
    exact ⟨h.1, Rp.take _ _ c1 h.2.1, FlR.takeM c2 h.2.2⟩
  | [], _ :: _, _, h => h.elim
  | _ :: _, [], _, h => h.elim
theorem RecOk.takeM {a : Addr} : ∀ {r : Rec}, r.bnd n = true → RecOk K mu T H a r → RecOk K (mu.take n) T H a r
  | .dct fs, c, ⟨kvs, h, q⟩ => ⟨kvs, h, FsR.takeM c q⟩
  | .tdc fs, c, ⟨es, h, q⟩ => ⟨es, h, TdR.takeM c q⟩
  | .tab x, c, ⟨h0, ps, h, q, z⟩ => ⟨h0, ps, h, q, fun pos cv hc => let ⟨c, h1, h2, h3⟩ := z pos cv hc; ⟨c, h1, h2, fun m => h3 (List.mem_of_mem_take m)⟩⟩
  | .exn x fs, c, ⟨oe, dx, vs, fv, h1, h2, h3, h4, h5, h6, q⟩ => ⟨oe, dx, vs, fv, h1, h2, h3, h4, h5, fun m => h6 (List.mem_of_mem_take m), fun y w z => let ⟨v, p1, p2⟩ := q y w z; ⟨v, p1, Rp.take _ _ (List.all_eq_true.mp c (y, w) (lookup_mem' z)) p2⟩⟩
  | .ins x fs, c, ⟨dx, fv, h1, h2, h3, q⟩ => ⟨dx, fv, h1, h2, fun m => h3 (List.mem_of_mem_take m), FlR.takeM c q⟩
  | .slt x fs, c, ⟨dx, vs, h1, h2, h3, q⟩ => ⟨dx, vs, h1, h2, fun m => h3 (List.mem_of_mem_take m), fun y w z => let ⟨i, v, p1, p2, p3⟩ := q y w z; ⟨i, v, p1, p2, Rp.take _ _ (List.all_eq_true.mp c (y, w) (lookup_mem' z)) p3⟩⟩
  | .lst ws, c, ⟨xs, h, q⟩ => ⟨xs, h, RpAll.takeM _ _ c q⟩
theorem StOk.takeM {S : Sto} (h : StOk K mu T H S) (c : ((S.take n).all fun r => r.bnd n) = true) : StOk K (mu.take n) T H (S.take n) := by
  refine ⟨by rw [List.length_take, List.length_take, h.len], h.nd.sublist (List.take_sublist _ _), fun l a r h1 h2 => ?_⟩
  have hr : r ∈ S.take n := List.mem_of_getElem? h2
  rw [List.getElem?_take] at h1 h2
  split at h1
  · rename_i hl
    rw [if_pos hl] at h2
    exact RecOk.takeM (List.all_eq_true.mp c r hr) (h.ok l a r h1 h2)
  · cases h1
end
section
variable {P : Program} {w : World} {K : Fg} {mg : Str → Option Value} {base : Heap}
end
theorem mdO_ok {P : Program} {w : World} {H : Hp} {h : Heap} {a : Addr} {ents : List (List Int × Addr × Value)} {o : Obj} {es : Array DictEntry} {ep : Nat} (h1 : (a == sysModules) = false) (h2 : ents.length ≤ sizeLine) (h3 : (ents.map (·.1)).Nodup) (h4 : h.get? a = some o) (h5 : o.ExactDict) (h6 : o.data = .dict es ep)
    (h7 : ∀ (P : Program) (w : World), es.toList = ents.map fun x => entryOfKey (tupleKind (mixKind P w)) (x.1.map Sum.inl, x.2)) : ObjOk P w H h a (mdO a ents) :=
  ⟨⟨h1, h2, h3, o, es, ep, h4, h5, h6, h7⟩, ⟨o, h4⟩, fun k1 k2 ⟨z1, z2, z3, o', es', ep', z4, z5⟩ k => ⟨z1, z2, z3, o', es', ep', k _ z4, z5⟩⟩
section
variable {X : Cx} {pos : Pos}
theorem StOk.newRec0 {K : Fg} {mu : List Addr} {T : Addr → Prop} {H : Hp} {S : Sto} {p : Addr} {o : HO} {r : Rec} (st : StOk K mu T H S) (np : H p = none) (hr : RecOk K (mu ++ [p]) T (upd H p o) p r) : Ext mu (mu ++ [p]) H (upd H p o) ∧ StOk K (mu ++ [p]) T (upd H p o) (S ++ [r]) := by
  have hpm : p ∉ mu := st.fresh np
  have E : Ext mu (mu ++ [p]) H (upd H p o) := ⟨fun l a z => by rw [List.getElem?_append_left (List.getElem?_eq_some_iff.mp z).1]; exact z, fun a u z _ => by rw [upd_ne (ne_of_none z np)]; exact z, fun a m n => by
    rcases List.mem_append.mp m with m | m
    · exact absurd m n
    · rw [List.mem_singleton.mp m]; exact np⟩
  refine ⟨E, by rw [List.length_append, List.length_append, st.len]; rfl, ?_, fun l a q h1 h2 => ?_⟩
  · rw [List.nodup_append]
    refine ⟨st.nd, by simp, fun x hx y hy => ?_⟩
    rw [List.mem_singleton] at hy
    subst hy
    exact fun e => hpm (e ▸ hx)
  · by_cases c : l < S.length
    · rw [List.getElem?_append_left c] at h2
      rw [List.getElem?_append_left (by rw [st.len]; exact c)] at h1
      have na : a ≠ p := fun e => hpm (e ▸ List.mem_of_getElem? h1)
      exact RecOk.map (fun _ z => by rw [upd_ne na]; exact z) (fun _ _ z => z.ext E) (fun c _ _ z n => ⟨by rw [upd_ne (ne_of_none z np)]; exact z, E.notin z n⟩) (st.ok l a q h1 h2)
    · rw [List.getElem?_append_right (by omega)] at h2
      rw [List.getElem?_append_right (by rw [st.len]; omega)] at h1
      have hl : l - S.length = 0 := by
        have := (List.getElem?_eq_some_iff.mp h2).1
        simp at this
        omega
      rw [st.len, hl] at h1
      rw [hl] at h2
      cases h1
      cases h2
      exact hr
def mMap0 : Mx := fun _ S => .ok (oW S.length) (S ++ [.tdc []])
theorem de_map0 : De X (.Dict [] [] pos) mMap0 := by
  refine ⟨fun pins s σ H Q I ⟨ρ, S, mu, B, O, rl, w, S', e, q⟩ => ?_⟩
  cases e
  have np : H s.heap.objs.size = none := I.hok.fresh (Nat.le_refl _)
  obtain ⟨E, st⟩ := StOk.newRec0 (o := mdO s.heap.objs.size []) (r := .tdc []) rl.sto np ⟨[], upd_same, trivial⟩
  refine wpAny_Dict_empty ⟨.ref s.heap.objs.size, _, I.laid (a := s.heap.objs.size) (o := mdO s.heap.objs.size []) (t' := s.toks) (fun _ _ q => Heap.get?_push_of_some _ q) (Nat.le_refl _) ?_, rfl, q _ _ _ E st (.obj ?_)⟩
  · exact mdO_ok (es := #[]) (ep := 0) (beq_eq_false_iff_ne.mpr (Nat.ne_of_gt I.big)) (Nat.zero_le _) List.nodup_nil (Heap.get?_push_size _ rfl) ⟨rfl, rfl, rfl⟩ rfl (fun _ _ => rfl)
  · rw [← rl.sto.len, List.getElem?_append_right (Nat.le_refl _), Nat.sub_self]
    rfl
end
def lookT (k : List Int) : List (List Int × Wd) → Option Wd
  | [] => none
  | (k', d) :: r => if k' = k then some d else lookT k r
def putT (k : List Int) (w : Wd) (kvs : List (List Int × Wd)) : List (List Int × Wd) := if (kvs.any fun q => decide (q.1 = k)) = true then kvs.map (fun q => if q.1 = k then (q.1, w) else q) else kvs ++ [(k, w)]
def inlE (x : List Int × Addr × Value) : List Key × Addr × Value := (x.1.map Sum.inl, x.2)
theorem inl_inj : ∀ {a b : List Int}, (a.map (Sum.inl (β := Str)) : List Key) = b.map Sum.inl → a = b
  | [], [], _ => rfl
  | x :: a, y :: b, h => by
    rw [List.map_cons, List.map_cons] at h
    injection h with h1 h2
    injection h1 with h1
    rw [h1, inl_inj h2]
  | [], _ :: _, h => by cases h
  | _ :: _, [], h => by cases h
section
variable {K : Fg} {mu : List Addr} {T : Addr → Prop} {H : Hp}
theorem ints_rp {k : List Int} : ∀ {vs : List V}, RpAll K mu T H vs (k.map PyData.int) → vs = (k.map (Sum.inl (β := Str)) : List Key).map kV := by
  induction k with
  | nil => intro vs h; cases h; rfl
  | cons x k ih =>
    intro vs h
    cases h with
    | cons a b =>
      cases a
      rw [ih b]
      rfl
theorem TdR.look {k : List Int} {w : Wd} : ∀ {kvs : List (List Int × Wd)} {es : List (List Int × Addr × Value)}, TdR K mu T H kvs es → lookT k kvs = some w → ∃ b u v, atKey (es.map inlE) (k.map Sum.inl) = some (b, u) ∧ RelV v u ∧ Rp K mu T H v w
  | [], [], _, e => by cases e
  | (k1, d) :: r, (k2, b, u) :: es, h, e => by
    obtain ⟨rfl, _, ⟨v, h1, h2⟩, h3⟩ := h
    unfold lookT at e
    by_cases c : k1 = k
    · rw [if_pos c] at e
      cases e
      subst c
      refine ⟨b, u, v, ?_, h1, h2⟩
      simp [atKey, inlE]
    · rw [if_neg c] at e
      obtain ⟨b', u', v', q1, q2, q3⟩ := TdR.look h3 e
      refine ⟨b', u', v', ?_, q2, q3⟩
      rw [← q1]
      unfold atKey
      rw [List.map_cons, List.find?_cons_of_neg]
      exact fun z => c (inl_inj (of_decide_eq_true z))
  | [], _ :: _, h, _ => h.elim
  | _ :: _, [], h, _ => h.elim
theorem TdR.length : ∀ {kvs : List (List Int × Wd)} {es : List (List Int × Addr × Value)}, TdR K mu T H kvs es → kvs.length = es.length
  | [], [], _ => rfl
  | (k1, d) :: r, (k2, b, u) :: es, h => by rw [List.length_cons, List.length_cons, TdR.length h.2.2.2]
  | [], _ :: _, h => h.elim
  | _ :: _, [], h => h.elim
theorem TdR.any (k : List Int) : ∀ {kvs : List (List Int × Wd)} {es : List (List Int × Addr × Value)}, TdR K mu T H kvs es → (kvs.any fun q => decide (q.1 = k)) = (es.any fun q => decide (q.1 = k))
  | [], [], _ => rfl
  | (k1, d) :: r, (k2, b, u) :: es, h => by
    rw [List.any_cons, List.any_cons, TdR.any k h.2.2.2, h.1]
  | [], _ :: _, h => h.elim
  | _ :: _, [], h => h.elim
def putE (k : List Int) (b : Addr) (u : Value) (es : List (List Int × Addr × Value)) : List (List Int × Addr × Value) := if (es.any fun q => decide (q.1 = k)) = true then es.map (fun q => if q.1 = k then (q.1, q.2.1, u) else q) else es ++ [(k, b, u)]
theorem TdR.putM {k : List Int} {v : V} {u : Value} {w : Wd} (rv : RelV v u) (p : Rp K mu T H v w) : ∀ {kvs : List (List Int × Wd)} {es : List (List Int × Addr × Value)}, TdR K mu T H kvs es → TdR K mu T H (kvs.map (fun q => if q.1 = k then (q.1, w) else q)) (es.map (fun q => if q.1 = k then (q.1, q.2.1, u) else q))
  | [], [], _ => trivial
  | (k1, d) :: r, (k2, b, u') :: es, h => by
    obtain ⟨rfl, h1, h2, h3⟩ := h
    rw [List.map_cons, List.map_cons]
    by_cases c : k1 = k
    · rw [if_pos c, if_pos c]
      exact ⟨rfl, h1, ⟨v, rv, p⟩, TdR.putM rv p h3⟩
    · rw [if_neg c, if_neg c]
      exact ⟨rfl, h1, h2, TdR.putM rv p h3⟩
  | [], _ :: _, h => h.elim
  | _ :: _, [], h => h.elim
theorem TdR.snoc {k : List Int} {b : Addr} {v : V} {u : Value} {w : Wd} (hk : Rp K mu T H (.ref b) (.tuple (k.map .int))) (rv : RelV v u) (p : Rp K mu T H v w) : ∀ {kvs : List (List Int × Wd)} {es : List (List Int × Addr × Value)}, TdR K mu T H kvs es → TdR K mu T H (kvs ++ [(k, w)]) (es ++ [(k, b, u)])
  | [], [], _ => ⟨rfl, hk, ⟨v, rv, p⟩, trivial⟩
  | (k1, d) :: r, (k2, b, u') :: es, h => ⟨h.1, h.2.1, h.2.2.1, TdR.snoc hk rv p h.2.2.2⟩
  | [], _ :: _, h => h.elim
  | _ :: _, [], h => h.elim
theorem TdR.put {k : List Int} {b : Addr} {v : V} {u : Value} {w : Wd} (hk : Rp K mu T H (.ref b) (.tuple (k.map .int))) (rv : RelV v u) (p : Rp K mu T H v w) {kvs : List (List Int × Wd)} {es : List (List Int × Addr × Value)} (h : TdR K mu T H kvs es) : TdR K mu T H (putT k w kvs) (putE k b u es) := by
  unfold putT putE
  rw [h.any k]
  split
  · exact TdR.putM rv p h
  · exact TdR.snoc hk rv p h
end
theorem at_some (k : List Int) : ∀ es : List (List Int × Addr × Value), (atKey (es.map inlE) (k.map Sum.inl)).isSome = (es.any fun q => decide (q.1 = k))
  | [] => rfl
  | q :: es => by
    have ih := at_some k es
    unfold atKey at ih ⊢
    rw [List.map_cons, List.any_cons]
    by_cases c : q.1 = k
    · rw [List.find?_cons_of_pos (by exact decide_eq_true (show q.1.map Sum.inl = _ by rw [c])), decide_eq_true c]
      rfl
    · rw [List.find?_cons_of_neg (by exact fun z => c (inl_inj (of_decide_eq_true z))), decide_eq_false c, ih]
      rfl
theorem stored_inl (k : List Int) (b : Addr) (u : Value) (es : List (List Int × Addr × Value)) : storedH (es.map inlE) (k.map Sum.inl) b u = (putE k b u es).map inlE := by
  unfold storedH putE
  rw [at_some]
  split
  · rw [List.map_map, List.map_map]
    refine List.map_congr_left fun q _ => ?_
    show putAt _ u (inlE q) = inlE (if q.1 = k then (q.1, q.2.1, u) else q)
    unfold putAt
    by_cases c : q.1 = k
    · rw [if_pos (show (inlE q).1 = k.map Sum.inl from by show q.1.map Sum.inl = _; rw [c]), if_pos c]
      rfl
    · rw [if_neg (show ¬ (inlE q).1 = k.map Sum.inl from fun z => c (inl_inj z)), if_neg c]
  · rw [List.map_append]
    rfl
theorem put_nodup {k : List Int} {b : Addr} {u : Value} {es : List (List Int × Addr × Value)} (h : (es.map (·.1)).Nodup) : ((putE k b u es).map (·.1)).Nodup := by
  unfold putE
  split
  · rw [List.map_map]
    have : (fun q : List Int × Addr × Value => (if q.1 = k then (q.1, q.2.1, u) else q).1) = fun q => q.1 := by
      funext q
      split <;> rfl
    show (es.map fun q => (if q.1 = k then (q.1, q.2.1, u) else q).1).Nodup
    rw [this]
    exact h
  · rename_i c
    rw [List.map_append, List.nodup_append]
    refine ⟨h, by simp, fun x hx y hy => ?_⟩
    simp only [List.map_cons, List.map_nil, List.mem_singleton] at hy
    subst hy
    rintro rfl
    obtain ⟨q, hq, e⟩ := List.mem_map.mp hx
    exact c (List.any_eq_true.mpr ⟨q, hq, decide_eq_true e⟩)
theorem put_length (k : List Int) (b : Addr) (u : Value) (es : List (List Int × Addr × Value)) : (putE k b u es).length ≤ es.length + 1 := by
  unfold putE
  split
  · rw [List.length_map]; omega
  · rw [List.length_append]; exact Nat.le_refl _
theorem ent_any {P P' : Program} {w w' : World} {x : List Int × Addr × Value} : entryOfKey (tupleKind (mixKind P w)) (x.1.map Sum.inl, x.2) = entryOfKey (tupleKind (mixKind P' w')) (x.1.map Sum.inl, x.2) := by
  unfold entryOfKey
  congr 1
  show reduceHash (Builtin.Tuple.tupleHashOf (((x.1.map Sum.inl : List Key)).map (keyH w))) = reduceHash (Builtin.Tuple.tupleHashOf (((x.1.map Sum.inl : List Key)).map (keyH w')))
  rw [List.map_map, List.map_map]
  rfl
section
variable {X : Cx} {pos : Pos} {pins : List (Addr × Obj)} {σ : Sg} {H : Hp} {s : Shared}
theorem key_is {mu : List Addr} {T : Addr → Prop} {b : Addr} {k : List Int} (I : Inv X pins σ H s) (h : Rp X.K mu T H (.ref b) (.tuple (k.map .int))) : (tupleKind (mixKind X.prog X.w)).is s.heap (k.map Sum.inl) b := by
  cases h with
  | tup a r =>
    obtain ⟨its, rv, ⟨o, h1, h2, n, h3⟩, _⟩ := I.tuple a.sq
    rw [ints_rp r] at rv
    exact ⟨o, its.toArray, n, h1, h2, h3, by simpa using items_are rv⟩
theorem td_dict {mu : List Addr} {T : Addr → Prop} {a : Addr} {kvs : List (List Int × Wd)} {ents : List (List Int × Addr × Value)} (I : Inv X pins σ H s) (h : H a = some (mdO a ents)) (r : TdR X.K mu T H kvs ents) :
    (a == sysModules) = false ∧ ents.length ≤ sizeLine ∧ (ents.map (·.1)).Nodup ∧ s.heap.DictOfH (tupleKind (mixKind X.prog X.w)) a (ents.map inlE) := by
  obtain ⟨⟨h1, h2, h3, o, es, ep, h4, h5, h6, h7⟩, hx0⟩ := (show ObjOk X.prog X.w H s.heap a (mdO a ents) from I.hok a _ h)
  clear hx0
  refine ⟨h1, h2, h3, o, es, ep, h4, h5, h6, ?_, fun x hx => ?_, ?_⟩
  · rw [h7 X.prog X.w, List.map_map]
    rfl
  · obtain ⟨y, hy, rfl⟩ := List.mem_map.mp hx
    clear h2 h3 h7 h hx
    induction kvs generalizing ents with
    | nil =>
      cases ents with
      | nil => cases hy
      | cons _ _ => exact r.elim
    | cons q kvs ih =>
      cases ents with
      | nil => cases hy
      | cons e es =>
        obtain ⟨k1, d⟩ := q
        obtain ⟨k2, b, u⟩ := e
        obtain ⟨rfl, r1, r2, r3⟩ := r
        rcases List.mem_cons.mp hy with rfl | hy
        · exact key_is I r1
        · exact ih r3 hy
  · rw [List.map_map]
    have : ((fun x : List Key × Addr × Value => x.1) ∘ inlE) = (fun k => k.map Sum.inl) ∘ fun x : List Int × Addr × Value => x.1 := rfl
    rw [this, ← List.map_map]
    exact List.pairwise_map.mpr (h3.imp fun h z => h (inl_inj z))
end
def recGetT (S : Sto) (x y : Wd) : Option Wd := match x, y with
  | .dict [(.none, .int (.ofNat l))], .tuple ks => (match S[l]?, intsD ks with
    | some (.tdc kvs), some k => lookT k kvs
    | _, _ => none)
  | _, _ => none
def mIxT (fa fb : Mx) : Mx := fun ρ S => (fa ρ S).bnd fun x S1 => (fb ρ S1).bnd fun y S2 => R.of (recGetT S2 x y) S2
def recPutT (S : Sto) (x y w : Wd) : Option Sto := match x, y with
  | .dict [(.none, .int (.ofNat l))], .tuple ks => (match S[l]?, intsD ks with
    | some (.tdc kvs), some k => if kvs.length < sizeLine then some (S.set l (.tdc (putT k w kvs))) else none
    | _, _ => none)
  | _, _ => none
def sPutT (fo fk f : Mx) : Ms := fun ρ S => sOf (f ρ S) fun w S1 => sOf (fo ρ S1) fun o S2 => sOf (fk ρ S2) fun k S3 => match recPutT S3 o k w with
  | some S4 => .nx ρ S4
  | none => .bad
theorem intsD_eq : ∀ {ks : List Wd} {k : List Int}, intsD ks = some k → ks = k.map PyData.int
  | [], k, h => by cases h; rfl
  | w :: ks, k, h => by
    unfold intsD at h
    split at h
    · rename_i z; cases z
    · rename_i i r z
      cases z
      obtain ⟨m, e1, rfl⟩ := Option.map_eq_some_iff.mp h
      rw [intsD_eq e1]
      rfl
    · cases h
theorem recGetT_inv {S : Sto} {x y w : Wd} (h : recGetT S x y = some w) : ∃ l k kvs, x = oW l ∧ y = .tuple (k.map .int) ∧ S[l]? = some (.tdc kvs) ∧ lookT k kvs = some w := by
  unfold recGetT at h
  split at h
  · rename_i l ks
    split at h
    · rename_i kvs k e1 e2
      exact ⟨l, k, kvs, rfl, by rw [intsD_eq e2], e1, h⟩
    · cases h
  · cases h
theorem recPutT_inv {S S' : Sto} {x y w : Wd} (h : recPutT S x y w = some S') : ∃ l k kvs, x = oW l ∧ y = .tuple (k.map .int) ∧ S[l]? = some (.tdc kvs) ∧ kvs.length < sizeLine ∧ S' = S.set l (.tdc (putT k w kvs)) := by
  unfold recPutT at h
  split at h
  · rename_i l ks
    split at h
    · rename_i kvs k e1 e2
      obtain ⟨hz, rfl⟩ := ite_inv h
      exact ⟨l, k, kvs, rfl, by rw [intsD_eq e2], e1, hz, rfl⟩
    · cases h
  · cases h
section
variable {X : Cx} {a b : Expr} {fa fb : Mx} {pos : Pos}
theorem rp_obj {K : Fg} {mu : List Addr} {T : Addr → Prop} {H : Hp} {v : V} {l : Nat} (h : Rp K mu T H v (oW l)) : ∃ a, v = .ref a ∧ mu[l]? = some a := by
  cases h with
  | obj e => exact ⟨_, rfl, e⟩
  | dct a b => exact (kv_none b).elim
theorem rp_tup {K : Fg} {mu : List Addr} {T : Addr → Prop} {H : Hp} {v : V} {ds : List Wd} (h : Rp K mu T H v (.tuple ds)) : ∃ a, v = .ref a := by
  cases h with
  | tup a b => exact ⟨_, rfl⟩
theorem de_ixT (hu : X.A.units + 1 < cLine) (ha : De X a fa) (hb : De X b fb) (hs : PlainIx b) : De X (.Subscript a b pos) (mIxT fa fb) := by
  refine ⟨fun pins s σ H Q I ⟨ρ, S, mu, B, O, rl, w, S', e, q⟩ => ?_⟩
  obtain ⟨x, S1, e1, e⟩ := R.bnd_inv e
  obtain ⟨y, S2, e2, e⟩ := R.bnd_inv e
  obtain ⟨e3, rfl⟩ := R.of_inv e
  refine Subscript_ (thn (ha.run pins s σ H (fun x' H1 => ∃ mu1, Ext mu mu1 H H1 ∧ Rel X.K mu1 B O H1 σ ρ S1 ∧ Rp X.K mu1 (fun a => B a ∨ O a) H1 x' x) I (tD.mk rl e1 fun v H1 mu1 h1 h2 h3 => ⟨mu1, h1, h2, h3⟩)) fun v s1 ⟨x', H1, I1, r1, mu1, E1, rl1, p1⟩ => ?_)
  refine thn (hb.run pins s1 σ H1 (fun y' H2 => ∃ mu2, Ext mu1 mu2 H1 H2 ∧ Rel X.K mu2 B O H2 σ ρ S2 ∧ Rp X.K mu2 (fun a => B a ∨ O a) H2 y' y) I1 (tD.mk rl1 e2 fun v H1 mu1 h1 h2 h3 => ⟨mu1, h1, h2, h3⟩)) fun u s2 ⟨y', H2, I2, r2, mu2, E2, rl2, p2⟩ => ?_
  obtain ⟨l, k, kvs, rfl, rfl, hS, hk⟩ := recGetT_inv e3
  obtain ⟨ad, rfl, hl⟩ := rp_obj (p1.ext E2)
  obtain ⟨bd, rfl⟩ := rp_tup p2
  cases r1
  cases r2
  obtain ⟨ents, h1, h2⟩ := rl2.sto.ok _ _ _ hl hS
  obtain ⟨d1, d2, d3, dd⟩ := td_dict I2 h1 h2
  obtain ⟨b', u', v', q1, q2, q3⟩ := h2.look hk
  refine tail_of dd.typeIs PySem.F.slot_dict_getitem.lookup (hs _ _) (wpAny_getItem_heap (tupleKind_room_in1 hu) (key_is I2 p2) dd q1 ?_)
  exact ⟨v', H2, I2.tok _, q2, q v' H2 mu2 (E1.trans E2) rl2.sto q3⟩
theorem StOk.setRec {K : Fg} {mu : List Addr} {T : Addr → Prop} {H : Hp} {S : Sto} {l : Nat} {a : Addr} {r : Rec} {o : HO} (st : StOk K mu T H S) (hl : mu[l]? = some a) (hr : RecOk K mu T (upd H a o) a r) : Ext mu mu H (upd H a o) ∧ StOk K mu T (upd H a o) (S.set l r) := by
  have hm : a ∈ mu := List.mem_of_getElem? hl
  have ex : Ext mu mu H (upd H a o) := .at_mu hm
  refine ⟨ex, by rw [List.length_set]; exact st.len, st.nd, fun j b q h1 h2 => ?_⟩
  by_cases c : j = l
  · subst c
    rw [hl] at h1
    cases h1
    have hj : j < S.length := by rw [← st.len]; exact (List.getElem?_eq_some_iff.mp hl).1
    rw [List.getElem?_set_self hj] at h2
    cases h2
    exact hr
  · rw [List.getElem?_set_ne (Ne.symm c)] at h2
    have nb : b ≠ a := fun z => c (nodup_ad st.nd h1 (z ▸ hl))
    exact RecOk.map (fun _ z => by rw [upd_ne nb]; exact z) (fun _ _ z => z.ext ex) (fun c _ _ z n => ⟨ex.keep _ _ z n, n⟩) (st.ok j b q h1 h2)
theorem ds_putT {o i value : Expr} {fo fk f : Mx} {pos' : Pos} (hu : X.A.units + 1 < cLine) (ho : De X o fo) (hi : De X i fk) (hv : De X value f) (hs : swapsWith value (some (.Subscript o i pos')) pos.line X.env = pure false := by rfl) :
    Ds X (.Assign [.Subscript o i pos'] value pos) (sPutT fo fk f) := by
  refine ⟨fun pins s σ H D I ⟨ρ, S, mu, B, O, rl, q⟩ => ?_⟩
  unfold sPutT at q
  cases z : f ρ S with
  | bad => rw [z] at q; exact q.elim
  | ok w S1 =>
    rw [z, sOf_ok] at q
    cases y : fo ρ S1 with
    | bad => rw [y] at q; exact q.elim
    | ok od S2 =>
      rw [y, sOf_ok] at q
      cases t : fk ρ S2 with
      | bad => rw [t] at q; exact q.elim
      | ok kd S3 =>
        rw [t, sOf_ok] at q
        cases g : recPutT S3 od kd w with
        | none => rw [g] at q; exact q.elim
        | some S4 =>
          rw [g] at q
          obtain ⟨l, k, kvs, rfl, rfl, hS, hz, rfl⟩ := recPutT_inv g
          refine wpAny_Assign_Subscript (thn (hv.run pins s σ H (fun v H1 => ∃ mu1, Ext mu mu1 H H1 ∧ Rel X.K mu1 B O H1 σ ρ S1 ∧ Rp X.K mu1 (fun a => B a ∨ O a) H1 v w) I (tD.mk rl z fun v H1 mu1 h1 h2 h3 => ⟨mu1, h1, h2, h3⟩)) fun r s1 ⟨v, H1, I1, rv, mu1, E1, rl1, p1⟩ => ?_) hs
          refine thn (ho.run pins s1 σ H1 (fun v H2 => ∃ mu2, Ext mu1 mu2 H1 H2 ∧ Rel X.K mu2 B O H2 σ ρ S2 ∧ Rp X.K mu2 (fun a => B a ∨ O a) H2 v (oW l)) I1 (tD.mk rl1 y fun v H1 mu1 h1 h2 h3 => ⟨mu1, h1, h2, h3⟩)) fun u s2 ⟨x, H2, I2, rx, mu2, E2, rl2, p2⟩ => ?_
          refine thn (hi.run pins s2 σ H2 (fun v H3 => ∃ mu3, Ext mu2 mu3 H2 H3 ∧ Rel X.K mu3 B O H3 σ ρ S3 ∧ Rp X.K mu3 (fun a => B a ∨ O a) H3 v (.tuple (k.map .int))) I2 (tD.mk rl2 t fun v H1 mu1 h1 h2 h3 => ⟨mu1, h1, h2, h3⟩)) fun iv s3 ⟨yv, H3, I3, ry, mu3, E3, rl3, p3⟩ => ?_
          obtain ⟨ad, rfl, hl⟩ := rp_obj (p2.ext E3)
          obtain ⟨bd, rfl⟩ := rp_tup p3
          cases rx
          cases ry
          obtain ⟨ents, h1, h2⟩ := rl3.sto.ok _ _ _ hl hS
          obtain ⟨d1, d2, d3, dd⟩ := td_dict I3 h1 h2
          have hlen := h2.length
          refine wpAny_setItem_heap (hsz := by rw [List.length_map]; omega) (tupleKind_room_in1 hu) (key_is I3 p3) dd fun h' dd' hsb => ?_
          rw [stored_inl] at dd'
          obtain ⟨ob, es, ep, g1, g2, g3, g4, _, _⟩ := dd'
          have hT := h2.put p3 rv ((p1.ext E2).ext E3)
          have hpl := put_length k bd r ents
          have hok : ∀ Hx : Hp, ObjOk X.prog X.w Hx h' ad (mdO ad (putE k bd r ents)) := fun Hx => mdO_ok d1 (by omega) (put_nodup d3) g1 g2 g3 fun P w => by
            rw [g4, List.map_map]
            exact List.map_congr_left fun x _ => ent_any
          have st := rl3.sto.setRec (o := mdO ad (putE k bd r ents)) (r := .tdc (putT k w kvs)) hl ⟨_, upd_same, TdR.map (fun _ _ z => z.ext (.at_mu (List.mem_of_getElem? hl))) hT⟩
          have IW : Inv X pins σ (upd H3 ad (mdO ad (putE k bd r ents))) { s3 with heap := h', toks := s3.toks + (tupleKind (mixKind X.prog X.w)).draws (k.map Sum.inl) } :=
            d_write I3 (by rw [h1]; exact True.intro) hsb ⟨ob, g1⟩ (hok _)
          have ex := ((E1.trans E2).trans E3).trans st.1
          exact ⟨σ, _, IW, q σ _ mu3 O (ex.toS st.2) (rl3.ext st.1 st.2)⟩
end
end DL
namespace DL
open PySem PySem.Spec PyProof.Rows L2
theorem RpKv.imp {K : Fg} {mu mu' : List Addr} {T T' : Addr → Prop} {H H' : Hp} (f : ∀ v w, Rp K mu T H v w → Rp K mu' T' H' v w) : ∀ {kvs : List (Key × V)} {ds : List (Wd × Wd)}, RpKv K mu T H kvs ds → RpKv K mu' T' H' kvs ds
  | [], [], _ => .nil
  | (k, v) :: r, (_, d) :: ds, h => by
    cases h with
    | cons a b => exact .cons (f _ _ a) (RpKv.imp f b)
section
variable {X : Cx} {fi : Mi} {g : Mg} {t : Mt} {vs : List Nat}
variable {fk fv : Mx} {kx vx tgx iter : Expr} {ifs : List Expr} {scope : Scope} {own : List (Str × Nat)} {pos : Pos}
end
end DL
namespace DL
open PySem PySem.Spec PyProof.Rows L2
variable {G : Bool}
def pureG (g : Gd) : Gd := fun ws S => if bndAll 0 ws = true then (match g ws [] with
  | .ok w _ => if bndW 0 w = true then .ok w S else .bad
  | .bad => .bad) else .bad
theorem pureG_inv {g : Gd} {ws : List Wd} {S S1 : Sto} {w : Wd} (e : pureG g ws S = .ok w S1) : bndAll 0 ws = true ∧ bndW 0 w = true ∧ S1 = S ∧ ∃ S', g ws [] = .ok w S' := by
  unfold pureG at e
  split at e
  · rename_i c
    cases h : g ws [] with
    | bad => rw [h] at e; cases e
    | ok v S' =>
      rw [h] at e
      simp only at e
      split at e
      · rename_i c2
        cases e
        exact ⟨c, c2, rfl, S', rfl⟩
      · cases e
  · cases e
theorem pureG_eq {g : Gd} {ws : List Wd} {S S' : Sto} {w : Wd} (e : g ws [] = .ok w S') (h1 : bndAll 0 ws = true) (h2 : bndW 0 w = true) : pureG g ws S = .ok w S := by
  unfold pureG
  rw [if_pos h1, e]
  simp only
  rw [if_pos h2]
section
variable {K : Fg} {mu : List Addr} {T : Addr → Prop} {H : Hp}
abbrev banM (T : Addr → Prop) (mu : List Addr) : Addr → Prop := fun a => T a ∨ a ∈ mu
mutual
theorem Rp.inn : ∀ (w : Wd) (v : V), bndW 0 w = true → Rp K mu T H v w → Rp K [] (banM T mu) H v w
  | .none, _, _, h => by cases h; exact .non
  | .bool b, _, _, h => by cases h; exact .bl b
  | .int i, _, _, h => by cases h; exact .int i
  | .str x, _, _, h => by cases h; exact .str x
  | .list ds, _, c, h => by
    cases h with
    | lst a b => exact .lst (a.imp (fun z => ⟨z.1, by simp, fun q => q.elim z.2.2 z.2.1⟩) id) (RpAll.inn ds _ c b)
  | .tuple ds, _, c, h => by
    cases h with
    | tup a b => exact .tup (a.imp (fun z => ⟨z.1, by simp, fun q => q.elim z.2.2 z.2.1⟩) id) (RpAll.inn ds _ c b)
  | .dict ds, _, c, h => by
    cases h with
    | dct a b => exact .dct ⟨a.1, by simp, fun q => q.elim a.2.2 a.2.1⟩ (RpKv.inn ds _ c b)
    | @obj a l e =>
      unfold bndW bndKv at c
      simp at c
theorem RpAll.inn : ∀ (ws : List Wd) (vs : List V), bndAll 0 ws = true → RpAll K mu T H vs ws → RpAll K [] (banM T mu) H vs ws
  | [], _, _, h => by cases h; exact .nil
  | d :: ds, _, c, h => by
    cases h with
    | cons a b =>
      unfold bndAll at c
      obtain ⟨c1, c2⟩ := Bool.and_eq_true_iff.mp c
      exact .cons (Rp.inn d _ c1 a) (RpAll.inn ds _ c2 b)
theorem RpKv.inn : ∀ (ws : List (Wd × Wd)) (vs : List (Key × V)), bndKv 0 ws = true → RpKv K mu T H vs ws → RpKv K [] (banM T mu) H vs ws
  | [], _, _, h => by cases h; exact .nil
  | (_, d) :: ds, _, c, h => by
    cases h with
    | @cons k v r d ds a b =>
      unfold bndKv at c
      obtain ⟨c1, c2⟩ := Bool.and_eq_true_iff.mp c
      refine .cons (Rp.inn d _ ?_ a) (RpKv.inn ds _ c2 b)
      cases k with
      | inl i => exact c1
      | inr x => exact c1
end
mutual
theorem Rp.out {mu' : List Addr} : ∀ (w : Wd) (v : V), bndW 0 w = true → Rp K mu' (banM T mu) H v w → Rp K mu T H v w
  | .none, _, _, h => by cases h; exact .non
  | .bool b, _, _, h => by cases h; exact .bl b
  | .int i, _, _, h => by cases h; exact .int i
  | .str x, _, _, h => by cases h; exact .str x
  | .list ds, _, c, h => by
    cases h with
    | lst a b => exact .lst (a.imp (fun z => ⟨z.1, fun q => z.2.2 (.inr q), fun q => z.2.2 (.inl q)⟩) id) (RpAll.out ds _ c b)
  | .tuple ds, _, c, h => by
    cases h with
    | tup a b => exact .tup (a.imp (fun z => ⟨z.1, fun q => z.2.2 (.inr q), fun q => z.2.2 (.inl q)⟩) id) (RpAll.out ds _ c b)
  | .dict ds, _, c, h => by
    cases h with
    | dct a b => exact .dct ⟨a.1, fun q => a.2.2 (.inr q), fun q => a.2.2 (.inl q)⟩ (RpKv.out ds _ c b)
    | @obj a l e =>
      unfold bndW bndKv at c
      simp at c
theorem RpAll.out {mu' : List Addr} : ∀ (ws : List Wd) (vs : List V), bndAll 0 ws = true → RpAll K mu' (banM T mu) H vs ws → RpAll K mu T H vs ws
  | [], _, _, h => by cases h; exact .nil
  | d :: ds, _, c, h => by
    cases h with
    | cons a b =>
      unfold bndAll at c
      obtain ⟨c1, c2⟩ := Bool.and_eq_true_iff.mp c
      exact .cons (Rp.out d _ c1 a) (RpAll.out ds _ c2 b)
theorem RpKv.out {mu' : List Addr} : ∀ (ws : List (Wd × Wd)) (vs : List (Key × V)), bndKv 0 ws = true → RpKv K mu' (banM T mu) H vs ws → RpKv K mu T H vs ws
  | [], _, _, h => by cases h; exact .nil
  | (_, d) :: ds, _, c, h => by
    cases h with
    | @cons k v r d ds a b =>
      unfold bndKv at c
      obtain ⟨c1, c2⟩ := Bool.and_eq_true_iff.mp c
      refine .cons (Rp.out d _ ?_ a) (RpKv.out ds _ c2 b)
      cases k with
      | inl i => exact c1
      | inr x => exact c1
end
end
section
variable {P : Program} {w : World} {K : Fg} {mg : Str → Option Value} {base : Heap}
theorem FnD.pure {k : Nat} {f : Addr} {fd : FuncData} {ps : List Str} {g : Gd} (F : FnD G P w K mg base k f fd ps g) : FnD G P w K mg base k f fd ps (pureG g) := by
  refine ⟨fun ws S v S' e => ?_, fun A outer s H args us vs Q hr hg e0 hb r ⟨ws, S, mu, T, h1, h2, h3, v, S1, e, q⟩ => ?_⟩
  · obtain ⟨_, _, _, S2, e1⟩ := pureG_inv e
    exact F.len _ _ _ _ e1
  · obtain ⟨c1, c2, rfl, S2, e1⟩ := pureG_inv e
    refine F.run A outer s H args us vs Q hr hg e0 hb r ⟨ws, [], [], fun a => banM T mu a ∧ ∀ ps, H a ≠ some (.tbl ps), ⟨rfl, List.nodup_nil, fun l a q h => by simp at h⟩, fun a t => ⟨?_, by simp⟩, (RpAll.inn _ _ c1 h3).weak fun a t => t.1, v, S2, e1, fun u H' mu' E st rp => ?_⟩
    · rcases t.1 with y | y
      · exact (h2 a y).1
      · exact ⟨h1.pl y, t.2⟩
    · have sm : Same H H' := fun a o h => E.keep a o h (by simp)
      refine q u H' mu (.same sm) (h1.same sm) (Rp.out _ _ c2 (rp.banT fun a t => ?_))
      by_cases c : ∃ ps, H a = some (.tbl ps)
      · obtain ⟨ps, e⟩ := c
        exact .inr ⟨ps, sm _ _ e⟩
      · exact .inl ⟨t, fun ps e => c ⟨ps, e⟩⟩
theorem Cal.pure {k : Nat} {x : Str} {st : Stmt} {ps : List Str} {g : Gd} (C : Cal G P w K mg base k x st ps g) : Cal G P w K mg base k x st ps (pureG g) := by
  obtain ⟨f, fd, hm, F, hb, G⟩ := C
  exact ⟨f, fd, hm, F, hb, G.pure⟩
end
mutual
theorem bnd_lay {n : Nat} : ∀ w : Wd, w.canLay0 = true → bndW n w = true
  | .none, _ => rfl
  | .bool _, _ => rfl
  | .int _, _ => rfl
  | .str _, _ => rfl
  | .list ds, h => by unfold bndW; exact bnd_layA ds h
  | .tuple ds, h => by unfold bndW; exact bnd_layA ds h
  | .dict _, h => by cases h
theorem bnd_layA {n : Nat} : ∀ ws : List Wd, PyData.canLayAll0 ws = true → bndAll n ws = true
  | [], _ => rfl
  | d :: ds, h => by
    have h' : (PyData.canLay0 d && PyData.canLayAll0 ds) = true := h
    obtain ⟨c1, c2⟩ := Bool.and_eq_true_iff.mp h'
    unfold bndAll
    rw [bnd_lay d c1, bnd_layA ds c2]
    rfl
end
section
variable {X : Cx}
end
end DL
namespace DL
open PySem PySem.Spec PyProof.Rows L2
section
variable {X : Cx} {fs : Ma} {pos : Pos}
end
end DL
namespace DL
open PySem PySem.Spec PyProof.Rows L2
section
variable {X : Cx} {es : List Expr} {b : Expr} {fs : Ma} {g : Mx} {pos lp : Pos}
end
section
variable {X : Cx}
end
def sPo (i j : Nat) (f : Mx) : Ms := fun ρ S => sOf (f ρ S) fun w S1 => .nx ((ρ.set i (some (.val w))).set j (some (.own []))) S1
section
variable {X : Cx} {f g : Mx} {pos : Pos}
theorem ds_po {i j : Nat} {x y : Str} {b : Expr} {px py pt pt2 lpos : Pos} {kt k2 : Nat} (hc : X.calm = true) (hN : X.N.Nodup) (hi : X.N[i]? = some x) (hj : X.N[j]? = some y) (hij : i ≠ j) (hx : X.env.scope.names.lookup x = some .local) (hy : X.env.scope.names.lookup y = some .local) (hb : De X b f)
    (hw : swappedStores [.Tuple [.Name x px, .Name y py] kt pt] (.Tuple [b, .List [] lpos] k2 pt2) X.env = pure (some [x, y])) (hs : swapsWithSole [.Tuple [.Name x px, .Name y py] kt pt] (.Tuple [b, .List [] lpos] k2 pt2) pos.line X.env = pure false := by rfl)
    (h1 : starEach [b, .List [] lpos] X.env = (false, eval b X.env) :: starEach [.List [] lpos] X.env := by rfl) (h2 : starEach [.List [] lpos] X.env = [(false, eval (.List [] lpos) X.env)] := by rfl) :
    Ds X (.Assign [.Tuple [.Name x px, .Name y py] kt pt] (.Tuple [b, .List [] lpos] k2 pt2) pos) (sPo i j f) :=
  PS.weak (ps_par hc hN hi hj hij hx hy (pa_cons hb (pa_cons (pe_lst pa_nil) pa_nil h2) h1) hw hs) fun D σ H ⟨ρ, S, mu, B, O, rl, q⟩ => by
    unfold sPo at q
    cases z : f ρ S with
    | bad => rw [z] at q; exact q.elim
    | ok w S1 =>
      rw [z, sOf_ok] at q
      refine tD.mk rl z fun v H1 mu1 E r p => ?_
      refine ⟨Nat.zero_le _, fun l hl => ⟨v, .ref l, rfl, ?_⟩⟩
      exact q _ _ mu1 _ ((E.toS r.sto).trans (ExtS.newOwn hl)) ((r.set i p).newOwn j hl .nil)
end
end DL
namespace DL
open PySem PySem.Spec PyProof.Rows L2
section
variable {prog : Program} {w : World} {A : Around} {E : Value → Shared → Prop} {s : Shared}
abbrev set0 (w : World) : Obj := { cls := .type "set", dict := none, data := .set #[] 0 (.fresh 0 0 (!w.params.followText "set-order")) }
theorem set_init_ints {l : Addr} {items : Array Value} (ns : List Int) {R : Result → Shared → Prop} (hh : A.handled = none) (hl : s.heap.IsList l items) (hi : IntsAre items.toList ns) (hb : ns.length + 1 < scanBound)
    (q : ∀ (h' : Heap) (tk c : Nat), SetR w h' s.heap.objs.size (fun j => decide (j ∈ ns)) c → c ≤ ns.length → (∀ b o, s.heap.get? b = some o → h'.get? b = some o) → R (.ok (.ret .none)) { s with heap := h', toks := tk }) :
    codeAny (model prog w) A (.call (.builtin "set.__init__") ⟨[.ref s.heap.objs.size, .ref l], []⟩) R { s with heap := s.heap.push (set0 w) } := by
  have at0 : (s.heap.push (set0 w)).get? s.heap.objs.size = some (set0 w) := Heap.get?_push_size _ rfl
  have li := hl.push (set0 w)
  obtain ⟨⟨lc, ld, la, ls⟩, el, cl, nl, dl⟩ := id li
  dsimp only at cl dl
  subst cl dl
  have ne : l ≠ s.heap.objs.size := by
    obtain ⟨o, e, _⟩ := hl
    exact Nat.ne_of_lt (Heap.lt_size e)
  have n1 := F.sub_list_set
  have n2 := F.sub_list_frozenset
  refine codeAny_call_builtin F.called_set.init.plain F.entry_set_init (check_set_init_1 ⟨_, at0, rfl⟩ ?_)
  unfold Builtin.«set.__init__» Builtin.Frozenset.updateFrom
  wp_walk using wpAny_pyIter_list li
  have old : ∀ {b : Addr} {o : Obj}, s.heap.get? b = some o → b ≠ s.heap.objs.size ∧ b ≠ (s.heap.push (set0 w)).objs.size := fun e => by
    have := Heap.lt_size e
    rw [Heap.size_push]
    exact ⟨Nat.ne_of_lt this, Nat.ne_of_lt (Nat.lt_succ_of_lt this)⟩
  have lf : l ≠ (s.heap.push (set0 w)).objs.size := by
    have := Heap.lt_size el
    exact Nat.ne_of_lt this
  have far : s.heap.objs.size ∉ [(s.heap.push (set0 w)).objs.size, l] := by
    simp only [Heap.size_push, List.mem_cons, List.not_mem_nil, or_false, not_or]
    exact ⟨by omega, Ne.symm ne⟩
  have sz : items.size = ns.length := by simpa using hi.length
  refine set_update_ints (Walks.list (by simp [hh]) (s.heap.push (set0 w)).objs.size l lf items).toS s.heap.objs.size far ns sz hb (fun i v e => ?_) items.size 0 _ rfl (Nat.zero_le _) ⟨⟨_, Heap.get?_push_size _ rfl, rfl, rfl⟩, li.push _⟩
    ⟨0, Nat.le_refl _, setR_new_at (Heap.get?_push_of_some _ at0)⟩ fun s' c mv hc R2 => ?_
  · obtain ⟨t, e2⟩ := IntsAre.int_at hi i v (by rwa [Array.getElem?_toList])
    have hlt : i < ns.length := by rw [← sz]; exact (Array.getElem?_eq_some_iff.mp e).1
    exact ⟨ns[i], t, List.getElem?_eq_getElem hlt, by rw [e2, List.getD_eq_getElem?_getD, List.getElem?_eq_getElem hlt, Option.getD_some]⟩
  · obtain ⟨h2, g2, d2, t2, o2⟩ := s'
    obtain rfl : g2 = s.gens := mv.gens
    obtain rfl : d2 = s.drawn := mv.drawn
    obtain rfl : o2 = s.os := mv.os
    refine wpAny_pure (wpAny_pure (q h2 t2 c R2 (by omega) fun b o e => mv.heap b o ?_ (Heap.get?_push_of_some _ (Heap.get?_push_of_some _ e))))
    have := old e
    simp only [List.mem_cons, List.not_mem_nil, or_false, not_or]
    exact this
theorem set_of_ints {l : Addr} {items : Array Value} (ns : List Int) {Q : Value → Shared → Prop} (hh : A.handled = none) (hl : s.heap.IsList l items) (hi : IntsAre items.toList ns) (hb : ns.length + 1 < scanBound)
    (q : ∀ (h' : Heap) (tk c : Nat), SetR w h' s.heap.objs.size (fun j => decide (j ∈ ns)) c → c ≤ ns.length → (∀ b o, s.heap.get? b = some o → h'.get? b = some o) → Q (.ref s.heap.objs.size) { s with heap := h', toks := tk }) :
    wpAny (model prog w) A (call (.type "set") [.ref l]) Q E s := by
  have new := code_set_led1 (P := prog) (w := w) (A := A.in1) (s := s) (E := E) (.ref l) (Q₁ := fun obj u => obj = .ref s.heap.objs.size ∧ u = { s with heap := s.heap.push (set0 w) }) ⟨rfl, rfl⟩
  have at0 : (s.heap.push (set0 w)).get? s.heap.objs.size = some (set0 w) := Heap.get?_push_size _ rfl
  have ini := set_init_ints (prog := prog) (w := w) (A := A.in1) ns (R := wants (fun r u => r = .none ∧ Q (.ref s.heap.objs.size) u) E) (by simp [hh]) hl hi hb fun h' tk c a b k => ⟨rfl, q h' tk c a b k⟩
  have f := F.called_set
  have f1 := f.notType
  have f2 := f.canCreate
  have f3 := F.typeCall_set_1 (.ref l)
  have f4 := f.made
  have f5 := f.sub
  have f6 := f.init.lookup
  have f7 := f.init.bind (.ref s.heap.objs.size)
  obtain ⟨_, _, f8⟩ := f.mro
  refine wpAny_call (codeAny_of_tree (wpAny_pure ⟨Code.quiet_builtin _ (by decide +kernel), codeAny_builtin F.entry_type_call ?_⟩))
  rw [Around.under_plain (weight_type_call_type "set" [.ref l] []) rfl]
  unfold Builtin.«type.__call__»
  wp_walk
  refine codeAny_mono new fun r u hr => ?_
  match r, hr with
  | .error e, hr => exact hr
  | .ok (.ret v), ⟨e1, e2⟩ =>
    subst e1 e2
    have ty : ∀ tk, (⟨s.heap.push (set0 w), s.gens, s.drawn, tk, s.os⟩ : Shared).TypeIs (.ref s.heap.objs.size) "set" := fun _ => ⟨_, at0, rfl⟩
    wp_walk
    refine codeAny_mono ini fun r u hr => ?_
    match r, hr with
    | .error e, hr => exact hr
    | .ok (.ret v), ⟨e1, hq⟩ =>
      subst e1
      wp_walk
      exact hq
end
def insU (x : Int) : List Int → List Int
  | [] => [x]
  | y :: ys => if x < y then x :: y :: ys else if x = y then y :: ys else y :: insU x ys
def sortU : List Int → List Int
  | [] => []
  | x :: xs => insU x (sortU xs)
theorem mem_insU {x k : Int} : ∀ {l : List Int}, k ∈ insU x l ↔ k = x ∨ k ∈ l
  | [] => by simp [insU]
  | y :: ys => by
    unfold insU
    split
    · simp
    · split
      · rename_i h
        subst h
        simp
      · rw [List.mem_cons, mem_insU, List.mem_cons]
        exact ⟨fun h => by rcases h with h | h | h <;> simp [h], fun h => by rcases h with h | h | h <;> simp [h]⟩
theorem mem_sortU {k : Int} : ∀ {l : List Int}, k ∈ sortU l ↔ k ∈ l
  | [] => by simp [sortU]
  | x :: xs => by rw [sortU, mem_insU, mem_sortU, List.mem_cons]
theorem insU_pw {x : Int} : ∀ {l : List Int}, l.Pairwise (· < ·) → (insU x l).Pairwise (· < ·)
  | [], _ => by simp [insU]
  | y :: ys, h => by
    obtain ⟨h1, h2⟩ := List.pairwise_cons.1 h
    unfold insU
    split
    · rename_i c
      refine List.pairwise_cons.2 ⟨fun z hz => ?_, h⟩
      rcases List.mem_cons.1 hz with rfl | hz
      · exact c
      · exact Int.lt_trans c (h1 z hz)
    · split
      · exact h
      · refine List.pairwise_cons.2 ⟨fun z hz => ?_, insU_pw h2⟩
        rcases mem_insU.1 hz with rfl | hz
        · omega
        · exact h1 z hz
theorem sortU_pw : ∀ l : List Int, (sortU l).Pairwise (· < ·)
  | [] => .nil
  | x :: xs => insU_pw (sortU_pw xs)
theorem insU_len {x : Int} : ∀ {l : List Int}, (insU x l).length ≤ l.length + 1
  | [] => by simp [insU]
  | y :: ys => by
    have := insU_len (x := x) (l := ys)
    unfold insU
    split
    · simp
    · split <;> simp <;> omega
theorem sortU_len : ∀ {l : List Int}, (sortU l).length ≤ l.length
  | [] => Nat.le_refl _
  | x :: xs => by
    have := insU_len (x := x) (l := sortU xs)
    have := sortU_len (l := xs)
    rw [sortU, List.length_cons]
    omega
theorem asc_uniq : ∀ {a b : List Int}, a.Pairwise (· < ·) → b.Pairwise (· < ·) → (∀ k, k ∈ a ↔ k ∈ b) → a = b
  | [], [], _, _, _ => rfl
  | [], y :: ys, _, _, h => by have := (h y).2 (List.mem_cons_self ..); cases this
  | x :: xs, [], _, _, h => by have := (h x).1 (List.mem_cons_self ..); cases this
  | x :: xs, y :: ys, ha, hb, h => by
    obtain ⟨a1, a2⟩ := List.pairwise_cons.1 ha
    obtain ⟨b1, b2⟩ := List.pairwise_cons.1 hb
    have e : x = y := by
      rcases List.mem_cons.1 ((h x).1 (List.mem_cons_self ..)) with e | m
      · exact e
      · rcases List.mem_cons.1 ((h y).2 (List.mem_cons_self ..)) with e | m2
        · exact e.symm
        · have := b1 x m
          have := a1 y m2
          omega
    subst e
    rw [asc_uniq a2 b2 fun k => ⟨fun m => ?_, fun m => ?_⟩]
    · rcases List.mem_cons.1 ((h k).1 (List.mem_cons_of_mem _ m)) with e | q
      · have := a1 k m
        omega
      · exact q
    · rcases List.mem_cons.1 ((h k).2 (List.mem_cons_of_mem _ m)) with e | q
      · have := b1 k m
        omega
      · exact q
section
variable {X : Cx} {e : Expr} {es : List Expr} {fs : Ma} {pos pos2 p p2 : Pos}
def Thn (K : Fg) (r1 r2 : List V → Hp → VK → Prop) (g : List Wd → Option Wd) : Prop :=
  ∀ (mu : List Addr) (T : Addr → Prop) (S : Sto) (ws : List Wd) (w : Wd) (H : Hp) (xs : List V) (Q : VK), StOk K mu T H S → Bn mu T H → RpAll K mu T H xs ws → g ws = some w → (∀ v H', Same H H' → Rp K mu T H' v w → Q v H') → r2 xs H fun x H1 => r1 [x] H1 Q
theorem thn_weak {K : Fg} {r1 r2 : List V → Hp → VK → Prop} {g : List Wd → Option Wd} (h : Thn K r1 r2 g) : ∀ σ H Q, tD K (mCB g fs) σ H Q → tCB r1 (tCons (tCB r2 (tDa K fs)) tNil) σ H Q := fun σ H Q ⟨ρ, S, mu, B, O, rl, w, S', e1, q⟩ => by
  obtain ⟨xs, S1, e2, e1⟩ := R.bnd_inv e1
  obtain ⟨e3, rfl⟩ := R.of_inv e1
  exact tDa.mk rl e2 fun vs H1 mu1 E r p1 => h mu1 _ S1 xs w H1 vs Q r.sto r.bn p1 e3 fun v H2 sm pv => q v H2 mu1 (E.trans (.same sm)) (r.sto.same sm) pv
theorem de_BT {id T : String} {x y : Str} {r1 r2 : List V → Hp → VK → Prop} {g : List Wd → Option Wd} (h : Thn X.K r1 r2 g) (h1 : CallR X (.builtin id) r1) (h2 : CallR X (.type T) r2) (hg : Gl X x) (hm : X.mg x = none) (hv : bootBuiltins x = some (.builtin id))
    (hg2 : Gl X y) (hm2 : X.mg y = none) (hv2 : bootBuiltins y = some (.type T)) (ha : Da X (e :: es) fs) (hn : x ≠ "__name__" := by decide) (hd : (x == ("__debug__" : Str)) = false := by decide) (hn2 : y ≠ "__name__" := by decide) (hd2 : (y == ("__debug__" : Str)) = false := by decide)
    (he : starEach (e :: es) X.env = (false, eval e X.env) :: starEach es X.env := by rfl) (hpl : (backTo pos2 (starEach es X.env)).any (·.1) = false := by rfl) : De X (.Call (.Name x p) [.Call (.Name y p2) (e :: es) [] pos2] [] pos) (mCB g fs) :=
  PE.weak (pe_callB h1 hg hm hv (pa_cons (pe_callTy h2 hg2 hm2 hv2 ha hn2 hd2 he hpl) pa_nil) hn hd) (thn_weak h)
def gSortSet : List Wd → Option Wd
  | [.list ws] => (intsD ws).bind fun ns => if ns.length < 64 then some (.list ((sortU ns).map .int)) else none
  | [.tuple ws] => (intsD ws).bind fun ns => if ns.length < 64 then some (.list ((sortU ns).map .int)) else none
  | _ => none
theorem bt_set : bootBuiltins "set" = some (.type "set") := by decide +kernel
end
end DL
namespace WF
open PySem PySem.Spec PyProof.Rows L2 DL
def m_feed_k01 : Ms := (sRet (mRec ["cells", "at", "left", "count"] (aCons (mCB gList (aCons (mSl (mV 0) oNone (oSome (mC (.int 63)))) aNil)) (aCons (mC (.int 0)) (aCons (mC (.int 0)) (aCons (mC (.int 0)) aNil))))))
def g_feed_k01 : Gd := runDef 1 1 m_feed_k01
end WF
namespace WF
open PySem PySem.Spec PyProof.Rows L2 DL
def m_draw_k01 : Ms := (sSeq (sPut (mV 0) "count" (mBin gAdd (mIx (mV 0) (mC (.str "count"))) (mC (.int 1)))) (sSeq (sIf (mTru (mBin gGt (mIx (mV 0) (mC (.str "left"))) (mC (.int 0)))) (sSeq (sSet 2 (mBin gMod (mCB gInt (aCons (mIx (mV 0) (mC (.str "left"))) aNil)) (mV 1))) (sSeq (sPut (mV 0) "left" (mBin gDiv (mIx (mV 0) (mC (.str "left"))) (mV 1))) (sRet (mV 2)))) sNil) (sSeq (sSet 3 (mIx (mV 0) (mC (.str "at")))) (sSeq (sPut (mV 0) "at" (mBin gAdd (mV 3) (mC (.int 1)))) (sSeq (sSet 4 (mIf (mTru (mBin gNe (mIx (mV 0) (mC (.str "cells"))) (mLst aNil))) (mIx (mIx (mV 0) (mC (.str "cells"))) (mBin gMod (mCB gInt (aCons (mV 3) aNil)) (mCB gLen (aCons (mIx (mV 0) (mC (.str "cells"))) aNil)))) (mC (.int 47)))) (sSeq (sIf (mAndT (mTru (mBin gGe (mV 4) (mBin gPow (mC (.int 10)) (mC (.int 18))))) (mTru (mBin gLt (mV 3) (mCB gLen (aCons (mIx (mV 0) (mC (.str "cells"))) aNil))))) (sSeq (sPut (mV 0) "left" (mBin gDiv (mV 4) (mV 1))) (sRet (mBin gMod (mCB gInt (aCons (mV 4) aNil)) (mV 1)))) sNil) (sSeq (sSet 5 (mBin gMod (mCB gInt (aCons (mBin gAdd (mBin gAdd (mBin gMod (mCB gInt (aCons (mV 4) aNil)) (mC (.int 1000000531))) (mBin gMul (mC (.int 230017)) (mIx (mV 0) (mC (.str "count"))))) (mC (.int 101))) aNil)) (mC (.int 2147482951)))) (sSeq (sSet 5 (mBin gMod (mCB gInt (aCons (mBin gAdd (mBin gAdd (mBin gMul (mV 5) (mV 5)) (mBin gMul (mC (.int 5100007)) (mIx (mV 0) (mC (.str "count"))))) (mC (.int 59))) aNil)) (mC (.int 2147482949)))) (sRet (mBin gMod (mCB gInt (aCons (mBin gDiv (mBin gMod (mCB gInt (aCons (mBin gAdd (mBin gMul (mV 5) (mV 5)) (mBin gMul (mC (.int 103)) (mV 5))) aNil)) (mC (.int 2147482873))) (mC (.int 16))) aNil)) (mV 1)))))))))))
def g_draw_k01 : Gd := runDef 6 2 m_draw_k01
end WF
namespace WF
open PySem PySem.Spec PyProof.Rows L2 DL
def m_limit_k01 (g : Gd) : Ms := (sSeq (sSet 2 (mCall WF.g_draw_k01 (aCons (mV 0) (aCons (mC (.int 8)) aNil)))) (sSeq (sIf (mOrT (mTru (mBin gLt (mV 2) (mC (.int 5)))) (mTru (mBin gEq (mV 1) (mC (.int 0))))) (sSeq (sSet 3 (mIx (mLst (aCons (mC (.int 1)) (aCons (mC (.int 2)) (aCons (mC (.int 5)) (aCons (mC (.int 7)) (aCons (mC (.int 40)) (aCons (mC (.int 99)) aNil))))))) (mCall WF.g_draw_k01 (aCons (mV 0) (aCons (mC (.int 6)) aNil))))) (sRet (mTup (aCons (mIx (mLst (aCons (mC (.str "hours")) (aCons (mC (.str "cycles")) (aCons (mC (.str "days")) aNil)))) (mBin gMod (mCB gInt (aCons (mV 2) aNil)) (mC (.int 3)))) (aCons (mV 3) aNil))))) sNil) (sSeq (sSet 4 (mCB gTuple (aCons (mLc [5] (iRange1 (aCons (mBin gAdd (mC (.int 1)) (mCall WF.g_draw_k01 (aCons (mV 0) (aCons (mC (.int 3)) aNil)))) aNil)) (gtN 5) tTrue (mCall g (aCons (mV 0) (aCons (mBin gSub (mV 1) (mC (.int 1))) aNil)))) aNil))) (sRet (mTup (aCons (mIx (mLst (aCons (mC (.str "first")) (aCons (mC (.str "later")) aNil))) (mBin gMod (mCB gInt (aCons (mV 2) aNil)) (mC (.int 2)))) (aCons (mV 4) aNil)))))))
def g_limit_k01 : Nat → Gd
  | 0 => fun _ _ => .bad
  | n + 1 => runDef 6 2 (m_limit_k01 (g_limit_k01 n))
end WF
namespace WF
open PySem PySem.Spec PyProof.Rows L2 DL
def m_second_site_k02 : Ms := (sSeq (sSet 0 (mTup (aCons (mTup (aCons (mC (.str "days")) (aCons (mTup (aCons (mTup (aCons (mC (.int 0)) (aCons (mC (.int 0)) aNil))) (aCons (mTup (aCons (mC (.int 20)) (aCons (mC (.int 3)) aNil))) (aCons (mTup (aCons (mC (.int 1)) (aCons (mC (.int 1)) aNil))) aNil)))) aNil))) (aCons (mTup (aCons (mC (.str "task")) (aCons (mTup (aCons (mTup (aCons (mC (.int 5)) (aCons (mC (.int 5)) aNil))) aNil)) aNil))) aNil)))) (sSeq (sSet 1 (mTup (aCons (mTup (aCons (mC (.str "machine")) (aCons (mTup (aCons (mTup (aCons (mC (.int 0)) (aCons (mC .none) aNil))) (aCons (mTup (aCons (mC (.int 1)) (aCons (mC (.str "task")) aNil))) (aCons (mTup (aCons (mC (.int 2)) (aCons (mC .none) aNil))) (aCons (mTup (aCons (mC (.int 9)) (aCons (mC (.str "days")) aNil))) aNil))))) aNil))) (aCons (mTup (aCons (mC (.str "task")) (aCons (mTup (aCons (mTup (aCons (mC (.int 0)) (aCons (mC (.str "days")) aNil))) (aCons (mTup (aCons (mC (.int 3)) (aCons (mC (.str "task")) aNil))) aNil))) aNil))) aNil)))) (sSeq (sSet 2 (mTup (aCons (mC (.str "later")) (aCons (mTup (aCons (mTup (aCons (mC (.str "first")) (aCons (mTup (aCons (mTup (aCons (mC (.str "cycles")) (aCons (mC (.int 3)) aNil))) (aCons (mTup (aCons (mC (.str "later")) (aCons (mTup (aCons (mTup (aCons (mC (.str "days")) (aCons (mC (.int 2)) aNil))) aNil)) aNil))) aNil))) aNil))) (aCons (mTup (aCons (mC (.str "hours")) (aCons (mC (.int 1)) aNil))) (aCons (mTup (aCons (mC (.str "cycles")) (aCons (mC (.int 3)) aNil))) aNil)))) aNil)))) (sSeq (sSet 3 (mTup (aCons (mTup (aCons (mC (.str "first")) (aCons (mC (.str "task")) (aCons (mC (.str "kept")) (aCons (mV 2) (aCons (mTup (aCons (mC (.int 3)) (aCons (mC (.int 1)) (aCons (mC (.int 0)) aNil)))) aNil)))))) (aCons (mTup (aCons (mC (.str "part")) (aCons (mC (.str "machine")) (aCons (mC (.str "fresh")) (aCons (mTup (aCons (mC (.str "cycles")) (aCons (mC (.int 99)) aNil))) (aCons (mTup (aCons (mC (.int 0)) (aCons (mC (.int 9)) (aCons (mC (.int 9)) aNil)))) aNil)))))) aNil)))) (sRet (mTup (aCons (mV 0) (aCons (mV 1) (aCons (mBin gAdd (mV 3) (mTup (aCons (mTup (aCons (mC (.str "task")) (aCons (mC (.str "task")) (aCons (mC (.str "kept")) (aCons (mTup (aCons (mC (.str "first")) (aCons (mTup (aCons (mTup (aCons (mC (.str "days")) (aCons (mC (.int 1)) aNil))) aNil)) aNil))) (aCons (mTup (aCons (mC (.int 0)) (aCons (mC (.int 0)) (aCons (mC (.int 5)) aNil)))) aNil)))))) aNil))) aNil)))))))))
def g_second_site_k02 : Gd := runDef 4 0 m_second_site_k02
end WF
namespace WF
open PySem PySem.Spec PyProof.Rows L2 DL
def m_slack_k01 : Ms := (sRet (mCB gTuple (aCons (mLc [1] (iRange1 (aCons (mC (.int 3)) aNil)) (gtN 1) tTrue (mIx (mLst (aCons (mC (.int 0)) (aCons (mC (.int 0)) (aCons (mC (.int 1)) (aCons (mC (.int 3)) (aCons (mC (.int 9)) aNil)))))) (mCall WF.g_draw_k01 (aCons (mV 0) (aCons (mC (.int 5)) aNil))))) aNil)))
def g_slack_k01 : Gd := runDef 2 1 m_slack_k01
end WF
namespace DL
open PySem PySem.Spec PyProof.Rows L2
section
variable {X : Cx} {x : Str} {c : Value} {body suite : List Stmt} {b₀ : Stmt} {np pos pos' : Pos} {m : Ms}
end
end DL
namespace DL
open PySem PySem.Spec PyProof.Rows L2
section
variable {ι : Type} {F : ι → Cx} {K : Fg} {vs : List Nat} {pos : Pos}
end
section
variable {X : Cx}
end
section
variable {prog : Program} {w : World} {A : Around} {E : Value → Shared → Prop} {s : Shared}
theorem revPick {α : Type} (xs : Array α) : (List.range xs.size).filterMap (fun (k : Nat) => xs[(((xs.size : Int) - 1) + (k : Int) * (-1)).toNat]?) = xs.toList.reverse := by
  have e : ∀ k ∈ List.range xs.size, xs[(((xs.size : Int) - 1) + (k : Int) * (-1)).toNat]? = xs.toList.reverse[k]? := fun k hk => by
    have hk := List.mem_range.1 hk
    rw [List.getElem?_reverse (by simpa using hk), Array.getElem?_toList, Array.length_toList, show (((xs.size : Int) - 1) + (k : Int) * (-1)).toNat = xs.size - 1 - k by omega]
  have cg : ∀ (l : List Nat) (f g : Nat → Option α), (∀ k ∈ l, f k = g k) → l.filterMap f = l.filterMap g := fun l f g h => by
    induction l with
    | nil => rfl
    | cons a l ih => rw [List.filterMap_cons, List.filterMap_cons, h a (List.mem_cons_self ..), ih fun k hk => h k (List.mem_cons_of_mem _ hk)]
  rw [cg _ _ _ e]
  have : xs.size = xs.toList.reverse.length := by simp
  rw [this]
  generalize xs.toList.reverse = ys
  induction ys with
  | nil => rfl
  | cons y ys ih =>
    rw [List.length_cons, List.range_succ_eq_map, List.filterMap_cons, List.filterMap_map]
    simp only [List.getElem?_cons_zero]
    exact congrArg _ ih
theorem tupRev_meets {t sl : Addr} {items : Array Value} (tk : Tok) (hsz : items.size ≤ sizeLine) {Q : Value → Shared → Prop} (ht : s.heap.IsTuple t items) (hs : s.heap.IsSliceOf sl .none .none (.int (-1) tk))
    (h : Q (.ref s.heap.objs.size) { s with heap := s.heap.push { cls := .type "tuple", data := .seq items.toList.reverse.toArray } }) :
    wpAny (model prog w) A (getItem (.ref t) (.ref sl)) Q E s := by
  obtain ⟨⟨sc, sd, sda, ssl⟩, hos, hcs, hds⟩ := id hs
  dsimp only at hcs hds
  subst hcs hds
  have hTs : s.TypeIs (.ref sl) "slice" := ⟨_, hos, rfl⟩
  have adj : Builtin.Slice.sliceAdjust none none (-1) (items.size : Int) = ((items.size : Int) - 1, -1) := by rfl
  have pl : Builtin.Slice.slicePlaces ((items.size : Int) - 1) (-1) (-1) = items.size := by
    unfold Builtin.Slice.slicePlaces
    rw [if_neg (show ¬ ((-1 : Int) > 0) by decide), show (- -1 : Int) = 1 by decide, Int.ediv_one]
    split <;> omega
  have lk := PyProof.Rows.slot_tuple_getitem.lookup
  have tt := ht.typeIs
  obtain ⟨⟨oc, od, oda, osl⟩, ho, hc, n, hd⟩ := ht
  dsimp only at hc hd
  subst hc hd
  unfold getItem
  have sb := PyProof.Rows.slot_tuple_getitem.bind (.ref t)
  wp_walk using wpAny_sequenceKey tt (by decide)
  refine codeAny_call_builtin PyProof.Rows.slot_tuple_getitem.plain PyProof.Rows.entry_tuple_getitem (PyProof.Rows.slot_tuple_getitem.check _ _ _ _ _ _ _ _ tt (PyProof.Rows.args_tuple_getitem _ _) ?_)
  unfold Builtin.«tuple.__getitem__» Builtin.Slice.sliceApplied Builtin.Slice.sliceFields
  have p3 : ∀ {s : Shared} {E : Value → Shared → Prop} {Q : Option Int → Shared → Prop}, Q (some (-1)) s → wpAny (model prog w) A.in1 (Builtin.Slice.slicePartIndex (#[Value.none, Value.none, Value.int (-1) tk][2])) Q E s := fun q => slicePart_int q
  have p1 : ∀ {s : Shared} {E : Value → Shared → Prop} {Q : Option Int → Shared → Prop}, Q none s → wpAny (model prog w) A.in1 (Builtin.Slice.slicePartIndex (#[Value.none, Value.none, Value.int (-1) tk][0])) Q E s := fun q => slicePart_none q
  have p2 : ∀ {s : Shared} {E : Value → Shared → Prop} {Q : Option Int → Shared → Prop}, Q none s → wpAny (model prog w) A.in1 (Builtin.Slice.slicePartIndex (#[Value.none, Value.none, Value.int (-1) tk][1])) Q E s := fun q => slicePart_none q
  wp_walk using p1, p2, p3
  all_goals simp only [Option.getD_some, adj, pl, revPick]
  have nl : ¬ (items.toList.reverse.toArray.size > sizeLine) := by simp; omega
  rw [if_neg nl]
  wp_walk
  exact h
end
def gRevT : Wd → Option Wd
  | .tuple ws => some (.tuple ws.reverse)
  | _ => none
section
variable {X : Cx} {e : Expr} {f : Mx} {pos : Pos}
theorem de_revT {k : Nat} {p1 p2 p3 : Pos} (he : De X e f) : De X (.Subscript e (.Slice none none (some (.UnaryOp .USub (.Constant (.int 1) k p1) p2)) p3) pos) (mUn gRevT f) := by
  refine ⟨fun pins s σ H Q I ⟨ρ, S, mu, B, O, rl, w, S', e1, q⟩ => ?_⟩
  obtain ⟨w0, S1, e2, e1⟩ := R.bnd_inv e1
  obtain ⟨e3, rfl⟩ := R.of_inv e1
  have sPart : PO X (some (.UnaryOp .USub (.Constant (.int 1) k p1) p2)) (tPart (tUn (rU fun i => .int (-i)) (tC (.int 1)))) := po_some (pe_un un_neg pe_int)
  refine Subscript_ (thn (he.run pins s σ H (fun v H1 => ∃ a xs ws mu1, v = .ref a ∧ w0 = .tuple ws ∧ SqT X.K H1 a xs ∧ RpAll X.K mu1 (fun a => B a ∨ O a) H1 xs ws ∧ Ext mu mu1 H H1 ∧ Rel X.K mu1 B O H1 σ ρ S1) I (tD.mk rl e2 fun v H1 mu1 E r p => ?_)) fun v s1 ⟨x, H1, I1, r1, a, xs, ws, mu1, ex, ew, hq, hr, E1, rl1⟩ => ?_)
  · unfold gRevT at e3
    split at e3
    · cases e3
      cases p with
      | tup a b => exact ⟨_, _, _, mu1, rfl, rfl, a.sq, b, E, r⟩
    · cases e3
  subst ex ew
  cases e3
  cases r1
  have nothing : ∀ {s2 : Shared} {K : Value → Shared → Prop}, K .none s2 → wpAny (model X.prog X.w) X.A (evalPart none X.env) K X.xe s2 := fun h => by
    rw [evalPart_none]
    exact wpAny_pure h
  refine wpAny_Slice (nothing (nothing (thn (sPart.run pins s1 σ H1 (fun o H4 => o = some (-1) ∧ H4 = H1) I1 ⟨1, rfl, -1, rfl, rfl, rfl⟩) fun vs s4 ⟨o, H4, I4, ps, eo, e4⟩ => ?_)))
  subst eo e4
  cases ps with
  | int _ tk =>
  have I5 : Inv X pins σ H4 { s4 with heap := s4.heap.push { cls := .type "slice", data := .fields #[.none, .none, .int (-1) tk] } } := I4.kept (t' := s4.toks) fun b ob q => Heap.get?_push_of_some _ q
  obtain ⟨its, r, ht, hz⟩ := I5.tuple hq
  have ht' : ({ s4 with heap := s4.heap.push { cls := .type "slice", data := .fields #[.none, .none, .int (-1) tk] } } : Shared).heap.IsTuple a its.toArray := ht
  refine tail_any (ops := [.ref a, .ref s4.heap.objs.size]) ht'.typeIs PyProof.Rows.slot_tuple_getitem.lookup (tupRev_meets tk (by rw [List.size_toArray]; have := r.length; omega) ht' (Heap.IsSliceOf.new _ _ _ _) ?_) (by with_unfolding_all rfl)
  have fr := I5.hok.fresh (Nat.le_refl _)
  refine ⟨.ref _, _, I5.laid (t' := s4.toks) (o := .frz { cls := .type "tuple", data := .seq its.reverse.toArray } (.tup xs.reverse)) (fun b ob q => Heap.get?_push_of_some _ q) (Nat.le_refl _) ⟨Heap.get?_push_size _ rfl, by rw [List.length_reverse]; exact hz, _, r.reverse, IsTup.new _ _⟩, rfl, ?_⟩
  refine q _ _ mu1 (E1.trans (.same (same_upd fr))) (rl1.sto.same (same_upd fr)) ?_
  exact new_tup rl1.sto rl1.bn hr.reverse fr rfl
end
def ItzM (K : Fg) (a b : Addr) : It :=
  ⟨fun i H => ∃ (xs ys : List V) (x y : V), SqL K H a xs ∧ SqT K H b ys ∧ xs[i]? = some x ∧ ys[i]? = some y,
    fun i H v H' => ∃ T x y, v = .ref T ∧ H T = none ∧ H' = upd H T (.tup [x, y]) ∧ (∀ xs, SqL K H a xs → xs[i]? = some x) ∧ ∀ ys, SqT K H b ys → ys[i]? = some y,
    fun i H => ∃ xs ys : List V, SqL K H a xs ∧ SqT K H b ys ∧ i = min xs.length ys.length⟩
structure ZmT (a b z TI TO i1 i2 : Addr) (i : Nat) (h : Heap) : Prop where
  sep : ZipSep2 z TI TO i1 i2 [i1, a] [i2, b]
  zi : IsZip h z TI TO .none
  ti : IsTupOf2 h TI (.ref i1) (.ref i2)
  tu : ∃ x y, IsTupOf2 h TO x y
  it1 : h.IsListIter i1 a i
  it2 : h.IsTupleIter i2 b i
  ne1 : a ≠ i1
  ne2 : b ≠ i2
theorem turn_zipM {P : Program} {w : World} {K : Fg} {elts : List Expr} {kk : Nat} {tpos : Pos} (a b z TI TO i1 i2 : Addr) : Turn P w K (.Tuple elts kk tpos) (ItzM K a b) [z, TI, TO, i1, i2] z (ZmT a b z TI TO i1 i2) where
  mem := .head _
  obj := fun i h st c hc => by
    obtain ⟨x, y, hTO⟩ := st.tu
    obtain ⟨o1, e1, _, d1⟩ := st.it1
    obtain ⟨o2, e2, _, d2⟩ := st.it2
    simp only [List.mem_cons, List.not_mem_nil, or_false] at hc
    rcases hc with rfl | rfl | rfl | rfl | rfl
    · exact ⟨_, st.zi, nofun⟩
    · exact ⟨_, st.ti, nofun⟩
    · exact ⟨_, hTO, nofun⟩
    · exact ⟨o1, e1, by rw [d1]; exact nofun⟩
    · exact ⟨o2, e2, by rw [d2]; exact nofun⟩
  keep := fun i h h' st k => ⟨st.sep, k z (by simp) _ st.zi, k TI (by simp) _ st.ti, st.tu.imp fun x ⟨y, q⟩ => ⟨y, k TO (by simp) _ q⟩, st.it1.at (k i1 (by simp)), st.it2.at (k i2 (by simp)), st.ne1, st.ne2⟩
  item := fun X hP hw hK hc i pins s σ H E I hf st ⟨xs, ys, x, y, hqx, hqy, hx, hy⟩ => by
    subst hP hw hK
    obtain ⟨its, rv, p, _⟩ := I.list hqx
    obtain ⟨its2, rv2, p2, _⟩ := I.tuple hqy
    obtain ⟨u, hu, ru⟩ := rv.get hx
    obtain ⟨u2, hu2, ru2⟩ := rv2.get hy
    have hh : X.A.in1.handled = none := I.ok.hd hc
    have W := WalksT.zipD2 (prog := X.prog) (w := X.w) st.sep (Draws.list hh i1 a st.ne1 its.toArray) (Draws.tuple hh i2 b st.ne2 its2.toArray)
    have l1 := (List.getElem?_eq_some_iff.1 hu).1
    have l2 := (List.getElem?_eq_some_iff.1 hu2).1
    refine W.item i s _ _ (by simp only [List.size_toArray]; omega) ⟨st.zi, st.ti, st.tu, ⟨st.it1, p.isList⟩, ⟨st.it2, p2⟩⟩ fun T vals h' tk ⟨x1, x2, hx1, hx2, hv⟩ hT tp mid k => ⟨_, rfl, W.go _ _ _ i T _ _ _ mid fun h2 st2 k2 => ?_⟩
    subst hv
    obtain rfl : x1 = u := by simpa [hu] using hx1.symm
    obtain rfl : x2 = u2 := by simpa [hu2] using hx2.symm
    have far := W.apart i T _ mid
    have tp2 : h2.IsTuple T #[x1, x2] := tp.at fun o q => k2 T o far q
    have sub : ∀ c, c ∉ [z, TI, TO, i1, i2] → c ∉ [z, TO, i1, i2] := fun c h q => h (by simp only [List.mem_cons, List.not_mem_nil, or_false] at q ⊢; rcases q with q | q | q | q <;> simp [q])
    have z2 := st2.1
    refine ⟨.ref T, _, I.turnedNew (t' := tk) (ch := [z, TI, TO, i1, i2]) (fun b o hb q => k2 b o (sub b hb) (k b o (sub b hb) q)) hf hT (ob := .tup [x, y]) ?_, rfl, ⟨T, x, y, rfl, I.hok.fresh hT, rfl, fun l hl => by rw [I.list_inj hl hqx]; exact hx, fun l hl => by rw [I.tuple_inj hl hqy]; exact hy⟩, ⟨st.sep, st2.1, st2.2.1, st2.2.2.1, st2.2.2.2.1.1, st2.2.2.2.2.1, st.ne1, st.ne2⟩, fun b hb => ?_⟩
    · exact ⟨by show 2 ≤ sizeLine; decide, [x1, x2], .cons ru (.cons ru2 .nil), tp2⟩
    · have lt : b < s.heap.objs.size := by
        obtain ⟨v1, v2, hTO⟩ := st.tu
        obtain ⟨o1, e1, _⟩ := st.it1
        obtain ⟨o2, e2, _⟩ := st.it2
        simp only [List.mem_cons, List.not_mem_nil, or_false] at hb
        rcases hb with rfl | rfl | rfl | rfl | rfl
        · exact Heap.lt_size st.zi
        · exact Heap.lt_size st.ti
        · exact Heap.lt_size hTO
        · exact Heap.lt_size e1
        · exact Heap.lt_size e2
      exact (upd_ne (Nat.ne_of_lt (Nat.lt_of_lt_of_le lt hT))).trans (hf b hb).1
  done := fun X hP hw hK hc i pins s σ H E I hf st ⟨xs, ys, hqx, hqy, hi⟩ => by
    subst hP hw hK
    obtain ⟨its, rv, p, _⟩ := I.list hqx
    obtain ⟨its2, rv2, p2, _⟩ := I.tuple hqy
    have n1 := rv.length
    have n2 := rv2.length
    have hh : X.A.in1.handled = none := I.ok.hd hc
    have W := WalksT.zipD2 (prog := X.prog) (w := X.w) st.sep (Draws.list hh i1 a st.ne1 its.toArray) (Draws.tuple hh i2 b st.ne2 its2.toArray)
    have sub : ∀ c, c ∉ [z, TI, TO, i1, i2] → c ∉ [z, TO, i1, i2] := fun c h q => h (by simp only [List.mem_cons, List.not_mem_nil, or_false] at q ⊢; rcases q with q | q | q | q <;> simp [q])
    refine W.done s _ _ ?_ fun h' tk k => ⟨rfl, I.turnedL (ch := [z, TI, TO, i1, i2]) (fun b o hb q => k b o (sub b hb) q) hf⟩
    have e : min its.toArray.size its2.toArray.size = i := by simp only [List.size_toArray]; omega
    rw [e]
    exact ⟨st.zi, st.ti, st.tu, ⟨st.it1, p.isList⟩, ⟨st.it2, p2⟩⟩
  self := fun A i s Q E st q => wpAny_pyIter_zip st.zi q
def iZM (K : Fg) (ta : TA) : TI := fun σ H R => ta σ H fun vs H1 => ∃ a b xs ys, vs = [.ref a, .ref b] ∧ SqL K H1 a xs ∧ SqT K H1 b ys ∧ R (ItzM K a b) H1
section
variable {X : Cx} {e e2 : Expr} {ta : TA} {p pos tpos : Pos} {elts : List Expr} {kk : Nat}
theorem pi_zM (hg : Gl X "zip") (hm : X.mg "zip" = none) (ha : PA X [e, e2] ta) (hs : starEach [e, e2] X.env = (false, eval e X.env) :: starEach [e2] X.env := by rfl) (hpl : (backTo pos (starEach [e2] X.env)).any (·.1) = false := by rfl) :
    PI X (.Tuple elts kk tpos) (.Call (.Name "zip" p) [e, e2] [] pos) (iZM X.K ta) := ⟨fun pins s σ H R I h =>
  Call_ (ld_blt I hg hm PyProof.Rows.boot_zip (PyProof.Rows.callWith_type1 (thn (ha.run pos pins s σ H _ I h) fun us s1 ⟨vs, H1, I1, r1, a, b, xs, ys, ev, hqx, hqy, q⟩ => by
    subst ev
    cases r1 with
    | cons ra r1 =>
    cases r1 with
    | cons rb r1 =>
    cases r1
    cases ra
    cases rb
    obtain ⟨its, rv, p1, _⟩ := I1.list hqx
    obtain ⟨its2, rv2, p2, _⟩ := I1.tuple hqy
    have p1' : s1.heap.IsList a its.toArray := p1.isList
    have p2' : s1.heap.IsTuple b its2.toArray := p2
    have lt1 : a < s1.heap.objs.size := p1.lt
    have lt2 : b < s1.heap.objs.size := p2.lt
    refine zip_begins2 (begins_list a its.toArray) (begins_tuple b its2.toArray) p1' p2' fun h1 hz hTI hTO hi1 hi2 hsz hk => wpAny_pyIter_zip hz ?_
    have apart := zip_sep2 (N := s1.heap.objs.size) (fp1 := [a]) (fp2 := [b]) (by simpa using lt1) (by simpa using lt2)
    have new : ∀ c ∈ [s1.heap.objs.size + 4, s1.heap.objs.size + 2, s1.heap.objs.size + 3, s1.heap.objs.size, s1.heap.objs.size + 1], s1.heap.objs.size ≤ c := by simp
    exact ⟨s1.heap.objs.size + 4, _, ZmT a b _ _ _ _ _, _, H1, rfl, I1.kept (t' := s1.toks) hk, turn_zipM a b _ _ _ _ _, ⟨apart, hz, hTI, ⟨_, _, hTO⟩, ⟨_, hi1, rfl, rfl⟩, ⟨_, hi2, rfl, rfl⟩, Nat.ne_of_lt lt1, Nat.ne_of_lt (Nat.lt_succ_of_lt lt2)⟩, fun c hc => I1.fpOk (new c hc) (I1.hok.fresh (new c hc)), q⟩) hs hpl))⟩
end
theorem it_zipM {K : Fg} {a b : Addr} {xs ys : List Wd} : ItOkP K (ItzM K a b) [.ref a, .ref b] [.list xs, .tuple ys] (zipD xs ys) := fun mu T H S st bn r => by
  cases r with
  | cons r r' => cases r' with
  | cons r' _ => cases r with
  | lst h1 h2 => cases r' with
  | tup k1 k2 =>
    refine ⟨fun i d e => ?_, ⟨_, _, h1.sq, k1.sq, by rw [h2.length, k2.length, zipD_len]⟩⟩
    obtain ⟨x, y, e1, e2, rfl⟩ := zipD_get xs ys i d e
    obtain ⟨u, e3, e4⟩ := h2.get e1
    obtain ⟨v, e5, e6⟩ := k2.get e2
    refine ⟨⟨_, _, u, v, h1.sq, k1.sq, e3, e5⟩, fun z H' hy => ?_⟩
    obtain ⟨Tn, x', y', rfl, hn, rfl, hx, hy⟩ := hy
    have e7 := (hx _ h1.sq).symm.trans e3
    have e8 := (hy _ k1.sq).symm.trans e5
    cases e7
    cases e8
    exact ⟨same_upd hn, .inr ⟨Tn, _, _, rfl, rfl, .inl (.inl upd_same), .cons (e4.same (same_upd hn)) (.cons (e6.same (same_upd hn)) .nil)⟩⟩
def iZipM (fs : Ma) : Mi := fun ρ S => (fs ρ S).bnd fun ws S1 => match ws with
  | [.list xs, .tuple ys] => .ok (zipD xs ys) S1
  | _ => .bad
theorem dip_zipM {X : Cx} {e e2 : Expr} {fs : Ma} {p pos tpos : Pos} {elts : List Expr} {kk : Nat} (hg : Gl X "zip") (hm : X.mg "zip" = none) (ha : Da X [e, e2] fs)
    (hs : starEach [e, e2] X.env = (false, eval e X.env) :: starEach [e2] X.env := by rfl) (hpl : (backTo pos (starEach [e2] X.env)).any (·.1) = false := by rfl) :
    DiP X (.Tuple elts kk tpos) (.Call (.Name "zip" p) [e, e2] [] pos) (iZipM fs) :=
  PI.weak (pi_zM hg hm ha hs hpl) fun σ H Rr ⟨ρ, S, mu, B, O, rl, ws, S', e, q⟩ => by
    obtain ⟨us, S1, e1, e⟩ := R.bnd_inv e
    refine tDa.mk rl e1 fun vs H1 mu1 E r p => ?_
    split at e
    · cases e
      cases p with
      | cons p1 p2 => cases p2 with
      | cons p2 p3 =>
        cases p3
        cases p1 with
        | @lst a xs ds h1 h2 => cases p2 with
        | @tup b ys ds' k1 k2 => exact ⟨a, b, _, _, rfl, h1.sq, k1.sq, q _ _ _ H1 mu1 it_zipM E r.sto (.cons (.lst h1 h2) (.cons (.tup k1 k2) .nil))⟩
    · cases e
def mIxO (i : Nat) (f : Mx) : Mx := fun ρ S => match ρ[i]? with
  | some (some (.own ws)) => (f ρ S).bnd fun y S1 => match y with
    | .int k => R.of (atI ws k) S1
    | _ => .bad
  | _ => .bad
section
variable {X : Cx} {pos xp : Pos} {i : Nat} {x : Str} {b : Expr} {fb : Mx}
theorem de_ixO (hN : X.N[i]? = some x) (hv : Vis X.env.scope x) (hb : De X b fb) (hs : PlainIx b) (hd : (x == ("__debug__" : Str)) = false := by decide) (hcd : (x == ("__classdict__" : Str)) = false := by decide) : De X (.Subscript (.Name x xp) b pos) (mIxO i fb) := by
  refine ⟨fun pins s σ H Q I ⟨ρ, S, mu, B, O, rl, w, S', e, q⟩ => ?_⟩
  unfold mIxO at e
  split at e
  · rename_i ws hi
    obtain ⟨y, S1, e1, e⟩ := R.bnd_inv e
    obtain ⟨a, xs, h1, -⟩ := rl.own i ws hi
    have nm : PE X (.Name x xp) _ := pe_var hN hv hd hcd
    refine Subscript_ (thn (nm.run pins s σ H (fun x' H1 => x' = .ref a ∧ H1 = H) I ⟨_, h1, rfl, rfl⟩) fun v s1 ⟨x', H1, I1, r1, ex, eH⟩ => ?_)
    subst ex eH
    refine thn (hb.run pins s1 σ H1 (fun y' H2 => ∃ mu2, Ext mu mu2 H1 H2 ∧ Rel X.K mu2 B O H2 σ ρ S1 ∧ Rp X.K mu2 (fun a => B a ∨ O a) H2 y' y) I1 (tD.mk rl e1 fun v H1 mu1 h1 h2 h3 => ⟨mu1, h1, h2, h3⟩)) fun u s2 ⟨y', H2, I2, r2, mu2, E2, rl2, p2⟩ => ?_
    split at e
    · obtain ⟨e3, rfl⟩ := R.of_inv e
      obtain ⟨a', xs', g1, g2, g3, g4, g5⟩ := rl2.own i ws hi
      cases h1.symm.trans g1
      cases p2
      obtain ⟨z, z1, z2⟩ := atI_rp g5 e3
      exact ix_list (.Name x xp) b pins s2 σ H2 _ _ v u Q I2 r1 r2 ⟨_, _, _, z, rfl, rfl, .inl (.inl g4), z1, q z H2 mu2 E2 rl2.sto z2⟩ (hs _ _)
    · cases e
  · cases e
end
end DL
namespace DL
open PySem PySem.Spec PyProof.Rows L2
section
variable {X : Cx} {e : Expr} {f : Mx} {pos pos' : Pos} {op : Operator} {g : Wd → Wd → Option Wd}
end
section
variable {X : Cx} {e : Expr} {lo hi : Option Expr} {f : Mx} {ml mh : Mo} {pos p2 p3 : Pos}
end
section
variable {X : Cx}
end
end DL
namespace DL
open PySem PySem.Spec PyProof.Rows L2
variable {G : Bool}
section
variable {X : Cx} {k k' i : Nat} {f : Addr} {fd : FuncData} {ps : List Str} {g : Gd} {x y : Str} {xp p pos : Pos} {es : List Expr} {fs : Ma}
end
end DL
namespace DL
open PySem PySem.Spec PyProof.Rows L2
section
variable {X : Cx} {e : Expr} {f : Mx} {pos bpos xpos pos' : Pos} {i : Nat} {x : Str}
end
end DL
namespace DL
open PySem PySem.Spec PyProof.Rows L2
section
variable {X : Cx}
end
abbrev kS (x : Str) : List Nat := x.cps.toList
theorem kS_inj {x y : Str} (h : kS x = kS y) : x = y := by
  cases x; cases y
  simp only [kS] at h
  rw [Array.toList_inj] at h
  rw [h]
abbrev leS (x y : Str) : Prop := ¬ kS y < kS x
theorem leS_trans {x y z : Str} (h : leS x y) (k : leS y z) : leS x z := List.le_trans (List.not_lt.1 h) (List.not_lt.1 k) |> List.not_lt.2
theorem leS_anti {x y : Str} (h : leS x y) (k : leS y x) : x = y := kS_inj (List.le_antisymm (List.not_lt.1 h) (List.not_lt.1 k))
def insS (x : Str) : List Str → List Str
  | [] => [x]
  | y :: r => if kS y < kS x then y :: insS x r else x :: y :: r
def srtS : List Str → List Str
  | [] => []
  | x :: r => insS x (srtS r)
theorem insS_perm (x : Str) : ∀ l : List Str, (insS x l).Perm (x :: l)
  | [] => .refl _
  | y :: r => by
    unfold insS
    split
    · exact ((insS_perm x r).cons y).trans (.swap x y r)
    · exact .refl _
theorem srtS_perm : ∀ l : List Str, (srtS l).Perm l
  | [] => .refl _
  | x :: r => (insS_perm x (srtS r)).trans ((srtS_perm r).cons x)
theorem insS_pw (x : Str) : ∀ l : List Str, l.Pairwise leS → (insS x l).Pairwise leS
  | [], _ => by simp [insS]
  | y :: r, h => by
    rw [List.pairwise_cons] at h
    unfold insS
    split
    · rename_i c
      refine List.pairwise_cons.2 ⟨fun z hz => ?_, insS_pw x r h.2⟩
      rcases List.mem_cons.1 ((insS_perm x r).mem_iff.1 hz) with rfl | hz
      · exact fun d => List.lt_irrefl _ (List.lt_trans c d)
      · exact h.1 z hz
    · rename_i c
      refine List.pairwise_cons.2 ⟨fun z hz => ?_, List.pairwise_cons.2 h⟩
      rcases List.mem_cons.1 hz with rfl | hz
      · exact c
      · exact leS_trans c (h.1 z hz)
theorem srtS_pw : ∀ l : List Str, (srtS l).Pairwise leS
  | [] => .nil
  | x :: r => insS_pw x _ (srtS_pw r)
theorem pwS_uniq : ∀ {a b : List Str}, a.Perm b → a.Pairwise leS → b.Pairwise leS → a = b
  | [], b, h, _, _ => by rw [List.nil_perm.1 h]
  | x :: xs, [], h, _, _ => by simpa using h.length_eq
  | x :: xs, y :: ys, h, h1, h2 => by
    rw [List.pairwise_cons] at h1 h2
    have e : x = y := by
      rcases List.mem_cons.1 (h.mem_iff.1 (List.mem_cons_self ..) : x ∈ y :: ys) with e | m1
      · exact e
      · rcases List.mem_cons.1 (h.mem_iff.2 (List.mem_cons_self ..) : y ∈ x :: xs) with e | m2
        · exact e.symm
        · exact leS_anti (h1.1 y m2) (h2.1 x m1)
    subst e
    rw [pwS_uniq ((List.perm_cons x).1 h) h1.2 h2.2]
theorem rising_pw : ∀ (r : List Str) (p : Str), risingS p r = true → (p :: r).Pairwise leS
  | [], p, _ => by simp
  | x :: r, p, h => by
    unfold risingS at h
    simp only [Bool.and_eq_true, Bool.not_eq_true', ltCps_eq, decide_eq_false_iff_not] at h
    have ih := rising_pw r x h.2
    refine List.pairwise_cons.2 ⟨fun z hz => ?_, ih⟩
    rcases List.mem_cons.1 hz with rfl | hz
    · exact h.1
    · exact leS_trans h.1 ((List.pairwise_cons.1 ih).1 z hz)
theorem sortedS_pw : ∀ l : List Str, sortedS l = true → l.Pairwise leS
  | [], _ => .nil
  | x :: r, h => rising_pw r x h
def gSortS : List Wd → Option Wd
  | [.list ws] => (strsD ws).bind fun ns => if ns.length < 64 then some (.list ((srtS ns).map .str)) else none
  | _ => none
theorem rp_strs {K : Fg} {mu : List Addr} {T : Addr → Prop} {H : Hp} : ∀ l : List Str, RpAll K mu T H (l.map V.str) (l.map PyData.str)
  | [] => .nil
  | x :: l => .cons (.str x) (rp_strs l)
theorem cd_sortS {X : Cx} : CallD X (.builtin "sorted") gSortS := by
  intro pins s σ H xs us Q mu T S ws w I r st bn p e q
  unfold gSortS at e
  split at e
  · obtain ⟨ns, e1, e⟩ := Option.bind_eq_some_iff.mp e
    obtain ⟨hl, rfl⟩ := ite_inv e
    cases p with
    | cons p1 p2 =>
      cases p2
      cases p1 with
      | lst a b =>
        have z := strs_of b e1
        subst z
        refine cr_sortedS pins s σ H _ us Q I r ⟨_, _, rfl, a.sq, hl, fun ns' l hp hw hn => ?_⟩
        have ez := pwS_uniq (hp.trans (srtS_perm ns).symm) (sortedS_pw _ hw) (srtS_pw ns)
        subst ez
        exact q _ _ (same_upd hn) (new_lst st bn (rp_strs _) hn)
  · cases e
end DL
namespace DL
open PySem PySem.Spec PyProof.Rows L2
theorem len_of_sub {α : Type} [DecidableEq α] : ∀ {l m : List α}, l.Nodup → (∀ x ∈ l, x ∈ m) → l.length ≤ m.length
  | [], _, _, _ => Nat.zero_le _
  | x :: l, m, nd, h => by
    obtain ⟨n1, n2⟩ := List.nodup_cons.mp nd
    have hx := h x List.mem_cons_self
    have := len_of_sub (l := l) (m := m.erase x) n2 fun y hy => (List.mem_erase_of_ne (fun e => n1 (by rw [← e]; exact hy))).mpr (h y (List.mem_cons_of_mem _ hy))
    rw [List.length_erase_of_mem hx] at this
    have := List.length_pos_of_mem hx
    rw [List.length_cons]
    omega
theorem setR_few {w : World} {h : Heap} {a : Addr} {ns : List Int} {c : Nat} (R : SetR w h a (fun j => decide (j ∈ ns)) c) : c ≤ (sortU ns).length := by
  obtain ⟨o, es, ep, t, _, _, _, _, nd, hm, _, _, hn, _⟩ := R
  have := len_of_sub (m := sortU ns) nd fun k hk => mem_sortU.mpr (of_decide_eq_true ((hm k).2 hk))
  rw [List.length_map, Array.length_toList, hn] at this
  exact this
section
variable {X : Cx}
def rSetIW (K : Fg) (w : World) : List V → Hp → VK → Prop := fun vs H Q => ∃ (l : Addr) (ns : List Int), vs = [V.ref l] ∧ (SqL K H l (ns.map V.int) ∨ SqT K H l (ns.map V.int)) ∧ ns.length < 1000 ∧
  ∀ (p : Addr) (c : Nat), H p = none → c ≤ (sortU ns).length → Q (.ref p) (upd H p (SetO w p (fun j => decide (j ∈ ns)) c))
theorem cr_setIW (hc : X.calm = true) : CallR X (.type "set") (rSetIW X.K X.w) := by
  intro pins s σ H vs us Q I r h
  obtain ⟨l, ns, rfl, hl, hz, q⟩ := h
  rw [Vals.ref1 r]
  have room : ns.length + 1 < scanBound := by unfold scanBound; omega
  have fin : ∀ (h' : Heap) (tk c : Nat), SetR X.w h' s.heap.objs.size (fun j => decide (j ∈ ns)) c → c ≤ ns.length → (∀ b o, s.heap.get? b = some o → h'.get? b = some o) → EP X pins σ Q (.ref s.heap.objs.size) { s with heap := h', toks := tk } := fun h' tk c R _ k =>
    ⟨.ref s.heap.objs.size, _, I.laid k (Nat.le_refl _) (setO_new R), rfl, q _ c (I.hok.fresh (Nat.le_refl _)) (setR_few R)⟩
  rcases hl with hl | hl
  · obtain ⟨its, rv, pl, _⟩ := I.list hl
    exact set_of_ints ns (I.ok.hd hc) pl.isList (by simpa using ints_of_vals rv) room fin
  · obtain ⟨its, rv, pl, _⟩ := I.tuple hl
    exact call_set_tupI ns (I.ok.hd hc) pl (by simpa using ints_of_vals rv) room fin
def gSortSetW : List Wd → Option Wd
  | [.list ws] => (intsD ws).bind fun ns => if ns.length < 1000 ∧ (sortU ns).length < 64 then some (.list ((sortU ns).map .int)) else none
  | _ => none
theorem thn_setW {K : Fg} {w : World} : Thn K (rSortedSet w) (rSetIW K w) gSortSetW := by
  intro mu T S ws d H xs Q st bn p e q
  unfold gSortSetW at e
  split at e
  · obtain ⟨ns, e1, e⟩ := Option.bind_eq_some_iff.mp e
    obtain ⟨hl, rfl⟩ := ite_inv e
    cases p with
    | cons p1 p2 =>
      cases p2
      cases p1 with
      | lst a b =>
        have z := ints_of b e1
        subst z
        refine ⟨_, ns, rfl, .inl a.sq, hl.1, fun a c hn hc => ⟨a, _, c, rfl, upd_same, by omega, fun ms b pw hm _ hb => ?_⟩⟩
        obtain rfl : ms = sortU ns := asc_uniq pw (sortU_pw ns) fun k => by rw [hm, mem_sortU, decide_eq_true_iff]
        have sm := same_upd (o := SetO w a (fun j => decide (j ∈ ns)) c) hn
        exact q _ _ (fun x o z => same_upd hb _ _ (sm _ _ z)) (new_lst (st.same sm) (bn.ext (.same sm)) (rp_ints _) hb)
  · cases e
end
end DL
namespace DL
open PySem PySem.Spec PyProof.Rows L2
open PySem.Froz (SD TxOk sObj addTx tailTx add_x add_ok is_str)
theorem tail_ris {ep : Nat} {es : Array (Int × Value)} {t : SetTable} {b : Bool} (h : Ris t.place.toList) : Ris (tailTx ep es t b).2.2.place.toList := by
  unfold tailTx
  split
  · exact relayAll_ris ..
  · exact h
theorem tail_led {ep : Nat} {es : Array (Int × Value)} {t : SetTable} {b : Bool} : (tailTx ep es t b).2.2.led = t.led := by
  unfold tailTx
  split
  · exact relayAll_led ..
  · rfl
theorem add_ris {D : SD} {h : Int} {v : Value} (r : Ris D.2.2.place.toList) : Ris (addTx h v D).2.2.place.toList := by
  refine tail_ris ?_
  have := layNew_ris D.2.2 D.1 h v r
  split <;> exact this
theorem add_led {D : SD} {h : Int} {v : Value} : (addTx h v D).2.2.led = D.2.2.led := by
  refine tail_led.trans ?_
  have := layNew_led D.2.2 D.1 h v
  split <;> exact this
theorem perm_of_sub {α : Type} [DecidableEq α] : ∀ {l m : List α}, l.Nodup → (∀ x ∈ l, x ∈ m) → m.length ≤ l.length → m.Perm l
  | [], m, _, _, h => by
    cases m with
    | nil => exact .refl _
    | cons _ _ => simp at h
  | x :: l, m, nd, hs, hl => by
    obtain ⟨n1, n2⟩ := List.nodup_cons.1 nd
    have hx := hs x List.mem_cons_self
    have ih := perm_of_sub (m := m.erase x) n2 (fun y hy => (List.mem_erase_of_ne (show y ≠ x from fun e => n1 (by rw [← e]; exact hy))).2 (hs y (List.mem_cons_of_mem _ hy))) (by
      rw [List.length_erase_of_mem hx]
      simp only [List.length_cons] at hl
      omega)
    exact (List.perm_cons_erase hx).trans (ih.cons x)
theorem strs_mem : ∀ {vs : List Value} {ys : List Str} {k : Str} {u : Tok}, StrsAre vs ys → Value.str k u ∈ vs → k ∈ ys
  | _, _, _, _, .nil, h => by cases h
  | _, _, _, _, .cons y t r, h => by
    rcases List.mem_cons.1 h with e | h
    · cases e
      exact List.mem_cons_self
    · exact List.mem_cons_of_mem _ (strs_mem r h)
def SetS (P : Program) (w : World) (h : Heap) (a : Addr) (l : List Str) : Prop :=
  ∃ D : SD, h.get? a = some (sObj "set" D) ∧ TxOk P w D l ∧ l.Nodup ∧ Ris D.2.2.place.toList ∧ (w.params.followText "set-order" = true ∨ D.2.2.led = true)
section
variable {P : Program} {w : World} {A : Around} {E : Value → Shared → Prop} {s : Shared} {a : Addr} {l : List Str} {h h' : Heap}
theorem SetS.at (R : SetS P w h a l) (k : ∀ o, h.get? a = some o → h'.get? a = some o) : SetS P w h' a l := by
  obtain ⟨D, ho, r⟩ := R
  exact ⟨D, k _ ho, r⟩
theorem setS_fresh (ho : h.get? a = some (set0 w)) : SetS P w h a [] := by
  refine ⟨(#[], 0, .fresh 0 0 (!w.params.followText "set-order")), ho, TxOk.nil rfl, List.nodup_nil, List.Pairwise.nil, ?_⟩
  show _ ∨ (!w.params.followText "set-order") = true
  cases w.params.followText "set-order"
  · exact .inr rfl
  · exact .inl rfl
theorem addS_old {k : Str} {u : Tok} {Q : Bool → Shared → Prop} {D : SD} (ho : s.heap.get? a = some (sObj "set" D)) (F : TxOk P w D l) (hk : k ∈ l) (hb : l.length < scanBound) (q : Q false s) : wpAny (model P w) A (setAddHashed a (.str k u) (hashStr w k)) Q E s := by
  obtain ⟨es, ep, t⟩ := D
  have hd : (sObj "set" (es, ep, t)).data = .set es ep t := rfl
  have hsz : es.size = l.length := F.sz
  have hkey := is_str (P := P) (w := w) k u
  obtain ⟨e, he, hp⟩ := (F.mem k).1 hk
  obtain ⟨j, hj⟩ : ∃ j, List.findIdx? (fun e => (strKind P w).is k e.2) es.toList = some j := by
    cases c : List.findIdx? (fun e => (strKind P w).is k e.2) es.toList with
    | some j => exact ⟨j, rfl⟩
    | none =>
      have := List.findIdx?_eq_none_iff.1 c e he
      rw [hp] at this
      cases this
  have scan : byScan (.str k u) es = true := byScan_of (knd := strKind P w) rfl (by omega) F.el
  unfold setAddHashed setAddHashedIn
  refine wpAny_holding (wpAny_bind (wpAny_setState_of ho hd F.fit ?_))
  dsimp only
  rw [scan]
  simp only [↓reduceIte]
  unfold setAddByScan
  refine wpAny_bind (wpAny_bind (wpAny_rule (wpAny_bind (wpAny_setScan_of (knd := strKind P w) hkey ho hd F.fit F.el ?_))))
  rw [hj]
  exact wpAny_pure (wpAny_pure q)
theorem addS {k : Str} {u : Tok} {Q : Bool → Shared → Prop} (R : SetS P w s.heap a l) (hb : l.length + 1 < scanBound)
    (q : ∀ b h' l', Heap.SameBut a s.heap h' → SetS P w h' a l' → (∀ x, x ∈ l' ↔ x = k ∨ x ∈ l) → l'.length ≤ l.length + 1 → Q b { s with heap := h' }) : wpAny (model P w) A (setAddHashed a (.str k u) (hashStr w k)) Q E s := by
  obtain ⟨D, ho, F, nd, r, ld⟩ := id R
  by_cases hk : k ∈ l
  · refine addS_old ho F hk (by omega) ?_
    exact q false s.heap l (Heap.SameBut.refl a s.heap) R (fun x => ⟨.inr, fun h => h.elim (fun e => e ▸ hk) id⟩) (by omega)
  · refine add_x ho F hk hb ?_
    refine q true _ (k :: l) (Heap.SameBut.update ..) ⟨_, PySem.Froz.get_upd _ ho rfl, add_ok u F, List.nodup_cons.2 ⟨hk, nd⟩, add_ris r, ld.imp id fun z => add_led.trans z⟩ (fun x => List.mem_cons) (Nat.le_refl _)
theorem update_strs {I : Addr} {fp wr : List Addr} {G : Array GenState → Array GenState → Prop} {n : Nat} {Pv : Nat → Value → Prop} {St : Nat → Shared → Prop} {R : Result → Shared → Prop}
    (W : WalksS P w A.in1 I fp wr G n Pv St) (C : Addr) (hC : C ∉ fp) (ks : List Str) (hn : n = ks.length) (hb : ks.length + 1 < scanBound) (hv : ∀ i v, Pv i v → ∃ k t, ks[i]? = some k ∧ v = .str k t) :
    ∀ (k i : Nat) (s : Shared), i + k = n → St i s → (∃ l, l.length ≤ i ∧ SetS P w s.heap C l ∧ ∀ x, x ∈ l ↔ x ∈ ks.take i) →
      (∀ s' l, Moved (C :: wr) G s s' → l.length ≤ n → SetS P w s'.heap C l → (∀ x, x ∈ l ↔ x ∈ ks) → R (.ok (.ret .none)) s') →
      codeAny (model P w) A (.builtin "set.update.loop" ⟨[.ref C, .ref I], []⟩) R s := by
  have hCw : C ∉ wr := fun h => hC (W.sub _ h)
  have more : ∀ b ∈ wr, b ∈ C :: wr := fun b hb => List.mem_cons_of_mem _ hb
  intro k
  induction k with
  | zero =>
    intro i s e hst ⟨l, hl, hS, hm⟩ hR
    have e : i = n := by omega
    subst e
    refine codeAny_builtin F.entry_set_update_loop ?_
    rw [Around.under_plainId F.plain_set_update_loop _]
    show wpAny _ A.in1 (pyNext (.ref I) >>= _) _ _ s
    refine wpAny_bind (W.done s _ _ hst fun s' mv => wpAny_pure ?_)
    rw [hn, List.take_length] at hm
    exact hR s' l (mv.mono more) hl (hS.at fun o e => mv.heap C o hCw e) hm
  | succ k ih =>
    intro i s e hst ⟨l, hl, hS, hm⟩ hR
    have hlt : i < n := by omega
    refine codeAny_builtin F.entry_set_update_loop ?_
    rw [Around.under_plainId F.plain_set_update_loop _]
    show wpAny _ A.in1 (pyNext (.ref I) >>= _) _ _ s
    refine wpAny_bind (W.item i s _ _ hlt hst fun v s' hP hst' mv => ?_)
    obtain ⟨z, t, hz, rfl⟩ := hv i v hP
    show wpAny _ A.in1 (holding [Value.str z t] (setAdd C (.str z t)) >>= _) _ _ s'
    refine wpAny_bind (wpAny_holding ?_)
    unfold setAdd
    refine wpAny_holding (wpAny_bind ((strKind P w).pyHash (k := z) (is_str z t) ?_))
    refine addS (s := { s' with toks := s'.toks + 1 }) (hS.at fun o e => mv.heap C o hCw e) (by omega) fun b h' l' sb hS' hm' hl' => ?_
    have same : ∀ c o, c ≠ C → s'.heap.get? c = some o → h'.get? c = some o := fun c o hc e => (sb.2 c hc).trans e
    refine wpAny_pure ⟨plainId_quiet F.plain_set_update_loop _, ih (i + 1) _ (by omega) (W.frame _ s' _ _ hst' (Nat.le_succ _) fun c hc o e => same c o (fun h => hC (h ▸ hc)) e) ⟨l', by omega, hS', fun x => ?_⟩ fun s'' l2 mv2 hl2 hS2 hm2 => ?_⟩
    · rw [hm' x, hm x, List.take_add_one, hz]
      simp [or_comm]
    · exact hR s'' l2 (Moved.trans W.gtrans ((mv.mono more).then_heap (Nat.le_succ _) fun c o hc e => same c o (fun h => hc (h ▸ List.mem_cons_self)) e) mv2) hl2 hS2 hm2
theorem set_init_strs {l : Addr} {items : Array Value} (ns : List Str) {R : Result → Shared → Prop} (hh : A.handled = none) (hl : s.heap.IsList l items) (hi : StrsAre items.toList ns) (hb : ns.length + 1 < scanBound)
    (q : ∀ (h' : Heap) (tk : Nat) (l : List Str), SetS P w h' s.heap.objs.size l → l.length ≤ ns.length → (∀ x, x ∈ l ↔ x ∈ ns) → (∀ b o, s.heap.get? b = some o → h'.get? b = some o) → R (.ok (.ret .none)) { s with heap := h', toks := tk }) :
    codeAny (model P w) A (.call (.builtin "set.__init__") ⟨[.ref s.heap.objs.size, .ref l], []⟩) R { s with heap := s.heap.push (set0 w) } := by
  have at0 : (s.heap.push (set0 w)).get? s.heap.objs.size = some (set0 w) := Heap.get?_push_size _ rfl
  have li := hl.push (set0 w)
  obtain ⟨⟨lc, ld, la, ls⟩, el, cl, nl, dl⟩ := id li
  dsimp only at cl dl
  subst cl dl
  have ne : l ≠ s.heap.objs.size := by
    obtain ⟨o, e, _⟩ := hl
    exact Nat.ne_of_lt (Heap.lt_size e)
  have n1 := F.sub_list_set
  have n2 := F.sub_list_frozenset
  refine codeAny_call_builtin F.called_set.init.plain F.entry_set_init (check_set_init_1 ⟨_, at0, rfl⟩ ?_)
  unfold Builtin.«set.__init__» Builtin.Frozenset.updateFrom
  wp_walk using wpAny_pyIter_list li
  have old : ∀ {b : Addr} {o : Obj}, s.heap.get? b = some o → b ≠ s.heap.objs.size ∧ b ≠ (s.heap.push (set0 w)).objs.size := fun e => by
    have := Heap.lt_size e
    rw [Heap.size_push]
    exact ⟨Nat.ne_of_lt this, Nat.ne_of_lt (Nat.lt_succ_of_lt this)⟩
  have lf : l ≠ (s.heap.push (set0 w)).objs.size := by
    have := Heap.lt_size el
    exact Nat.ne_of_lt this
  have far : s.heap.objs.size ∉ [(s.heap.push (set0 w)).objs.size, l] := by
    simp only [Heap.size_push, List.mem_cons, List.not_mem_nil, or_false, not_or]
    exact ⟨by omega, Ne.symm ne⟩
  have sz : items.size = ns.length := by simpa using hi.length
  refine update_strs (Walks.list (by simp [hh]) (s.heap.push (set0 w)).objs.size l lf items).toS s.heap.objs.size far ns sz hb (fun i v e => ?_) items.size 0 _ (Nat.zero_add _) ⟨⟨_, Heap.get?_push_size _ rfl, rfl, rfl⟩, li.push _⟩
    ⟨[], Nat.le_refl _, setS_fresh (Heap.get?_push_of_some _ at0), fun x => by simp⟩ fun s' l2 mv hc R2 hm => ?_
  · obtain ⟨y, t, e1, e2⟩ := StrsAre.item hi i v (by rwa [Array.getElem?_toList])
    exact ⟨y, t, e2, e1⟩
  · obtain ⟨h2, g2, d2, t2, o2⟩ := s'
    obtain rfl : g2 = s.gens := mv.gens
    obtain rfl : d2 = s.drawn := mv.drawn
    obtain rfl : o2 = s.os := mv.os
    refine wpAny_pure (wpAny_pure (q h2 t2 l2 R2 (by omega) hm fun b o e => mv.heap b o ?_ (Heap.get?_push_of_some _ (Heap.get?_push_of_some _ e))))
    have := old e
    simp only [List.mem_cons, List.not_mem_nil, or_false, not_or]
    exact this
theorem set_of_strs {l : Addr} {items : Array Value} (ns : List Str) {Q : Value → Shared → Prop} (hh : A.handled = none) (hl : s.heap.IsList l items) (hi : StrsAre items.toList ns) (hb : ns.length + 1 < scanBound)
    (q : ∀ (h' : Heap) (tk : Nat) (l : List Str), SetS P w h' s.heap.objs.size l → l.length ≤ ns.length → (∀ x, x ∈ l ↔ x ∈ ns) → (∀ b o, s.heap.get? b = some o → h'.get? b = some o) → Q (.ref s.heap.objs.size) { s with heap := h', toks := tk }) :
    wpAny (model P w) A (call (.type "set") [.ref l]) Q E s := by
  have new := code_set_led1 (P := P) (w := w) (A := A.in1) (s := s) (E := E) (.ref l) (Q₁ := fun obj u => obj = .ref s.heap.objs.size ∧ u = { s with heap := s.heap.push (set0 w) }) ⟨rfl, rfl⟩
  have at0 : (s.heap.push (set0 w)).get? s.heap.objs.size = some (set0 w) := Heap.get?_push_size _ rfl
  have ini := set_init_strs (P := P) (w := w) (A := A.in1) ns (R := wants (fun r u => r = .none ∧ Q (.ref s.heap.objs.size) u) E) (by simp [hh]) hl hi hb fun h' tk c a b m k => ⟨rfl, q h' tk c a b m k⟩
  have f := F.called_set
  have f1 := f.notType
  have f2 := f.canCreate
  have f3 := F.typeCall_set_1 (.ref l)
  have f4 := f.made
  have f5 := f.sub
  have f6 := f.init.lookup
  have f7 := f.init.bind (.ref s.heap.objs.size)
  obtain ⟨_, _, f8⟩ := f.mro
  refine wpAny_call (codeAny_of_tree (wpAny_pure ⟨Code.quiet_builtin _ (by decide +kernel), codeAny_builtin F.entry_type_call ?_⟩))
  rw [Around.under_plain (weight_type_call_type "set" [.ref l] []) rfl]
  unfold Builtin.«type.__call__»
  wp_walk
  refine codeAny_mono new fun r u hr => ?_
  match r, hr with
  | .error e, hr => exact hr
  | .ok (.ret v), ⟨e1, e2⟩ =>
    subst e1 e2
    have ty : ∀ tk, (⟨s.heap.push (set0 w), s.gens, s.drawn, tk, s.os⟩ : Shared).TypeIs (.ref s.heap.objs.size) "set" := fun _ => ⟨_, at0, rfl⟩
    wp_walk
    refine codeAny_mono ini fun r u hr => ?_
    match r, hr with
    | .error e, hr => exact hr
    | .ok (.ret v), ⟨e1, hq⟩ =>
      subst e1
      wp_walk
      exact hq
theorem sorted_setS {Q : Value → Shared → Prop} (R : SetS P w s.heap a l) (hh : A.handled = none) (h64 : l.length < 64)
    (hQ : ∀ s' p (out : Array Value) (c : Nat) (ys : List Str), (∀ b o, s.heap.get? b = some o → s'.heap.get? b = some o) → s'.gens = s.gens → s'.os = s.os → s.heap.objs.size ≤ p →
      s'.heap.get? p = some (seqObj "list" out c) → StrsAre out.toList ys → ys.Perm l → sortedS ys = true → Q (.ref p) s') :
    wpAny (model P w) A (call (.builtin "sorted") [.ref a]) Q E s := by
  obtain ⟨⟨es, ep, t⟩, ho, F, nd, r, ld⟩ := R
  have hsz : es.size = l.length := F.sz
  refine Calls.call_function_entry kind_sorted plain_sorted entry_sorted (args_sorted1 _) ?_
  unfold Builtin.«sorted»
  refine wpAny_bind (m := checkCount "sorted" 1 1 _) (wpAny_pure ?_)
  refine wpAny_bind (collect_set (A := A.in1) hh ⟨_, ho, rfl, rfl⟩ F.fit (by show es.size < scanBound; unfold scanBound; omega) r ld fun s1 vs k1 hz g1 o1 pm => ?_)
  have sv : ∀ vs : List Value, (∀ v ∈ vs, ∃ k u, v = Value.str k u) → ∃ ys, StrsAre vs ys := by
    intro vs
    induction vs with
    | nil => exact fun _ => ⟨[], .nil⟩
    | cons v vs ih =>
      intro h
      obtain ⟨k, u, rfl⟩ := h v List.mem_cons_self
      obtain ⟨ys, hy⟩ := ih fun x hx => h x (List.mem_cons_of_mem _ hx)
      exact ⟨k :: ys, .cons k u hy⟩
  have el : ∀ e ∈ es.toList, ∃ k u, e.2 = Value.str k u := fun e he => by
    obtain ⟨⟨k, hk, _⟩, _⟩ := F.el e he
    obtain ⟨u, e2⟩ := Value.isStrOf_shape hk
    exact ⟨k, u, e2⟩
  obtain ⟨ys, hy⟩ := sv vs fun v hv => by
    obtain ⟨e, he, q⟩ := List.mem_map.1 (pm.mem_iff.1 hv)
    rw [← q]
    exact el e he
  have hvl : vs.length < 64 := by rw [pm.length_eq, List.length_map, Array.length_toList, hsz]; exact h64
  refine wpAny_bind (wpAny_newList ?_ (by rw [sizeLine_eq]; omega))
  have hoL : (s1.heap.push (seqObj "list" vs.toArray 0)).get? s1.heap.objs.size = some (seqObj "list" vs.toArray 0) := Heap.get?_push_size _ rfl
  refine wpAny_bind (wpAny_holding (wpAny_call_entry slot_list_sort ⟨_, hoL, rfl⟩ entry_list_sort (list_sort_treeK strKind_oneLt hoL hy.keysOf (fun v₁ v₂ rest e => keyKind_strs (by rw [← e]; exact hy)) hvl fun st' hp hs => ⟨_, rfl, ?_⟩) (args_list_sort _)))
  obtain ⟨zs, g1', g2, g3⟩ := sorted_out_str hy hp hs
  obtain ⟨c, hc⟩ := sortedHeap_at (vs := vs) (out := (arrOf st').map (·.2)) hoL
  have hys : ys.Perm l := by
    refine perm_of_sub nd (fun k hk => ?_) ?_
    · obtain ⟨e, he, hp⟩ := (F.mem k).1 hk
      obtain ⟨u, e2⟩ := Value.isStrOf_shape hp
      exact strs_mem hy (pm.mem_iff.2 (List.mem_map.2 ⟨e, he, e2⟩))
    · rw [← hy.length, pm.length_eq, List.length_map, Array.length_toList, hsz]
      exact Nat.le_refl _
  refine wpAny_pure ⟨_, rfl, hQ _ s1.heap.objs.size _ c zs (fun b u e => ?_) g1 o1 hz hc g1' (g2.trans hys) g3⟩
  have q := k1 b u e
  have hlt := Heap.lt_size q
  show (sortedHeap (s1.heap.push (seqObj "list" vs.toArray 0)) s1.heap.objs.size vs _).get? b = some u
  rw [sortedHeap_old (Nat.ne_of_lt hlt) (by rw [size_push']; exact Nat.lt_succ_of_lt hlt)]
  exact Heap.get?_push_of_some _ q
end
end DL
namespace DL
open PySem PySem.Spec PyProof.Rows L2
def uniqS : List Str → List Str
  | [] => []
  | x :: l => if x ∈ l then uniqS l else x :: uniqS l
theorem mem_uniqS {k : Str} : ∀ {l : List Str}, k ∈ uniqS l ↔ k ∈ l
  | [] => Iff.rfl
  | x :: l => by
    unfold uniqS
    split
    · rename_i c
      rw [mem_uniqS, List.mem_cons]
      exact ⟨.inr, fun h => h.elim (fun e => e ▸ c) id⟩
    · rw [List.mem_cons, List.mem_cons, mem_uniqS]
theorem uniqS_nodup : ∀ l : List Str, (uniqS l).Nodup
  | [] => List.nodup_nil
  | x :: l => by
    unfold uniqS
    split
    · exact uniqS_nodup l
    · rename_i c
      exact List.nodup_cons.2 ⟨fun h => c (mem_uniqS.1 h), uniqS_nodup l⟩
def SetSO (P : Program) (w : World) (a : Addr) (l : List Str) : HO := .ext fun h => SetS P w h a l
section
variable {X : Cx}
theorem setSO_new {w : World} {P : Program} {H : Hp} {h : Heap} {a : Addr} {l : List Str} (R : SetS P w h a l) : ObjOk P w H h a (SetSO P w a l) := by
  have ⟨_, ho, _⟩ := R
  exact ⟨R, ⟨_, ho⟩, fun h1 h2 p k => SetS.at p k⟩
def rSetS (K : Fg) (P : Program) (w : World) : List V → Hp → VK → Prop := fun vs H Q => ∃ (l : Addr) (ns : List Str), vs = [V.ref l] ∧ SqL K H l (ns.map V.str) ∧ ns.length < 1000 ∧
  ∀ (p : Addr) (ys : List Str), H p = none → ys.Nodup → (∀ x, x ∈ ys ↔ x ∈ ns) → Q (.ref p) (upd H p (SetSO P w p ys))
theorem cr_setS (hc : X.calm = true) : CallR X (.type "set") (rSetS X.K X.prog X.w) := by
  intro pins s σ H vs us Q I r h
  obtain ⟨l, ns, rfl, hl, hz, q⟩ := h
  rw [Vals.ref1 r]
  obtain ⟨its, rv, pl, _⟩ := I.list hl
  refine set_of_strs ns (I.ok.hd hc) pl.isList (by simpa using strsAre_of rv) (by unfold scanBound; omega) fun h' tk ys R _ hm k => ?_
  have ⟨_, _, _, nd, _⟩ := R
  exact ⟨.ref s.heap.objs.size, _, I.laid k (Nat.le_refl _) (setSO_new R), rfl, q _ ys (I.hok.fresh (Nat.le_refl _)) nd hm⟩
def rSortedSetS (P : Program) (w : World) : List V → Hp → VK → Prop := fun vs H Q => ∃ (a : Addr) (l : List Str), vs = [V.ref a] ∧ H a = some (SetSO P w a l) ∧ l.length < 64 ∧
  ∀ (ys : List Str) (p : Addr), ys.Perm l → sortedS ys = true → H p = none → Q (.ref p) (upd H p (.lst (ys.map V.str)))
theorem cr_sortedSetS (hc : X.calm = true) : CallR X (.builtin "sorted") (rSortedSetS X.prog X.w) := by
  intro pins s σ H vs us Q I r h
  obtain ⟨a, l, rfl, ha, h64, q⟩ := h
  have R : SetS X.prog X.w s.heap a l := (I.hok a _ ha).1
  rw [Vals.ref1 r]
  refine sorted_setS R (I.ok.hd hc) h64 fun s' p out c ys k g o hp hg hi pm hs => ?_
  have hn : H p = none := I.hok.fresh hp
  have hz : (ys.map V.str).length ≤ sizeLine := by rw [List.length_map, pm.length_eq, sizeLine_eq]; omega
  have J : Inv X pins σ (upd H p (.lst (ys.map V.str))) { s with heap := s'.heap, gens := s'.gens, drawn := s'.drawn, toks := s'.toks } :=
    I.call (ch := []) (Un.laid k hp hn) (I.hok.laid k hp ⟨hz, out.toList, c, vals_of_strs hi, hg⟩) (by rw [g]; exact I.bare) (fun _ z => nomatch z)
  obtain ⟨h1, h2, h3, h4, h5⟩ := s'
  obtain rfl : h5 = s.os := o
  exact ⟨.ref p, _, J, rfl, q ys p pm hs hn⟩
def rSetA (K : Fg) (P : Program) (w : World) : List V → Hp → VK → Prop := fun vs H Q => rSetIW K w vs H Q ∨ rSetS K P w vs H Q
theorem cr_setA (hc : X.calm = true) : CallR X (.type "set") (rSetA X.K X.prog X.w) := fun pins s σ H vs us Q I r h => h.elim (cr_setIW hc pins s σ H vs us Q I r) (cr_setS hc pins s σ H vs us Q I r)
def rSortedSetA (P : Program) (w : World) : List V → Hp → VK → Prop := fun vs H Q => rSortedSet w vs H Q ∨ rSortedSetS P w vs H Q
theorem cr_sortedSetA (hc : X.calm = true) : CallR X (.builtin "sorted") (rSortedSetA X.prog X.w) := fun pins s σ H vs us Q I r h => h.elim (cr_sortedSet hc pins s σ H vs us Q I r) (cr_sortedSetS hc pins s σ H vs us Q I r)
end
def gSortSetS : List Wd → Option Wd
  | [.list ws] => (strsD ws).bind fun ns => if ns.length < 1000 ∧ (uniqS ns).length < 64 then some (.list ((srtS (uniqS ns)).map .str)) else none
  | _ => none
def gSortSetA (ws : List Wd) : Option Wd := (gSortSetW ws).orElse fun _ => gSortSetS ws
theorem uniq_perm {ys ns : List Str} (nd : ys.Nodup) (hm : ∀ x, x ∈ ys ↔ x ∈ ns) : ys.Perm (uniqS ns) := by
  have l1 := len_of_sub nd fun x hx => mem_uniqS.2 ((hm x).1 hx)
  exact perm_of_sub (uniqS_nodup ns) (fun x hx => (hm x).2 (mem_uniqS.1 hx)) l1
theorem thn_setA {K : Fg} {P : Program} {w : World} : Thn K (rSortedSetA P w) (rSetA K P w) gSortSetA := by
  intro mu T S ws d H xs Q st bn p e q
  unfold gSortSetA at e
  cases c : gSortSetW ws with
  | some d' =>
    rw [c] at e
    cases e
    exact .inl (by
      have h := thn_setW (K := K) (w := w) mu T S ws _ H xs Q st bn p c q
      obtain ⟨l, ns, rfl, hl, hz, q⟩ := h
      exact ⟨l, ns, rfl, hl, hz, fun p c hp hc => .inl (q p c hp hc)⟩)
  | none =>
    rw [c] at e
    have e : gSortSetS ws = some d := e
    unfold gSortSetS at e
    split at e
    · obtain ⟨ns, e1, e⟩ := Option.bind_eq_some_iff.mp e
      obtain ⟨hl, rfl⟩ := ite_inv e
      cases p with
      | cons p1 p2 =>
        cases p2
        cases p1 with
        | lst a b =>
          have z := strs_of b e1
          subst z
          refine .inr ⟨_, ns, rfl, a.sq, hl.1, fun a ys hn nd hm => .inr ⟨a, ys, rfl, upd_same, ?_, fun zs b pm hs hb => ?_⟩⟩
          · rw [(uniq_perm nd hm).length_eq]
            exact hl.2
          · have ez := pwS_uniq ((pm.trans (uniq_perm nd hm)).trans (srtS_perm (uniqS ns)).symm) (sortedS_pw _ hs) (srtS_pw (uniqS ns))
            subst ez
            have sm := same_upd (o := SetSO P w a ys) hn
            exact q _ _ (fun x o z => same_upd hb _ _ (sm _ _ z)) (new_lst (st.same sm) (bn.ext (.same sm)) (rp_strs _) hb)
    · cases e
end DL
namespace DL
open PySem PySem.Spec PySem.W PySem.Calls PyProof.Rows PySem.HandSPX
def StatB (base : Heap) : Prop := ∀ (M : Model) (h : Heap) (C : Addr), (∀ b o, base.get? b = some o → h.get? b = some o) → Looks M h (opaqueClassAbove (.ref C)) none
section
variable {P : Program} {w : World} {A : Around} {K : Frag} {C : Addr} {a b : Str} {R : Result → Shared → Prop} {s : Shared} {base : Heap} {mg mb : Str → Option Value} {u1 u2 : Value}
end
end DL
namespace DL
open PySem PySem.Spec PyProof.Rows L2
variable {G : Bool}
structure Xn where
  c : Str
  fs : List (Str × Wd)
abbrev Xm := Ev → Sto → Option (Xn × Sto)
abbrev Xd := List Wd → Sto → Option (Xn × Sto)
def XAt (K : Fg) (mg : Str → Option Value) (mu : List Addr) (T : Addr → Prop) (H : Hp) (cls : Value) (d : Option Addr) (x : Xn) : Prop :=
  ∃ C dx fs, cls = .ref C ∧ mg x.c = some (.ref C) ∧ d = some dx ∧ H dx = some (.xd fs) ∧ ∀ f w, x.fs.lookup f = some w → ∃ v, fs.lookup f = some v ∧ Rp K mu T H v w
theorem XAt.weak {K : Fg} {mg : Str → Option Value} {mu : List Addr} {T T' : Addr → Prop} {H : Hp} {cls : Value} {d : Option Addr} {x : Xn} (h : XAt K mg mu T H cls d x) (t : ∀ a, T' a → T a) : XAt K mg mu T' H cls d x := by
  obtain ⟨C, dx, fs, e1, e2, e3, e4, q⟩ := h
  exact ⟨C, dx, fs, e1, e2, e3, e4, fun f w z => let ⟨v, a, b⟩ := q f w z; ⟨v, a, b.weak t⟩⟩
def xW (X : Cx) (mu : List Addr) (B O : Addr → Prop) (H : Hp) (e : Xn) (S' : Sto) : WX := fun cls d _ H' => ∃ mu' O', ExtS mu mu' O O' H H' ∧ StOk X.K mu' (fun a => B a ∨ O' a) H' S' ∧ XAt X.K X.mg mu' (fun a => B a ∨ O' a) H' cls d e
def tXs (X : Cx) (f : Xm) (σ : Sg) (H : Hp) : Prop := ∃ ρ S mu B O, Rel X.K mu B O H σ ρ S ∧ ∃ e S', f ρ S = some (e, S') ∧ Takes X (xW X mu B O H e S')
def xWe (X : Cx) (mu : List Addr) (B O : Addr → Prop) (H : Hp) (e : Xn) (S' : Sto) : WX := fun cls d _ H' => ∃ mu', Ext mu mu' H H' ∧ StOk X.K mu' (fun a => B a ∨ O a) H' S' ∧ XAt X.K X.mg mu' (fun a => B a ∨ O a) H' cls d e
def tXe (X : Cx) (f : Xm) (σ : Sg) (H : Hp) : Prop := ∃ ρ S mu B O, Rel X.K mu B O H σ ρ S ∧ ∃ e S', f ρ S = some (e, S') ∧ Takes X (xWe X mu B O H e S')
theorem tXs.e {X : Cx} {f : Xm} {σ : Sg} {H : Hp} (h : tXs X f σ H) : tXe X f σ H := by
  obtain ⟨ρ, S, mu, B, O, rl, e, S', e1, t⟩ := h
  exact ⟨ρ, S, mu, B, O, rl, e, S', e1, t.imp fun _ _ _ _ ⟨mu', a, b, c⟩ => ⟨mu', O, a.toS b, b, c⟩⟩
section
variable {X : Cx} {mu m1 : List Addr} {B O O1 : Addr → Prop} {H H1 : Hp} {σ : Sg} {ρ : Ev} {S S1 S' : Sto} {e : Xn}
theorem tXe.mk {f : Xm} (rl : Rel X.K mu B O H σ ρ S) (e1 : f ρ S = some (e, S')) (t : Takes X (xWe X mu B O H e S')) : tXe X f σ H := ⟨ρ, S, mu, B, O, rl, e, S', e1, t⟩
theorem tXs.mk {f : Xm} (rl : Rel X.K mu B O H σ ρ S) (e1 : f ρ S = some (e, S')) (t : Takes X (xW X mu B O H e S')) : tXs X f σ H := ⟨ρ, S, mu, B, O, rl, e, S', e1, t⟩
end
section
variable {X : Cx} {st : Stmt} {rest : List Stmt} {m : Ms} {fx fr : Xm} {e : Expr} {es : List Expr} {pos : Pos}
end
def spX (K : Fg) (mg : Str → Option Value) (x : Xd) (vs : List V) (H : Hp) (E : XK) : Prop := ∃ ws S mu T, StOk K mu T H S ∧ Bn mu T H ∧ RpAll K mu T H vs ws ∧ ∃ e S', x ws S = some (e, S') ∧
  ∀ cls d H' mu', Ext mu mu' H H' → StOk K mu' T H' S' → XAt K mg mu' T H' cls d e → E cls d H'
structure FnX (G : Bool) (P : Program) (w : World) (K : Fg) (mg : Str → Option Value) (base : Heap) (k : Nat) (f : Addr) (fd : FuncData) (ps : List Str) (x : Xd) : Prop where
  len : ∀ ws S r, x ws S = some r → ws.length = ps.length
  run : ∀ (A : Around) (outer : List Env) (s : Shared) (H : Hp) (args : Args) (us : List Value) (vs : List V) (E : XK), Room k A → (G = true → A.guards = some []) → Env0 P w K mg base A outer s H → BindsTo s fd args (ps.zip us) → Vals vs us → spX K mg x vs H E →
    codeAny (model P w) A (.call (.ref f) args) (CR (CX P w) outer P w H s (fun _ _ => False) E) s
theorem FnX.mono {P : Program} {w : World} {K : Fg} {mg : Str → Option Value} {base : Heap} {j k : Nat} {f : Addr} {fd : FuncData} {ps : List Str} {x : Xd} (F : FnX G P w K mg base j f fd ps x) (h : j ≤ k) : FnX G P w K mg base k f fd ps x :=
  ⟨F.len, fun A outer s H args us vs E hr => F.run A outer s H args us vs E (hr.mono h)⟩
section
variable {P : Program} {w : World} {K : Fg} {mg : Str → Option Value} {base : Heap} {x qual : Str} {params : Arguments} {body : List Stmt} {scope : Scope} {dvs : List V} {kws : List (Str × V)} {f : Addr} {fd : FuncData}
end
section
variable {X : Cx} {k : Nat} {f : Addr} {fd : FuncData} {ps : List Str} {g : Xd} {x : Str} {p pos : Pos} {e : Expr} {es : List Expr} {fs : Ma} {fa : Xm}
end
section
variable {X : Cx} {C : Addr} {a b x : Str} {e1 e2 : Expr} {fs : Ma} {p pos : Pos}
end
end DL
namespace DL
open PySem PySem.Spec PyProof.Rows L2
def StatO (h : Heap) : Prop := ∃ o, h.get? cStatics = some o ∧ PySem.W.nsIn [(cStatics, o)] cStatics "thirdparty.any" = some none
end DL
namespace DL
open PySem PySem.Spec PyProof.Rows L2
section
variable {X : Cx} {a : Expr} {f : Mx} {pos p p2 : Pos}
inductive ClsA (X : Cx) : List Expr → List Addr → Prop where
  | nil : ClsA X [] []
  | cons {x : Str} {p : Pos} {es : List Expr} {C : Addr} {Cs : List Addr} (gx : Gl X x) (mx : X.mg x = some (.ref C)) (r : ClsA X es Cs) (dx : (x == ("__debug__" : Str)) = false := by decide) (hs : starEach (.Name x p :: es) X.env = (false, eval (.Name x p) X.env) :: starEach es X.env := by rfl) : ClsA X (.Name x p :: es) (C :: Cs)
theorem ClsA.pa {es : List Expr} {Cs : List Addr} (h : ClsA X es Cs) : PA X es fun σ H Q => Q (Cs.map V.ref) H := by
  induction h with
  | nil => exact ⟨fun pp pins s σ H Q I h => pa_nil.run pp pins s σ H Q I h⟩
  | cons gx mx r dx hs ih => exact ⟨fun pp pins s σ H Q I h => (pa_cons (te := tC (.ref _)) (pe_glob gx mx rfl dx) ih hs).run pp pins s σ H Q I h⟩
end
end DL
namespace DL
open PySem PySem.Spec PyProof.Rows L2
section
variable {P : Program} {w : World} {K : Fg} {mg : Str → Option Value} {base : Heap} {x qual : Str} {params : Arguments} {body : List Stmt} {scope : Scope} {dvs : List V} {kws : List (Str × V)} {f : Addr} {fd : FuncData}
end
section
variable {X : Cx} {a : Addr} {oe : Obj} {pn : List (Addr × Obj)} {x en y : Str} {i k : Nat} {f : Addr} {fd : FuncData} {g : Gd} {p p2 pos : Pos}
abbrev exO (oe : Obj) : HO := .frz oe (.ext fun _ => True)
end
end DL
namespace DL
open PySem PySem.Spec PyProof.Rows L2
section
variable {K : Fg} {mu : List Addr} {T : Addr → Prop} {H : Hp} {S : Sto} {a : Addr} {oe : Obj}
end
section
variable {X : Cx} {pins : List (Addr × Obj)} {σ : Sg} {H : Hp} {s : Shared} {mu : List Addr} {B O : Addr → Prop} {ρ : Ev} {S : Sto} {l : Nat} {P c : Addr} {xo : Str} {params : Arguments} {body : Expr} {scope : Scope} {pos : Pos}
end
section
variable {X : Cx}
end
end DL
namespace DL
open PySem PySem.Spec PyProof.Rows L2
variable {G : Bool}
theorem StatO.in_ {h : Heap} {o : Obj} (e : h.get? cStatics = some o) : PySem.W.Frag.In [(cStatics, o)] h := fun a u z => by
  by_cases c : a = cStatics
  · subst c
    have : ([(cStatics, o)] : Fg).lookup cStatics = some o := by simp [List.lookup]
    rw [this] at z
    cases z
    exact e
  · have : ([(cStatics, o)] : Fg).lookup a = none := by simp [List.lookup, beq_eq_false_iff_ne.mpr c]
    rw [this] at z
    cases z
theorem StatO.b {h : Heap} (x : StatO h) : StatB h := by
  obtain ⟨o, e, n⟩ := x
  exact fun M h' C k => PySem.W.looks_opaque (StatO.in_ (k _ _ e)) n
theorem StatO.dict {o : Obj} (e : PySem.W.nsIn [(cStatics, o)] cStatics "thirdparty.any" = some none) : ∃ es ep, o.data = .dict es ep := by
  unfold PySem.W.nsIn at e
  split at e
  · rename_i c d es n sl ho
    have : ([(cStatics, o)] : Fg).lookup cStatics = some o := by simp [List.lookup]
    rw [this] at ho
    cases ho
    exact ⟨es, n, rfl⟩
  · cases e
section
variable {P : Program} {w : World} {K : Fg} {mg : Str → Option Value} {k : Nat} {fa a : Addr} {fd : FuncData} {y : Str} {g : Gd} {s : Shared} {vs : List Value} {ns : List Int} {xs : List Str}
end
end DL
namespace DL
open PySem PySem.Spec PyProof.Rows L2
variable {G : Bool}
theorem _root_.L2H.RoomH.units {k : Nat} {A : Around} (r : L2H.RoomH k A) : A.units + 64 < cLine := by have := r.un; omega
theorem _root_.L2H.RoomH.u65 {k : Nat} {A : Around} (r : L2H.RoomH k A) : A.units + 65 < cLine := by have := r.un; omega
theorem _root_.L2H.RoomH.u66 {k : Nat} {A : Around} (r : L2H.RoomH k A) : A.units + 66 < cLine := by have := r.un; omega
theorem _root_.L2H.RoomH.u1 {k : Nat} {A : Around} (r : L2H.RoomH k A) : A.units + 1 < cLine := by have := r.un; omega
theorem _root_.L2.Room.one {k : Nat} {A : Around} (r : Room k A) : Room 1 A ∨ k = 0 := by
  cases k with
  | zero => exact .inr rfl
  | succ k => exact .inl ⟨r.hd, by have := r.dp; omega, by have := r.un; omega⟩
section
variable {X : Cx} {st : Stmt} {rest : List Stmt} {m : Ms} {fx fr : Xm} {t : TS}
end
section
variable {X : Cx} {k k' : Nat} {x : Str} {st : Stmt} {ps : List Str} {g : Xd} {p pos : Pos} {e : Expr} {es : List Expr} {fs : Ma} {fa : Xm}
end
section
variable {P : Program} {w : World} {K : Fg} {mg : Str → Option Value} {base : Heap} {x : Str} {st : Stmt}
section
variable {qual : Str} {params : Arguments} {body : List Stmt} {scope : Scope} {dvs : List V} {kws : List (Str × V)} {f : Addr} {fd : FuncData}
end
section
variable {X : Cx} {xo lbl : Str} {cs : List Str} {gh : Gd} {fE : Mx} {xE : Xm} {lam : Expr} {params : Arguments} {body : Expr} {scope : Scope} {p lpos pos : Pos} {k kE kh : Nat}
end
end
end DL
namespace DL
open PySem PySem.Spec PyProof.Rows L2
end DL
namespace DL
open PySem PySem.Spec PyProof.Rows L2
section
variable {X : Cx} {a : Addr} {oe : Obj} {pn pins : List (Addr × Obj)} {σ σ' : Sg} {H H' : Hp} {s s' : Shared}
end
section
variable {P : Program} {w : World} {K : Fg} {mg : Str → Option Value} {x : Str} {st : Stmt}
end
end DL
namespace DL
open PySem PySem.Spec PyProof.Rows L2
section
variable {X : Cx} {pins : List (Addr × Obj)} {σ : Sg} {H : Hp} {s : Shared} {f : Addr} {o : Obj}
def NoFr (H0 : Hp) (f : Addr) : Prop := (∀ xs, H0 f ≠ some (.tup xs)) ∧ (∀ o u, H0 f ≠ some (.frz o u)) ∧ ∀ ps, H0 f ≠ some (.tbl ps)
theorem NoFr.of (I : Inv X pins σ H s) (h : s.heap.objs.size ≤ f) : NoFr X.H_0 f := by
  have n : H f = none := I.hok.fresh h
  refine ⟨fun xs z => ?_, fun o u z => ?_, fun ps z => ?_⟩
  · have := I.base.tups f xs z
    rw [n] at this
    cases this
  · have := I.base.frzs f o u z
    rw [n] at this
    cases this
  · obtain ⟨more, this⟩ := I.base.tbls f ps z
    rw [n] at this
    cases this
end
structure Lm where
  params : Arguments
  body : Expr
  scope : Scope
def lamO (X : Cx) (L : Lm) (pm : Value) (c' : Addr) (ctv : Value) : Obj := PySem.W.kla_obj "<lambda>" (X.env.qual ++ "<lambda>") L.params L.body L.scope (cloFrom X.env.cells L.scope.names []) pm c' ctv
structure LamAt (X : Cx) (L : Lm) (mu : List Addr) (H : Hp) (f : Addr) : Prop where
  ob : ∃ (pm : Value) (c' : Addr) (ctv : Value), H f = some (exO (lamO X L pm c' ctv)) ∧ H c' = some (LamX.CodeO c' (X.env.qual ++ "<lambda>")) ∧ c' ∉ mu
  fr : f ∉ mu
  h0 : NoFr X.H_0 f
  st : f ∉ frs X.stack
theorem LamAt.ext {X : Cx} {L : Lm} {mu mu' : List Addr} {H H' : Hp} {f : Addr} (h : LamAt X L mu H f) (e : Ext mu mu' H H') : LamAt X L mu' H' f := by
  obtain ⟨⟨pm, c', ctv, h1, h2, h3⟩, h4, h5, h6⟩ := h
  exact ⟨⟨pm, c', ctv, e.keep _ _ h1 h4, e.keep _ _ h2 h3, e.notin h2 h3⟩, e.notin h1 h4, h5, h6⟩
section
variable {X : Cx} {pins : List (Addr × Obj)} {σ : Sg} {H : Hp} {s : Shared} {mu : List Addr} {B O : Addr → Prop} {ρ : Ev} {S : Sto} {l : Nat} {P c : Addr} {xo : Str} {params : Arguments} {body : Expr} {scope : Scope} {pos : Pos}
end
section
variable {X : Cx} {pins : List (Addr × Obj)} {σ : Sg} {H : Hp} {s : Shared} {mu : List Addr} {B O : Addr → Prop} {ρ : Ev} {S S' : Sto} {L : Lm} {fE : Mx} {xE : Xm} {gh : Gd} {lbl x : Str} {cs : List Str} {w : Wd} {Q : VK} {k : Nat}
end
end DL
namespace DL
open PySem PySem.Spec PyProof.Rows L2
section
variable {X : Cx} {pins : List (Addr × Obj)} {σ : Sg} {H : Hp} {s : Shared}
end
end DL
namespace DL
open PySem PySem.Spec PyProof.Rows L2
section
variable {K : Fg} {mu mu' : List Addr} {B B' O : Addr → Prop} {H H' : Hp} {σ : Sg} {ρ : Ev} {S : Sto}
theorem Rel.setAny (h : Rel K mu B O H σ ρ S) (i : Nat) (v : V) : Rel K mu B O H (σ.set i (some v)) (ρ.set i none) S := by
  have g : ∀ {j : Nat} {x : Sl}, (ρ.set i none)[j]? = some (some x) → j ≠ i ∧ ρ[j]? = some (some x) := fun {j x} e => by
    rcases set_get e with ⟨_, e1, _⟩ | ⟨c, e⟩
    · cases e1
    · exact ⟨Ne.symm c, e⟩
  have st : ∀ {j : Nat}, j ≠ i → (σ.set i (some v))[j]? = σ[j]? := fun c => List.getElem?_set_ne (Ne.symm c)
  refine ⟨by rw [List.length_set, List.length_set]; exact h.len, fun j w e => ?_, fun j ws e => ?_, fun j k ws ws' a e1 e2 e3 e4 => ?_, h.sto, h.bn⟩
  · obtain ⟨c, e⟩ := g e
    rw [st c]
    exact h.val j w e
  · obtain ⟨c, e⟩ := g e
    rw [st c]
    exact h.own j ws e
  · obtain ⟨c1, e1⟩ := g e1
    obtain ⟨c2, e2⟩ := g e2
    rw [st c1] at e3
    rw [st c2] at e4
    exact h.dif j k ws ws' a e1 e2 e3 e4
theorem Rel.nothing (h : Rel K mu B O H σ ρ S) (σ' : Sg) : Rel K mu B O H σ' (List.replicate σ'.length none) S := by
  have no : ∀ {j : Nat} {x : Sl}, (List.replicate σ'.length (none : Option Sl))[j]? = some (some x) → False := fun {j x} e => by
    rw [List.getElem?_replicate] at e
    split at e <;> cases e
  exact ⟨by rw [List.length_replicate], fun _ _ e => (no e).elim, fun _ _ e => (no e).elim, fun _ _ _ _ _ e => (no e).elim, h.sto, h.bn⟩
end
section
variable {X : Cx} {pins pn : List (Addr × Obj)} {σ σ2 : Sg} {H : Hp} {s : Shared} {mu : List Addr} {B O : Addr → Prop} {ρ : Ev} {S S1 S2 : Sto} {L : Lm} {fE fc : Mx} {xE : Xm} {gh : Gd} {lbl x q : Str} {cs : List Str} {w wc : Wd} {Q : VK} {k kE kh jq : Nat} {st : Stmt}
end
end DL
namespace DL
open PySem PySem.Spec PyProof.Rows L2
structure Kp where
  L : Lm
  fE : Mx
  xE : Xm
  f : Addr
  pm : Value
  c : Addr
  ctv : Value
abbrev Kp.ob (X : Cx) (z : Kp) : Obj := lamO X z.L z.pm z.c z.ctv
abbrev Kp.t (z : Kp) : Lm × Mx × Xm := (z.L, z.fE, z.xE)
structure KpAt (X : Cx) (z : Kp) (mu : List Addr) (T : Addr → Prop) (H : Hp) : Prop where
  ob : H z.f = some (exO (z.ob X))
  co : H z.c = some (LamX.CodeO z.c (X.env.qual ++ "<lambda>"))
  cm : z.c ∉ mu
  fm : z.f ∉ mu
  h0 : NoFr X.H_0 z.f
  st : z.f ∉ frs X.stack
  nt : ¬ T z.f
section
variable {X : Cx} {z : Kp} {mu mu' : List Addr} {T : Addr → Prop} {H H' : Hp} {l : Addr}
theorem KpAt.ext (h : KpAt X z mu T H) (e : Ext mu mu' H H') : KpAt X z mu' T H' := ⟨e.keep _ _ h.ob h.fm, e.keep _ _ h.co h.cm, e.notin h.co h.cm, e.notin h.ob h.fm, h.h0, h.st, h.nt⟩
theorem KpAt.of {L : Lm} {fE : Mx} {xE : Xm} {f : Addr} (h : LamAt X L mu H f) (nt : ¬ T f) : ∃ pm c ctv, KpAt X ⟨L, fE, xE, f, pm, c, ctv⟩ mu T H := by
  obtain ⟨⟨pm, c, ctv, h1, h2, h3⟩, h4, h5, h6⟩ := h
  exact ⟨pm, c, ctv, h1, h2, h3, h4, h5, h6, nt⟩
end
section
variable {X : Cx} {xo A : Str} {params : Arguments} {body : Expr} {scope : Scope} {lpos pos : Pos} {i : Nat} {m : Ms} {rest : List Stmt} {fE : Mx} {xE : Xm} {ts : List (Lm × Mx × Xm)}
end
end DL
namespace DL
open PySem PySem.Spec PyProof.Rows L2
def xForL (g : Mg) (fx : Xm) (m : Ms) : List Wd → Ev → Sto → Option (Xn × Sto)
  | [], _, _ => none
  | w :: ws, ρ, S => match g w ρ with
    | none => none
    | some ρ1 => match fx ρ1 S with
      | some r => some r
      | none => match m ρ1 S with
        | .nx ρ2 S2 => xForL g fx m ws ρ2 S2
        | .ct ρ2 S2 => xForL g fx m ws ρ2 S2
        | _ => none
section
variable {X : Cx} {tg iter : Expr} {fi : Mi} {g : Mg} {m : Ms} {fx : Xm} {body : List Stmt} {pos : Pos} {vs : List Nat}
end
end DL
namespace DL
open PySem PySem.Spec PyProof.Rows L2
section
variable {P : Program} {w : World} {K : Fg} {mg : Str → Option Value} {x : Str} {st : Stmt}
end
section
variable {X : Cx} {a b : Expr} {fx fr : Xm} {m : Mx} {pos : Pos}
end
section
variable {X : Cx} {tg iter : Expr} {body : List Stmt} {pos : Pos} {fi : Mi} {g : Mg} {fx : Xm} {m : Ms} {vs : List Nat}
end
end DL
namespace DL
open PySem PySem.Spec PyProof.Rows L2
section
variable {X : Cx} {pins : List (Addr × Obj)} {σ : Sg} {H : Hp} {s : Shared}
end
end DL
namespace DL
open PySem PySem.Spec PyProof.Rows L2
theorem Rel.only {K : Fg} {mu : List Addr} {B O : Addr → Prop} {H : Hp} {σ σ' : Sg} {ρ : Ev} {S : Sto} {j : Nat} {tx : Str} (h : Rel K mu B O H σ ρ S) (hj : σ'[j]? = some (some (V.str tx))) : Rel K mu B O H σ' ((List.replicate σ'.length none).set j (some (.val (.str tx)))) S := by
  have no : ∀ {i : Nat} {x : Sl}, ((List.replicate σ'.length (none : Option Sl)).set j (some (.val (.str tx))))[i]? = some (some x) → i = j ∧ x = .val (.str tx) := fun {i x} e => by
    rcases set_get e with ⟨rfl, e1, _⟩ | ⟨c, e⟩
    · cases e1
      exact ⟨rfl, rfl⟩
    · rw [List.getElem?_replicate] at e
      split at e <;> cases e
  refine ⟨by rw [List.length_set, List.length_replicate], fun i w e => ?_, fun i ws e => ?_, fun i k ws ws' a e1 e2 e3 e4 => ?_, h.sto, h.bn⟩
  · obtain ⟨rfl, e1⟩ := no e
    cases e1
    exact ⟨_, hj, .str _⟩
  · obtain ⟨_, e1⟩ := no e
    cases e1
  · obtain ⟨_, e1⟩ := no e1
    cases e1
section
variable {X : Cx} {pins pn : List (Addr × Obj)} {σ σ2 : Sg} {H : Hp} {s : Shared} {mu : List Addr} {B O : Addr → Prop} {ρ : Ev} {S S1 S2 : Sto} {L : Lm} {fE fc : Mx} {xE : Xm} {gh : Gd} {lbl x q : Str} {cs : List Str} {w wc : Wd} {Q : VK} {k kE kh jq : Nat} {st : Stmt}
end
end DL
namespace DL
open PySem PySem.Spec PyProof.Rows L2
structure Kq where
  k : Kp
  p : Addr
  t : Str
abbrev Kq.tt (z : Kq) : (Lm × Mx × Xm) × Str := (z.k.t, z.t)
structure KqAt (X : Cx) (z : Kq) (mu : List Addr) (T : Addr → Prop) (H : Hp) : Prop where
  k : KpAt X z.k mu T H
  tp : H z.p = some (.tup [V.ref z.k.f, V.str z.t])
  pm : z.p ∉ mu
section
variable {X : Cx} {z : Kq} {mu mu' : List Addr} {T : Addr → Prop} {H H' : Hp} {l : Addr}
theorem KqAt.ext (h : KqAt X z mu T H) (e : Ext mu mu' H H') : KqAt X z mu' T H' := ⟨h.k.ext e, e.keep _ _ h.tp h.pm, e.notin h.tp h.pm⟩
end
section
variable {X : Cx} {xo A : Str} {params : Arguments} {body : Expr} {scope : Scope} {lpos pos : Pos} {i : Nat} {m : Ms} {rest : List Stmt} {fE : Mx} {xE : Xm} {ts : List ((Lm × Mx × Xm) × Str)} {tx : Str} {kc ktt : Nat} {pc0 ptt : Pos}
end
end DL
namespace DL
open PySem PySem.Spec PyProof.Rows L2
section
variable {X : Cx} {xo A : Str} {params : Arguments} {body : Expr} {scope : Scope} {lpos pos : Pos} {i : Nat} {m : Ms} {rest : List Stmt} {fE : Mx} {xE : Xm} {ts : List ((Lm × Mx × Xm) × Str)}
end
end DL
namespace DL
open PySem PySem.Spec PyProof.Rows L2
def memK (ks : List Key) (j : Key) : Bool := ks.any fun k => decide (j = k)
def kD : Wd → Option Key
  | .int i => some (.inl i)
  | .str x => some (.inr x)
  | _ => none
theorem kD_of {K : Fg} {mu : List Addr} {T : Addr → Prop} {H : Hp} {v : V} {w : Wd} {k : Key} (h : Rp K mu T H v w) (e : kD w = some k) : v = kV k := by
  cases h with
  | int i => cases e; rfl
  | str x => cases e; rfl
  | _ => cases e
theorem setK_code {P : Program} {w : World} {a : Addr} {S : Key → Bool} {n : Nat} (c : Addr) (q : Str) : SetK P w a S n ≠ LamX.CodeO c q := fun z => by
  unfold SetK LamX.CodeO at z
  have h := congrFun (HO.ext.inj z) (manyH { cls := .none, data := .fields #[.none, .str q 0] } (c + 1))
  have r : ∃ (oc : Obj) (vs : Array Value) (t : Tok), (manyH { cls := .none, data := .fields #[.none, .str q 0] } (c + 1)).get? c = some oc ∧ oc.data = .fields vs ∧ vs[1]? = some (.str q t) := ⟨_, _, _, manyH_get rfl c, rfl, rfl⟩
  rw [← h] at r
  obtain ⟨o, es, ep, t, h1, _, h2, _⟩ := r
  rw [manyH_all rfl h1] at h2
  cases h2
theorem PlH.setK {P : Program} {w : World} {a : Addr} {S : Key → Bool} {n : Nat} : PlH (some (SetK P w a S n)) := ⟨.of setK_code (fun _ z => by unfold SetK at z; cases z) (fun _ z => by unfold SetK at z; cases z), fun _ z => by unfold SetK at z; cases z⟩
theorem setK_fresh {P : Program} {w : World} {h : Heap} : (h.push (set0 w)).SetOf (mixKind P w) h.objs.size (memK []) 0 :=
  ⟨_, #[], 0, _, Heap.get?_push_size _ rfl, ⟨rfl, rfl, rfl⟩, rfl, (fun e he => by simp at he), (fun k => by simp [memK]), (by decide), (by rfl), rfl⟩
def scLoop (g : Mg) (fe : Mx) (ρ : Ev) : List Wd → List Key → Sto → R (List Key)
  | [], acc, S => .ok acc S
  | w :: ws, acc, S => match g w ρ with
    | none => .bad
    | some ρ1 => (fe ρ1 S).bnd fun y S1 => match kD y with
      | some k => if acc.length < 1000 then scLoop g fe ρ ws (k :: acc) S1 else .bad
      | none => .bad
def mSc (vs : List Nat) (fi : Mi) (g : Mg) (fe : Mx) (ρ : Ev) (S : Sto) : R (List Key) := (fi ρ S).bnd fun ws S1 => scLoop g fe (wipeE ρ vs) ws [] S1
section
variable {X : Cx} {pins : List (Addr × Obj)} {σ : Sg} {H : Hp} {s : Shared}
theorem sc_keys {elt tg iter : Expr} {scope : Scope} {own : List (Str × Nat)} {pos pos' : Pos} {fi : Mi} {g : Mg} {fe : Mx} {use : Option (Value → Sem Unit)} {Qf : Value → Shared → Prop} {ρ : Ev} {S S' : Sto} {mu : List Addr} {B O : Addr → Prop} {ks : List Key}
    (hc : X.calm = true) (hN : X.N.Nodup) (I : Inv X pins σ H s) (hi : DiP X tg iter fi) (ok : BlkOk X.N X.env.scope scope own) (hg : DgPF (X.fam scope) X.K (own.map (·.2)) tg g)
    (he : ∀ (s : Shared) (H : Hp) (C : Addr) (cl : List (Str × Addr)) (fp : List Addr), De (X.blk s H scope (compEnvC scope cl C X.env) fp) elt fe) (hs : ∀ x, foldedSetIterable iter X.env x = pure x)
    (rl : Rel X.K mu B O H σ ρ S) (e : mSc (own.map (·.2)) fi g fe ρ S = .ok ks S')
    (fin : ∀ D C s' m H' mu' n, Inv X pins σ H' s' → Ext mu mu' H H' → Rel X.K mu' (fun a => B a ∨ a = D) O H' σ ρ S' → ¬ (B D ∨ O D) → H' D = some (SetK X.prog X.w D (memK ks) n) → s'.heap.Ns C m → FpOk X pins H' C → compPost (model X.prog X.w) X.A X.xe use Qf (.ref D) C (.ok .next) s') :
    wpAny (model X.prog X.w) X.A (comprehension (.SetComp elt [⟨tg, iter, [], 0⟩] scope pos) scope X.env pos' (newSet (.type "set")) false (eval iter X.env) use) Qf X.xe s := by
  obtain ⟨tgt, pg, kg⟩ := hg
  obtain ⟨ws, S1, e1, e2⟩ := R.bnd_inv e
  have hfree : ∀ y ∈ scope.names, y.2 = .free → ∃ c, X.env.cells.lookup y.1 = some c := fun y hy e => (ok.free y hy e).elim (fun z => I.ok.has _ (.inl z)) fun z => I.ok.has _ (.inr z)
  have start := hi.run pins s σ H (fun J H1 => ∃ mu1 v w, ItOkP X.K J v w ws ∧ Ext mu mu1 H H1 ∧ Rel X.K mu1 B O H1 σ ρ S1 ∧ RpAll X.K mu1 (fun a => B a ∨ O a) H1 v w) I ⟨ρ, S, mu, B, O, rl, ws, S1, e1, fun J v w H1 mu1 hJ E st p => ⟨mu1, v, w, hJ, E, rl.ext E st, p⟩⟩
  refine wpAny_comprehension_free (use := use) rfl hs (closure_ok hfree) ok.kind (fun y hy e => (ok.uniq y hy).trans (by rw [e])) (thn start fun _ s1 h1 => thn h1 fun itv s2 ⟨it, fp, tn, J, H2, ei, I2, T, st2, f2, mu1, v, w, hJ, E1, rl1, p1⟩ => ?_)
  subst ei
  refine PpSet.newSet_ok (newEnv_comp ?_)
  obtain ⟨D, hD⟩ : ∃ D, D = s2.heap.objs.size := ⟨_, rfl⟩
  rw [← hD]
  have nD : H2 D = none := I2.hok.fresh (Nat.le_of_eq hD.symm)
  have young : ∀ b ∈ fp, b < s2.heap.objs.size := fun b hb => let ⟨_, e, _⟩ := T.obj _ _ st2 b hb; Heap.lt_size e
  obtain ⟨o0, ho0⟩ : ∃ o0, o0 = SetK X.prog X.w D (memK []) 0 := ⟨_, rfl⟩
  generalize hs3 : ({ s2 with heap := s2.heap.push { cls := .type "set", dict := none, data := .set #[] 0 (.fresh 0 0 (!X.w.params.followText "set-order")) } } : Shared) = s3
  have more : ∀ b o, s2.heap.get? b = some o → s3.heap.get? b = some o := fun b o e => by rw [← hs3]; exact Heap.get?_push_of_some _ e
  have I3 : Inv X pins σ (upd H2 D o0) s3 := by
    rw [← hs3]
    refine I2.laid (t' := s2.toks) (fun b o e => Heap.get?_push_of_some _ e) (Nat.le_of_eq hD.symm) ?_
    rw [ho0, hD]
    exact setK_new setK_fresh
  have size3 : s3.heap.objs.size = s2.heap.objs.size + 1 := by rw [← hs3]; exact Heap.size_push ..
  have own' : ∀ b ∈ fp, FpOk X pins (upd H2 D o0) b ∧ b < s3.heap.objs.size := fun b hb => by
    have y := young b hb
    obtain ⟨z1, z2⟩ := f2 b hb
    exact ⟨⟨by rw [upd_ne (by rw [hD]; exact Nat.ne_of_lt y)]; exact z1, z2⟩, by rw [size3]; exact Nat.lt_succ_of_lt y⟩
  have free3 : ∀ b ∈ fp, upd H2 D o0 b = none := fun b hb => (own' b hb).1.1
  have I4 := block_start I3 ok hN own'
  have plk : ∀ (l : List Key) (n : Nat), PlH (some (SetK X.prog X.w D (memK l) n)) := fun l n => PlH.setK
  have nT : ¬ (B D ∨ O D) := rl1.bn.fresh nD
  have rb := (rl1.wipe (own.map (·.2))).ban nD o0 (by rw [ho0]; exact PlH.setK)
  have pb : RpAll X.K mu1 (fun a => (B a ∨ a = D) ∨ O a) (upd H2 D o0) v w := ((p1.ban nD).weak fun a z => z.elim (fun z => z.elim (fun z => .inl (.inl z)) .inr) fun z => .inl (.inr z)).same (same_upd nD)
  obtain ⟨W, hW⟩ : ∃ W : Nat → Hp → Prop, W = fun k H' => ∃ mu2 acc S3 n, Ext mu1 mu2 H2 H' ∧ Rel X.K mu2 (fun a => B a ∨ a = D) O H' (wipe σ (own.map (·.2))) (wipeE ρ (own.map (·.2))) S3 ∧ RpAll X.K mu2 (fun a => (B a ∨ a = D) ∨ O a) H' v w ∧ H' D = some (SetK X.prog X.w D (memK acc) n) ∧ n ≤ acc.length ∧
      scLoop g fe (wipeE ρ (own.map (·.2))) (ws.drop k) acc S3 = .ok ks S' := ⟨_, rfl⟩
  have w3 : W 0 (upd H2 D o0) := by rw [hW]; exact ⟨mu1, [], S1, 0, (Ext.refl _ _).at_new nD, rb, pb, by rw [upd_same, ho0], Nat.le_refl _, e2⟩
  show codeAny _ _ (.compStart (.SetComp elt [⟨tg, iter, [], 0⟩] scope pos) 0 (.ref it) (.ref D) (compEnvC scope (cellsFrom (s3.heap.objs.size + 1) scope.names (cloFrom X.env.cells scope.names [])) s3.heap.objs.size X.env)) (compPost (model X.prog X.w) X.A X.xe use Qf (.ref D) s3.heap.objs.size) { s3 with heap := pushCells (s3.heap.push { cls := .type "dict", data := .dict #[] }) scope.names }
  generalize hcl : cellsFrom (s3.heap.objs.size + 1) scope.names (cloFrom X.env.cells scope.names []) = cl at I4 ⊢
  generalize hs4 : ({ s3 with heap := pushCells (s3.heap.push { cls := .type "dict", data := .dict #[] }) scope.names } : Shared) = s4 at I4 ⊢
  have st4 : tn 0 s4.heap := T.keep _ _ _ st2 fun b _ o e => by rw [← hs4]; exact pushCells_keeps _ _ _ _ (Heap.get?_push_of_some _ (more b o e))
  generalize hC : s3.heap.objs.size = C at I4 ⊢
  have cL : (compEnvC scope cl C X.env).locals = C := rfl
  generalize hH3 : upd H2 D o0 = H3 at I3 I4 own' free3 w3
  have pg := pg (s3, H3, C, cl, fp)
  have pe := he s3 H3 C cl fp
  have back : ∀ {σ1 : Sg} {H1 : Hp} {s1 : Shared} {p1 : List (Addr × Obj)}, Inv (X.blk s3 H3 scope (compEnvC scope cl C X.env) fp) p1 σ1 H1 s1 → Inv X pins σ H1 s1 := fun J =>
    I3.call' (ch := fp) J.os J.base J.hok J.bare fun b hb => let ⟨⟨_, z1, _, z2, z3, z4⟩, _⟩ := own' b hb; ⟨z2, z1, z3, z4⟩
  unfold Cx.fam at pg
  dsimp only at pg
  generalize hce : compEnvC scope cl C X.env = ce at I4 pg pe back cL ⊢
  have fpB : ∀ {p1 : List (Addr × Obj)} {σ1 : Sg} {H1 : Hp} {s1 : Shared}, Inv (X.blk s3 H3 scope ce fp) p1 σ1 H1 s1 → p1 = [] → (∀ b ∈ fp, H1 b = none) → ∀ b ∈ fp, FpOk (X.blk s3 H3 scope ce fp) [] H1 b := fun J e n b hb => by
    obtain ⟨z1, z2⟩ := J.ok.exf b hb
    exact ⟨n b hb, z1, J.ok.exfs b hb, .inl hb, fun x c e => z2 x c e, fun p hp => nomatch (show p ∈ ([] : List (Addr × Obj)) ++ [] from hp)⟩
  have loop : codeAny (model X.prog X.w) X.A (.compLoop (.SetComp elt [⟨tg, iter, [], 0⟩] scope pos) 0 (.ref it) (.ref D) ce) (compPost (model X.prog X.w) X.A X.xe use Qf (.ref D) C) s4 := by
    refine PpSet.compLoopS_any (fun n s' => ∃ k H', n = ws.length - k ∧ k ≤ ws.length ∧ Inv (X.blk s3 H3 scope ce fp) [] (wipe σ (own.map (·.2))) H' s' ∧ tn k s'.heap ∧ (∀ b ∈ fp, H' b = none) ∧ W k H') ?_ ws.length ⟨0, H3, rfl, Nat.zero_le _, I4, st4, free3, w3⟩
    rintro n s5 ⟨k, H5, rfl, hk, I5, st5, n5, w5⟩
    rw [hW] at w5
    obtain ⟨mu2, acc, S3, m5, x2, r2, p2, hD5, hm5, el⟩ := w5
    obtain ⟨hgo, hstop⟩ := hJ mu2 _ H5 S3 r2.sto r2.bn p2
    by_cases hlt : k < ws.length
    · obtain ⟨go, yld⟩ := hgo k ws[k] (List.getElem?_eq_getElem hlt)
      rw [List.drop_eq_getElem_cons hlt] at el
      unfold scLoop at el
      cases y : g ws[k] (wipeE ρ (own.map (·.2))) with
      | none => rw [y] at el; cases el
      | some ρ3 =>
      rw [y] at el
      simp only at el
      obtain ⟨yw, S4, e4, el⟩ := R.bnd_inv el
      refine thnF (T.item (X.blk s3 H3 scope ce fp) rfl rfl rfl hc k [] s5 _ H5 (fun _ _ => False) I5 (fpB I5 rfl n5) st5 go) fun r s6 ⟨u, hr, h6⟩ => ?_
      subst hr
      refine thnF h6 fun _ s7 ⟨x, H7, I7, r7, y7, st7, n7⟩ => ?_
      obtain ⟨sm, rx⟩ := yld x H7 y7
      have r3 := r2.ext (.same sm) (r2.sto.same sm)
      refine thnF (pg.run _ s7 _ H7 x u (fun σ' H' => H' = H7 ∧ Rel X.K mu2 (fun a => B a ∨ a = D) O H7 σ' ρ3 S3 ∧ wipe σ' (own.map (·.2)) = wipe (wipe σ (own.map (·.2))) (own.map (·.2))) (I7.pinned (fpB I7 rfl n7) (T.obj _ _ st7)) r7
        (kg mu2 _ O H7 _ _ ρ3 S3 x ws[k] _ r3 rx y fun σ' r' hw => ⟨rfl, r', hw⟩)) fun _ s8 ⟨σ8, H8, I8, e8, r8, hw8⟩ => ?_
      subst e8
      refine wpAny_tests_nil ?_
      simp only [if_true]
      refine thnF (pe.run _ s8 σ8 _ (fun yv H9 => ∃ mu9, Ext mu2 mu9 H8 H9 ∧ Rel X.K mu9 (fun a => B a ∨ a = D) O H9 σ8 ρ3 S4 ∧ Rp X.K mu9 (fun a => (B a ∨ a = D) ∨ O a) H9 yv yw) I8 (tD.mk r8 e4 fun yv H9 mu9 E9 r9 p9 => ⟨mu9, E9, r9, p9⟩)) fun uv s9 ⟨yv, H9, I9, ry, mu9, E9, r9, p9⟩ => ?_
      cases ek : kD yw with
      | none => rw [ek] at el; cases el
      | some key =>
      rw [ek] at el
      simp only at el
      by_cases hz : acc.length < 1000
      · rw [if_pos hz] at el
        have ev := kD_of p9 ek
        subst ev
        have hD9 : H9 D = _ := E9.keep D _ (sm D _ hD5) (r2.bn D (.inl (.inr rfl))).2
        have room : m5 + 1 < scanBound := by unfold scanBound; omega
        refine call_set_add (kV_is ry) (key_scan ry) (setK_get (X := X.blk s3 H3 scope ce fp) I9 hD9) room fun h' sb new => ?_
        obtain ⟨oD, hoD⟩ : ∃ u, h'.get? D = some u := by
          have ⟨o, _, _, _, ho, _⟩ := new
          exact ⟨o, ho⟩
        have I10 := I9.write (e := D) (t' := s9.toks + 1) (by rw [hD9]; trivial) (.inl rfl) (fun b u hb hu => (sb.2 b hb).trans hu) ⟨oD, hoD⟩ (setK_new new)
        have pin : ∀ b ∈ fp, ∀ o, s7.heap.get? b = some o → h'.get? b = some o ∧ upd H9 D (SetK X.prog X.w D (fun j => memK acc j || decide (j = key)) (if memK acc key = true then m5 else m5 + 1)) b = none := fun b hb o e =>
          let z := I10.pin (b, o) (List.mem_append_right _ (List.mem_append_right _ (mem_pinsAt hb e)))
          ⟨z.1, z.2.1⟩
        have hl8 : (wipe σ (own.map (·.2))).length = σ8.length := by rw [← wipe_idem σ (own.map (·.2)), ← hw8, wipe_length]
        refine ⟨ws.length - (k + 1), by omega, k + 1, _, rfl, hlt, (I10.unpinned (pins := [])).weak hl8 (fun j z e => ?_), T.keep _ _ _ st7 fun b hb o e => (pin b hb o e).1, fun b hb => ?_, ?_⟩
        · have hw := hw8.trans (wipe_idem σ (own.map (·.2)))
          rw [← hw] at e
          exact (wipe_some e).1
        · obtain ⟨o, e, _⟩ := T.obj _ _ st7 b hb
          exact (pin b hb o e).2
        · rw [hW]
          have q5 : Ext mu2 mu9 H5 H9 := (Ext.same sm).trans E9
          have r50 : Rel X.K mu9 (fun a => B a ∨ a = D) O H9 (wipe σ (own.map (·.2))) (wipeE ρ (own.map (·.2))) S4 := r2.ext q5 r9.sto
          refine ⟨mu9, key :: acc, S4, _, (x2.trans q5).at_new nD, r50.at_ban (.inr rfl) _ PlH.setK, (p2.ext q5).at_ban (.inl (.inr rfl)), by rw [upd_same]; congr 2; funext j; show (memK acc j || decide (j = key)) = (decide (j = key) || memK acc j); exact Bool.or_comm _ _, ?_, el⟩
          split
          · simp only [List.length_cons]; omega
          · simp only [List.length_cons]; omega
      · rw [if_neg hz] at el
        cases el
    · have ek : k = ws.length := by omega
      subst ek
      rw [List.drop_length] at el
      cases el
      refine thnF (T.done (X.blk s3 H3 scope ce fp) rfl rfl rfl hc ws.length [] s5 _ H5 (fun _ _ => False) I5 (fpB I5 rfl n5) st5 hstop) fun r s6 ⟨hr, I6⟩ => ?_
      subst hr
      have I7 := back I6
      have nC : H5 C = none := by
        have z : H5 ce.locals = none := I6.free
        rw [cL] at z
        exact z
      obtain ⟨m, hn, _⟩ := I6.loc
      have hn : s6.heap.Ns ce.locals m := hn
      rw [cL] at hn
      have rD := rl1.ban nD (SetK X.prog X.w D (memK ks) m5) PlH.setK
      have nm : D ∉ mu2 := (r2.bn D (.inl (.inr rfl))).2
      have ED : Ext mu1 mu2 (upd H2 D (SetK X.prog X.w D (memK ks) m5)) H5 := ⟨x2.pre, fun a o h na => by
        by_cases c : a = D
        · subst c
          rw [upd_same] at h
          rw [← h]
          exact hD5
        · rw [upd_ne c] at h
          exact x2.keep a o h na, fun a h na => by
        rw [upd_ne (fun (c : a = D) => nm (by rw [← c]; exact h))]
        exact x2.new a h na⟩
      exact fin D C s6 m H5 mu2 m5 I7 (E1.trans x2) (rD.ext ED r2.sto) nT hD5 hn (I3.fpOk (Nat.le_of_eq hC) nC)
  exact PpSet.codeAny_compStart_set loop (T.self X.A 0 _ _ _ st4 loop)
end
end DL
namespace DL
open PySem PySem.Spec PyProof.Rows L2
theorem wipe_get {σ : Sg} {i : Nat} : ∀ {vs : List Nat}, i ∉ vs → (wipe σ vs)[i]? = σ[i]?
  | [], _ => rfl
  | v :: vs, h => by
    show ((wipe σ vs).set v none)[i]? = _
    rw [List.getElem?_set_ne (fun (c : v = i) => h (by rw [← c]; exact List.mem_cons_self))]
    exact wipe_get fun m => h (List.mem_cons_of_mem _ m)
def sWords (i : Nat) (f : Ev → Sto → R (List Key)) (k : List Key → Ms) : Ms := fun ρ S => match f ρ S with
  | .ok ks S1 => if i < ρ.length then k ks (ρ.set i none) S1 else .bad
  | .bad => .bad
def tMem (j : Nat) (ks : List Key) : Mt := fun ρ S => match ρ[j]? with
  | some (some (.val w)) => match kD w with
    | some k => .ok (memK ks k) S
    | none => .bad
  | _ => .bad
def tIn (X : Cx) (i : Nat) (F : List Key → Mx) : TE := fun σ H Q => ∃ ρ S mu, ∃ B O : Addr → Prop, ∃ D0 ks n w S', Rel X.K mu (fun a => B a ∨ a = D0) O H σ ρ S ∧ σ[i]? = some (some (V.ref D0)) ∧ H D0 = some (SetK X.prog X.w D0 (memK ks) n) ∧ F ks ρ S = .ok w S' ∧
  ∀ v H' mu', Ext mu mu' H H' → StOk X.K mu' (fun a => (B a ∨ a = D0) ∨ O a) H' S' → Rp X.K mu' (fun a => (B a ∨ a = D0) ∨ O a) H' v w → Q v H'
section
variable {X : Cx} {i j : Nat} {F : List Key → Mx} {e : Expr}
theorem pa_in (h : PE X e (tIn X i F)) (hs : starEach [e] X.env = [(false, eval e X.env)] := by rfl) : PA X [e] (fun σ H Q => tIn X i F σ H fun v H1 => Q [v] H1) := by
  have := pa_cons h pa_nil hs
  exact PA.weak this fun σ H Q q => q
theorem in_weak {g : List Wd → Option Wd} : ∀ σ H Q, tIn X i (fun ks => mCB g (aCons (F ks) aNil)) σ H Q → tCB (rCD X.K g) (fun σ H Q => tIn X i F σ H fun v H1 => Q [v] H1) σ H Q := fun σ H Q ⟨ρ, S, mu, B, O, D0, ks, n, w, S', rl, hi, hD, e, q⟩ => by
  obtain ⟨xs, S1, e1, e2⟩ := R.bnd_inv e
  obtain ⟨e3, rfl⟩ := R.of_inv e2
  obtain ⟨x, S2, e4, e5⟩ := R.bnd_inv e1
  cases e5
  exact ⟨ρ, S, mu, B, O, D0, ks, n, x, _, rl, hi, hD, e4, fun v H1 mu1 E st p => ⟨mu1, _, _, [x], w, st, rl.bn.ext E, .cons p .nil, e3, fun v' H2 sm pv => q v' H2 mu1 (E.trans (.same sm)) (st.same sm) pv⟩⟩
theorem in_callB {id : String} {x : Str} {g : List Wd → Option Wd} {p pos : Pos} (hc : CallD X (.builtin id) g) (hg : Gl X x) (hm : X.mg x = none) (hv : bootBuiltins x = some (.builtin id)) (h : PE X e (tIn X i F)) (hn : x ≠ "__name__" := by decide) (hdb : (x == ("__debug__" : Str)) = false := by decide)
    (he : starEach [e] X.env = (false, eval e X.env) :: starEach [] X.env := by rfl) (hpl : (backTo pos (starEach [] X.env)).any (·.1) = false := by rfl) : PE X (.Call (.Name x p) [e] [] pos) (tIn X i fun ks => mCB g (aCons (F ks) aNil)) :=
  PE.weak (pe_callB hc.r hg hm hv (pa_in h he) hn hdb he hpl) in_weak
theorem in_callTy {T : String} {x : Str} {g : List Wd → Option Wd} {p pos : Pos} (hc : CallD X (.type T) g) (hg : Gl X x) (hm : X.mg x = none) (hv : bootBuiltins x = some (.type T)) (h : PE X e (tIn X i F)) (hn : x ≠ "__name__" := by decide) (hdb : (x == ("__debug__" : Str)) = false := by decide)
    (he : starEach [e] X.env = (false, eval e X.env) :: starEach [] X.env := by rfl) (hpl : (backTo pos (starEach [] X.env)).any (·.1) = false := by rfl) : PE X (.Call (.Name x p) [e] [] pos) (tIn X i fun ks => mCB g (aCons (F ks) aNil)) :=
  PE.weak (pe_callTy hc.r hg hm hv (pa_in h he) hn hdb he hpl) in_weak
variable {fi : Mi} {g : Mg} {fe : Mx} {vs : List Nat}
theorem lc_coreS {tg : TG}
    (hP : ∀ J v w ws, ItOk X.K J v w ws → ∀ (mu : List Addr) (B O : Addr → Prop) (H : Hp) (S : Sto), StOk X.K mu (fun a => B a ∨ O a) H S → Bn mu (fun a => B a ∨ O a) H → RpAll X.K mu (fun a => B a ∨ O a) H v w →
      (∀ (i : Nat) (d : Wd), ws[i]? = some d → J.go i H ∧ ∀ x H', J.yld i H x H' → Same H H' ∧ ∀ (σ : Sg) (ρ ρ' : Ev) (Q : Sg → Hp → Prop), Rel X.K mu B O H' σ ρ S → g d ρ = some ρ' → (∀ σ', Rel X.K mu B O H' σ' ρ' S → wipe σ' vs = wipe σ vs → Q σ' H') → tg x σ H' Q) ∧ J.stop ws.length H)
    (hiv : i ∉ vs) :
    ∀ σ H Q, tIn X i (fun ks => mLc vs fi g (tMem j ks) fe) σ H Q → tLc (tDi X.K (ItOk X.K) fi) tg (tTest (tOp (rSInK X.prog X.w false) (tVar j) (tVar i))) (tD X.K fe) vs σ H Q := fun σ H Q ⟨ρ, S, mu, B0, O, D0, ks, n, w, S', rl, hi, hD0, e, q⟩ => by
  obtain ⟨B, hB⟩ : ∃ B : Addr → Prop, B = fun a => B0 a ∨ a = D0 := ⟨_, rfl⟩
  have bD0 : B D0 := by rw [hB]; exact .inr rfl
  rw [← hB] at rl
  have q : ∀ v H' mu', Ext mu mu' H H' → StOk X.K mu' (fun a => B a ∨ O a) H' S' → Rp X.K mu' (fun a => B a ∨ O a) H' v w → Q v H' := by rw [hB]; exact q
  obtain ⟨ws, S1, e1, e⟩ := R.bnd_inv e
  obtain ⟨res, S2, e2, e⟩ := R.bnd_inv e
  cases e
  refine ⟨ρ, S, mu, B, O, rl, ws, S1, e1, fun J v u H1 mu1 hJ E st p D nD => ?_⟩
  have rl1 := rl.ext E st
  have hD1 : H1 D0 = _ := E.keep D0 _ hD0 (rl.bn D0 (.inl bD0)).2
  have hDD : D0 ≠ D := fun c => by rw [c, nD] at hD1; cases hD1
  have hiw : (wipe σ vs)[i]? = some (some (V.ref D0)) := (wipe_get hiv).trans hi
  have nT : ¬ (B D ∨ O D) := rl1.bn.fresh nD
  have rb := (rl1.wipe vs).ban nD (.lst [])
  have pb : RpAll X.K mu1 (fun a => (B a ∨ a = D) ∨ O a) (upd H1 D (.lst [])) v u := ((p.ban nD).weak fun a z => z.elim (fun z => z.elim (fun z => .inl (.inl z)) .inr) fun z => .inl (.inr z)).same (same_upd nD)
  refine ⟨fun i k H2 => k = ws.length - i ∧ i ≤ ws.length ∧ ∃ av acc S3 mu2, Ext mu1 mu2 H1 H2 ∧ Rel X.K mu2 (fun a => B a ∨ a = D) O H2 (wipe σ vs) (wipeE ρ vs) S3 ∧ RpAll X.K mu2 (fun a => (B a ∨ a = D) ∨ O a) H2 v u ∧ H2 D = some (.lst av) ∧ RpAll X.K mu2 (fun a => (B a ∨ a = D) ∨ O a) H2 av acc ∧
      lcLoop g (tMem j ks) fe (wipeE ρ vs) (ws.drop i) acc S3 = .ok res S',
    ⟨ws.length, by omega, Nat.zero_le _, [], [], S1, mu1, (Ext.refl _ _).at_new nD, rb, pb, upd_same, .nil, e2⟩, fun i' k H2 ⟨ek, hi', av, acc, S3, mu2, x2, r2, p2, hD, pa, el⟩ => ?_⟩
  obtain ⟨hgo, hstop⟩ := hP J v u ws hJ mu2 (fun a => B a ∨ a = D) O H2 S3 r2.sto r2.bn p2
  by_cases c : i' < ws.length
  · obtain ⟨go, yld⟩ := hgo i' ws[i'] (List.getElem?_eq_getElem c)
    rw [List.drop_eq_getElem_cons c] at el
    unfold lcLoop at el
    cases y : g ws[i'] (wipeE ρ vs) with
    | none => rw [y] at el; cases el
    | some ρ3 =>
      rw [y] at el
      simp only at el
      obtain ⟨b, S4, e4, el⟩ := R.bnd_inv el
      refine .inr ⟨go, fun H' => ∃ av acc S3 mu2, Ext mu1 mu2 H1 H' ∧ Rel X.K mu2 (fun a => B a ∨ a = D) O H' (wipe σ vs) (wipeE ρ vs) S3 ∧ RpAll X.K mu2 (fun a => (B a ∨ a = D) ∨ O a) H' v u ∧ H' D = some (.lst av) ∧ RpAll X.K mu2 (fun a => (B a ∨ a = D) ∨ O a) H' av acc ∧
          lcLoop g (tMem j ks) fe (wipeE ρ vs) (ws.drop (i' + 1)) acc S3 = .ok res S', fun H' ⟨av, acc, S5, mu5, h1, h2, h3, h4, h5, h6⟩ => ⟨ws.length - (i' + 1), by omega, rfl, by omega, av, acc, S5, mu5, h1, h2, h3, h4, h5, h6⟩, fun x H' hy => ?_⟩
      obtain ⟨sm, k2⟩ := yld x H' hy
      have r3 := r2.ext (.same sm) (r2.sto.same sm)
      refine k2 (wipe σ vs) (wipeE ρ vs) ρ3 _ r3 y fun σ' r' hw => ⟨hw.trans (wipe_idem σ vs), ?_⟩
      have hiσ : σ'[i]? = some (some (V.ref D0)) := by
        have z := hw.trans (wipe_idem σ vs)
        rw [← z] at hiw
        exact (wipe_some hiw).1
      unfold tMem at e4
      split at e4
      · rename_i w0 hw0
        split at e4
        · rename_i kk hkk
          cases e4
          obtain ⟨vj, hvj, pj⟩ := r'.val j w0 hw0
          have ev := kD_of pj hkk
          subst ev
          have hDs : H' D0 = _ := sm _ _ (x2.keep D0 _ hD1 (rl1.bn D0 (.inl bD0)).2)
          refine ⟨_, hvj, _, hiσ, kk, D0, _, _, rfl, rfl, hDs, _, rfl, ?_⟩
          have D4 : H' D = some (.lst av) := sm D _ hD
          have r40 : Rel X.K mu2 (fun a => B a ∨ a = D) O H' (wipe σ vs) (wipeE ρ vs) S3 := r3
          dsimp only
          rw [if_neg Bool.false_ne_true]
          cases hb : memK ks kk with
          | false =>
            rw [hb] at el
            rw [if_neg Bool.false_ne_true] at el ⊢
            exact ⟨av, acc, S3, mu2, x2.trans (.same sm), r40, p2.same sm, D4, pa.same sm, el⟩
          | true =>
            rw [hb] at el
            rw [if_pos rfl] at el ⊢
            obtain ⟨z, S5, e5, el⟩ := R.bnd_inv el
            by_cases hz : acc.length < sizeLine
            · rw [if_pos hz] at el
              refine tD.mk r' e5 fun yv H5 mu5 E5 r5 p5 => ?_
              have q5 : Ext mu2 mu5 H2 H5 := (Ext.same sm).trans E5
              have D5 : H5 D = some (.lst av) := E5.keep D _ D4 (r40.bn D (.inl (.inr rfl))).2
              have r50 : Rel X.K mu5 (fun a => B a ∨ a = D) O H5 (wipe σ vs) (wipeE ρ vs) S5 := r2.ext q5 r5.sto
              have pa5 := pa.ext q5
              refine ⟨av, D5, by rw [pa.length]; exact hz, av ++ [yv], acc ++ [z], S5, mu5, (x2.trans q5).at_new nD, r50.at_ban (.inr rfl) _, (p2.ext q5).at_ban (.inl (.inr rfl)), upd_same, ?_, el⟩
              exact (pa5.append (.cons p5 .nil)).at_ban (.inl (.inr rfl))
            · rw [if_neg hz] at el
              cases el
        · cases e4
      · cases e4
  · have ei : i' = ws.length := by omega
    subst ei
    rw [List.drop_length] at el
    cases el
    exact .inl ⟨hstop, q (.ref D) H2 mu2 (E.trans x2) (r2.sto.weak fun a z => z.imp .inl id) (.lst (.inl ⟨.inl hD, (r2.bn D (.inl (.inr rfl))).2, nT⟩) (pa.weak fun a z => z.imp .inl id))⟩
variable {elt tgx iter : Expr} {scope : Scope} {own : List (Str × Nat)} {pos : Pos}
theorem in_lc {q A : Str} {px pa pc : Pos} (hc : X.calm = true) (hN : X.N.Nodup) (hi : Di X tgx iter fi) (ok : BlkOk X.N X.env.scope scope own) (hiv : i ∉ own.map (·.2))
    (hg : DgF (X.fam scope) X.K (own.map (·.2)) tgx g) (hj : X.N[j]? = some q) (hA : X.N[i]? = some A)
    (hv : ∀ (s : Shared) (H : Hp) (C : Addr) (cl : List (Str × Addr)) (fp : List Addr), Vis (X.blk s H scope (compEnvC scope cl C X.env) fp).env.scope q ∧ Vis (X.blk s H scope (compEnvC scope cl C X.env) fp).env.scope A)
    (he : ∀ (s : Shared) (H : Hp) (C : Addr) (cl : List (Str × Addr)) (fp : List Addr), De (X.blk s H scope (compEnvC scope cl C X.env) fp) elt fe) (hs : ∀ x, foldedSetIterable iter X.env x = pure x := by intro _; rfl)
    (dq : (q == ("__debug__" : Str)) = false := by decide) (dq2 : (q == ("__classdict__" : Str)) = false := by decide) (dA : (A == ("__debug__" : Str)) = false := by decide) (dA2 : (A == ("__classdict__" : Str)) = false := by decide) :
    PE X (.ListComp elt [⟨tgx, iter, [.Compare (.Name q px) [.In] [.Name A pa] pc], 0⟩] scope pos) (tIn X i fun ks => mLc (own.map (·.2)) fi g (tMem j ks) fe) := by
  obtain ⟨tg, pg, kg⟩ := hg
  refine PE.weak (pe_lc (tt := tTest (tOp (rSInK X.prog X.w false) (tVar j) (tVar i))) (te := tD X.K fe) hc hN hi ok (fun s H C cl fp => pg (s, H, C, cl, fp)) (fun s H C cl fp => pts_one (pt_cmpR (X := X.blk s H scope (compEnvC scope cl C X.env) fp) or_sinK (pe_var hj (hv s H C cl fp).1 dq dq2) (pe_var hA (hv s H C cl fp).2 dA dA2) rfl)) he hs) (lc_coreS (fun J v w ws hJ mu B O H S st bn p => ?_) hiv)
  obtain ⟨h1, h2⟩ := hJ mu _ H S st bn p
  exact ⟨fun i d e => ⟨(h1 i d e).1, fun x H' hy => ⟨((h1 i d e).2 x H' hy).1, fun σ ρ ρ' Q r eg k => kg mu B O H' σ ρ ρ' S x d Q r ((h1 i d e).2 x H' hy).2 eg k⟩⟩, h2⟩
def tScK (X : Cx) (f : Ev → Sto → R (List Key)) : TE := fun σ H Q => ∃ ρ S mu, ∃ B O : Addr → Prop, ∃ ks S', Rel X.K mu B O H σ ρ S ∧ f ρ S = .ok ks S' ∧ ∀ Dd H' mu' n, Ext mu mu' H H' → Rel X.K mu' (fun a => B a ∨ a = Dd) O H' σ ρ S' → ¬ (B Dd ∨ O Dd) → H' Dd = some (SetK X.prog X.w Dd (memK ks) n) → Q (.ref Dd) H'
theorem pe_sck (hc : X.calm = true) (hN : X.N.Nodup) (hi : DiP X tgx iter fi) (ok : BlkOk X.N X.env.scope scope own) (hg : DgPF (X.fam scope) X.K (own.map (·.2)) tgx g)
    (he : ∀ (s : Shared) (H : Hp) (C : Addr) (cl : List (Str × Addr)) (fp : List Addr), De (X.blk s H scope (compEnvC scope cl C X.env) fp) elt fe) (hs : ∀ x, foldedSetIterable iter X.env x = pure x := by intro _; rfl) :
    PE X (.SetComp elt [⟨tgx, iter, [], 0⟩] scope pos) (tScK X (mSc (own.map (·.2)) fi g fe)) := by
  refine ⟨fun pins s σ H Q I ⟨ρ, S, mu, B, O, ks, S', rl, e, q⟩ => ?_⟩
  rw [PpSet.eval_SetComp]
  refine sc_keys hc hN I hi ok hg he hs rl e fun D C s' m H' mu' n I' E r nT hD hn f => ⟨m, hn, fun h'' sb => ?_⟩
  obtain ⟨f0, f1, f2, f3, f4, f5⟩ := f
  exact ⟨.ref D, H', I'.turned (t' := s'.toks) (fun b o hb e => (sb.2 b hb).trans e) f0 f1 f3 f4 f5, rfl, q D H' mu' n E r nT hD⟩
theorem dss_words {y : Str} {py spos rpos : Pos} (hc : X.calm = true) (hN : X.N.Nodup) (hy : X.N[i]? = some y) (hyl : Loc X.env.scope y) (hi : DiP X tgx iter fi) (ok : BlkOk X.N X.env.scope scope own)
    (hg : DgPF (X.fam scope) X.K (own.map (·.2)) tgx g)
    (he : ∀ (s : Shared) (H : Hp) (C : Addr) (cl : List (Str × Addr)) (fp : List Addr), De (X.blk s H scope (compEnvC scope cl C X.env) fp) elt fe) (hr : PE X e (tIn X i F)) (hf : X.fn y = true ∨ X.env.scope.names.lookup y = some .local) (hs : ∀ x, foldedSetIterable iter X.env x = pure x := by intro _; rfl)
    (hsw : swapsWith (.SetComp elt [⟨tgx, iter, [], 0⟩] scope pos) (some (.Name y py)) spos.line X.env = pure false := by rfl) :
    Dss X [.Assign [.Name y py] (.SetComp elt [⟨tgx, iter, [], 0⟩] scope pos) spos, .Return (some e) rpos] (sWords i (mSc (own.map (·.2)) fi g fe) fun ks => sRet (F ks)) :=
  PSs.weak (pss_cons (ps_set hN hy hyl (pe_sck hc hN hi ok hg he hs) hsw hf) (pss_one (ps_ret hr))) fun D σ H ⟨ρ, S, mu, B, O, rl, q⟩ => by
    unfold sWords at q
    cases z : mSc (own.map (·.2)) fi g fe ρ S with
    | bad => rw [z] at q; exact q.elim
    | ok ks S1 =>
      rw [z] at q
      simp only at q
      by_cases il : i < ρ.length
      case neg => rw [if_neg il] at q; exact q.elim
      rw [if_pos il] at q
      unfold sRet at q
      refine ⟨ρ, S, mu, B, O, ks, S1, rl, z, fun Dd H' mu' n E r nT hD => ?_⟩
      cases z2 : F ks (ρ.set i none) S1 with
      | bad => rw [z2] at q; exact q.elim
      | ok w S2 =>
        rw [z2, sOf_ok] at q
        refine ⟨ρ.set i none, S1, mu', B, O, Dd, ks, n, w, S2, r.setAny i (.ref Dd), ?_, hD, z2, fun v H2 mu2 E2 st p => ?_⟩
        · exact List.getElem?_set_self (by rw [rl.len]; exact il)
        · have st' := st.weak (T' := fun a => B a ∨ O a) fun a z => z.imp .inl id
          exact q v H2 mu2 O ((E.trans E2).toS st') st' (p.weak fun a z => z.imp .inl id)
end
end DL
namespace DL
open PySem PySem.W PySem.SeqAt PySem.Calls PyProof.Rows
section
variable {A : Around} {s : Shared}
theorem call_tuple_ltU {prog : Program} {w : World} {E : Value → Shared → Prop} {Q : Value → Shared → Prop} {l b : Addr} {items items2 : Array Value} {e r : Nat → Bool} (hl : s.heap.IsTuple l items) (hb : s.heap.IsTuple b items2)
    (he : ∀ j (h1 : j < items.size) (h2 : j < items2.size), EqAt A.in1 s items[j] items2[j] (e j)) (hr : ∀ j (h1 : j < items.size) (h2 : j < items2.size), e j = false → RcLt A.in1 s items[j] items2[j] (r j))
    (h : Q (.bool (firstLt e r (decide (items.size < items2.size)) (List.range (min items.size items2.size)))) s) : wpAny (model prog w) A (call (.builtin "tuple.__lt__") [.ref l, .ref b]) Q E s := by
  obtain ⟨⟨cls, dd, data, sl⟩, ho, hc, n, hd⟩ := id hl
  obtain ⟨⟨cls2, dd2, data2, sl2⟩, ho2, hc2, n2, hd2⟩ := id hb
  simp only at hc hd hc2 hd2
  subst hc hd hc2 hd2
  exact call_meets F.slot_tuple_lt ⟨_, ho, rfl⟩ F.entry_tuple_lt (F.args_tuple_lt_2 _ _) (tuple_ltAt l b items items2 n n2 dd dd2 sl sl2 e r) ⟨ho, ho2, he, hr, h⟩
variable {prog : Program} {w : World} {E : Value → Shared → Prop}
theorem oneLt_tupU {f : Bool} {xs ys : List PyData} {a b : Value} {as bs : List Addr} {Q : Bool → Shared → Prop} (ra : Reads s.heap a (.tuple xs) as) (rb : Reads s.heap b (.tuple ys) bs) (h : alike (.tuple xs) (.tuple ys) = true)
    (hu : A.units + min (PyData.depth (.tuple xs)) (PyData.depth (.tuple ys)) < cLine) (hq : Q (dataLt (.tuple xs) (.tuple ys)) s) : wpAny (model prog w) A (oneLt' f a b) Q E s := by
  cases f with
  | false => exact oneLt_alike (fun z => nomatch z) ra rb h (fun z => nomatch z) hu hq
  | true =>
    have hal : alikeAll xs ys = true := by simpa [alike] using h
    cases ra with
    | @tuple l o vs n _ as₁ h1 h2 h3 h4 =>
      cases rb with
      | @tuple l' o' vs' n' _ bs₁ k1 k2 k3 k4 =>
        have n1 : vs.size = xs.length := by simpa using ReadsAll.length _ _ _ h4
        have n2 : vs'.size = ys.length := by simpa using ReadsAll.length _ _ _ k4
        rw [dataLt_tuple, ← firstLt_toks xs ys hal, ← n1, ← n2] at hq
        rw [oneLt'_eq]
        simp only [if_true]
        refine wpAny_bind (wpAny_cRoomFor (room_here hu) ?_)
        refine wpAny_bind (wpAny_callSpecialIfBound?_slot (T := "tuple") ⟨_, h1, h2⟩ F.slot_tuple_lt (call_tuple_ltU (e := pairEq xs ys) (r := fun j => dataLt (xs.getD j .none) (ys.getD j .none)) ⟨_, h1, h2, _, h3⟩ ⟨_, k1, k2, _, k3⟩ (fun j j1 j2 => ?_) (fun j j1 j2 hj => ?_) ?_))
        · have := eqAt_alikeAll xs ys A.in1 s vs.toList vs'.toList _ _ h4 k4 hal (room_in hu) j (by simpa using j1) (by simpa using j2)
          simpa using this
        · have := rcLt_alikeAll xs ys A.in1 s vs.toList vs'.toList _ _ h4 k4 hal (room_in hu) j (by simpa using j1) (by simpa using j2) hj
          simpa using this
        · exact wpAny_truthy_bool hq
end
def TupF (h : Heap) (vs : List Value) (os : List (Option Value)) : Prop := EachIs (fun v o => ∃ (a : Addr) (ob : Obj) (xs : Array Value) (n : Nat), v = .ref a ∧ h.get? a = some ob ∧ ob.cls = .type "tuple" ∧ ob.data = .seq xs n ∧ xs[0]? = o) vs os
section
variable {M : Model} {A : Around} {E : Value → Shared → Prop} {s : Shared}
theorem firsts_any : ∀ (vs : List Value) (os : List (Option Value)) {Q : List (Option Value) → Shared → Prop}, TupF s.heap vs os → Q os s → wpAny M A (vs.mapM firstOfTuple') Q E s
  | _, _, Q, .nil, h => by rw [List.mapM_nil]; exact wpAny_pure h
  | _, _, Q, .cons (a := v) (b := o) (as := vs) (bs := os) ⟨a, ob, xs, n, e, ho, hc, hd, hf⟩ t, h => by
    subst e
    rw [List.mapM_cons]
    refine wpAny_bind ?_
    rw [kas_first_eq]
    refine wpAny_bind (Looks.here (show Looks M s.heap (typeOf (.ref a)) ob.cls from (Looks.ld ho).andThen .now) ?_)
    rw [hc, if_neg (by first | decide | simp)]
    refine wpAny_bind (listItems_at ho hd (wpAny_pure ?_))
    rw [hf]
    exact wpAny_bind (firsts_any vs os (Q := fun bs s' => wpAny M A (pure (o :: bs)) Q E s') t (wpAny_pure h))
theorem looks_tupF {vs : List Value} {os : List (Option Value)} (t : TupF s.heap vs os) : ∀ v ∈ vs, Looks M s.heap (typeOf v) (.type "tuple") := by
  intro v hv
  obtain ⟨o, _, a, ob, xs, n, rfl, ho, hc, _⟩ := EachIs.left t v hv
  show Looks M s.heap (typeOf (Value.ref _)) (Value.type "tuple")
  exact hc ▸ (Looks.ld ho).andThen .now
theorem kind_tupF {vs : List Value} {os : List (Option Value)} {Q : SortKind → Shared → Prop} (t : TupF s.heap vs os) (h2 : 2 ≤ vs.length) (hn : os.toArray.all (·.isSome) = false)
    (h : Q (if (os.toArray[0]?.bind id).isSome = true then general' else oneType') s) : wpAny M A (keyKind' vs.toArray) Q E s := by
  rw [kat_kind_eq, List.mapM_toArray, map_eq_pure_bind]
  refine wpAny_bind (wpAny_bind (firsts_any vs os t (wpAny_pure ?_)))
  rw [if_neg (by rw [hn]; exact Bool.false_ne_true)]
  by_cases c : (os.toArray[0]?.bind id).isSome = true
  · rw [if_pos c] at h ⊢
    exact wpAny_pure h
  · rw [if_neg c] at h ⊢
    obtain ⟨v₁, v₂, rest, rfl⟩ : ∃ v₁ v₂ rest, vs = v₁ :: v₂ :: rest := by
      match vs, h2 with
      | [], h2 => simp at h2
      | [_], h2 => simp at h2
      | v₁ :: v₂ :: rest, _ => exact ⟨v₁, v₂, rest, rfl⟩
    rw [oneTypeOnly'_eq, List.mapM_toArray, map_eq_pure_bind]
    refine wpAny_bind (wpAny_bind (wpAny_bind (kas_mapM (r := Value.type "tuple") _ (fun v hv Q' hq => (looks_tupF t v hv).here hq) (wpAny_pure ?_))))
    have hall : ((List.map (fun _ => Value.type "tuple") (v₁ :: v₂ :: rest)).toArray.all fun x => x == Value.type "tuple") = true := by
      simp only [List.all_toArray, List.all_map, List.all_eq_true]
      intro _ _
      exact beq_self_eq_true _
    have h0 : (List.map (fun _ => Value.type "tuple") (v₁ :: v₂ :: rest)).toArray[0]? = some (Value.type "tuple") := by simp
    rw [h0]
    simp only [hall, if_true]
    exact wpAny_pure (wpAny_pure h)
end
section
variable {prog : Program} {w : World} {A : Around} {s : Shared}
theorem tupF_of {h : Heap} : ∀ {vs : List Value} {ds : List PyData}, EachIs (fun v d => ∃ as, Reads h v d as) vs ds → (∀ d, d ∈ ds → ∃ xs, d = .tuple xs) → ∃ os, TupF h vs os ∧ ((∀ o ∈ os, o.isSome = true) → ∀ d, d ∈ ds → ∃ x r, d = .tuple (x :: r))
  | _, _, .nil, _ => ⟨[], .nil, fun _ d hd => nomatch hd⟩
  | _, _, .cons (b := d) ⟨as, r⟩ t, ht => by
    obtain ⟨os, h1, h2⟩ := tupF_of t fun d hd => ht d (List.mem_cons_of_mem _ hd)
    obtain ⟨xs, rfl⟩ := ht _ (List.mem_cons_self ..)
    cases r with
    | @tuple a o ys n _ _ ho hc hd hr =>
      refine ⟨ys[0]? :: os, .cons ⟨a, o, ys, n, rfl, ho, hc, hd, rfl⟩ h1, fun hs d hd' => ?_⟩
      rcases List.mem_cons.mp hd' with rfl | hd'
      · have e := hs _ (List.mem_cons_self ..)
        have n1 : ys.size = xs.length := by simpa using ReadsAll.length _ _ _ hr
        cases xs with
        | cons x r => exact ⟨x, r, rfl⟩
        | nil =>
          rw [Array.getElem?_eq_none (by rw [n1]; exact Nat.le_refl _)] at e
          cases e
      · exact h2 (fun o ho => hs o (List.mem_cons_of_mem _ ho)) d hd'
theorem SortsAt.tups {vs : List Value} {ds : List PyData} (e : EachIs (fun v d => ∃ as, Reads s.heap v d as) vs ds) (hal : AllAlike ds) (ht : ∀ d, d ∈ ds → ∃ xs, d = .tuple xs) (hu : ∀ d, d ∈ ds → A.units + d.depth < cLine) : SortsAt prog w A s (dataKind s.heap ds) vs := by
  obtain ⟨os, h1, h2⟩ := tupF_of e ht
  by_cases c : ∀ o ∈ os, o.isSome = true
  · exact SortsAt.data e hal (.inl (h2 c)) hu
  · refine ⟨fun v hv => ?_, _, ?_, fun z E Q hq => kind_tupF h1 z ?_ hq⟩
    · obtain ⟨d, hd, as, r⟩ := e.left v hv
      exact ⟨_, dataKind_some hal hd r⟩
    · intro E x y a b Q ha hb hq
      obtain ⟨d, as, hd, ra, rfl⟩ := dataKind_inv ha
      obtain ⟨d', as', hd', rb, rfl⟩ := dataKind_inv hb
      have hr : A.units + min d.depth d'.depth < cLine := Nat.lt_of_le_of_lt (Nat.add_le_add_left (Nat.min_le_left _ _) _) (hu d hd)
      have hdd := hal d hd d' hd'
      obtain ⟨xs, rfl⟩ := ht d hd
      obtain ⟨ys, rfl⟩ := ht d' hd'
      split
      · exact oneLt_tupU (f := false) ra rb hdd hr hq
      · rw [keyLt'_oneType]
        exact oneLt_tupU ra rb hdd hr hq
    · rw [List.all_toArray]
      exact Bool.eq_false_iff.2 fun z => c (List.all_eq_true.1 z)
theorem call_sort_U {κ : PyProof.Rows.KeyKind} {E : Value → Shared → Prop} {a : Addr} {vs : List Value} {n : Nat} {Q : Value → Shared → Prop} (ho : s.heap.get? a = some (seqObj "list" vs.toArray n)) (S : SortsAt prog w A.in1 { s with heap := sortingHeap s.heap a vs } κ vs) (hL : vs.length ≤ sizeLine)
    (h : Q .none { s with heap := sortedHeap s.heap a vs (sortVals κ false vs vs).toArray }) : wpAny (model prog w) A (call (.builtin "list.sort") [.ref a]) Q E s :=
  wpAny_call_entry slot_list_sort ⟨_, ho, rfl⟩ entry_list_sort (list_sort_vals ho S hL ⟨_, rfl, h⟩) (args_list_sort _)
end
end DL
namespace DL
open PySem PySem.Spec PyProof.Rows L2 PySem.W
def ltT : List Int → List Int → Bool
  | [], [] => false
  | [], _ :: _ => true
  | _ :: _, [] => false
  | x :: xs, y :: ys => decide (x < y) || (decide (x = y) && ltT xs ys)
def tupD (k : List Int) : Wd := .tuple (k.map .int)
theorem lt_toks : ∀ (xs ys : List Int), PyProof.Rows.lexLt itemOrd (keyToksAll (xs.map PyData.int)) (keyToksAll (ys.map PyData.int)) = ltT xs ys
  | [], [] => by simp [keyToksAll, PyProof.Rows.lexLt, itemLt, ltT]
  | [], y :: ys => by simp [keyToksAll, PyProof.Rows.lexLt, itemLt, ltT]
  | x :: xs, [] => by simp [keyToksAll, PyProof.Rows.lexLt, itemLt, ltT]
  | x :: xs, y :: ys => by
    have ih := lt_toks xs ys
    simp only [List.map_cons, toks_all_cons, keyToks, List.cons_append, List.nil_append, PyProof.Rows.lexLt, itemLt, ih, ltT]
    rcases Int.lt_trichotomy x y with c | c | c
    · simp [c]
    · subst c
      simp
    · have h1 : ¬ x < y := by omega
      have h2 : ¬ x = y := by omega
      simp [c, h1, h2]
theorem lt_tupD (a b : List Int) : dataLt (tupD a) (tupD b) = ltT a b := by
  unfold tupD
  rw [dataLt_tuple, lt_toks]
theorem ltT_total : ∀ {a b : List Int}, ltT a b = false → ltT b a = false → a = b
  | [], [], _, _ => rfl
  | [], _ :: _, h, _ => by cases h
  | _ :: _, [], _, h => by cases h
  | x :: xs, y :: ys, h, h2 => by
    unfold ltT at h h2
    simp only [Bool.or_eq_false_iff, decide_eq_false_iff_not, Bool.and_eq_false_iff] at h h2
    have e : x = y := by omega
    subst e
    rw [ltT_total (h.2.resolve_left (by simp)) (h2.2.resolve_left (by simp))]
theorem ltT_irr : ∀ (a : List Int), ltT a a = false
  | [] => rfl
  | x :: xs => by simp [ltT, ltT_irr xs]
theorem ltT_trans : ∀ {a b c : List Int}, ltT a b = true → ltT b c = true → ltT a c = true
  | [], [], _, h, _ => by cases h
  | [], _ :: _, [], _, h => by cases h
  | [], _ :: _, _ :: _, _, _ => rfl
  | _ :: _, [], _, h, _ => by cases h
  | _ :: _, _ :: _, [], _, h => by cases h
  | x :: xs, y :: ys, z :: zs, h, h2 => by
    unfold ltT at h h2 ⊢
    simp only [Bool.or_eq_true, decide_eq_true_eq, Bool.and_eq_true] at h h2 ⊢
    rcases h with h | ⟨h, k⟩ <;> rcases h2 with h2 | ⟨h2, k2⟩
    · exact .inl (by omega)
    · exact .inl (by omega)
    · exact .inl (by omega)
    · exact .inr ⟨by omega, ltT_trans k k2⟩
def leT (a b : List Int) : Prop := ltT b a = false
theorem leT_of {a b : List Int} (h : ltT a b = true) : leT a b := by
  unfold leT
  cases c : ltT b a with
  | false => rfl
  | true =>
    have := ltT_trans h c
    rw [ltT_irr] at this
    cases this
theorem pwT_uniq : ∀ {a b : List (List Int)}, a.Perm b → a.Pairwise leT → b.Pairwise leT → a = b
  | [], b, p, _, _ => (List.nil_perm.1 p).symm ▸ rfl
  | x :: a, [], p, _, _ => absurd p.length_eq (by simp)
  | x :: a, y :: b, p, h1, h2 => by
    rw [List.pairwise_cons] at h1 h2
    have e : x = y := by
      rcases List.mem_cons.1 (p.mem_iff.1 (List.mem_cons_self ..)) with e | e
      · exact e
      · rcases List.mem_cons.1 (p.mem_iff.2 (List.mem_cons_self ..)) with e2 | e2
        · exact e2.symm
        · exact ltT_total (h2.1 x e) (h1.1 y e2)
    subst e
    rw [pwT_uniq ((List.perm_cons x).1 p) h1.2 h2.2]
def srtT (xs : List (List Int)) : List (List Int) := xs.mergeSort fun a b => !ltT b a
theorem leT_trans {a b c : List Int} (h1 : leT a b) (h2 : leT b c) : leT a c := by
  unfold leT at *
  cases z : ltT c a with
  | false => rfl
  | true =>
    cases z1 : ltT a b with
    | true => rw [ltT_trans z z1] at h2; cases h2
    | false =>
      have e := ltT_total z1 h1
      subst e
      rw [z] at h2
      cases h2
theorem srtT_pw (xs : List (List Int)) : (srtT xs).Pairwise leT := by
  have h := List.pairwise_mergeSort (le := fun a b : List Int => !ltT b a) (fun a b c h1 h2 => by
    simp only [Bool.not_eq_true'] at *
    exact leT_trans h1 h2) (fun a b => by
    cases z : ltT b a with
    | false => simp
    | true => have := leT_of z; unfold leT at this; simp [this]) xs
  exact h.imp fun h => by simpa [leT] using h
theorem srtT_perm (xs : List (List Int)) : (srtT xs).Perm xs := List.mergeSort_perm _ _
def uniqT : List (List Int) → List (List Int)
  | [] => []
  | x :: l => if x ∈ l then uniqT l else x :: uniqT l
theorem mem_uniqT {k : List Int} : ∀ {l : List (List Int)}, k ∈ uniqT l ↔ k ∈ l
  | [] => Iff.rfl
  | x :: l => by
    unfold uniqT
    split
    · rename_i c
      rw [mem_uniqT, List.mem_cons]
      exact ⟨.inr, fun h => h.elim (fun e => e ▸ c) id⟩
    · rw [List.mem_cons, List.mem_cons, mem_uniqT]
theorem uniqT_nodup : ∀ l : List (List Int), (uniqT l).Nodup
  | [] => List.nodup_nil
  | x :: l => by
    unfold uniqT
    split
    · exact uniqT_nodup l
    · rename_i c
      exact List.nodup_cons.2 ⟨fun h => c (mem_uniqT.1 h), uniqT_nodup l⟩
theorem uniqT_self : ∀ {l : List (List Int)}, l.Nodup → uniqT l = l
  | [], _ => rfl
  | x :: l, h => by
    obtain ⟨h1, h2⟩ := List.nodup_cons.1 h
    unfold uniqT
    rw [if_neg h1, uniqT_self h2]
theorem alike_ints : ∀ (xs ys : List Int), alikeAll (xs.map PyData.int) (ys.map PyData.int) = true
  | [], _ => by cases ‹List Int› <;> rfl
  | _ :: _, [] => rfl
  | x :: xs, y :: ys => by
    simp only [List.map_cons, alikeAll, alike, Bool.true_and]
    exact alike_ints xs ys
theorem depth_ints : ∀ (xs : List Int), PyData.depthAll (xs.map PyData.int) = 0
  | [] => rfl
  | x :: xs => by simp only [List.map_cons, PyData.depthAll, PyData.depth, depth_ints xs]; rfl
theorem readsAll_ints {h : Heap} : ∀ {vs : List Value} {k : List Int}, IntsAre vs k → ∃ as, ReadsAll h vs (k.map PyData.int) as
  | _, _, .nil => ⟨[], .nil⟩
  | _, _, .cons n t r => by
    obtain ⟨as, e⟩ := readsAll_ints (h := h) r
    exact ⟨_, .cons (.int n t) e⟩
theorem reads_isT {P : Program} {w : World} {h : Heap} {k : List Int} {b : Addr} (x : IsT P w h k b) : ∃ as, Reads h (.ref b) (tupD k) as := by
  obtain ⟨o, its, n, ho, hc, hd, hi⟩ := x
  obtain ⟨as, e⟩ := readsAll_ints (h := h) (ints_of_items hi)
  exact ⟨as, .tuple ho hc hd e⟩
section
variable {P : Program} {w : World} {A : Around} {E : Value → Shared → Prop} {s : Shared}
theorem sorted_setU {a : Addr} {L : List (Addr × List Int)} {es : Array (Int × Value)} {ep : Nat} {t : SetTable} {Q : Value → Shared → Prop} (R : SetTR P w s.heap a L es ep t) (hh : A.handled = none) (hu : A.units + 64 < cLine)
    (hQ : ∀ s' p (out : Array Value) (c : Nat) (L' : List (Addr × List Int)), (∀ b o, s.heap.get? b = some o → s'.heap.get? b = some o) → s'.gens = s.gens → s'.os = s.os → s.heap.objs.size ≤ p →
      s'.heap.get? p = some (seqObj "list" out c) → out.toList = L'.map (fun q => Value.ref q.1) → L'.Perm L → L'.Pairwise (fun q r => leT q.2 r.2) → Q (.ref p) s') :
    wpAny (model P w) A (call (.builtin "sorted") [.ref a]) Q E s := by
  obtain ⟨o, ho, hex, hd⟩ := R.ob
  have hsz := R.size
  have hfew := R.few
  refine Calls.call_function_entry kind_sorted plain_sorted entry_sorted (args_sorted1 _) ?_
  unfold Builtin.«sorted»
  refine wpAny_bind (m := checkCount "sorted" 1 1 _) (wpAny_pure ?_)
  refine wpAny_bind (collect_set (A := A.in1) hh ⟨o, ho, hex.1, hd⟩ R.fits (by unfold scanBound; omega) R.tab.ris R.led fun s1 vs k1 hz g1 o1 pm => ?_)
  have hes : es.toList.map (·.2) = L.map fun q => Value.ref q.1 := by
    rw [R.rows]
    unfold L2.rowsOf
    rw [List.map_map] <;> rfl
  rw [hes] at pm
  have ord : ∀ vs : List Value, (∀ v ∈ vs, ∃ q ∈ L, v = Value.ref q.1) → ∃ L1 : List (Addr × List Int), vs = L1.map (fun q => Value.ref q.1) ∧ ∀ q ∈ L1, q ∈ L := by
    intro vs
    induction vs with
    | nil => intro _; exact ⟨[], rfl, fun q hq => (by cases hq)⟩
    | cons v vs ih =>
      intro hv
      obtain ⟨q, hq, e⟩ := hv v List.mem_cons_self
      obtain ⟨L1, e1, hs⟩ := ih fun u hu => hv u (List.mem_cons_of_mem _ hu)
      refine ⟨q :: L1, by rw [List.map_cons, e, e1], fun r hr => ?_⟩
      rcases List.mem_cons.mp hr with z | z
      · rw [z]; exact hq
      · exact hs r z
  have one : ∀ q ∈ L, ∀ r ∈ L, q.1 = r.1 → q = r := fun q hq r hr e => by
    have a1 := R.tup q hq
    have a2 := R.tup r hr
    rw [e] at a1
    have e2 : q.2 = r.2 := a1.inj a2
    exact Prod.ext e e2
  have perm_of : ∀ L1 : List (Addr × List Int), (∀ q ∈ L1, q ∈ L) → (L1.map (fun q => Value.ref q.1)).Perm (L.map fun q => Value.ref q.1) → L1.Perm L := by
    intro L1 hs pm1
    have nL : L.Nodup := nodup_of_map R.nd
    have nref : (L.map fun q => Value.ref q.1).Nodup := by
      refine List.pairwise_map.mpr (List.Pairwise.imp_of_mem (fun {q r} hq hr hne e => ?_) nL)
      injection e with e
      exact hne (one q hq r hr e)
    have n1 : L1.Nodup := nodup_of_map (pm1.nodup_iff.mpr nref)
    refine (List.perm_ext_iff_of_nodup n1 nL).mpr fun q => ⟨hs q, fun hq => ?_⟩
    have hm : Value.ref q.1 ∈ L1.map (fun q => Value.ref q.1) := pm1.mem_iff.mpr (List.mem_map.mpr ⟨q, hq, rfl⟩)
    obtain ⟨r, hr, e⟩ := List.mem_map.mp hm
    injection e with e
    rw [← one r (hs r hr) q hq e]
    exact hr
  have hvl : vs.length < 64 := by rw [pm.length_eq, List.length_map]; exact hfew
  refine wpAny_bind (wpAny_newList ?_ (by rw [sizeLine_eq]; omega))
  have hoL : (s1.heap.push (seqObj "list" vs.toArray 0)).get? s1.heap.objs.size = some (seqObj "list" vs.toArray 0) := Heap.get?_push_size _ rfl
  obtain ⟨L0, e0, hs0⟩ := ord vs fun v hv => by
    obtain ⟨q, hq, e⟩ := List.mem_map.mp (pm.mem_iff.mp hv)
    exact ⟨q, hq, e.symm⟩
  have p0 : L0.Perm L := perm_of L0 hs0 (by rw [← e0]; exact pm)
  have hx : ∀ b u, s1.heap.get? b = some u → (sortingHeap (s1.heap.push (seqObj "list" vs.toArray 0)) s1.heap.objs.size vs).get? b = some u := fun b u e =>
    sortingHeap_old (Nat.ne_of_lt (Heap.lt_size e)) (Heap.get?_push_of_some _ e)
  have tk : ∀ q ∈ L, ∃ as, Reads (sortingHeap (s1.heap.push (seqObj "list" vs.toArray 0)) s1.heap.objs.size vs) (.ref q.1) (tupD q.2) as := fun q hq => reads_isT (P := P) (w := w) (isT_keep (R.tup q hq) fun b u e => hx b u (k1 b u e))
  have each : ∀ L1 : List (Addr × List Int), (∀ q ∈ L1, q ∈ L) → EachIs (fun v d => ∃ as, Reads (sortingHeap (s1.heap.push (seqObj "list" vs.toArray 0)) s1.heap.objs.size vs) v d as) (L1.map fun q => Value.ref q.1) (L1.map fun q => tupD q.2) := by
    intro L1
    induction L1 with
    | nil => intro _; exact .nil
    | cons q L1 ih => exact fun h => .cons (tk q (h q List.mem_cons_self)) (ih fun r hr => h r (List.mem_cons_of_mem _ hr))
  have hal : AllAlike (L0.map fun q => tupD q.2) := fun d hd' d' hd2 => by
    obtain ⟨q, _, rfl⟩ := List.mem_map.mp hd'
    obtain ⟨r, _, rfl⟩ := List.mem_map.mp hd2
    show alikeAll _ _ = true
    exact alike_ints _ _
  have e1 := each L0 hs0
  rw [← e0] at e1
  have S := SortsAt.tups (prog := P) (w := w) (A := A.in1.in1) (s := { s1 with heap := sortingHeap (s1.heap.push (seqObj "list" vs.toArray 0)) s1.heap.objs.size vs }) e1 hal (fun d hd' => by
    obtain ⟨q, _, rfl⟩ := List.mem_map.mp hd'
    exact ⟨_, rfl⟩) (fun d hd' => by
    obtain ⟨q, _, rfl⟩ := List.mem_map.mp hd'
    show A.units + 1 + 1 + (PyData.depthAll _ + 1) < cLine
    rw [depth_ints]
    omega)
  refine wpAny_bind (wpAny_holding (call_sort_U (s := { s1 with heap := s1.heap.push (seqObj "list" vs.toArray 0) }) hoL S (by rw [sizeLine_eq]; omega) ?_))
  obtain ⟨c, hc⟩ := sortedHeap_at (vs := vs) (out := (sortVals (dataKind (sortingHeap (s1.heap.push (seqObj "list" vs.toArray 0)) s1.heap.objs.size vs) (L0.map fun q => tupD q.2)) false vs vs).toArray) hoL
  have ek : EachIs (fun v (q : Addr × List Int) => (dataKind (sortingHeap (s1.heap.push (seqObj "list" vs.toArray 0)) s1.heap.objs.size vs) (L0.map fun q => tupD q.2)).keyOf v = some (keyToks (tupD q.2))) vs L0 := by
    rw [e0]
    have go : ∀ L1 : List (Addr × List Int), (∀ q ∈ L1, q ∈ L0) → EachIs (fun v (q : Addr × List Int) => (dataKind (sortingHeap (s1.heap.push (seqObj "list" vs.toArray 0)) s1.heap.objs.size vs) (L0.map fun q => tupD q.2)).keyOf v = some (keyToks (tupD q.2))) (L1.map fun q => Value.ref q.1) L1 := by
      intro L1
      induction L1 with
      | nil => intro _; exact .nil
      | cons q L1 ih =>
        intro h
        obtain ⟨as, r⟩ := tk q (hs0 q (h q List.mem_cons_self))
        exact .cons (dataKind_some hal (List.mem_map.mpr ⟨q, h q List.mem_cons_self, rfl⟩) r) (ih fun r hr => h r (List.mem_cons_of_mem _ hr))
    have := go L0 fun _ h => h
    rw [← e0] at this ⊢
    exact this
  have er : EachIs (fun v (q : Addr × List Int) => v = Value.ref q.1) vs L0 := by
    have go : ∀ L1 : List (Addr × List Int), EachIs (fun v (q : Addr × List Int) => v = Value.ref q.1) (L1.map fun q => Value.ref q.1) L1 := by
      intro L1
      induction L1 with
      | nil => exact .nil
      | cons q L1 ih => exact .cons rfl ih
    have := go L0
    rw [← e0] at this
    exact this
  have eo := sortVals_each (κ := dataKind (sortingHeap (s1.heap.push (seqObj "list" vs.toArray 0)) s1.heap.objs.size vs) (L0.map fun q => tupD q.2)) (rev := false) (fun q : Addr × List Int => keyToks (tupD q.2)) er ek
  have out_eq : ∀ {us : List Value} {L1 : List (Addr × List Int)}, EachIs (fun v (q : Addr × List Int) => v = Value.ref q.1) us L1 → us = L1.map fun q => Value.ref q.1 := by
    intro us L1 h
    induction h with
    | nil => rfl
    | cons h _ ih => rw [List.map_cons, h, ih]
  have e' := out_eq eo
  have pL := (List.mergeSort_perm L0 (sortLe (dataKind (sortingHeap (s1.heap.push (seqObj "list" vs.toArray 0)) s1.heap.objs.size vs) (L0.map fun q => tupD q.2)).toKeyOrd false fun q => keyToks (tupD q.2))).trans p0
  have tl := sortLe_total (dataKind (sortingHeap (s1.heap.push (seqObj "list" vs.toArray 0)) s1.heap.objs.size vs) (L0.map fun q => tupD q.2)).toKeyOrd false fun q : Addr × List Int => keyToks (tupD q.2)
  have pw := List.pairwise_mergeSort (fun a b c h1 h2 => tl.trans a b c h1 h2) (fun a b => Bool.or_eq_true_iff.mpr (tl.total a b)) L0
  refine wpAny_pure ⟨_, rfl, hQ _ s1.heap.objs.size _ c _ (fun b u e => ?_) g1 o1 hz hc e' pL (pw.imp fun {q r} h => ?_)⟩
  · have q := k1 b u e
    have hlt := Heap.lt_size q
    show (sortedHeap (s1.heap.push (seqObj "list" vs.toArray 0)) s1.heap.objs.size vs _).get? b = some u
    rw [sortedHeap_old (Nat.ne_of_lt hlt) (by rw [size_push']; exact Nat.lt_succ_of_lt hlt)]
    exact Heap.get?_push_of_some _ q
  · have h : (!dataLt (tupD r.2) (tupD q.2)) = true := h
    rw [lt_tupD] at h
    exact Bool.not_eq_true' _ |>.mp h
end
section
variable {X : Cx}
def rSortedU (K : Fg) (P : Program) (w : World) : List V → Hp → VK → Prop := fun vs H Q => ∃ (a : Addr) (L : List (Addr × List Int)), vs = [V.ref a] ∧ H a = some (SetTO P w a L) ∧ (∀ p ∈ L, SqT K H p.1 (p.2.map V.int)) ∧
  ∀ (L' : List (Addr × List Int)) (p : Addr), L'.Perm L → (L'.map (·.2)).Nodup → L'.Pairwise (fun q r => leT q.2 r.2) → H p = none → Q (.ref p) (upd H p (.lst (L'.map fun q => V.ref q.1)))
theorem cr_sortedU (hc : X.calm = true) (hu : X.A.units + 64 < cLine) : CallR X (.builtin "sorted") (rSortedU X.K X.prog X.w) := by
  intro pins s σ H vs us Q I r h
  obtain ⟨a, L, rfl, ha, hk, q⟩ := h
  have R0 : SetT0 X.prog X.w s.heap a L := (I.hok a _ ha).1
  obtain ⟨es, ep, t, R⟩ := R0.full fun p hp => I.isT (hk p hp)
  rw [Vals.ref1 r]
  refine sorted_setU R (I.ok.hd hc) hu fun s' p out c L' k g o hp hg hout pm pw => ?_
  have hfew : L'.length < 64 := by rw [pm.length_eq]; exact R.few
  have hlen : (L'.map fun q => V.ref q.1).length ≤ sizeLine := by rw [List.length_map, sizeLine_eq]; omega
  have hn : H p = none := I.hok.fresh hp
  have hv : Vals (L'.map fun q => V.ref q.1) out.toList := by rw [hout]; exact vals_of_refs L'
  have J : Inv X pins σ (upd H p (.lst (L'.map fun q => V.ref q.1))) { s with heap := s'.heap, gens := s'.gens, drawn := s'.drawn, toks := s'.toks } :=
    I.call (ch := []) (Un.laid k hp hn) (I.hok.laid k hp ⟨hlen, out.toList, c, hv, hg⟩) (by rw [g]; exact I.bare) (fun _ z => nomatch z)
  have e : s' = { s with heap := s'.heap, gens := s'.gens, drawn := s'.drawn, toks := s'.toks } := by
    cases s'
    cases s
    cases o
    rfl
  rw [e]
  exact ⟨.ref p, _, J, rfl, q L' p pm ((pm.map (·.2)).nodup_iff.mpr R.nd) pw hn⟩
end
theorem ints_self : ∀ ns : List Int, intsD (ns.map PyData.int) = some ns
  | [] => rfl
  | n :: ns => by simp only [List.map_cons, intsD, ints_self ns, Option.map_some]
def tupsD : List Wd → Option (List (List Int))
  | [] => some []
  | .tuple r :: l => (intsD r).bind fun k => (tupsD l).map (k :: ·)
  | _ => none
theorem tups_of {K : Fg} {mu : List Addr} {T : Addr → Prop} {H : Hp} : ∀ {vs : List V} {ws : List Wd} {ks : List (List Int)}, RpAll K mu T H vs ws → tupsD ws = some ks →
    ∃ ps : List (Addr × List Int), vs = ps.map (fun p => V.ref p.1) ∧ ps.map (·.2) = ks ∧ ∀ p ∈ ps, SqT K H p.1 (p.2.map V.int) ∧ Rp K mu T H (V.ref p.1) (tupD p.2)
  | [], [], ks, _, e => by cases e; exact ⟨[], rfl, rfl, fun p hp => nomatch hp⟩
  | v :: vs, w :: ws, ks, h, e => by
    cases h with
    | cons a b =>
      unfold tupsD at e
      split at e
      · rename_i e0; cases e0
      · rename_i r l e0
        injection e0 with e0 e00
        subst e0 e00
        obtain ⟨k, e1, e⟩ := Option.bind_eq_some_iff.mp e
        obtain ⟨ks', e2, rfl⟩ := Option.map_eq_some_iff.mp e
        obtain ⟨ps, rfl, rfl, hp⟩ := tups_of b e2
        cases a with
        | @tup t xs _ a c =>
          have z := ints_of c e1
          subst z
          have ew := intsD_eq e1
          subst ew
          refine ⟨(t, k) :: ps, rfl, rfl, fun p hp' => ?_⟩
          rcases List.mem_cons.mp hp' with rfl | hp'
          · exact ⟨a.sq, .tup a c⟩
          · exact hp p hp'
      · cases e
def gSortSetT : List Wd → Option Wd
  | [.list ws] => (tupsD ws).bind fun ks => if ks.length < 64 then some (.list ((srtT (uniqT ks)).map tupD)) else none
  | _ => none
theorem uniqT_perm {ys ns : List (List Int)} (nd : ys.Nodup) (hm : ∀ x, x ∈ ys ↔ x ∈ ns) : ys.Perm (uniqT ns) := (List.perm_ext_iff_of_nodup nd (uniqT_nodup ns)).mpr fun x => (hm x).trans mem_uniqT.symm
theorem thn_setT {K : Fg} {P : Program} {w : World} : Thn K (rSortedU K P w) (rSetOfT K P w) gSortSetT := by
  intro mu T S ws d H xs Q st bn p e q
  unfold gSortSetT at e
  split at e
  · obtain ⟨ks, e1, e⟩ := Option.bind_eq_some_iff.mp e
    obtain ⟨hl, rfl⟩ := ite_inv e
    cases p with
    | cons p1 p2 =>
      cases p2
      cases p1 with
      | lst a b =>
        obtain ⟨ps, rfl, rfl, hp⟩ := tups_of b e1
        refine ⟨_, ps, rfl, a.sq, fun z hz => (hp z hz).1, by simpa using hl, fun c L hn hL hk => ?_⟩
        have sm := same_upd (o := SetTO P w c L) hn
        refine ⟨c, L, rfl, upd_same, fun z hz => ?_, fun L' p' pm nd pw hb => ?_⟩
        · have := (hp z (hL z hz)).2.same sm
          cases this with
          | @tup t xs _ a c =>
            have z := ints_of c (ints_self z.2)
            subst z
            exact a.sq
        · have hm : ∀ x, x ∈ L'.map (·.2) ↔ x ∈ ps.map (·.2) := fun x => by
            constructor
            · intro h
              obtain ⟨z, hz, rfl⟩ := List.mem_map.mp h
              exact List.mem_map.mpr ⟨z, hL z (pm.mem_iff.mp hz), rfl⟩
            · intro h
              obtain ⟨z, hz, rfl⟩ := List.mem_map.mp h
              exact (pm.map (·.2)).mem_iff.mpr (hk z hz)
          have ez := pwT_uniq ((uniqT_perm nd hm).trans (srtT_perm (uniqT (ps.map (·.2)))).symm) (List.pairwise_map.mpr pw) (srtT_pw _)
          rw [← ez] at q
          refine q _ _ (fun x o z => same_upd hb _ _ (sm _ _ z)) (new_lst (st.same sm) (bn.ext (.same sm)) ?_ hb)
          rw [List.map_map]
          have go : ∀ L1 : List (Addr × List Int), (∀ z ∈ L1, z ∈ ps) → RpAll K mu T (upd H c (SetTO P w c L)) (L1.map fun q => V.ref q.1) (L1.map (tupD ∘ fun q => q.2)) := by
            intro L1
            induction L1 with
            | nil => intro _; exact .nil
            | cons z L1 ih => exact fun h => .cons ((hp z (h z List.mem_cons_self)).2.same sm) (ih fun y hy => h y (List.mem_cons_of_mem _ hy))
          exact go L' fun z hz => hL z (pm.mem_iff.mp hz)
  · cases e
end DL
namespace WF
open PySem PySem.Spec PyProof.Rows L2 DL
def m_inner_pairs : Ms := (sSeq (sIf (mTru (mBin gIn (mIx (mV 1) (mC (.int 0))) (mC (.tuple [(.str "hours"), (.str "cycles"), (.str "days")])))) (sRet (mLst aNil)) sNil) (sRet (mLc [2, 3] (iEnumA (aCons (mIx (mV 1) (mC (.int 1))) aNil)) (gtT (gtCons (gtN 2) (gtCons (gtN 3) gtNil))) tTrue (mTup (aCons (mTup (aStar (mV 0) (aCons (mV 2) aNil))) (aCons (mV 3) aNil))))))
def g_inner_pairs : Gd := runDef 4 2 m_inner_pairs
end WF
namespace WF
open PySem PySem.Spec PyProof.Rows L2 DL
def m_all_pairs : Ms := (sSeq (sOwn 1 aNil) (sSeq (sOwn 2 (aCons (mTup (aCons (mTup aNil) (aCons (mV 0) aNil))) aNil)) (sSeq (sWhile (fun _ _ => 1000) (mTru (mBin gGt (mLenO 2) (mC (.int 0)))) (sSeq (sPop (gtT (gtCons (gtN 3) (gtCons (gtN 4) gtNil))) 2) (sSeq (sApp 1 (mTup (aCons (mV 3) (aCons (mV 4) aNil)))) (sExt 2 (mUn gRev (mCall WF.g_inner_pairs (aCons (mV 3) (aCons (mV 4) aNil)))))))) (sFrz 2 (sFrz 1 (sRet (mV 1)))))))
def g_all_pairs : Gd := runDef 5 1 m_all_pairs
end WF
namespace WF
open PySem PySem.Spec PyProof.Rows L2 DL
def m_parts_of : Ms := (sRet (mCB gTuple (aCons (mCall WF.g_all_pairs (aCons (mV 0) aNil)) aNil)))
def g_parts_of : Gd := runDef 1 1 m_parts_of
end WF
namespace WF
open PySem PySem.Spec PyProof.Rows L2 DL
def m_require_usable : Ms := (sIf (mNotT (mTru (mV 0))) sBad sNil)
def g_require_usable : Gd := runDef 3 3 m_require_usable
end WF
namespace WF
open PySem PySem.Spec PyProof.Rows L2 DL
def m_is_integer : Ms := (sRet (mAnd (mUn (gIsi "int") (mV 0)) (mNot (mUn (gIsi "bool") (mV 0)))))
def g_is_integer : Gd := runDef 1 1 m_is_integer
end WF
namespace WF
open PySem PySem.Spec PyProof.Rows L2 DL
def m_is_number : Ms := (sRet (mAnd (mCall WF.g_is_integer (aCons (mV 0) aNil)) (mBin gGe (mV 0) (mC (.int 0)))))
def g_is_number : Gd := runDef 1 1 m_is_number
end WF
namespace WF
open PySem PySem.Spec PyProof.Rows L2 DL
def m_limits_along : Ms := (sSeq (sExpr (mCall WF.g_require_usable (aCons (mUn (gIsi "tuple") (mV 1)) (aCons (mC (.str "path")) (aCons (mUn gNeg (mC (.int 1))) aNil))))) (sSeq (sOwn 2 (aCons (mV 0) aNil)) (sSeq (sFor (iSeq (mV 1)) (gtN 3) (sSeq (sAsg (gtT (gtCons (gtN 4) (gtCons (gtN 5) gtNil))) (mIxO 2 (mUn gNeg (mC (.int 1))))) (sSeq (sExpr (mCall WF.g_require_usable (aCons (mAnd (mBin gNotIn (mV 4) (mC (.tuple [(.str "hours"), (.str "cycles"), (.str "days")]))) (mAnd (mCall WF.g_is_number (aCons (mV 3) aNil)) (mBin gLt (mV 3) (mCB gLen (aCons (mV 5) aNil))))) (aCons (mC (.str "path")) (aCons (mUn gNeg (mC (.int 1))) aNil))))) (sApp 2 (mIx (mV 5) (mV 3)))))) (sFrz 2 (sRet (mV 2))))))
def g_limits_along : Gd := runDef 6 2 m_limits_along
end WF
namespace WF
open PySem PySem.Spec PyProof.Rows L2 DL
def m_part_at : Ms := (sRet (mIx (mCall WF.g_limits_along (aCons (mV 0) (aCons (mV 1) aNil))) (mUn gNeg (mC (.int 1)))))
def g_part_at : Gd := runDef 2 2 m_part_at
end WF
namespace WF
open PySem PySem.Spec PyProof.Rows L2 DL
def m_limit_word : Ms := (sSeq (sIf (mOrT (mNotT (mTru (mUn (gIsi "tuple") (mV 0)))) (mOrT (mTru (mBin gNe (mCB gLen (aCons (mV 0) aNil)) (mC (.int 2)))) (mNotT (mTru (mUn (gIsi "str") (mIx (mV 0) (mC (.int 0)))))))) (sRet (mC .none)) sNil) (sRet (mIf (mOrT (mTru (mBin gIn (mIx (mV 0) (mC (.int 0))) (mC (.tuple [(.str "hours"), (.str "cycles"), (.str "days")])))) (mTru (mBin gIn (mIx (mV 0) (mC (.int 0))) (mC (.tuple [(.str "first"), (.str "later")]))))) (mIx (mV 0) (mC (.int 0))) (mC .none))))
def g_limit_word : Gd := runDef 1 1 m_limit_word
end WF
namespace WF
open PySem PySem.Spec PyProof.Rows L2 DL
def m_is_amount : Ms := (sRet (mAnd (mCall WF.g_is_integer (aCons (mV 0) aNil)) (mBin gGe (mV 0) (mC (.int 1)))))
def g_is_amount : Gd := runDef 1 1 m_is_amount
end WF
namespace WF
open PySem PySem.Spec PyProof.Rows L2 DL
def m_limit_fault : Ms := (sSeq (sOwn 1 (aCons (mTup (aCons (mTup aNil) (aCons (mV 0) aNil))) aNil)) (sSeq (sWhile (fun _ _ => 1000) (mTru (mBin gGt (mLenO 1) (mC (.int 0)))) (sSeq (sPop (gtT (gtCons (gtN 2) (gtCons (gtN 3) gtNil))) 1) (sSeq (sSet 4 (mCall WF.g_limit_word (aCons (mV 3) aNil))) (sSeq (sIf (mTru (mBin gIsN (mV 4) (mC .none))) (sRet (mTup (aCons (mC (.str "word")) (aCons (mV 2) aNil)))) sNil) (sIf (mTru (mBin gIn (mV 4) (mC (.tuple [(.str "hours"), (.str "cycles"), (.str "days")])))) (sIf (mNotT (mTru (mCall WF.g_is_amount (aCons (mIx (mV 3) (mC (.int 1))) aNil)))) (sRet (mTup (aCons (mC (.str "number")) (aCons (mV 2) aNil)))) sNil) (sIf (mOrT (mNotT (mTru (mUn (gIsi "tuple") (mIx (mV 3) (mC (.int 1)))))) (mTru (mBin gEq (mCB gLen (aCons (mIx (mV 3) (mC (.int 1))) aNil)) (mC (.int 0))))) (sRet (mTup (aCons (mC (.str "limits")) (aCons (mV 2) aNil)))) (sExt 1 (mUn gRev (mCall WF.g_inner_pairs (aCons (mV 2) (aCons (mV 3) aNil))))))))))) (sFrz 1 (sRet (mC .none)))))
def g_limit_fault : Gd := runDef 5 1 m_limit_fault
end WF
namespace WF
open PySem PySem.Spec PyProof.Rows L2 DL
def m_is_limit : Ms := (sRet (mBin gIsN (mCall WF.g_limit_fault (aCons (mV 0) aNil)) (mC .none)))
def g_is_limit : Gd := runDef 1 1 m_is_limit
end WF
namespace WF
open PySem PySem.Spec PyProof.Rows L2 DL
def m_put_along : Ms := (sSeq (sFor (iZipM (aCons (mUn gRev (mV 0)) (aCons (mUn gRevT (mV 1)) aNil))) (gtT (gtCons (gtT (gtCons (gtN 3) (gtCons (gtN 4) gtNil))) (gtCons (gtN 5) gtNil))) (sSet 2 (mTup (aCons (mV 3) (aCons (mTup (aStar (mSl (mV 4) oNone (oSome (mV 5))) (aCons (mV 2) (aStar (mSl (mV 4) (oSome (mBin gAdd (mV 5) (mC (.int 1)))) oNone) aNil)))) aNil))))) (sRet (mV 2)))
def g_put_along : Gd := runDef 6 3 m_put_along
end WF
namespace WF
open PySem PySem.Spec PyProof.Rows L2 DL
def m_with_part : Ms := (sSeq (sSet 3 (mCall WF.g_limits_along (aCons (mV 0) (aCons (mV 1) aNil)))) (sSeq (sExpr (mCall WF.g_require_usable (aCons (mCall WF.g_is_limit (aCons (mV 2) aNil)) (aCons (mC (.str "other")) (aCons (mUn gNeg (mC (.int 1))) aNil))))) (sRet (mCall WF.g_put_along (aCons (mSl (mV 3) oNone (oSome (mUn gNeg (mC (.int 1))))) (aCons (mV 1) (aCons (mV 2) aNil)))))))
def g_with_part : Gd := runDef 4 3 m_with_part
end WF
namespace WF
open PySem PySem.Spec PyProof.Rows L2 DL
def m_lets_limit : Ms := (sSeq (sSet 1 (mCall WF.g_limit_fault (aCons (mV 0) aNil))) (sSeq (sIf (mTru (mBin gNotN (mV 1) (mC .none))) (sSeq (sAsg (gtT (gtCons (gtN 2) (gtCons (gtN 3) gtNil))) (mV 1)) sBad) sNil) (sRet (mCB gLen (aCons (mLc [3, 4] (iSeq (mCall WF.g_all_pairs (aCons (mV 0) aNil))) (gtT (gtCons (gtN 3) (gtCons (gtN 4) gtNil))) (mTru (mBin gIn (mIx (mV 4) (mC (.int 0))) (mC (.tuple [(.str "hours"), (.str "cycles"), (.str "days")])))) (mV 3)) aNil)))))
def g_lets_limit : Gd := runDef 5 1 m_lets_limit
end WF
namespace WF
open PySem PySem.Spec PyProof.Rows L2 DL
def m_names_in : Ms := (sWords 1 (mSc [2, 3] (iSeq (mCall WF.g_all_pairs (aCons (mV 0) aNil))) (gtT (gtCons (gtN 2) (gtCons (gtN 3) gtNil))) (mIx (mV 3) (mC (.int 0)))) fun ks => sRet (mCB gTuple (aCons (mCB gSortS (aCons (mLc [4] (iSeq (mC (.tuple [(.str "hours"), (.str "cycles"), (.str "days")]))) (gtN 4) (tMem 4 ks) (mV 4)) aNil)) aNil)))
def g_names_in : Gd := runDef 5 1 m_names_in
end WF
namespace WF
open PySem PySem.Spec PyProof.Rows L2 DL
def m_parts_right_k11 : Ms := (sSeq (sPo 1 2 (mCall WF.g_parts_of (aCons (mV 0) aNil))) (sSeq (sSet 3 (mLc [4, 5] (iSeq (mV 1)) (gtT (gtCons (gtN 4) (gtCons (gtN 5) gtNil))) tTrue (mV 4))) (sSeq (sIf (mOrT (mTru (mBin gNe (mV 3) (mCB gSortSetT (aCons (mV 3) aNil)))) (mTru (mBin gNe (mIx (mV 1) (mC (.int 0))) (mTup (aCons (mTup aNil) (aCons (mV 0) aNil)))))) (sRet (mC (.bool false))) sNil) (sSeq (sFor (iSeq (mV 1)) (gtT (gtCons (gtN 4) (gtCons (gtN 5) gtNil))) (sSeq (sIf (mOrT (mTru (mBin gNe (mCall WF.g_part_at (aCons (mV 0) (aCons (mV 4) aNil))) (mV 5))) (mOrT (mNotT (mTru (mCall WF.g_is_limit (aCons (mV 5) aNil)))) (mTru (mBin gNe (mCall WF.g_with_part (aCons (mV 0) (aCons (mV 4) (aCons (mV 5) aNil)))) (mV 0))))) (sRet (mC (.bool false))) sNil) (sSeq (sSet 6 (mCall WF.g_with_part (aCons (mV 0) (aCons (mV 4) (aCons (mTup (aCons (mC (.str "cycles")) (aCons (mC (.int 77)) aNil))) aNil))))) (sSeq (sIf (mOrT (mTru (mBin gNe (mCall WF.g_part_at (aCons (mV 6) (aCons (mV 4) aNil))) (mTup (aCons (mC (.str "cycles")) (aCons (mC (.int 77)) aNil))))) (mTru (mBin gNe (mCall WF.g_with_part (aCons (mV 6) (aCons (mV 4) (aCons (mV 5) aNil)))) (mV 0)))) (sRet (mC (.bool false))) sNil) (sSeq (sSet 7 (mCB gLen (aCons (mV 4) aNil))) (sSeq (sIf (mTru (mBin gNe (mCall WF.g_parts_of (aCons (mV 5) aNil)) (mCB gTuple (aCons (mLc [8, 9] (iSeq (mV 1)) (gtT (gtCons (gtN 8) (gtCons (gtN 9) gtNil))) (mTru (mBin gEq (mSl (mV 8) oNone (oSome (mV 7))) (mV 4))) (mTup (aCons (mSl (mV 8) (oSome (mV 7)) oNone) (aCons (mV 9) aNil)))) aNil)))) (sRet (mC (.bool false))) sNil) (sIf (mTru (mBin gIn (mIx (mV 5) (mC (.int 0))) (mTup (aCons (mC (.str "hours")) (aCons (mC (.str "cycles")) (aCons (mC (.str "days")) aNil)))))) (sApp 2 (mV 5)) sNil))))))) (sFrz 2 (sSeq (sIf (mOrT (mTru (mBin gNe (mCall WF.g_lets_limit (aCons (mV 0) aNil)) (mCB gLen (aCons (mV 2) aNil)))) (mTru (mBin gNe (mCB gList (aCons (mCall WF.g_names_in (aCons (mV 0) aNil)) aNil)) (mCB gSortSetA (aCons (mLc [5] (iSeq (mV 2)) (gtN 5) tTrue (mIx (mV 5) (mC (.int 0)))) aNil))))) (sRet (mC (.bool false))) sNil) (sRet (mBin gEq (mCall WF.g_lets_limit (aCons (mCall WF.g_with_part (aCons (mV 0) (aCons (mIx (mIx (mV 1) (mUn gNeg (mC (.int 1)))) (mC (.int 0))) (aCons (mV 0) aNil)))) aNil)) (mBin gSub (mBin gMul (mC (.int 2)) (mCB gLen (aCons (mV 2) aNil))) (mC (.int 1)))))))))))
def g_parts_right_k11 : Gd := runDef 10 1 m_parts_right_k11
end WF
namespace WF
open PySem PySem.Spec PyProof.Rows L2 DL
def m_number_for : Ms := (sRet (mIx (mV 1) (mBin gIndexT (mC (.tuple [(.str "hours"), (.str "cycles"), (.str "days")])) (mV 0))))
def g_number_for : Gd := runDef 2 2 m_number_for
end WF
namespace WF
open PySem PySem.Spec PyProof.Rows L2 DL
def m_passes_less : Ms := (sSeq (sSet 3 mMap0) (sSeq (sFor (iSeq (mUn gRev (mCall WF.g_all_pairs (aCons (mV 0) aNil)))) (gtT (gtCons (gtN 4) (gtCons (gtN 5) gtNil))) (sSeq (sAsg (gtT (gtCons (gtN 6) (gtCons (gtN 7) gtNil))) (mV 5)) (sIf (mTru (mBin gIn (mV 6) (mC (.tuple [(.str "hours"), (.str "cycles"), (.str "days")])))) (sPutT (mV 3) (mV 4) (mBin gGt (mCall WF.g_number_for (aCons (mV 6) (aCons (mV 1) aNil))) (mBin gSub (mV 7) (mCall WF.g_number_for (aCons (mV 6) (aCons (mV 2) aNil)))))) (sSeq (sSet 8 (mLc [9] (iRange1 (aCons (mCB gLen (aCons (mV 7) aNil)) aNil)) (gtN 9) tTrue (mIxT (mV 3) (mBin gAdd (mV 4) (mTup (aCons (mV 9) aNil)))))) (sPutT (mV 3) (mV 4) (mIf (mTru (mBin gEq (mV 6) (mC (.str "first")))) (mCB gAny (aCons (mV 8) aNil)) (mCB gAll (aCons (mV 8) aNil)))))))) (sRet (mIxT (mV 3) (mTup aNil)))))
def g_passes_less : Gd := pureG (runDef 10 3 m_passes_less)
end WF
namespace WF
open PySem PySem.Spec PyProof.Rows L2 DL
def m_is_passed : Ms := (sRet (mCall WF.g_passes_less (aCons (mV 0) (aCons (mV 1) (aCons (mC (.tuple [(.int 0), (.int 0), (.int 0)])) aNil)))))
def g_is_passed : Gd := runDef 2 2 m_is_passed
end WF
namespace WF
open PySem PySem.Spec PyProof.Rows L2 DL
def m_widened : Ms := (sSeq (sSet 2 mMap0) (sSeq (sFor (iSeq (mUn gRev (mCall WF.g_all_pairs (aCons (mV 0) aNil)))) (gtT (gtCons (gtN 3) (gtCons (gtN 4) gtNil))) (sSeq (sAsg (gtT (gtCons (gtN 5) (gtCons (gtN 6) gtNil))) (mV 4)) (sIf (mTru (mBin gIn (mV 5) (mC (.tuple [(.str "hours"), (.str "cycles"), (.str "days")])))) (sPutT (mV 2) (mV 3) (mTup (aCons (mV 5) (aCons (mBin gAdd (mV 6) (mCall WF.g_number_for (aCons (mV 5) (aCons (mV 1) aNil)))) aNil)))) (sPutT (mV 2) (mV 3) (mTup (aCons (mV 5) (aCons (mCB gTuple (aCons (mLc [7] (iRange1 (aCons (mCB gLen (aCons (mV 6) aNil)) aNil)) (gtN 7) tTrue (mIxT (mV 2) (mBin gAdd (mV 3) (mTup (aCons (mV 7) aNil))))) aNil)) aNil))))))) (sRet (mIxT (mV 2) (mTup aNil)))))
def g_widened : Gd := pureG (runDef 8 2 m_widened)
end WF
namespace WF
open PySem PySem.Spec PyProof.Rows L2 DL
def m_added_k11 : Ms := (sRet (mCB gTuple (aCons (mLc [2, 3] (iZipD (aCons (mV 0) (aCons (mV 1) aNil))) (gtT (gtCons (gtN 2) (gtCons (gtN 3) gtNil))) tTrue (mBin gAdd (mV 2) (mV 3))) aNil)))
def g_added_k11 : Gd := runDef 4 2 m_added_k11
end WF
namespace WF
open PySem PySem.Spec PyProof.Rows L2 DL
def m_is_reached : Ms := (sRet (mCall WF.g_passes_less (aCons (mV 0) (aCons (mV 2) (aCons (mLc [3] (iSeq (mV 1)) (gtN 3) tTrue (mBin gAdd (mV 3) (mC (.int 1)))) aNil)))))
def g_is_reached : Gd := runDef 4 3 m_is_reached
end WF
namespace WF
open PySem PySem.Spec PyProof.Rows L2 DL
def m_counts_right_k11 : Ms := (sSeq (sPar 4 5 (aCons (mCall WF.g_is_passed (aCons (mV 0) (aCons (mV 1) aNil))) (aCons (mCall WF.g_widened (aCons (mV 0) (aCons (mV 2) aNil))) aNil))) (sSeq (sIf (mAndT (mTru (mV 4)) (mNotT (mTru (mCall WF.g_is_passed (aCons (mV 0) (aCons (mCall WF.g_added_k11 (aCons (mV 1) (aCons (mV 3) aNil))) aNil)))))) (sRet (mC (.bool false))) sNil) (sSeq (sIf (mAndT (mTru (mCall WF.g_is_passed (aCons (mV 5) (aCons (mV 1) aNil)))) (mNotT (mTru (mV 4)))) (sRet (mC (.bool false))) sNil) (sSeq (sIf (mTru (mBin gNe (mCall WF.g_is_passed (aCons (mV 5) (aCons (mCall WF.g_added_k11 (aCons (mV 1) (aCons (mV 2) aNil))) aNil))) (mV 4))) (sRet (mC (.bool false))) sNil) (sSeq (sSet 6 (mCall WF.g_added_k11 (aCons (mCall WF.g_added_k11 (aCons (mV 1) (aCons (mV 2) aNil))) (aCons (mTup (aCons (mC (.int 1)) (aCons (mC (.int 1)) (aCons (mC (.int 1)) aNil)))) aNil)))) (sSeq (sIf (mTru (mBin gNe (mCall WF.g_is_reached (aCons (mV 0) (aCons (mV 2) (aCons (mV 1) aNil)))) (mCall WF.g_is_passed (aCons (mV 0) (aCons (mV 6) aNil))))) (sRet (mC (.bool false))) sNil) (sSeq (sIf (mAndT (mTru (mV 4)) (mNotT (mTru (mCall WF.g_is_reached (aCons (mV 0) (aCons (mTup (aCons (mC (.int 0)) (aCons (mC (.int 0)) (aCons (mC (.int 0)) aNil)))) (aCons (mV 1) aNil))))))) (sRet (mC (.bool false))) sNil) (sSeq (sFor (iSeq (mCall WF.g_parts_of (aCons (mV 0) aNil))) (gtT (gtCons (gtN 7) (gtCons (gtN 8) gtNil))) (sIf (mTru (mBin gIn (mIx (mV 8) (mC (.int 0))) (mTup (aCons (mC (.str "first")) (aCons (mC (.str "later")) aNil))))) (sSeq (sSet 9 (mLc [11] (iSeq (mIx (mV 8) (mC (.int 1)))) (gtN 11) tTrue (mCall WF.g_is_passed (aCons (mV 11) (aCons (mV 1) aNil))))) (sIf (mTru (mBin gNe (mCall WF.g_is_passed (aCons (mV 8) (aCons (mV 1) aNil))) (mIf (mTru (mBin gEq (mIx (mV 8) (mC (.int 0))) (mC (.str "first")))) (mBin gIn (mC (.bool true)) (mV 9)) (mBin gNotIn (mC (.bool false)) (mV 9))))) (sRet (mC (.bool false))) sNil)) sNil)) (sSeq (sSet 10 (mLc [12] (iSeq (mTup (aCons (mC (.str "first")) (aCons (mC (.str "later")) aNil)))) (gtN 12) tTrue (mCall WF.g_is_passed (aCons (mTup (aCons (mV 12) (aCons (mTup (aCons (mV 0) (aCons (mV 0) aNil))) aNil))) (aCons (mV 1) aNil))))) (sRet (mBin gEq (mV 10) (mLst (aCons (mV 4) (aCons (mV 4) aNil))))))))))))))
def g_counts_right_k11 : Gd := runDef 13 4 m_counts_right_k11
end WF
namespace WF
open PySem PySem.Spec PyProof.Rows L2 DL
def m_without_part : Ms := (sSeq (sSet 2 (mCall WF.g_limits_along (aCons (mV 0) (aCons (mV 1) aNil)))) (sSeq (sExpr (mCall WF.g_require_usable (aCons (mBin gGt (mCB gLen (aCons (mV 1) aNil)) (mC (.int 0))) (aCons (mC (.str "path")) (aCons (mUn gNeg (mC (.int 1))) aNil))))) (sSeq (sAsg (gtT (gtCons (gtN 3) (gtCons (gtN 4) gtNil))) (mIx (mV 2) (mUn gNeg (mC (.int 2))))) (sSeq (sExpr (mCall WF.g_require_usable (aCons (mBin gGt (mCB gLen (aCons (mV 4) aNil)) (mC (.int 1))) (aCons (mC (.str "only")) (aCons (mUn gNeg (mC (.int 1))) aNil))))) (sSeq (sSet 5 (mIx (mV 1) (mUn gNeg (mC (.int 1))))) (sRet (mCall WF.g_put_along (aCons (mSl (mV 2) oNone (oSome (mUn gNeg (mC (.int 2))))) (aCons (mSl (mV 1) oNone (oSome (mUn gNeg (mC (.int 1))))) (aCons (mTup (aCons (mV 3) (aCons (mBin gAdd (mSl (mV 4) oNone (oSome (mV 5))) (mSl (mV 4) (oSome (mBin gAdd (mV 5) (mC (.int 1)))) oNone)) aNil))) aNil))))))))))
def g_without_part : Gd := runDef 6 2 m_without_part
end WF
namespace WF
open PySem PySem.Spec PyProof.Rows L2 DL
def m_without_right_k11 : Ms := (sSeq (sFor (iSeq (mCall WF.g_parts_of (aCons (mV 0) aNil))) (gtT (gtCons (gtN 2) (gtCons (gtN 3) gtNil))) (sIf (mAndT (mTru (mBin gNe (mV 2) (mTup aNil))) (mTru (mBin gGt (mCB gLen (aCons (mIx (mCall WF.g_part_at (aCons (mV 0) (aCons (mSl (mV 2) oNone (oSome (mUn gNeg (mC (.int 1))))) aNil))) (mC (.int 1))) aNil)) (mC (.int 1))))) (sSeq (sPar 4 5 (aCons (mCall WF.g_without_part (aCons (mV 0) (aCons (mV 2) aNil))) (aCons (mCall WF.g_part_at (aCons (mV 0) (aCons (mSl (mV 2) oNone (oSome (mUn gNeg (mC (.int 1))))) aNil))) aNil))) (sSeq (sSet 6 (mLst (aCons (mCall WF.g_is_passed (aCons (mV 0) (aCons (mV 1) aNil))) (aCons (mCall WF.g_is_passed (aCons (mV 4) (aCons (mV 1) aNil))) aNil)))) (sSeq (sIf (mTru (mBin gEq (mV 6) (mIf (mTru (mBin gEq (mIx (mV 5) (mC (.int 0))) (mC (.str "first")))) (mLst (aCons (mC (.bool false)) (aCons (mC (.bool true)) aNil))) (mLst (aCons (mC (.bool true)) (aCons (mC (.bool false)) aNil)))))) (sRet (mC (.bool false))) sNil) (sSeq (sIf (mTru (mBin gNe (mCB gLen (aCons (mIx (mCall WF.g_part_at (aCons (mV 4) (aCons (mSl (mV 2) oNone (oSome (mUn gNeg (mC (.int 1))))) aNil))) (mC (.int 1))) aNil)) (mBin gSub (mCB gLen (aCons (mIx (mV 5) (mC (.int 1))) aNil)) (mC (.int 1))))) (sRet (mC (.bool false))) sNil) (sIf (mTru (mBin gNe (mCall WF.g_lets_limit (aCons (mV 4) aNil)) (mBin gSub (mCall WF.g_lets_limit (aCons (mV 0) aNil)) (mCall WF.g_lets_limit (aCons (mV 3) aNil))))) (sRet (mC (.bool false))) sNil))))) sNil)) (sRet (mC (.bool true))))
def g_without_right_k11 : Gd := runDef 7 2 m_without_right_k11
end WF
namespace WF
open PySem PySem.Spec PyProof.Rows L2 DL
def m_law_k11 : Ms := (sSeq (sSet 1 (mCall WF.g_feed_k01 (aCons (mV 0) aNil))) (sSeq (sSet 2 (mLst (aCons (mC (.int 0)) (aCons (mC (.int 1)) (aCons (mC (.int 2)) (aCons (mC (.int 4)) (aCons (mC (.int 5)) (aCons (mC (.int 6)) (aCons (mC (.int 7)) (aCons (mC (.int 8)) (aCons (mC (.int 39)) (aCons (mC (.int 40)) (aCons (mC (.int 41)) (aCons (mC (.int 98)) (aCons (mC (.int 99)) (aCons (mC (.int 100)) (aCons (mC (.int 3)) (aCons (mC (.int 9)) aNil)))))))))))))))))) (sSeq (sFor (iSeq (mTup (aCons (mCall (WF.g_limit_k01 12) (aCons (mV 1) (aCons (mC (.int 2)) aNil))) (aCons (mCall (WF.g_limit_k01 12) (aCons (mV 1) (aCons (mC (.int 3)) aNil))) (aCons (mIx (mIx (mIx (mCall WF.g_second_site_k02 aNil) (mC (.int 2))) (mC (.int 0))) (mC (.int 3))) aNil))))) (gtN 3) (sSeq (sPar 4 5 (aCons (mCB gRepr (aCons (mV 3) aNil)) (aCons (mCall WF.g_slack_k01 (aCons (mV 1) aNil)) aNil))) (sSeq (sIf (mNotT (mTru (mCall WF.g_parts_right_k11 (aCons (mV 3) aNil)))) (sRet (mC (.bool false))) sNil) (sSeq (sFor (iRange1 (aCons (mC (.int 9)) aNil)) (gtN 6) (sSeq (sSet 7 (mCB gTuple (aCons (mLc [9] (iRange1 (aCons (mC (.int 3)) aNil)) (gtN 9) tTrue (mIx (mV 2) (mCall WF.g_draw_k01 (aCons (mV 1) (aCons (mC (.int 16)) aNil))))) aNil))) (sSeq (sIf (mNotT (mTru (mCall WF.g_counts_right_k11 (aCons (mV 3) (aCons (mV 7) (aCons (mV 5) (aCons (mCB gTuple (aCons (mLc [9] (iRange1 (aCons (mC (.int 3)) aNil)) (gtN 9) tTrue (mCall WF.g_draw_k01 (aCons (mV 1) (aCons (mC (.int 4)) aNil)))) aNil)) aNil))))))) (sRet (mC (.bool false))) sNil) (sIf (mNotT (mTru (mCall WF.g_without_right_k11 (aCons (mV 3) (aCons (mV 7) aNil))))) (sRet (mC (.bool false))) sNil)))) (sSeq (sSet 8 (mCall WF.g_widened (aCons (mV 3) (aCons (mV 5) aNil)))) (sSeq (sIf (mTru (mBin gNe (mCall WF.g_widened (aCons (mV 3) (aCons (mTup (aCons (mC (.int 0)) (aCons (mC (.int 0)) (aCons (mC (.int 0)) aNil)))) aNil))) (mV 3))) (sRet (mC (.bool false))) sNil) (sSeq (sIf (mTru (mBin gNe (mCall WF.g_widened (aCons (mV 8) (aCons (mTup (aCons (mC (.int 1)) (aCons (mC (.int 2)) (aCons (mC (.int 3)) aNil)))) aNil))) (mCall WF.g_widened (aCons (mV 3) (aCons (mCall WF.g_added_k11 (aCons (mV 5) (aCons (mTup (aCons (mC (.int 1)) (aCons (mC (.int 2)) (aCons (mC (.int 3)) aNil)))) aNil))) aNil))))) (sRet (mC (.bool false))) sNil) (sIf (mOrT (mTru (mBin gNe (mCall WF.g_names_in (aCons (mV 8) aNil)) (mCall WF.g_names_in (aCons (mV 3) aNil)))) (mTru (mBin gNe (mCB gRepr (aCons (mV 3) aNil)) (mV 4)))) (sRet (mC (.bool false))) sNil)))))))) (sRet (mC (.bool true))))))
def g_law_k11 : Gd := runDef 10 1 m_law_k11
end WF
namespace K11
open PySem PySem.Spec PyProof.Rows L2 DL
structure Bl (P : Program) (K : Fg) (mg : Str → Option Value) : Prop where
  b_all : mg "all" = none
  b_any : mg "any" = none
  b_bool : mg "bool" = none
  b_enumerate : mg "enumerate" = none
  b_int : mg "int" = none
  b_isinstance : mg "isinstance" = none
  b_len : mg "len" = none
  b_list : mg "list" = none
  b_range : mg "range" = none
  b_repr : mg "repr" = none
  b_set : mg "set" = none
  b_sorted : mg "sorted" = none
  b_str : mg "str" = none
  b_tuple : mg "tuple" = none
  b_zip : mg "zip" = none
  c_COUNT_WORDS : ∃ a, mg "COUNT_WORDS" = some (.ref a) ∧ KnD K (.ref a) c_COUNT_WORDS
  c_JOINING_WORDS : ∃ a, mg "JOINING_WORDS" = some (.ref a) ∧ KnD K (.ref a) c_JOINING_WORDS
  c_NO_NUMBERS : ∃ a, mg "NO_NUMBERS" = some (.ref a) ∧ KnD K (.ref a) c_NO_NUMBERS
section
variable {P : Program} {w : World} {K : Fg} {mg : Str → Option Value} {base : Heap}
abbrev nm__law_feed : List Str := ["_law_script"]
theorem sc__law_feed : FnScope nm__law_feed ["_law_script"] (defScope (top 35)) := ⟨rfl, rfl, rfl, by decide +kernel, rfl, by decide +kernel, by decide +kernel⟩
theorem c__law_feed (B : Bl P K mg) (D : Dfn K mg "_law_feed" (top 35))  : Cal false P w K mg base 1 "_law_feed" (top 35) ["_law_script"] WF.g_feed_k01 := by
  refine cal_of (m := WF.m_feed_k01) D sc__law_feed rfl rfl (fun _ _ _ _ _ _ us hl => match us, hl with | [_], _ => rfl) fun f cdv A outer s H hr hg => ?_
  have ND := sc__law_feed.nd
  exact (dss_one (ds_ret (de_rec (dps_cons (de_callTy cd_list rfl B.b_list bt_list (da_cons (de_slice (vl 0) do_none (do_some de_int)) da_nil)) (dps_cons de_int (dps_cons de_int (dps_cons de_int dps_nil)))) rfl rfl (fun z => by cases z) (by decide) (by decide) (by decide))))
abbrev nm__law_draw : List Str := ["_law_feed_here", "_law_many", "_law_digit", "_law_spot", "_law_cell", "_law_mixed"]
theorem sc__law_draw : FnScope nm__law_draw ["_law_feed_here", "_law_many"] (defScope (top 36)) := ⟨rfl, rfl, rfl, by decide +kernel, rfl, by decide +kernel, by decide +kernel⟩
theorem c__law_draw (B : Bl P K mg) (D : Dfn K mg "_law_draw" (top 36))  : Cal false P w K mg base 1 "_law_draw" (top 36) ["_law_feed_here", "_law_many"] WF.g_draw_k01 := by
  refine cal_of (m := WF.m_draw_k01) D sc__law_draw rfl rfl (fun _ _ _ _ _ _ us hl => match us, hl with | [_, _], _ => rfl) fun f cdv A outer s H hr hg => ?_
  have ND := sc__law_draw.nd
  exact (dss_cons (ds_put hr.u1 (vl 0) (de_op od_add (de_ix hr.u1 (vl 0) de_str (fun _ _ => rfl)) de_int)) (dss_cons (ds_if (dt_cmp od_gt (de_ix hr.u1 (vl 0) de_str (fun _ _ => rfl)) de_int (nomark _)) (dss_cons (ds_set (i := 2) ND rfl (.inl rfl) (de_op od_mod (de_callTy cd_int rfl B.b_int bt_int (da_cons (de_ix hr.u1 (vl 0) de_str (fun _ _ => rfl)) da_nil)) (vl 1))) (dss_cons (ds_put hr.u1 (vl 0) (de_op od_div (de_ix hr.u1 (vl 0) de_str (fun _ _ => rfl)) (vl 1))) (dss_one (ds_ret (vl 2))))) dss_nil) (dss_cons (ds_set (i := 3) ND rfl (.inl rfl) (de_ix hr.u1 (vl 0) de_str (fun _ _ => rfl))) (dss_cons (ds_put hr.u1 (vl 0) (de_op od_add (vl 3) de_int)) (dss_cons (ds_set (i := 4) ND rfl (.inl rfl) (de_if (dt_cmp (od_ne hr.units) (de_ix hr.u1 (vl 0) de_str (fun _ _ => rfl)) (de_lst da_nil) (nomark _)) (de_ix hr.u1 (de_ix hr.u1 (vl 0) de_str (fun _ _ => rfl)) (de_op od_mod (de_callTy cd_int rfl B.b_int bt_int (da_cons (vl 3) da_nil)) (de_callB cd_len rfl B.b_len bt_len (da_cons (de_ix hr.u1 (vl 0) de_str (fun _ _ => rfl)) da_nil))) (fun _ _ => rfl)) de_int)) (dss_cons (ds_if (Dw.dt (dw_and (dt_cmp od_ge (vl 4) (de_op od_pow de_int de_int) (nomark _)) (dw_and1 (dt_cmp od_lt (vl 3) (de_callB cd_len rfl B.b_len bt_len (da_cons (de_ix hr.u1 (vl 0) de_str (fun _ _ => rfl)) da_nil)) (nomark _))))) (dss_cons (ds_put hr.u1 (vl 0) (de_op od_div (vl 4) (vl 1))) (dss_one (ds_ret (de_op od_mod (de_callTy cd_int rfl B.b_int bt_int (da_cons (vl 4) da_nil)) (vl 1))))) dss_nil) (dss_cons (ds_set (i := 5) ND rfl (.inl rfl) (de_op od_mod (de_callTy cd_int rfl B.b_int bt_int (da_cons (de_op od_add (de_op od_add (de_op od_mod (de_callTy cd_int rfl B.b_int bt_int (da_cons (vl 4) da_nil)) de_int) (de_op od_mul de_int (de_ix hr.u1 (vl 0) de_str (fun _ _ => rfl)))) de_int) da_nil)) de_int)) (dss_cons (ds_set (i := 5) ND rfl (.inl rfl) (de_op od_mod (de_callTy cd_int rfl B.b_int bt_int (da_cons (de_op od_add (de_op od_add (de_op od_mul (vl 5) (vl 5)) (de_op od_mul de_int (de_ix hr.u1 (vl 0) de_str (fun _ _ => rfl)))) de_int) da_nil)) de_int)) (dss_one (ds_ret (de_op od_mod (de_callTy cd_int rfl B.b_int bt_int (da_cons (de_op od_div (de_op od_mod (de_callTy cd_int rfl B.b_int bt_int (da_cons (de_op od_add (de_op od_mul (vl 5) (vl 5)) (de_op od_mul de_int (vl 5))) da_nil)) de_int) de_int) da_nil)) (vl 1))))))))))))
abbrev nm__law_limit : List Str := ["_law_feed_here", "_law_deep", "_law_turn_in", "_law_n", "_law_some", "_law_k"]
theorem sc__law_limit : FnScope nm__law_limit ["_law_feed_here", "_law_deep"] (defScope (top 37)) := ⟨rfl, rfl, rfl, by decide +kernel, rfl, by decide +kernel, by decide +kernel⟩
theorem c__law_limit (B : Bl P K mg) (D : Dfn K mg "_law_limit" (top 37)) (C__law_draw : Cal false P w K mg base 1 "_law_draw" (top 36) ["_law_feed_here", "_law_many"] WF.g_draw_k01) : ∀ n, Cal false P w K mg base (1 + n) "_law_limit" (top 37) ["_law_feed_here", "_law_deep"] (WF.g_limit_k01 n)
  | 0 => cal_bad D (fun _ _ _ _ _ _ us hl => match us, hl with | [_, _], _ => rfl)
  | n + 1 => by
    have C := c__law_limit B D C__law_draw n
    refine cal_of (k := 1 + n) (m := WF.m_limit_k01 (WF.g_limit_k01 n)) D sc__law_limit rfl rfl (fun _ _ _ _ _ _ us hl => match us, hl with | [_, _], _ => rfl) fun f cdv A outer s H hr hg => ?_
    have ND := sc__law_limit.nd
    exact (dss_cons (ds_set (i := 2) ND rfl (.inl rfl) (dc_call C__law_draw hr (by omega) nog rfl (da_cons (vc 0) (da_cons de_int da_nil)))) (dss_cons (ds_if (Dw.dt (dw_or (dt_cmp od_lt (vl 2) de_int (nomark _)) (dw_or1 (dt_cmp (od_eq hr.units) (vc 1) de_int (nomark _))))) (dss_cons (ds_set (i := 3) ND rfl (.inl rfl) (de_ix hr.u1 (de_lst (da_cons de_int (da_cons de_int (da_cons de_int (da_cons de_int (da_cons de_int (da_cons de_int da_nil))))))) (dc_call C__law_draw hr (by omega) nog rfl (da_cons (vc 0) (da_cons de_int da_nil))) (fun _ _ => rfl))) (dss_one (ds_ret (de_tup (da_cons (de_ix hr.u1 (de_lst (da_cons de_str (da_cons de_str (da_cons de_str da_nil)))) (de_op od_mod (de_callTy cd_int rfl B.b_int bt_int (da_cons (vl 2) da_nil)) de_int) (fun _ _ => rfl)) (da_cons (vl 3) da_nil)))))) dss_nil) (dss_cons (ds_set (i := 4) ND rfl (.inl rfl) (de_callTy cd_tuple rfl B.b_tuple bt_tuple (da_cons (de_lc (own := [("_law_k", 5)]) rfl ND (di_range1 rfl B.b_range (da_cons (de_op od_add de_int (dc_call C__law_draw hr (by omega) nog rfl (da_cons (vc 0) (da_cons de_int da_nil)))) da_nil)) (blkOk_by (by kernel_rfl)) (dg_name (fun _ => ND) (fun _ => rfl) (fun _ => .inl rfl) (by decide) (fun _ => .inr rfl)) (fun _ _ _ _ _ => dts_nil) (fun _ _ _ _ _ => (dc_call C hr (by omega) nog rfl (da_cons (vc 0) (da_cons (de_op od_sub (vc 1) de_int) da_nil))))) da_nil))) (dss_one (ds_ret (de_tup (da_cons (de_ix hr.u1 (de_lst (da_cons de_str (da_cons de_str da_nil))) (de_op od_mod (de_callTy cd_int rfl B.b_int bt_int (da_cons (vl 2) da_nil)) de_int) (fun _ _ => rfl)) (da_cons (vl 4) da_nil))))))))
abbrev nm_inner_pairs : List Str := ["path", "limit", "k", "inner"]
theorem sc_inner_pairs : FnScope nm_inner_pairs ["path", "limit"] (defScope (top 13)) := ⟨rfl, rfl, rfl, by decide +kernel, rfl, by decide +kernel, by decide +kernel⟩
theorem c_inner_pairs (B : Bl P K mg) (D : Dfn K mg "inner_pairs" (top 13))  : Cal false P w K mg base 1 "inner_pairs" (top 13) ["path", "limit"] WF.g_inner_pairs := by
  obtain ⟨a_COUNT_WORDS, h_COUNT_WORDS, k_COUNT_WORDS⟩ := B.c_COUNT_WORDS
  refine cal_of (m := WF.m_inner_pairs) D sc_inner_pairs rfl rfl (fun _ _ _ _ _ _ us hl => match us, hl with | [_, _], _ => rfl) fun f cdv A outer s H hr hg => ?_
  have ND := sc_inner_pairs.nd
  exact (dss_cons (ds_if (dt_cmp (od_in hr.u65) (de_ix hr.u1 (vl 1) de_int (fun _ _ => rfl)) (de_gdat rfl h_COUNT_WORDS k_COUNT_WORDS) rfl) (dss_one (ds_ret (de_lst da_nil))) dss_nil) (dss_one (ds_ret (de_lcP (own := [("k", 2), ("inner", 3)]) rfl ND (dip_enA rfl B.b_enumerate (da_cons (de_ix hr.u1 (vl 1) de_int (fun _ _ => rfl)) da_nil)) (blkOk_by (by kernel_rfl)) (dgp_tup (fun _ => rfl) (fun _ => rfl) (dgs_cons (dg_name (fun _ => ND) (fun _ => rfl) (fun _ => .inl rfl) (by decide) (fun _ => .inr rfl)) (dgs_cons (dg_name (fun _ => ND) (fun _ => rfl) (fun _ => .inl rfl) (by decide) (fun _ => .inr rfl)) dgs_nil))) (fun _ _ _ _ _ => dts_nil) (fun _ _ _ _ _ => (de_tup (da_cons (de_tup (da_star (vc 0) (da_cons (vl 2) da_nil))) (da_cons (vl 3) da_nil))))))))
abbrev nm_all_pairs : List Str := ["limit", "found", "waiting", "path", "part"]
theorem sc_all_pairs : FnScope nm_all_pairs ["limit"] (defScope (top 19)) := ⟨rfl, rfl, rfl, by decide +kernel, rfl, by decide +kernel, by decide +kernel⟩
theorem c_all_pairs (B : Bl P K mg) (D : Dfn K mg "all_pairs" (top 19)) (C_inner_pairs : Cal false P w K mg base 1 "inner_pairs" (top 13) ["path", "limit"] WF.g_inner_pairs) : Cal false P w K mg base 2 "all_pairs" (top 19) ["limit"] WF.g_all_pairs := by
  refine cal_of (m := WF.m_all_pairs) D sc_all_pairs rfl rfl (fun _ _ _ _ _ _ us hl => match us, hl with | [_], _ => rfl) fun f cdv A outer s H hr hg => ?_
  have ND := sc_all_pairs.nd
  exact (dss_cons (ds_own (i := 1) ND rfl (.inl rfl) da_nil) (dss_cons (ds_own (i := 2) ND rfl (.inl rfl) (da_cons (de_tup (da_cons (de_tup da_nil) (da_cons (vl 0) da_nil))) da_nil)) (dss_cons (ds_while (fun _ _ => 1000) PassesOwn.never (dt_cmp od_gt (de_lenO rfl (.inl rfl) rfl B.b_len) de_int (nomark _)) (dss_cons (ds_pop (vs := [3, 4]) rfl (.inl rfl) (dg_tup (fun _ => rfl) (fun _ => rfl) (dgs_cons (dg_name (fun _ => ND) (fun _ => rfl) (fun _ => .inl rfl) (by decide) (fun _ => .inl rfl)) (dgs_cons (dg_name (fun _ => ND) (fun _ => rfl) (fun _ => .inl rfl) (by decide) (fun _ => .inl rfl)) dgs_nil)))) (dss_cons (ds_append rfl (.inl rfl) (de_tup (da_cons (vl 3) (da_cons (vl 4) da_nil)))) (dss_one (ds_extend rfl (.inl rfl) (de_rev (dc_call C_inner_pairs hr (by decide) nog rfl (da_cons (vl 3) (da_cons (vl 4) da_nil))))))))) (dss_frz 2 (dss_frz 1 (dss_one (ds_ret (vl 1))))))))
abbrev nm_number_for : List Str := ["word", "numbers"]
theorem sc_number_for : FnScope nm_number_for ["word", "numbers"] (defScope (top 20)) := ⟨rfl, rfl, rfl, by decide +kernel, rfl, by decide +kernel, by decide +kernel⟩
theorem c_number_for (B : Bl P K mg) (D : Dfn K mg "number_for" (top 20))  : Cal false P w K mg base 1 "number_for" (top 20) ["word", "numbers"] WF.g_number_for := by
  obtain ⟨a_COUNT_WORDS, h_COUNT_WORDS, k_COUNT_WORDS⟩ := B.c_COUNT_WORDS
  refine cal_of (m := WF.m_number_for) D sc_number_for rfl rfl (fun _ _ _ _ _ _ us hl => match us, hl with | [_, _], _ => rfl) fun f cdv A outer s H hr hg => ?_
  have ND := sc_number_for.nd
  exact (dss_one (ds_ret (de_ix hr.u1 (vl 1) (de_indexT (de_gdat rfl h_COUNT_WORDS k_COUNT_WORDS) (vl 0)) (fun _ _ => rfl))))
abbrev nm_widened : List Str := ["limit", "slack", "made", "path", "part", "word", "rest", "k"]
theorem sc_widened : FnScope nm_widened ["limit", "slack"] (defScope (top 24)) := ⟨rfl, rfl, rfl, by decide +kernel, rfl, by decide +kernel, by decide +kernel⟩
theorem c_widened (B : Bl P K mg) (D : Dfn K mg "widened" (top 24)) (C_all_pairs : Cal false P w K mg base 2 "all_pairs" (top 19) ["limit"] WF.g_all_pairs) (C_number_for : Cal false P w K mg base 1 "number_for" (top 20) ["word", "numbers"] WF.g_number_for) : Cal false P w K mg base 3 "widened" (top 24) ["limit", "slack"] WF.g_widened := by
  obtain ⟨a_COUNT_WORDS, h_COUNT_WORDS, k_COUNT_WORDS⟩ := B.c_COUNT_WORDS
  refine Cal.pure <| cal_of (m := WF.m_widened) D sc_widened rfl rfl (fun _ _ _ _ _ _ us hl => match us, hl with | [_, _], _ => rfl) fun f cdv A outer s H hr hg => ?_
  have ND := sc_widened.nd
  exact (dss_cons (ds_set (i := 2) ND rfl (.inr rfl) de_map0) (dss_cons (ds_for (vs := [3, 4]) PassesOwn.never rfl (di_seq (de_rev (dc_call C_all_pairs hr (by decide) nog rfl (da_cons (vl 0) da_nil)))) (dg_tup (fun _ => rfl) (fun _ => rfl) (dgs_cons (dg_name (fun _ => ND) (fun _ => rfl) (fun _ => .inr rfl) (by decide) (fun _ => .inl rfl)) (dgs_cons (dg_name (fun _ => ND) (fun _ => rfl) (fun _ => .inl rfl) (by decide) (fun _ => .inl rfl)) dgs_nil))) (dss_cons (ds_asg (vs := [5, 6]) (vl 4) (dg_tup (fun _ => rfl) (fun _ => rfl) (dgs_cons (dg_name (fun _ => ND) (fun _ => rfl) (fun _ => .inl rfl) (by decide) (fun _ => .inl rfl)) (dgs_cons (dg_name (fun _ => ND) (fun _ => rfl) (fun _ => .inl rfl) (by decide) (fun _ => .inl rfl)) dgs_nil)))) (dss_one (ds_if (dt_cmp (od_in hr.u65) (vl 5) (de_gdat rfl h_COUNT_WORDS k_COUNT_WORDS) rfl) (dss_one (ds_putT hr.u1 (vc 2) (vc 3) (de_tup (da_cons (vl 5) (da_cons (de_op od_add (vl 6) (dc_call C_number_for hr (by decide) nog rfl (da_cons (vl 5) (da_cons (vl 1) da_nil)))) da_nil))))) (dss_one (ds_putT hr.u1 (vc 2) (vc 3) (de_tup (da_cons (vl 5) (da_cons (de_callTy cd_tuple rfl B.b_tuple bt_tuple (da_cons (de_lc (own := [("k", 7)]) rfl ND (di_range1 rfl B.b_range (da_cons (de_callB cd_len rfl B.b_len bt_len (da_cons (vl 6) da_nil)) da_nil)) (blkOk_by (by kernel_rfl)) (dg_name (fun _ => ND) (fun _ => rfl) (fun _ => .inl rfl) (by decide) (fun _ => .inr rfl)) (fun _ _ _ _ _ => dts_nil) (fun _ _ _ _ _ => (de_ixT hr.u1 (vc 2) (de_op od_add (vc 3) (de_tup (da_cons (vl 7) da_nil))) (fun _ _ => rfl)))) da_nil)) da_nil))))))))) (dss_one (ds_ret (de_ixT hr.u1 (vc 2) (de_tup da_nil) (fun _ _ => rfl))))))
abbrev nm__law_slack : List Str := ["_law_feed_here", "_law_k"]
theorem sc__law_slack : FnScope nm__law_slack ["_law_feed_here"] (defScope (top 38)) := ⟨rfl, rfl, rfl, by decide +kernel, rfl, by decide +kernel, by decide +kernel⟩
theorem c__law_slack (B : Bl P K mg) (D : Dfn K mg "_law_slack" (top 38)) (C__law_draw : Cal false P w K mg base 1 "_law_draw" (top 36) ["_law_feed_here", "_law_many"] WF.g_draw_k01) : Cal false P w K mg base 2 "_law_slack" (top 38) ["_law_feed_here"] WF.g_slack_k01 := by
  refine cal_of (m := WF.m_slack_k01) D sc__law_slack rfl rfl (fun _ _ _ _ _ _ us hl => match us, hl with | [_], _ => rfl) fun f cdv A outer s H hr hg => ?_
  have ND := sc__law_slack.nd
  exact (dss_one (ds_ret (de_callTy cd_tuple rfl B.b_tuple bt_tuple (da_cons (de_lc (own := [("_law_k", 1)]) rfl ND (di_range1 rfl B.b_range (da_cons de_int da_nil)) (blkOk_by (by kernel_rfl)) (dg_name (fun _ => ND) (fun _ => rfl) (fun _ => .inl rfl) (by decide) (fun _ => .inr rfl)) (fun _ _ _ _ _ => dts_nil) (fun _ _ _ _ _ => (de_ix hr.u1 (de_lst (da_cons de_int (da_cons de_int (da_cons de_int (da_cons de_int (da_cons de_int da_nil)))))) (dc_call C__law_draw hr (by decide) nog rfl (da_cons (vc 0) (da_cons de_int da_nil))) (fun _ _ => rfl)))) da_nil))))
abbrev nm_parts_of : List Str := ["limit"]
theorem sc_parts_of : FnScope nm_parts_of ["limit"] (defScope (top 26)) := ⟨rfl, rfl, rfl, by decide +kernel, rfl, by decide +kernel, by decide +kernel⟩
theorem c_parts_of (B : Bl P K mg) (D : Dfn K mg "parts_of" (top 26)) (C_all_pairs : Cal false P w K mg base 2 "all_pairs" (top 19) ["limit"] WF.g_all_pairs) : Cal false P w K mg base 3 "parts_of" (top 26) ["limit"] WF.g_parts_of := by
  refine cal_of (m := WF.m_parts_of) D sc_parts_of rfl rfl (fun _ _ _ _ _ _ us hl => match us, hl with | [_], _ => rfl) fun f cdv A outer s H hr hg => ?_
  have ND := sc_parts_of.nd
  exact (dss_one (ds_ret (de_callTy cd_tuple rfl B.b_tuple bt_tuple (da_cons (dc_call C_all_pairs hr (by decide) nog rfl (da_cons (vl 0) da_nil)) da_nil))))
abbrev nm_require_usable : List Str := ["truth", "word", "at"]
theorem sc_require_usable : FnScope nm_require_usable ["truth", "word", "at"] (defScope (top 18)) := ⟨rfl, rfl, rfl, by decide +kernel, rfl, by decide +kernel, by decide +kernel⟩
theorem c_require_usable (B : Bl P K mg) (D : Dfn K mg "require_usable" (top 18))  : Cal false P w K mg base 1 "require_usable" (top 18) ["truth", "word", "at"] WF.g_require_usable := by
  refine cal_of (m := WF.m_require_usable) D sc_require_usable rfl rfl (fun _ _ _ _ _ _ us hl => match us, hl with | [_, _, _], _ => rfl) fun f cdv A outer s H hr hg => ?_
  have ND := sc_require_usable.nd
  exact (dss_one (ds_if (dt_not (dt_truth (vl 0))) (dss_one ds_never) dss_nil))
abbrev nm_is_integer : List Str := ["thing"]
theorem sc_is_integer : FnScope nm_is_integer ["thing"] (defScope (top 9)) := ⟨rfl, rfl, rfl, by decide +kernel, rfl, by decide +kernel, by decide +kernel⟩
theorem c_is_integer (B : Bl P K mg) (D : Dfn K mg "is_integer" (top 9))  : Cal false P w K mg base 1 "is_integer" (top 9) ["thing"] WF.g_is_integer := by
  refine cal_of (m := WF.m_is_integer) D sc_is_integer rfl rfl (fun _ _ _ _ _ _ us hl => match us, hl with | [_], _ => rfl) fun f cdv A outer s H hr hg => ?_
  have ND := sc_is_integer.nd
  exact (dss_one (ds_ret (de_and (de_isi rfl B.b_isinstance rfl B.b_int bt_int (vl 0)) (de_and1 (de_not (de_isi rfl B.b_isinstance rfl B.b_bool bt_bool (vl 0)))))))
abbrev nm_is_number : List Str := ["thing"]
theorem sc_is_number : FnScope nm_is_number ["thing"] (defScope (top 10)) := ⟨rfl, rfl, rfl, by decide +kernel, rfl, by decide +kernel, by decide +kernel⟩
theorem c_is_number (B : Bl P K mg) (D : Dfn K mg "is_number" (top 10)) (C_is_integer : Cal false P w K mg base 1 "is_integer" (top 9) ["thing"] WF.g_is_integer) : Cal false P w K mg base 2 "is_number" (top 10) ["thing"] WF.g_is_number := by
  refine cal_of (m := WF.m_is_number) D sc_is_number rfl rfl (fun _ _ _ _ _ _ us hl => match us, hl with | [_], _ => rfl) fun f cdv A outer s H hr hg => ?_
  have ND := sc_is_number.nd
  exact (dss_one (ds_ret (de_and (dc_call C_is_integer hr (by decide) nog rfl (da_cons (vl 0) da_nil)) (de_and1 (de_cmp od_ge (vl 0) de_int (nomark _))))))
abbrev nm_limits_along : List Str := ["limit", "path", "found", "k", "word", "rest"]
theorem sc_limits_along : FnScope nm_limits_along ["limit", "path"] (defScope (top 27)) := ⟨rfl, rfl, rfl, by decide +kernel, rfl, by decide +kernel, by decide +kernel⟩
theorem c_limits_along (B : Bl P K mg) (D : Dfn K mg "limits_along" (top 27)) (C_require_usable : Cal false P w K mg base 1 "require_usable" (top 18) ["truth", "word", "at"] WF.g_require_usable) (C_is_number : Cal false P w K mg base 2 "is_number" (top 10) ["thing"] WF.g_is_number) : Cal false P w K mg base 3 "limits_along" (top 27) ["limit", "path"] WF.g_limits_along := by
  obtain ⟨a_COUNT_WORDS, h_COUNT_WORDS, k_COUNT_WORDS⟩ := B.c_COUNT_WORDS
  refine cal_of (m := WF.m_limits_along) D sc_limits_along rfl rfl (fun _ _ _ _ _ _ us hl => match us, hl with | [_, _], _ => rfl) fun f cdv A outer s H hr hg => ?_
  have ND := sc_limits_along.nd
  exact (dss_cons (ds_expr (dc_call C_require_usable hr (by decide) nog rfl (da_cons (de_isi rfl B.b_isinstance rfl B.b_tuple bt_tuple (vl 1)) (da_cons de_str (da_cons (de_neg de_int) da_nil))))) (dss_cons (ds_own (i := 2) ND rfl (.inl rfl) (da_cons (vl 0) da_nil)) (dss_cons (ds_for (vs := [3]) PassesOwn.never rfl (di_seq (vl 1)) (dg_name (fun _ => ND) (fun _ => rfl) (fun _ => .inl rfl) (by decide) (fun _ => .inl rfl)) (dss_cons (ds_asg (vs := [4, 5]) (de_ixO rfl (.inl rfl) (de_neg de_int) (fun _ _ => rfl)) (dg_tup (fun _ => rfl) (fun _ => rfl) (dgs_cons (dg_name (fun _ => ND) (fun _ => rfl) (fun _ => .inl rfl) (by decide) (fun _ => .inl rfl)) (dgs_cons (dg_name (fun _ => ND) (fun _ => rfl) (fun _ => .inl rfl) (by decide) (fun _ => .inl rfl)) dgs_nil)))) (dss_cons (ds_expr (dc_call C_require_usable hr (by decide) nog rfl (da_cons (de_and (de_cmp (od_notin hr.u65) (vl 4) (de_gdat rfl h_COUNT_WORDS k_COUNT_WORDS) rfl) (de_and (dc_call C_is_number hr (by decide) nog rfl (da_cons (vl 3) da_nil)) (de_and1 (de_cmp od_lt (vl 3) (de_callB cd_len rfl B.b_len bt_len (da_cons (vl 5) da_nil)) (nomark _))))) (da_cons de_str (da_cons (de_neg de_int) da_nil))))) (dss_one (ds_append rfl (.inl rfl) (de_ix hr.u1 (vl 5) (vl 3) (fun _ _ => rfl))))))) (dss_frz 2 (dss_one (ds_ret (vl 2)))))))
abbrev nm_put_along : List Str := ["around", "path", "late", "word", "rest", "k"]
theorem sc_put_along : FnScope nm_put_along ["around", "path", "late"] (defScope (top 28)) := ⟨rfl, rfl, rfl, by decide +kernel, rfl, by decide +kernel, by decide +kernel⟩
theorem c_put_along (B : Bl P K mg) (D : Dfn K mg "put_along" (top 28))  : Cal false P w K mg base 1 "put_along" (top 28) ["around", "path", "late"] WF.g_put_along := by
  refine cal_of (m := WF.m_put_along) D sc_put_along rfl rfl (fun _ _ _ _ _ _ us hl => match us, hl with | [_, _, _], _ => rfl) fun f cdv A outer s H hr hg => ?_
  have ND := sc_put_along.nd
  exact (dss_cons (ds_forP (vs := [3, 4, 5]) PassesOwn.never rfl (dip_zipM rfl B.b_zip (da_cons (de_rev (vl 0)) (da_cons (de_revT (vl 1)) da_nil))) (dgp_tup (fun _ => rfl) (fun _ => rfl) (dgs_cons (dg_tup (fun _ => rfl) (fun _ => rfl) (dgs_cons (dg_name (fun _ => ND) (fun _ => rfl) (fun _ => .inl rfl) (by decide) (fun _ => .inl rfl)) (dgs_cons (dg_name (fun _ => ND) (fun _ => rfl) (fun _ => .inl rfl) (by decide) (fun _ => .inl rfl)) dgs_nil))) (dgs_cons (dg_name (fun _ => ND) (fun _ => rfl) (fun _ => .inl rfl) (by decide) (fun _ => .inl rfl)) dgs_nil))) (dss_one (ds_set (i := 2) ND rfl (.inl rfl) (de_tup (da_cons (vl 3) (da_cons (de_tup (da_star (de_slice (vl 4) do_none (do_some (vl 5))) (da_cons (vl 2) (da_star (de_slice (vl 4) (do_some (de_op od_add (vl 5) de_int)) do_none) da_nil)))) da_nil)))))) (dss_one (ds_ret (vl 2))))
abbrev nm_limit_word : List Str := ["thing"]
theorem sc_limit_word : FnScope nm_limit_word ["thing"] (defScope (top 12)) := ⟨rfl, rfl, rfl, by decide +kernel, rfl, by decide +kernel, by decide +kernel⟩
theorem c_limit_word (B : Bl P K mg) (D : Dfn K mg "limit_word" (top 12))  : Cal false P w K mg base 1 "limit_word" (top 12) ["thing"] WF.g_limit_word := by
  obtain ⟨a_COUNT_WORDS, h_COUNT_WORDS, k_COUNT_WORDS⟩ := B.c_COUNT_WORDS
  obtain ⟨a_JOINING_WORDS, h_JOINING_WORDS, k_JOINING_WORDS⟩ := B.c_JOINING_WORDS
  refine cal_of (m := WF.m_limit_word) D sc_limit_word rfl rfl (fun _ _ _ _ _ _ us hl => match us, hl with | [_], _ => rfl) fun f cdv A outer s H hr hg => ?_
  have ND := sc_limit_word.nd
  exact (dss_cons (ds_if (Dw.dt (dw_or (dt_not (dt_truth (de_isi rfl B.b_isinstance rfl B.b_tuple bt_tuple (vl 0)))) (dw_or (dt_cmp (od_ne hr.units) (de_callB cd_len rfl B.b_len bt_len (da_cons (vl 0) da_nil)) de_int (nomark _)) (dw_or1 (dt_not (dt_truth (de_isi rfl B.b_isinstance rfl B.b_str bt_str (de_ix hr.u1 (vl 0) de_int (fun _ _ => rfl))))))))) (dss_one (ds_ret de_non)) dss_nil) (dss_one (ds_ret (de_if (Dw.dt (dw_or (dt_cmp (od_in hr.u65) (de_ix hr.u1 (vl 0) de_int (fun _ _ => rfl)) (de_gdat rfl h_COUNT_WORDS k_COUNT_WORDS) rfl) (dw_or1 (dt_cmp (od_in hr.u65) (de_ix hr.u1 (vl 0) de_int (fun _ _ => rfl)) (de_gdat rfl h_JOINING_WORDS k_JOINING_WORDS) rfl)))) (de_ix hr.u1 (vl 0) de_int (fun _ _ => rfl)) de_non))))
abbrev nm_is_amount : List Str := ["thing"]
theorem sc_is_amount : FnScope nm_is_amount ["thing"] (defScope (top 11)) := ⟨rfl, rfl, rfl, by decide +kernel, rfl, by decide +kernel, by decide +kernel⟩
theorem c_is_amount (B : Bl P K mg) (D : Dfn K mg "is_amount" (top 11)) (C_is_integer : Cal false P w K mg base 1 "is_integer" (top 9) ["thing"] WF.g_is_integer) : Cal false P w K mg base 2 "is_amount" (top 11) ["thing"] WF.g_is_amount := by
  refine cal_of (m := WF.m_is_amount) D sc_is_amount rfl rfl (fun _ _ _ _ _ _ us hl => match us, hl with | [_], _ => rfl) fun f cdv A outer s H hr hg => ?_
  have ND := sc_is_amount.nd
  exact (dss_one (ds_ret (de_and (dc_call C_is_integer hr (by decide) nog rfl (da_cons (vl 0) da_nil)) (de_and1 (de_cmp od_ge (vl 0) de_int (nomark _))))))
abbrev nm_limit_fault : List Str := ["thing", "waiting", "path", "limit", "word"]
theorem sc_limit_fault : FnScope nm_limit_fault ["thing"] (defScope (top 14)) := ⟨rfl, rfl, rfl, by decide +kernel, rfl, by decide +kernel, by decide +kernel⟩
theorem c_limit_fault (B : Bl P K mg) (D : Dfn K mg "limit_fault" (top 14)) (C_limit_word : Cal false P w K mg base 1 "limit_word" (top 12) ["thing"] WF.g_limit_word) (C_is_amount : Cal false P w K mg base 2 "is_amount" (top 11) ["thing"] WF.g_is_amount) (C_inner_pairs : Cal false P w K mg base 1 "inner_pairs" (top 13) ["path", "limit"] WF.g_inner_pairs) : Cal false P w K mg base 3 "limit_fault" (top 14) ["thing"] WF.g_limit_fault := by
  obtain ⟨a_COUNT_WORDS, h_COUNT_WORDS, k_COUNT_WORDS⟩ := B.c_COUNT_WORDS
  refine cal_of (m := WF.m_limit_fault) D sc_limit_fault rfl rfl (fun _ _ _ _ _ _ us hl => match us, hl with | [_], _ => rfl) fun f cdv A outer s H hr hg => ?_
  have ND := sc_limit_fault.nd
  exact (dss_cons (ds_own (i := 1) ND rfl (.inl rfl) (da_cons (de_tup (da_cons (de_tup da_nil) (da_cons (vl 0) da_nil))) da_nil)) (dss_cons (ds_while (fun _ _ => 1000) PassesOwn.never (dt_cmp od_gt (de_lenO rfl (.inl rfl) rfl B.b_len) de_int (nomark _)) (dss_cons (ds_pop (vs := [2, 3]) rfl (.inl rfl) (dg_tup (fun _ => rfl) (fun _ => rfl) (dgs_cons (dg_name (fun _ => ND) (fun _ => rfl) (fun _ => .inl rfl) (by decide) (fun _ => .inl rfl)) (dgs_cons (dg_name (fun _ => ND) (fun _ => rfl) (fun _ => .inl rfl) (by decide) (fun _ => .inl rfl)) dgs_nil)))) (dss_cons (ds_set (i := 4) ND rfl (.inl rfl) (dc_call C_limit_word hr (by decide) nog rfl (da_cons (vl 3) da_nil))) (dss_cons (ds_if (dt_cmp od_is (vl 4) de_non (nomark _)) (dss_one (ds_ret (de_tup (da_cons de_str (da_cons (vl 2) da_nil))))) dss_nil) (dss_one (ds_if (dt_cmp (od_in hr.u65) (vl 4) (de_gdat rfl h_COUNT_WORDS k_COUNT_WORDS) rfl) (dss_one (ds_if (dt_not (dt_truth (dc_call C_is_amount hr (by decide) nog rfl (da_cons (de_ix hr.u1 (vl 3) de_int (fun _ _ => rfl)) da_nil)))) (dss_one (ds_ret (de_tup (da_cons de_str (da_cons (vl 2) da_nil))))) dss_nil)) (dss_one (ds_if (Dw.dt (dw_or (dt_not (dt_truth (de_isi rfl B.b_isinstance rfl B.b_tuple bt_tuple (de_ix hr.u1 (vl 3) de_int (fun _ _ => rfl))))) (dw_or1 (dt_cmp (od_eq hr.units) (de_callB cd_len rfl B.b_len bt_len (da_cons (de_ix hr.u1 (vl 3) de_int (fun _ _ => rfl)) da_nil)) de_int (nomark _))))) (dss_one (ds_ret (de_tup (da_cons de_str (da_cons (vl 2) da_nil))))) (dss_one (ds_extend rfl (.inl rfl) (de_rev (dc_call C_inner_pairs hr (by decide) nog rfl (da_cons (vl 2) (da_cons (vl 3) da_nil)))))))))))))) (dss_frz 1 (dss_one (ds_ret de_non)))))
abbrev nm_is_limit : List Str := ["thing"]
theorem sc_is_limit : FnScope nm_is_limit ["thing"] (defScope (top 15)) := ⟨rfl, rfl, rfl, by decide +kernel, rfl, by decide +kernel, by decide +kernel⟩
theorem c_is_limit (B : Bl P K mg) (D : Dfn K mg "is_limit" (top 15)) (C_limit_fault : Cal false P w K mg base 3 "limit_fault" (top 14) ["thing"] WF.g_limit_fault) : Cal false P w K mg base 4 "is_limit" (top 15) ["thing"] WF.g_is_limit := by
  refine cal_of (m := WF.m_is_limit) D sc_is_limit rfl rfl (fun _ _ _ _ _ _ us hl => match us, hl with | [_], _ => rfl) fun f cdv A outer s H hr hg => ?_
  have ND := sc_is_limit.nd
  exact (dss_one (ds_ret (de_cmp od_is (dc_call C_limit_fault hr (by decide) nog rfl (da_cons (vl 0) da_nil)) de_non (nomark _))))
abbrev nm_with_part : List Str := ["limit", "path", "other", "found"]
theorem sc_with_part : FnScope nm_with_part ["limit", "path", "other"] (defScope (top 30)) := ⟨rfl, rfl, rfl, by decide +kernel, rfl, by decide +kernel, by decide +kernel⟩
theorem c_with_part (B : Bl P K mg) (D : Dfn K mg "with_part" (top 30)) (C_limits_along : Cal false P w K mg base 3 "limits_along" (top 27) ["limit", "path"] WF.g_limits_along) (C_require_usable : Cal false P w K mg base 1 "require_usable" (top 18) ["truth", "word", "at"] WF.g_require_usable) (C_is_limit : Cal false P w K mg base 4 "is_limit" (top 15) ["thing"] WF.g_is_limit) (C_put_along : Cal false P w K mg base 1 "put_along" (top 28) ["around", "path", "late"] WF.g_put_along) : Cal false P w K mg base 5 "with_part" (top 30) ["limit", "path", "other"] WF.g_with_part := by
  refine cal_of (m := WF.m_with_part) D sc_with_part rfl rfl (fun _ _ _ _ _ _ us hl => match us, hl with | [_, _, _], _ => rfl) fun f cdv A outer s H hr hg => ?_
  have ND := sc_with_part.nd
  exact (dss_cons (ds_set (i := 3) ND rfl (.inl rfl) (dc_call C_limits_along hr (by decide) nog rfl (da_cons (vl 0) (da_cons (vl 1) da_nil)))) (dss_cons (ds_expr (dc_call C_require_usable hr (by decide) nog rfl (da_cons (dc_call C_is_limit hr (by decide) nog rfl (da_cons (vl 2) da_nil)) (da_cons de_str (da_cons (de_neg de_int) da_nil))))) (dss_one (ds_ret (dc_call C_put_along hr (by decide) nog rfl (da_cons (de_slice (vl 3) do_none (do_some (de_neg de_int))) (da_cons (vl 1) (da_cons (vl 2) da_nil))))))))
abbrev nm_lets_limit : List Str := ["thing", "fault", "word", "path", "part"]
theorem sc_lets_limit : FnScope nm_lets_limit ["thing"] (defScope (top 33)) := ⟨rfl, rfl, rfl, by decide +kernel, rfl, by decide +kernel, by decide +kernel⟩
theorem c_lets_limit (B : Bl P K mg) (D : Dfn K mg "lets_limit" (top 33)) (C_limit_fault : Cal false P w K mg base 3 "limit_fault" (top 14) ["thing"] WF.g_limit_fault) (C_all_pairs : Cal false P w K mg base 2 "all_pairs" (top 19) ["limit"] WF.g_all_pairs) : Cal false P w K mg base 4 "lets_limit" (top 33) ["thing"] WF.g_lets_limit := by
  obtain ⟨a_COUNT_WORDS, h_COUNT_WORDS, k_COUNT_WORDS⟩ := B.c_COUNT_WORDS
  refine cal_of (m := WF.m_lets_limit) D sc_lets_limit rfl rfl (fun _ _ _ _ _ _ us hl => match us, hl with | [_], _ => rfl) fun f cdv A outer s H hr hg => ?_
  have ND := sc_lets_limit.nd
  exact (dss_cons (ds_set (i := 1) ND rfl (.inl rfl) (dc_call C_limit_fault hr (by decide) nog rfl (da_cons (vl 0) da_nil))) (dss_cons (ds_if (dt_cmp od_isnot (vl 1) de_non (nomark _)) (dss_cons (ds_asg (vs := [2, 3]) (vl 1) (dg_tup (fun _ => rfl) (fun _ => rfl) (dgs_cons (dg_name (fun _ => ND) (fun _ => rfl) (fun _ => .inl rfl) (by decide) (fun _ => .inl rfl)) (dgs_cons (dg_name (fun _ => ND) (fun _ => rfl) (fun _ => .inl rfl) (by decide) (fun _ => .inl rfl)) dgs_nil)))) (dss_one ds_never)) dss_nil) (dss_one (ds_ret (de_callB cd_len rfl B.b_len bt_len (da_cons (de_lc (own := [("path", 3), ("part", 4)]) rfl ND (di_seq (dc_call C_all_pairs hr (by decide) nog rfl (da_cons (vl 0) da_nil))) (blkOk_by (by kernel_rfl)) (dg_tup (fun _ => rfl) (fun _ => rfl) (dgs_cons (dg_name (fun _ => ND) (fun _ => rfl) (fun _ => .inl rfl) (by decide) (fun _ => .inr rfl)) (dgs_cons (dg_name (fun _ => ND) (fun _ => rfl) (fun _ => .inl rfl) (by decide) (fun _ => .inr rfl)) dgs_nil))) (fun _ _ _ _ _ => (dts_one (dt_cmp (od_in hr.u65) (de_ix hr.u1 (vl 4) de_int (fun _ _ => rfl)) (de_gdat rfl h_COUNT_WORDS k_COUNT_WORDS) rfl))) (fun _ _ _ _ _ => (vl 3))) da_nil))))))
abbrev nm_part_at : List Str := ["limit", "path"]
theorem sc_part_at : FnScope nm_part_at ["limit", "path"] (defScope (top 29)) := ⟨rfl, rfl, rfl, by decide +kernel, rfl, by decide +kernel, by decide +kernel⟩
theorem c_part_at (B : Bl P K mg) (D : Dfn K mg "part_at" (top 29)) (C_limits_along : Cal false P w K mg base 3 "limits_along" (top 27) ["limit", "path"] WF.g_limits_along) : Cal false P w K mg base 4 "part_at" (top 29) ["limit", "path"] WF.g_part_at := by
  refine cal_of (m := WF.m_part_at) D sc_part_at rfl rfl (fun _ _ _ _ _ _ us hl => match us, hl with | [_, _], _ => rfl) fun f cdv A outer s H hr hg => ?_
  have ND := sc_part_at.nd
  exact (dss_one (ds_ret (de_ix hr.u1 (dc_call C_limits_along hr (by decide) nog rfl (da_cons (vl 0) (da_cons (vl 1) da_nil))) (de_neg de_int) (fun _ _ => rfl))))
abbrev nm_names_in : List Str := ["limit", "words", "path", "part", "word"]
theorem sc_names_in : FnScope nm_names_in ["limit"] (defScope (top 25)) := ⟨rfl, rfl, rfl, by decide +kernel, rfl, by decide +kernel, by decide +kernel⟩
theorem c_names_in (B : Bl P K mg) (D : Dfn K mg "names_in" (top 25)) (C_all_pairs : Cal false P w K mg base 2 "all_pairs" (top 19) ["limit"] WF.g_all_pairs) : Cal false P w K mg base 3 "names_in" (top 25) ["limit"] WF.g_names_in := by
  obtain ⟨a_COUNT_WORDS, h_COUNT_WORDS, k_COUNT_WORDS⟩ := B.c_COUNT_WORDS
  refine cal_of (m := WF.m_names_in) D sc_names_in rfl rfl (fun _ _ _ _ _ _ us hl => match us, hl with | [_], _ => rfl) fun f cdv A outer s H hr hg => ?_
  have ND := sc_names_in.nd
  exact (dss_words (own := [("path", 2), ("part", 3)]) (i := 1) (F := fun ks => (mCB gTuple (aCons (mCB gSortS (aCons (mLc [4] (iSeq (mC (.tuple [(.str "hours"), (.str "cycles"), (.str "days")]))) (gtN 4) (tMem 4 ks) (mV 4)) aNil)) aNil))) rfl ND rfl (.inr rfl) (Di.p (di_seq (dc_call C_all_pairs hr (by decide) nog rfl (da_cons (vl 0) da_nil)))) (blkOk_by (by kernel_rfl)) (dgp_tup (fun _ => rfl) (fun _ => rfl) (dgs_cons (dg_name (fun _ => ND) (fun _ => rfl) (fun _ => .inl rfl) (by decide) (fun _ => .inr rfl)) (dgs_cons (dg_name (fun _ => ND) (fun _ => rfl) (fun _ => .inl rfl) (by decide) (fun _ => .inr rfl)) dgs_nil))) (fun _ _ _ _ _ => (de_ix hr.u1 (vl 3) de_int (fun _ _ => rfl))) (in_callTy cd_tuple rfl B.b_tuple bt_tuple (in_callB cd_sortS rfl B.b_sorted bt_sorted (in_lc (own := [("word", 4)]) (i := 1) (j := 4) rfl ND (di_seq (de_gdat rfl h_COUNT_WORDS k_COUNT_WORDS)) (blkOk_by (by kernel_rfl)) (by decide) (dg_name (fun _ => ND) (fun _ => rfl) (fun _ => .inl rfl) (by decide) (fun _ => .inr rfl)) rfl rfl (fun _ _ _ _ _ => ⟨.inl rfl, .inr (.inl rfl)⟩) (fun _ _ _ _ _ => (vl 4))))) (.inl rfl))
abbrev nm__law_parts_right : List Str := ["_law_item", "_law_lot", "_law_plain", "_law_paths_in", "_law_path_in", "_law_own", "_law_late", "_law_size", "_law_spot", "_law_one"]
theorem sc__law_parts_right : FnScope nm__law_parts_right ["_law_item"] (defScope (top 41)) := ⟨rfl, rfl, rfl, by decide +kernel, rfl, by decide +kernel, by decide +kernel⟩
theorem c__law_parts_right (B : Bl P K mg) (D : Dfn K mg "_law_parts_right" (top 41)) (C_parts_of : Cal false P w K mg base 3 "parts_of" (top 26) ["limit"] WF.g_parts_of) (C_part_at : Cal false P w K mg base 4 "part_at" (top 29) ["limit", "path"] WF.g_part_at) (C_is_limit : Cal false P w K mg base 4 "is_limit" (top 15) ["thing"] WF.g_is_limit) (C_with_part : Cal false P w K mg base 5 "with_part" (top 30) ["limit", "path", "other"] WF.g_with_part) (C_lets_limit : Cal false P w K mg base 4 "lets_limit" (top 33) ["thing"] WF.g_lets_limit) (C_names_in : Cal false P w K mg base 3 "names_in" (top 25) ["limit"] WF.g_names_in) : Cal false P w K mg base 6 "_law_parts_right" (top 41) ["_law_item"] WF.g_parts_right_k11 := by
  refine cal_of (m := WF.m_parts_right_k11) D sc__law_parts_right rfl rfl (fun _ _ _ _ _ _ us hl => match us, hl with | [_], _ => rfl) fun f cdv A outer s H hr hg => ?_
  have ND := sc__law_parts_right.nd
  exact (dss_cons (ds_po (i := 1) (j := 2) rfl ND rfl rfl (by decide) rfl rfl (dc_call C_parts_of hr (by decide) nog rfl (da_cons (vl 0) da_nil)) rfl) (dss_cons (ds_setLc (own := [("_law_path_in", 4), ("_law_own", 5)]) (i := 3) rfl ND rfl rfl (sw_true rfl rfl rfl (by kernel_rfl)) (di_seq (vl 1)) (blkOk_by (by kernel_rfl)) (dg_tup (fun _ => rfl) (fun _ => rfl) (dgs_cons (dg_name (fun _ => ND) (fun _ => rfl) (fun _ => .inl rfl) (by decide) (fun _ => .inr rfl)) (dgs_cons (dg_name (fun _ => ND) (fun _ => rfl) (fun _ => .inl rfl) (by decide) (fun _ => .inr rfl)) dgs_nil))) (fun _ _ _ _ _ => dts_nil) (fun _ _ _ _ _ => (vl 4))) (dss_cons (ds_if (Dw.dt (dw_or (dt_cmp (od_ne hr.units) (vl 3) (de_BT thn_setT (cr_sortedU rfl (Nat.lt_of_le_of_lt (Nat.le_succ _) hr.u65)) (cr_setOfT rfl (Nat.lt_of_le_of_lt (Nat.le_succ _) hr.u65)) rfl B.b_sorted bt_sorted rfl B.b_set bt_set (da_cons (vl 3) da_nil)) (nomark _)) (dw_or1 (dt_cmp (od_ne hr.units) (de_ix hr.u1 (vl 1) de_int (fun _ _ => rfl)) (de_tup (da_cons (de_tup da_nil) (da_cons (vl 0) da_nil))) (nomark _))))) (dss_one (ds_ret de_bl)) dss_nil) (dss_cons (ds_for (vs := [4, 5]) PassesOwn.never rfl (di_seq (vl 1)) (dg_tup (fun _ => rfl) (fun _ => rfl) (dgs_cons (dg_name (fun _ => ND) (fun _ => rfl) (fun _ => .inr rfl) (by decide) (fun _ => .inl rfl)) (dgs_cons (dg_name (fun _ => ND) (fun _ => rfl) (fun _ => .inl rfl) (by decide) (fun _ => .inl rfl)) dgs_nil))) (dss_cons (ds_if (Dw.dt (dw_or (dt_cmp (od_ne hr.units) (dc_call C_part_at hr (by decide) nog rfl (da_cons (vl 0) (da_cons (vc 4) da_nil))) (vl 5) (nomark _)) (dw_or (dt_not (dt_truth (dc_call C_is_limit hr (by decide) nog rfl (da_cons (vl 5) da_nil)))) (dw_or1 (dt_cmp (od_ne hr.units) (dc_call C_with_part hr (by decide) nog rfl (da_cons (vl 0) (da_cons (vc 4) (da_cons (vl 5) da_nil)))) (vl 0) (nomark _)))))) (dss_one (ds_ret de_bl)) dss_nil) (dss_cons (ds_set (i := 6) ND rfl (.inl rfl) (dc_call C_with_part hr (by decide) nog rfl (da_cons (vl 0) (da_cons (vc 4) (da_cons (de_tup (da_cons de_str (da_cons de_int da_nil))) da_nil))))) (dss_cons (ds_if (Dw.dt (dw_or (dt_cmp (od_ne hr.units) (dc_call C_part_at hr (by decide) nog rfl (da_cons (vl 6) (da_cons (vc 4) da_nil))) (de_tup (da_cons de_str (da_cons de_int da_nil))) (nomark _)) (dw_or1 (dt_cmp (od_ne hr.units) (dc_call C_with_part hr (by decide) nog rfl (da_cons (vl 6) (da_cons (vc 4) (da_cons (vl 5) da_nil)))) (vl 0) (nomark _))))) (dss_one (ds_ret de_bl)) dss_nil) (dss_cons (ds_set (i := 7) ND rfl (.inr rfl) (de_callB cd_len rfl B.b_len bt_len (da_cons (vc 4) da_nil))) (dss_cons (ds_if (dt_cmp (od_ne hr.units) (dc_call C_parts_of hr (by decide) nog rfl (da_cons (vl 5) da_nil)) (de_callTy cd_tuple rfl B.b_tuple bt_tuple (da_cons (de_lc (own := [("_law_spot", 8), ("_law_one", 9)]) rfl ND (di_seq (vl 1)) (blkOk_by (by kernel_rfl)) (dg_tup (fun _ => rfl) (fun _ => rfl) (dgs_cons (dg_name (fun _ => ND) (fun _ => rfl) (fun _ => .inl rfl) (by decide) (fun _ => .inr rfl)) (dgs_cons (dg_name (fun _ => ND) (fun _ => rfl) (fun _ => .inl rfl) (by decide) (fun _ => .inr rfl)) dgs_nil))) (fun _ _ _ _ _ => (dts_one (dt_cmp (od_eq hr.units) (de_slice (vl 8) do_none (do_some (vc 7))) (vc 4) (nomark _)))) (fun _ _ _ _ _ => (de_tup (da_cons (de_slice (vl 8) (do_some (vc 7)) do_none) (da_cons (vl 9) da_nil))))) da_nil)) (nomark _)) (dss_one (ds_ret de_bl)) dss_nil) (dss_one (ds_if (dt_cmp (od_in hr.u65) (de_ix hr.u1 (vl 5) de_int (fun _ _ => rfl)) (de_tup (da_cons de_str (da_cons de_str (da_cons de_str da_nil)))) rfl) (dss_one (ds_append rfl (.inl rfl) (vl 5))) dss_nil)))))))) (dss_frz 2 (dss_cons (ds_if (Dw.dt (dw_or (dt_cmp (od_ne hr.units) (dc_call C_lets_limit hr (by decide) nog rfl (da_cons (vl 0) da_nil)) (de_callB cd_len rfl B.b_len bt_len (da_cons (vl 2) da_nil)) (nomark _)) (dw_or1 (dt_cmp (od_ne hr.units) (de_callTy cd_list rfl B.b_list bt_list (da_cons (dc_call C_names_in hr (by decide) nog rfl (da_cons (vl 0) da_nil)) da_nil)) (de_BT thn_setA (cr_sortedSetA rfl) (cr_setA rfl) rfl B.b_sorted bt_sorted rfl B.b_set bt_set (da_cons (de_lc (own := [("_law_own", 5)]) rfl ND (di_seq (vl 2)) (blkOk_by (by kernel_rfl)) (dg_name (fun _ => ND) (fun _ => rfl) (fun _ => .inl rfl) (by decide) (fun _ => .inr rfl)) (fun _ _ _ _ _ => dts_nil) (fun _ _ _ _ _ => (de_ix hr.u1 (vl 5) de_int (fun _ _ => rfl)))) da_nil)) (nomark _))))) (dss_one (ds_ret de_bl)) dss_nil) (dss_one (ds_ret (de_cmp (od_eq hr.units) (dc_call C_lets_limit hr (by decide) nog rfl (da_cons (dc_call C_with_part hr (by decide) nog rfl (da_cons (vl 0) (da_cons (de_ix hr.u1 (de_ix hr.u1 (vl 1) (de_neg de_int) (fun _ _ => rfl)) de_int (fun _ _ => rfl)) (da_cons (vl 0) da_nil)))) da_nil)) (de_op od_sub (de_op od_mul de_int (de_callB cd_len rfl B.b_len bt_len (da_cons (vl 2) da_nil))) de_int) (nomark _))))))))))
abbrev nm__law_added : List Str := ["_law_counts_in", "_law_more", "_law_own", "_law_late"]
theorem sc__law_added : FnScope nm__law_added ["_law_counts_in", "_law_more"] (defScope (top 40)) := ⟨rfl, rfl, rfl, by decide +kernel, rfl, by decide +kernel, by decide +kernel⟩
theorem c__law_added (B : Bl P K mg) (D : Dfn K mg "_law_added" (top 40))  : Cal false P w K mg base 1 "_law_added" (top 40) ["_law_counts_in", "_law_more"] WF.g_added_k11 := by
  refine cal_of (m := WF.m_added_k11) D sc__law_added rfl rfl (fun _ _ _ _ _ _ us hl => match us, hl with | [_, _], _ => rfl) fun f cdv A outer s H hr hg => ?_
  have ND := sc__law_added.nd
  exact (dss_one (ds_ret (de_callTy cd_tuple rfl B.b_tuple bt_tuple (da_cons (de_lcP (own := [("_law_own", 2), ("_law_late", 3)]) rfl ND (dip_zip rfl B.b_zip (da_cons (vl 0) (da_cons (vl 1) da_nil))) (blkOk_by (by kernel_rfl)) (dgp_tup (fun _ => rfl) (fun _ => rfl) (dgs_cons (dg_name (fun _ => ND) (fun _ => rfl) (fun _ => .inl rfl) (by decide) (fun _ => .inr rfl)) (dgs_cons (dg_name (fun _ => ND) (fun _ => rfl) (fun _ => .inl rfl) (by decide) (fun _ => .inr rfl)) dgs_nil))) (fun _ _ _ _ _ => dts_nil) (fun _ _ _ _ _ => (de_op od_add (vl 2) (vl 3)))) da_nil))))
abbrev nm_passes_less : List Str := ["limit", "counts", "less", "told", "path", "part", "word", "rest", "inner", "k"]
theorem sc_passes_less : FnScope nm_passes_less ["limit", "counts", "less"] (defScope (top 21)) := ⟨rfl, rfl, rfl, by decide +kernel, rfl, by decide +kernel, by decide +kernel⟩
theorem c_passes_less (B : Bl P K mg) (D : Dfn K mg "passes_less" (top 21)) (C_all_pairs : Cal false P w K mg base 2 "all_pairs" (top 19) ["limit"] WF.g_all_pairs) (C_number_for : Cal false P w K mg base 1 "number_for" (top 20) ["word", "numbers"] WF.g_number_for) : Cal false P w K mg base 3 "passes_less" (top 21) ["limit", "counts", "less"] WF.g_passes_less := by
  obtain ⟨a_COUNT_WORDS, h_COUNT_WORDS, k_COUNT_WORDS⟩ := B.c_COUNT_WORDS
  refine Cal.pure <| cal_of (m := WF.m_passes_less) D sc_passes_less rfl rfl (fun _ _ _ _ _ _ us hl => match us, hl with | [_, _, _], _ => rfl) fun f cdv A outer s H hr hg => ?_
  have ND := sc_passes_less.nd
  exact (dss_cons (ds_set (i := 3) ND rfl (.inr rfl) de_map0) (dss_cons (ds_for (vs := [4, 5]) PassesOwn.never rfl (di_seq (de_rev (dc_call C_all_pairs hr (by decide) nog rfl (da_cons (vl 0) da_nil)))) (dg_tup (fun _ => rfl) (fun _ => rfl) (dgs_cons (dg_name (fun _ => ND) (fun _ => rfl) (fun _ => .inr rfl) (by decide) (fun _ => .inl rfl)) (dgs_cons (dg_name (fun _ => ND) (fun _ => rfl) (fun _ => .inl rfl) (by decide) (fun _ => .inl rfl)) dgs_nil))) (dss_cons (ds_asg (vs := [6, 7]) (vl 5) (dg_tup (fun _ => rfl) (fun _ => rfl) (dgs_cons (dg_name (fun _ => ND) (fun _ => rfl) (fun _ => .inl rfl) (by decide) (fun _ => .inl rfl)) (dgs_cons (dg_name (fun _ => ND) (fun _ => rfl) (fun _ => .inl rfl) (by decide) (fun _ => .inl rfl)) dgs_nil)))) (dss_one (ds_if (dt_cmp (od_in hr.u65) (vl 6) (de_gdat rfl h_COUNT_WORDS k_COUNT_WORDS) rfl) (dss_one (ds_putT hr.u1 (vc 3) (vc 4) (de_cmp od_gt (dc_call C_number_for hr (by decide) nog rfl (da_cons (vl 6) (da_cons (vl 1) da_nil))) (de_op od_sub (vl 7) (dc_call C_number_for hr (by decide) nog rfl (da_cons (vl 6) (da_cons (vl 2) da_nil)))) (nomark _)))) (dss_cons (ds_setLc (own := [("k", 9)]) (i := 8) rfl ND rfl rfl (sw_true rfl rfl rfl (by kernel_rfl)) (di_range1 rfl B.b_range (da_cons (de_callB cd_len rfl B.b_len bt_len (da_cons (vl 7) da_nil)) da_nil)) (blkOk_by (by kernel_rfl)) (dg_name (fun _ => ND) (fun _ => rfl) (fun _ => .inl rfl) (by decide) (fun _ => .inr rfl)) (fun _ _ _ _ _ => dts_nil) (fun _ _ _ _ _ => (de_ixT hr.u1 (vc 3) (de_op od_add (vc 4) (de_tup (da_cons (vl 9) da_nil))) (fun _ _ => rfl)))) (dss_one (ds_putT hr.u1 (vc 3) (vc 4) (de_if (dt_cmp (od_eq hr.units) (vl 6) de_str (nomark _)) (de_callB (cd_any rfl) rfl B.b_any bt_any (da_cons (vl 8) da_nil)) (de_callB (cd_all rfl) rfl B.b_all bt_all (da_cons (vl 8) da_nil)))))))))) (dss_one (ds_ret (de_ixT hr.u1 (vc 3) (de_tup da_nil) (fun _ _ => rfl))))))
abbrev nm_is_passed : List Str := ["limit", "counts"]
theorem sc_is_passed : FnScope nm_is_passed ["limit", "counts"] (defScope (top 22)) := ⟨rfl, rfl, rfl, by decide +kernel, rfl, by decide +kernel, by decide +kernel⟩
theorem c_is_passed (B : Bl P K mg) (D : Dfn K mg "is_passed" (top 22)) (C_passes_less : Cal false P w K mg base 3 "passes_less" (top 21) ["limit", "counts", "less"] WF.g_passes_less) : Cal false P w K mg base 4 "is_passed" (top 22) ["limit", "counts"] WF.g_is_passed := by
  obtain ⟨a_NO_NUMBERS, h_NO_NUMBERS, k_NO_NUMBERS⟩ := B.c_NO_NUMBERS
  refine cal_of (m := WF.m_is_passed) D sc_is_passed rfl rfl (fun _ _ _ _ _ _ us hl => match us, hl with | [_, _], _ => rfl) fun f cdv A outer s H hr hg => ?_
  have ND := sc_is_passed.nd
  exact (dss_one (ds_ret (dc_call C_passes_less hr (by decide) nog rfl (da_cons (vl 0) (da_cons (vl 1) (da_cons (de_gdat rfl h_NO_NUMBERS k_NO_NUMBERS) da_nil))))))
abbrev nm_is_reached : List Str := ["limit", "slack", "counts", "number"]
theorem sc_is_reached : FnScope nm_is_reached ["limit", "slack", "counts"] (defScope (top 23)) := ⟨rfl, rfl, rfl, by decide +kernel, rfl, by decide +kernel, by decide +kernel⟩
theorem c_is_reached (B : Bl P K mg) (D : Dfn K mg "is_reached" (top 23)) (C_passes_less : Cal false P w K mg base 3 "passes_less" (top 21) ["limit", "counts", "less"] WF.g_passes_less) : Cal false P w K mg base 4 "is_reached" (top 23) ["limit", "slack", "counts"] WF.g_is_reached := by
  refine cal_of (m := WF.m_is_reached) D sc_is_reached rfl rfl (fun _ _ _ _ _ _ us hl => match us, hl with | [_, _, _], _ => rfl) fun f cdv A outer s H hr hg => ?_
  have ND := sc_is_reached.nd
  exact (dss_one (ds_ret (dc_call C_passes_less hr (by decide) nog rfl (da_cons (vl 0) (da_cons (vl 2) (da_cons (de_lc (own := [("number", 3)]) rfl ND (di_seq (vl 1)) (blkOk_by (by kernel_rfl)) (dg_name (fun _ => ND) (fun _ => rfl) (fun _ => .inl rfl) (by decide) (fun _ => .inr rfl)) (fun _ _ _ _ _ => dts_nil) (fun _ _ _ _ _ => (de_op od_add (vl 3) de_int))) da_nil))))))
abbrev nm__law_counts_right : List Str := ["_law_item", "_law_counts_in", "_law_slack_in", "_law_more", "_law_passed_now", "_law_late", "_law_further", "_law_path_in", "_law_own", "_law_told", "_law_both", "_law_one", "_law_term"]
theorem sc__law_counts_right : FnScope nm__law_counts_right ["_law_item", "_law_counts_in", "_law_slack_in", "_law_more"] (defScope (top 42)) := ⟨rfl, rfl, rfl, by decide +kernel, rfl, by decide +kernel, by decide +kernel⟩
theorem c__law_counts_right (B : Bl P K mg) (D : Dfn K mg "_law_counts_right" (top 42)) (C_is_passed : Cal false P w K mg base 4 "is_passed" (top 22) ["limit", "counts"] WF.g_is_passed) (C_widened : Cal false P w K mg base 3 "widened" (top 24) ["limit", "slack"] WF.g_widened) (C__law_added : Cal false P w K mg base 1 "_law_added" (top 40) ["_law_counts_in", "_law_more"] WF.g_added_k11) (C_is_reached : Cal false P w K mg base 4 "is_reached" (top 23) ["limit", "slack", "counts"] WF.g_is_reached) (C_parts_of : Cal false P w K mg base 3 "parts_of" (top 26) ["limit"] WF.g_parts_of) : Cal false P w K mg base 5 "_law_counts_right" (top 42) ["_law_item", "_law_counts_in", "_law_slack_in", "_law_more"] WF.g_counts_right_k11 := by
  refine cal_of (m := WF.m_counts_right_k11) D sc__law_counts_right rfl rfl (fun _ _ _ _ _ _ us hl => match us, hl with | [_, _, _, _], _ => rfl) fun f cdv A outer s H hr hg => ?_
  have ND := sc__law_counts_right.nd
  exact (dss_cons (ds_par (i := 4) (j := 5) rfl ND rfl rfl (by decide) rfl rfl (da_cons (dc_call C_is_passed hr (by decide) nog rfl (da_cons (vc 0) (da_cons (vc 1) da_nil))) (da_cons (dc_call C_widened hr (by decide) nog rfl (da_cons (vc 0) (da_cons (vl 2) da_nil))) da_nil)) rfl) (dss_cons (ds_if (Dw.dt (dw_and (dt_truth (vl 4)) (dw_and1 (dt_not (dt_truth (dc_call C_is_passed hr (by decide) nog rfl (da_cons (vc 0) (da_cons (dc_call C__law_added hr (by decide) nog rfl (da_cons (vc 1) (da_cons (vl 3) da_nil))) da_nil)))))))) (dss_one (ds_ret de_bl)) dss_nil) (dss_cons (ds_if (Dw.dt (dw_and (dt_truth (dc_call C_is_passed hr (by decide) nog rfl (da_cons (vl 5) (da_cons (vc 1) da_nil)))) (dw_and1 (dt_not (dt_truth (vl 4)))))) (dss_one (ds_ret de_bl)) dss_nil) (dss_cons (ds_if (dt_cmp (od_ne hr.units) (dc_call C_is_passed hr (by decide) nog rfl (da_cons (vl 5) (da_cons (dc_call C__law_added hr (by decide) nog rfl (da_cons (vc 1) (da_cons (vl 2) da_nil))) da_nil))) (vl 4) (nomark _)) (dss_one (ds_ret de_bl)) dss_nil) (dss_cons (ds_set (i := 6) ND rfl (.inl rfl) (dc_call C__law_added hr (by decide) nog rfl (da_cons (dc_call C__law_added hr (by decide) nog rfl (da_cons (vc 1) (da_cons (vl 2) da_nil))) (da_cons (de_tup (da_cons de_int (da_cons de_int (da_cons de_int da_nil)))) da_nil)))) (dss_cons (ds_if (dt_cmp (od_ne hr.units) (dc_call C_is_reached hr (by decide) nog rfl (da_cons (vc 0) (da_cons (vl 2) (da_cons (vc 1) da_nil)))) (dc_call C_is_passed hr (by decide) nog rfl (da_cons (vc 0) (da_cons (vl 6) da_nil))) (nomark _)) (dss_one (ds_ret de_bl)) dss_nil) (dss_cons (ds_if (Dw.dt (dw_and (dt_truth (vl 4)) (dw_and1 (dt_not (dt_truth (dc_call C_is_reached hr (by decide) nog rfl (da_cons (vc 0) (da_cons (de_tup (da_cons de_int (da_cons de_int (da_cons de_int da_nil)))) (da_cons (vc 1) da_nil))))))))) (dss_one (ds_ret de_bl)) dss_nil) (dss_cons (ds_for (vs := [7, 8]) PassesOwn.never rfl (di_seq (dc_call C_parts_of hr (by decide) nog rfl (da_cons (vc 0) da_nil))) (dg_tup (fun _ => rfl) (fun _ => rfl) (dgs_cons (dg_name (fun _ => ND) (fun _ => rfl) (fun _ => .inl rfl) (by decide) (fun _ => .inl rfl)) (dgs_cons (dg_name (fun _ => ND) (fun _ => rfl) (fun _ => .inl rfl) (by decide) (fun _ => .inl rfl)) dgs_nil))) (dss_one (ds_if (dt_cmp (od_in hr.u65) (de_ix hr.u1 (vl 8) de_int (fun _ _ => rfl)) (de_tup (da_cons de_str (da_cons de_str da_nil))) rfl) (dss_cons (ds_setLc (own := [("_law_one", 11)]) (i := 9) rfl ND rfl rfl (sw_true rfl rfl rfl (by kernel_rfl)) (di_seq (de_ix hr.u1 (vl 8) de_int (fun _ _ => rfl))) (blkOk_by (by kernel_rfl)) (dg_name (fun _ => ND) (fun _ => rfl) (fun _ => .inl rfl) (by decide) (fun _ => .inr rfl)) (fun _ _ _ _ _ => dts_nil) (fun _ _ _ _ _ => (dc_call C_is_passed hr (by decide) nog rfl (da_cons (vl 11) (da_cons (vc 1) da_nil))))) (dss_one (ds_if (dt_cmp (od_ne hr.units) (dc_call C_is_passed hr (by decide) nog rfl (da_cons (vl 8) (da_cons (vc 1) da_nil))) (de_if (dt_cmp (od_eq hr.units) (de_ix hr.u1 (vl 8) de_int (fun _ _ => rfl)) de_str (nomark _)) (de_cmp (od_in hr.u65) de_bl (vl 9) rfl) (de_cmp (od_notin hr.u65) de_bl (vl 9) rfl)) (nomark _)) (dss_one (ds_ret de_bl)) dss_nil))) dss_nil))) (dss_cons (ds_setLc (own := [("_law_term", 12)]) (i := 10) rfl ND rfl rfl (sw_true rfl rfl rfl (by kernel_rfl)) (di_seq (de_tup (da_cons de_str (da_cons de_str da_nil)))) (blkOk_by (by kernel_rfl)) (dg_name (fun _ => ND) (fun _ => rfl) (fun _ => .inl rfl) (by decide) (fun _ => .inr rfl)) (fun _ _ _ _ _ => dts_nil) (fun _ _ _ _ _ => (dc_call C_is_passed hr (by decide) nog rfl (da_cons (de_tup (da_cons (vl 12) (da_cons (de_tup (da_cons (vc 0) (da_cons (vc 0) da_nil))) da_nil))) (da_cons (vc 1) da_nil))))) (dss_one (ds_ret (de_cmp (od_eq hr.units) (vl 10) (de_lst (da_cons (vl 4) (da_cons (vl 4) da_nil))) (nomark _)))))))))))))
abbrev nm_without_part : List Str := ["limit", "path", "found", "word", "rest", "k"]
theorem sc_without_part : FnScope nm_without_part ["limit", "path"] (defScope (top 31)) := ⟨rfl, rfl, rfl, by decide +kernel, rfl, by decide +kernel, by decide +kernel⟩
theorem c_without_part (B : Bl P K mg) (D : Dfn K mg "without_part" (top 31)) (C_limits_along : Cal false P w K mg base 3 "limits_along" (top 27) ["limit", "path"] WF.g_limits_along) (C_require_usable : Cal false P w K mg base 1 "require_usable" (top 18) ["truth", "word", "at"] WF.g_require_usable) (C_put_along : Cal false P w K mg base 1 "put_along" (top 28) ["around", "path", "late"] WF.g_put_along) : Cal false P w K mg base 4 "without_part" (top 31) ["limit", "path"] WF.g_without_part := by
  refine cal_of (m := WF.m_without_part) D sc_without_part rfl rfl (fun _ _ _ _ _ _ us hl => match us, hl with | [_, _], _ => rfl) fun f cdv A outer s H hr hg => ?_
  have ND := sc_without_part.nd
  exact (dss_cons (ds_set (i := 2) ND rfl (.inl rfl) (dc_call C_limits_along hr (by decide) nog rfl (da_cons (vl 0) (da_cons (vl 1) da_nil)))) (dss_cons (ds_expr (dc_call C_require_usable hr (by decide) nog rfl (da_cons (de_cmp od_gt (de_callB cd_len rfl B.b_len bt_len (da_cons (vl 1) da_nil)) de_int (nomark _)) (da_cons de_str (da_cons (de_neg de_int) da_nil))))) (dss_cons (ds_asg (vs := [3, 4]) (de_ix hr.u1 (vl 2) (de_neg de_int) (fun _ _ => rfl)) (dg_tup (fun _ => rfl) (fun _ => rfl) (dgs_cons (dg_name (fun _ => ND) (fun _ => rfl) (fun _ => .inl rfl) (by decide) (fun _ => .inl rfl)) (dgs_cons (dg_name (fun _ => ND) (fun _ => rfl) (fun _ => .inl rfl) (by decide) (fun _ => .inl rfl)) dgs_nil)))) (dss_cons (ds_expr (dc_call C_require_usable hr (by decide) nog rfl (da_cons (de_cmp od_gt (de_callB cd_len rfl B.b_len bt_len (da_cons (vl 4) da_nil)) de_int (nomark _)) (da_cons de_str (da_cons (de_neg de_int) da_nil))))) (dss_cons (ds_set (i := 5) ND rfl (.inl rfl) (de_ix hr.u1 (vl 1) (de_neg de_int) (fun _ _ => rfl))) (dss_one (ds_ret (dc_call C_put_along hr (by decide) nog rfl (da_cons (de_slice (vl 2) do_none (do_some (de_neg de_int))) (da_cons (de_slice (vl 1) do_none (do_some (de_neg de_int))) (da_cons (de_tup (da_cons (vl 3) (da_cons (de_op od_add (de_slice (vl 4) do_none (do_some (vl 5))) (de_slice (vl 4) (do_some (de_op od_add (vl 5) de_int)) do_none)) da_nil))) da_nil)))))))))))
abbrev nm__law_without_right : List Str := ["_law_item", "_law_counts_in", "_law_path_in", "_law_own", "_law_late", "_law_ahead", "_law_told"]
theorem sc__law_without_right : FnScope nm__law_without_right ["_law_item", "_law_counts_in"] (defScope (top 43)) := ⟨rfl, rfl, rfl, by decide +kernel, rfl, by decide +kernel, by decide +kernel⟩
theorem c__law_without_right (B : Bl P K mg) (D : Dfn K mg "_law_without_right" (top 43)) (C_parts_of : Cal false P w K mg base 3 "parts_of" (top 26) ["limit"] WF.g_parts_of) (C_part_at : Cal false P w K mg base 4 "part_at" (top 29) ["limit", "path"] WF.g_part_at) (C_without_part : Cal false P w K mg base 4 "without_part" (top 31) ["limit", "path"] WF.g_without_part) (C_is_passed : Cal false P w K mg base 4 "is_passed" (top 22) ["limit", "counts"] WF.g_is_passed) (C_lets_limit : Cal false P w K mg base 4 "lets_limit" (top 33) ["thing"] WF.g_lets_limit) : Cal false P w K mg base 5 "_law_without_right" (top 43) ["_law_item", "_law_counts_in"] WF.g_without_right_k11 := by
  refine cal_of (m := WF.m_without_right_k11) D sc__law_without_right rfl rfl (fun _ _ _ _ _ _ us hl => match us, hl with | [_, _], _ => rfl) fun f cdv A outer s H hr hg => ?_
  have ND := sc__law_without_right.nd
  exact (dss_cons (ds_for (vs := [2, 3]) PassesOwn.never rfl (di_seq (dc_call C_parts_of hr (by decide) nog rfl (da_cons (vl 0) da_nil))) (dg_tup (fun _ => rfl) (fun _ => rfl) (dgs_cons (dg_name (fun _ => ND) (fun _ => rfl) (fun _ => .inl rfl) (by decide) (fun _ => .inl rfl)) (dgs_cons (dg_name (fun _ => ND) (fun _ => rfl) (fun _ => .inl rfl) (by decide) (fun _ => .inl rfl)) dgs_nil))) (dss_one (ds_if (Dw.dt (dw_and (dt_cmp (od_ne hr.units) (vl 2) (de_tup da_nil) (nomark _)) (dw_and1 (dt_cmp od_gt (de_callB cd_len rfl B.b_len bt_len (da_cons (de_ix hr.u1 (dc_call C_part_at hr (by decide) nog rfl (da_cons (vl 0) (da_cons (de_slice (vl 2) do_none (do_some (de_neg de_int))) da_nil))) de_int (fun _ _ => rfl)) da_nil)) de_int (nomark _))))) (dss_cons (ds_par (i := 4) (j := 5) rfl ND rfl rfl (by decide) rfl rfl (da_cons (dc_call C_without_part hr (by decide) nog rfl (da_cons (vl 0) (da_cons (vl 2) da_nil))) (da_cons (dc_call C_part_at hr (by decide) nog rfl (da_cons (vl 0) (da_cons (de_slice (vl 2) do_none (do_some (de_neg de_int))) da_nil))) da_nil)) rfl) (dss_cons (ds_set (i := 6) ND rfl (.inl rfl) (de_lst (da_cons (dc_call C_is_passed hr (by decide) nog rfl (da_cons (vl 0) (da_cons (vl 1) da_nil))) (da_cons (dc_call C_is_passed hr (by decide) nog rfl (da_cons (vl 4) (da_cons (vl 1) da_nil))) da_nil)))) (dss_cons (ds_if (dt_cmp (od_eq hr.units) (vl 6) (de_if (dt_cmp (od_eq hr.units) (de_ix hr.u1 (vl 5) de_int (fun _ _ => rfl)) de_str (nomark _)) (de_lst (da_cons de_bl (da_cons de_bl da_nil))) (de_lst (da_cons de_bl (da_cons de_bl da_nil)))) (nomark _)) (dss_one (ds_ret de_bl)) dss_nil) (dss_cons (ds_if (dt_cmp (od_ne hr.units) (de_callB cd_len rfl B.b_len bt_len (da_cons (de_ix hr.u1 (dc_call C_part_at hr (by decide) nog rfl (da_cons (vl 4) (da_cons (de_slice (vl 2) do_none (do_some (de_neg de_int))) da_nil))) de_int (fun _ _ => rfl)) da_nil)) (de_op od_sub (de_callB cd_len rfl B.b_len bt_len (da_cons (de_ix hr.u1 (vl 5) de_int (fun _ _ => rfl)) da_nil)) de_int) (nomark _)) (dss_one (ds_ret de_bl)) dss_nil) (dss_one (ds_if (dt_cmp (od_ne hr.units) (dc_call C_lets_limit hr (by decide) nog rfl (da_cons (vl 4) da_nil)) (de_op od_sub (dc_call C_lets_limit hr (by decide) nog rfl (da_cons (vl 0) da_nil)) (dc_call C_lets_limit hr (by decide) nog rfl (da_cons (vl 3) da_nil))) (nomark _)) (dss_one (ds_ret de_bl)) dss_nil)))))) dss_nil))) (dss_one (ds_ret de_bl)))
abbrev nm__law_second_site : List Str := ["_law_lot", "_law_some", "_law_deep", "_law_jobs"]
theorem sc__law_second_site : FnScope nm__law_second_site [] (defScope (top 39)) := ⟨rfl, rfl, rfl, by decide +kernel, rfl, by decide +kernel, by decide +kernel⟩
theorem c__law_second_site (B : Bl P K mg) (D : Dfn K mg "_law_second_site" (top 39))  : Cal false P w K mg base 1 "_law_second_site" (top 39) [] WF.g_second_site_k02 := by
  refine cal_of (m := WF.m_second_site_k02) D sc__law_second_site rfl rfl (fun _ _ _ _ _ _ us hl => match us, hl with | [], _ => rfl) fun f cdv A outer s H hr hg => ?_
  have ND := sc__law_second_site.nd
  exact (dss_cons (ds_set (i := 0) ND rfl (.inl rfl) (de_tup (da_cons (de_tup (da_cons de_str (da_cons (de_tup (da_cons (de_tup (da_cons de_int (da_cons de_int da_nil))) (da_cons (de_tup (da_cons de_int (da_cons de_int da_nil))) (da_cons (de_tup (da_cons de_int (da_cons de_int da_nil))) da_nil)))) da_nil))) (da_cons (de_tup (da_cons de_str (da_cons (de_tup (da_cons (de_tup (da_cons de_int (da_cons de_int da_nil))) da_nil)) da_nil))) da_nil)))) (dss_cons (ds_set (i := 1) ND rfl (.inl rfl) (de_tup (da_cons (de_tup (da_cons de_str (da_cons (de_tup (da_cons (de_tup (da_cons de_int (da_cons de_non da_nil))) (da_cons (de_tup (da_cons de_int (da_cons de_str da_nil))) (da_cons (de_tup (da_cons de_int (da_cons de_non da_nil))) (da_cons (de_tup (da_cons de_int (da_cons de_str da_nil))) da_nil))))) da_nil))) (da_cons (de_tup (da_cons de_str (da_cons (de_tup (da_cons (de_tup (da_cons de_int (da_cons de_str da_nil))) (da_cons (de_tup (da_cons de_int (da_cons de_str da_nil))) da_nil))) da_nil))) da_nil)))) (dss_cons (ds_set (i := 2) ND rfl (.inl rfl) (de_tup (da_cons de_str (da_cons (de_tup (da_cons (de_tup (da_cons de_str (da_cons (de_tup (da_cons (de_tup (da_cons de_str (da_cons de_int da_nil))) (da_cons (de_tup (da_cons de_str (da_cons (de_tup (da_cons (de_tup (da_cons de_str (da_cons de_int da_nil))) da_nil)) da_nil))) da_nil))) da_nil))) (da_cons (de_tup (da_cons de_str (da_cons de_int da_nil))) (da_cons (de_tup (da_cons de_str (da_cons de_int da_nil))) da_nil)))) da_nil)))) (dss_cons (ds_set (i := 3) ND rfl (.inl rfl) (de_tup (da_cons (de_tup (da_cons de_str (da_cons de_str (da_cons de_str (da_cons (vl 2) (da_cons (de_tup (da_cons de_int (da_cons de_int (da_cons de_int da_nil)))) da_nil)))))) (da_cons (de_tup (da_cons de_str (da_cons de_str (da_cons de_str (da_cons (de_tup (da_cons de_str (da_cons de_int da_nil))) (da_cons (de_tup (da_cons de_int (da_cons de_int (da_cons de_int da_nil)))) da_nil)))))) da_nil)))) (dss_one (ds_ret (de_tup (da_cons (vl 0) (da_cons (vl 1) (da_cons (de_op od_add (vl 3) (de_tup (da_cons (de_tup (da_cons de_str (da_cons de_str (da_cons de_str (da_cons (de_tup (da_cons de_str (da_cons (de_tup (da_cons (de_tup (da_cons de_str (da_cons de_int da_nil))) da_nil)) da_nil))) (da_cons (de_tup (da_cons de_int (da_cons de_int (da_cons de_int da_nil)))) da_nil)))))) da_nil))) da_nil))))))))))
abbrev nm_law : List Str := ["_law_script", "_law_feed_here", "_law_pool", "_law_item", "_law_kept", "_law_slack_in", "_law_k", "_law_counts_in", "_law_late", "_law_j"]
theorem sc_law : FnScope nm_law ["_law_script"] (defScope (top 44)) := ⟨rfl, rfl, rfl, by decide +kernel, rfl, by decide +kernel, by decide +kernel⟩
theorem c_law (B : Bl P K mg) (D : Dfn K mg "law" (top 44)) (C__law_feed : Cal false P w K mg base 1 "_law_feed" (top 35) ["_law_script"] WF.g_feed_k01) (C__law_limit : Cal false P w K mg base 13 "_law_limit" (top 37) ["_law_feed_here", "_law_deep"] (WF.g_limit_k01 12)) (C__law_second_site : Cal false P w K mg base 1 "_law_second_site" (top 39) [] WF.g_second_site_k02) (C__law_slack : Cal false P w K mg base 2 "_law_slack" (top 38) ["_law_feed_here"] WF.g_slack_k01) (C__law_parts_right : Cal false P w K mg base 6 "_law_parts_right" (top 41) ["_law_item"] WF.g_parts_right_k11) (C__law_draw : Cal false P w K mg base 1 "_law_draw" (top 36) ["_law_feed_here", "_law_many"] WF.g_draw_k01) (C__law_counts_right : Cal false P w K mg base 5 "_law_counts_right" (top 42) ["_law_item", "_law_counts_in", "_law_slack_in", "_law_more"] WF.g_counts_right_k11) (C__law_without_right : Cal false P w K mg base 5 "_law_without_right" (top 43) ["_law_item", "_law_counts_in"] WF.g_without_right_k11) (C_widened : Cal false P w K mg base 3 "widened" (top 24) ["limit", "slack"] WF.g_widened) (C__law_added : Cal false P w K mg base 1 "_law_added" (top 40) ["_law_counts_in", "_law_more"] WF.g_added_k11) (C_names_in : Cal false P w K mg base 3 "names_in" (top 25) ["limit"] WF.g_names_in) : Cal true P w K mg base 14 "law" (top 44) ["_law_script"] WF.g_law_k11 := by
  refine cal_of (m := WF.m_law_k11) D sc_law rfl rfl (fun _ _ _ _ _ _ us hl => match us, hl with | [_], _ => rfl) fun f cdv A outer s H hr hg => ?_
  have ND := sc_law.nd
  exact (dss_cons (ds_set (i := 1) ND rfl (.inr rfl) (dc_call C__law_feed hr (by decide) nog rfl (da_cons (vl 0) da_nil))) (dss_cons (ds_set (i := 2) ND rfl (.inr rfl) (de_lst (da_cons de_int (da_cons de_int (da_cons de_int (da_cons de_int (da_cons de_int (da_cons de_int (da_cons de_int (da_cons de_int (da_cons de_int (da_cons de_int (da_cons de_int (da_cons de_int (da_cons de_int (da_cons de_int (da_cons de_int (da_cons de_int da_nil)))))))))))))))))) (dss_cons (ds_for (vs := [3]) PassesOwn.never rfl (di_seq (de_tup (da_cons (dc_call C__law_limit hr (by decide) nog rfl (da_cons (vc 1) (da_cons de_int da_nil))) (da_cons (dc_call C__law_limit hr (by decide) nog rfl (da_cons (vc 1) (da_cons de_int da_nil))) (da_cons (de_ix hr.u1 (de_ix hr.u1 (de_ix hr.u1 (dc_call0 C__law_second_site hr (by decide) nog rfl) de_int (fun _ _ => rfl)) de_int (fun _ _ => rfl)) de_int (fun _ _ => rfl)) da_nil))))) (dg_name (fun _ => ND) (fun _ => rfl) (fun _ => .inl rfl) (by decide) (fun _ => .inl rfl)) (dss_cons (ds_par (i := 4) (j := 5) rfl ND rfl rfl (by decide) rfl rfl (da_cons (de_callB (cd_repr (hg rfl) hr.u66) rfl B.b_repr bt_repr (da_cons (vl 3) da_nil)) (da_cons (dc_call C__law_slack hr (by decide) nog rfl (da_cons (vc 1) da_nil)) da_nil)) rfl) (dss_cons (ds_if (dt_not (dt_truth (dc_call C__law_parts_right hr (by decide) nog rfl (da_cons (vl 3) da_nil)))) (dss_one (ds_ret de_bl)) dss_nil) (dss_cons (ds_for (vs := [6]) PassesOwn.never rfl (di_range1 rfl B.b_range (da_cons de_int da_nil)) (dg_name (fun _ => ND) (fun _ => rfl) (fun _ => .inl rfl) (by decide) (fun _ => .inl rfl)) (dss_cons (ds_set (i := 7) ND rfl (.inl rfl) (de_callTy cd_tuple rfl B.b_tuple bt_tuple (da_cons (de_lc (own := [("_law_j", 9)]) rfl ND (di_range1 rfl B.b_range (da_cons de_int da_nil)) (blkOk_by (by kernel_rfl)) (dg_name (fun _ => ND) (fun _ => rfl) (fun _ => .inl rfl) (by decide) (fun _ => .inr rfl)) (fun _ _ _ _ _ => dts_nil) (fun _ _ _ _ _ => (de_ix hr.u1 (vc 2) (dc_call C__law_draw hr (by decide) nog rfl (da_cons (vc 1) (da_cons de_int da_nil))) (fun _ _ => rfl)))) da_nil))) (dss_cons (ds_if (dt_not (dt_truth (dc_call C__law_counts_right hr (by decide) nog rfl (da_cons (vl 3) (da_cons (vl 7) (da_cons (vl 5) (da_cons (de_callTy cd_tuple rfl B.b_tuple bt_tuple (da_cons (de_lc (own := [("_law_j", 9)]) rfl ND (di_range1 rfl B.b_range (da_cons de_int da_nil)) (blkOk_by (by kernel_rfl)) (dg_name (fun _ => ND) (fun _ => rfl) (fun _ => .inl rfl) (by decide) (fun _ => .inr rfl)) (fun _ _ _ _ _ => dts_nil) (fun _ _ _ _ _ => (dc_call C__law_draw hr (by decide) nog rfl (da_cons (vc 1) (da_cons de_int da_nil))))) da_nil)) da_nil))))))) (dss_one (ds_ret de_bl)) dss_nil) (dss_one (ds_if (dt_not (dt_truth (dc_call C__law_without_right hr (by decide) nog rfl (da_cons (vl 3) (da_cons (vl 7) da_nil))))) (dss_one (ds_ret de_bl)) dss_nil))))) (dss_cons (ds_set (i := 8) ND rfl (.inl rfl) (dc_call C_widened hr (by decide) nog rfl (da_cons (vl 3) (da_cons (vl 5) da_nil)))) (dss_cons (ds_if (dt_cmp (od_ne hr.units) (dc_call C_widened hr (by decide) nog rfl (da_cons (vl 3) (da_cons (de_tup (da_cons de_int (da_cons de_int (da_cons de_int da_nil)))) da_nil))) (vl 3) (nomark _)) (dss_one (ds_ret de_bl)) dss_nil) (dss_cons (ds_if (dt_cmp (od_ne hr.units) (dc_call C_widened hr (by decide) nog rfl (da_cons (vl 8) (da_cons (de_tup (da_cons de_int (da_cons de_int (da_cons de_int da_nil)))) da_nil))) (dc_call C_widened hr (by decide) nog rfl (da_cons (vl 3) (da_cons (dc_call C__law_added hr (by decide) nog rfl (da_cons (vl 5) (da_cons (de_tup (da_cons de_int (da_cons de_int (da_cons de_int da_nil)))) da_nil))) da_nil))) (nomark _)) (dss_one (ds_ret de_bl)) dss_nil) (dss_one (ds_if (Dw.dt (dw_or (dt_cmp (od_ne hr.units) (dc_call C_names_in hr (by decide) nog rfl (da_cons (vl 8) da_nil)) (dc_call C_names_in hr (by decide) nog rfl (da_cons (vl 3) da_nil)) (nomark _)) (dw_or1 (dt_cmp (od_ne hr.units) (de_callB (cd_repr (hg rfl) hr.u66) rfl B.b_repr bt_repr (da_cons (vl 3) da_nil)) (vl 4) (nomark _))))) (dss_one (ds_ret de_bl)) dss_nil))))))))) (dss_one (ds_ret de_bl)))))
end
end K11
namespace PL
open PySem PySem.Spec PyProof.Rows L2 DL
abbrev Us := List (Int × Int)
abbrev Sy := List (Int × Option Str)
inductive CW where
  | hours
  | cycles
  | days
  deriving DecidableEq
def CW.str : CW → Str
  | .hours => "hours"
  | .cycles => "cycles"
  | .days => "days"
inductive Lim where
  | one (w : CW) (n : Int)
  | join (later : Bool) (ls : List Lim)
structure Job where
  nm : Str
  pt : Str
  wy : Str
  lim : Lim
  sl : Int × Int × Int
structure Site where
  mc : List (Str × Us)
  parts : List (Str × Sy)
  jobs : List Job
def sumF (f : Int → Int) (lo : Int) (n : Nat) : Int := ((List.range n).map fun i => f (lo + (i : Nat))).sum
abbrev Uf := Int → CW → Int
structure UF (u : Uf) (s : Int) : Prop where
  pos : ∀ d w, 0 ≤ u d w
  bd : ∀ d w, u d w < 1000
  day : ∀ d, u d .days = 1
  std : ∀ d w, s ≤ d → u d w = u s w
def cnt (u : Uf) (b d : Int) (w : CW) : Int := sumF (fun i => u i w) b (d - b).toNat
section
variable {u : Uf} {s b d m : Int} {w : CW}
end
mutual
def passes : Lim → (CW → Int) → Bool
  | .one w n, c => decide (n < c w)
  | .join false ls, c => passAny ls c
  | .join true ls, c => passAll ls c
def passAny : List Lim → (CW → Int) → Bool
  | [], _ => false
  | l :: ls, c => passes l c || passAny ls c
def passAll : List Lim → (CW → Int) → Bool
  | [], _ => true
  | l :: ls, c => passes l c && passAll ls c
end
mutual
theorem passes_mono {c c' : CW → Int} (h : ∀ w, c w ≤ c' w) : ∀ l : Lim, passes l c = true → passes l c' = true
  | .one w n, p => by
    simp only [passes, decide_eq_true_eq] at p ⊢
    have := h w
    omega
  | .join false ls, p => by
    simp only [passes] at p ⊢
    exact passAny_mono h ls p
  | .join true ls, p => by
    simp only [passes] at p ⊢
    exact passAll_mono h ls p
theorem passAny_mono {c c' : CW → Int} (h : ∀ w, c w ≤ c' w) : ∀ l : List Lim, passAny l c = true → passAny l c' = true
  | [], p => by cases p
  | l :: ls, p => by
    simp only [passAny, Bool.or_eq_true] at p ⊢
    exact p.imp (passes_mono h l) (passAny_mono h ls)
theorem passAll_mono {c c' : CW → Int} (h : ∀ w, c w ≤ c' w) : ∀ l : List Lim, passAll l c = true → passAll l c' = true
  | [], p => rfl
  | l :: ls, p => by
    simp only [passAll, Bool.and_eq_true] at p ⊢
    exact ⟨passes_mono h l p.1, passAll_mono h ls p.2⟩
end
theorem passAny_iff {c : CW → Int} : ∀ ls : List Lim, passAny ls c = ls.any (passes · c)
  | [] => rfl
  | l :: ls => by simp only [passAny, List.any_cons, passAny_iff ls]
theorem passAll_iff {c : CW → Int} : ∀ ls : List Lim, passAll ls c = ls.all (passes · c)
  | [] => rfl
  | l :: ls => by simp only [passAll, List.all_cons, passAll_iff ls]
def IsFirst (P : Int → Bool) (b : Int) : Option Int → Prop
  | some d => b ≤ d ∧ P d = true ∧ ∀ d', b ≤ d' → d' < d → P d' = false
  | none => ∀ d, b ≤ d → P d = false
theorem IsFirst.uniq {P : Int → Bool} {b : Int} : ∀ {r r' : Option Int}, IsFirst P b r → IsFirst P b r' → r = r'
  | none, none, _, _ => rfl
  | none, some d, h, h' => by have := h d h'.1; rw [h'.2.1] at this; cases this
  | some d, none, h', h => by have := h d h'.1; rw [h'.2.1] at this; cases this
  | some d, some d', h, h' => by
    rcases Int.lt_trichotomy d d' with e | e | e
    · have := h'.2.2 d h.1 e; rw [h.2.1] at this; cases this
    · rw [e]
    · have := h.2.2 d' h'.1 e; rw [h'.2.1] at this; cases this
open Classical in
noncomputable def firstOf (P : Int → Bool) (b : Int) : Option Int := if h : ∃ r, IsFirst P b r then choose h else none
noncomputable def fp (u : Uf) (l : Lim) (b : Int) : Option Int := firstOf (fun d => passes l (cnt u b d)) b
end PL
namespace DL
open PySem PySem.Spec PyProof.Rows L2
section
variable {N : Ev → Sto → Prop} {Rt : Wd → Sto → Prop} {ρ : Ev} {S : Sto} {Q : Wd → Sto → Prop} {Qs : List Wd → Sto → Prop}
theorem w_enA' {f : Mx} (h : wpE (f ρ S) fun w S1 => wpO (itemsD w) fun ys => Qs (enumD 0 ys) S1) : wpE (iEnumA (aCons f aNil) ρ S) Qs := w_enA h
theorem w_star' {f : Mx} {fs : Ma} (h : wpE (f ρ S) fun w S1 => wpO (itemsD w) fun xs => wpE (fs ρ S1) fun ys S2 => Qs (xs ++ ys) S2) : wpE (aStar f fs ρ S) Qs := w_star h
theorem w_po {i j : Nat} {f : Mx} (h : wpE (f ρ S) fun w S1 => N ((ρ.set i (some (.val w))).set j (some (.own []))) S1) : wpS (sPo i j f ρ S) N Rt := by
  unfold sPo
  obtain ⟨u, S1, e1, q⟩ := wpE_ex.1 h
  rw [e1]
  exact q
theorem w_map0 (h : Q (oW S.length) (S ++ [.tdc []])) : wpE (mMap0 ρ S) Q := h
theorem w_ixT {fa fb : Mx} (h : wpE (fa ρ S) fun x S1 => wpE (fb ρ S1) fun y S2 => wpO (recGetT S2 x y) fun w => Q w S2) : wpE (mIxT fa fb ρ S) Q := by
  unfold mIxT
  simp only [wpE_bnd]
  refine wpE_mono h fun x S1 h => wpE_mono h fun y S2 ⟨w, e, q⟩ => ?_
  rw [e]
  exact q
theorem w_putT {fo fk f : Mx} (h : wpE (f ρ S) fun w S1 => wpE (fo ρ S1) fun o S2 => wpE (fk ρ S2) fun k S3 => wpO (recPutT S3 o k w) fun S4 => N ρ S4) : wpS (sPutT fo fk f ρ S) N Rt := by
  unfold sPutT
  obtain ⟨w, S1, e1, q⟩ := wpE_ex.1 h
  obtain ⟨o, S2, e2, q⟩ := wpE_ex.1 q
  obtain ⟨k, S3, e3, q⟩ := wpE_ex.1 q
  obtain ⟨S4, e4, q⟩ := q
  simp only [e1, e2, e3, sOf_ok, e4]
  exact q
def listD : Wd → Option (List Wd)
  | .list ws => some ws
  | _ => none
theorem listD_some {w : Wd} {ws : List Wd} (h : listD w = some ws) : w = .list ws := by
  unfold listD at h
  split at h
  · cases h; rfl
  · cases h
theorem w_ext' {i : Nat} {f : Mx} {ws : List Wd} (h : ρ[i]? = some (some (.own ws))) (q : wpE (f ρ S) fun w S1 => wpO (listD w) fun zs => ws.length + zs.length ≤ sizeLine ∧ N (ρ.set i (some (.own (ws ++ zs)))) S1) : wpS (sExt i f ρ S) N Rt :=
  w_ext h (wpE_mono q fun _ _ ⟨zs, e, a, b⟩ => ⟨zs, listD_some e, a, b⟩)
end
theorem wp_wh {N : Ev → Sto → Prop} {Rt : Wd → Sto → Prop} {t : Mt} {m : Ms} (I : Nat → Ev → Sto → Prop) (hs : ∀ n ρ S, I (n + 1) ρ S → wpE (t ρ S) fun b S1 => if b = true then wpS (m ρ S1) (fun ρ2 S2 => I n ρ2 S2) Rt else N ρ S1) (h0 : ∀ ρ S, ¬ I 0 ρ S) :
    ∀ (n : Nat) (ρ : Ev) (S : Sto), I n ρ S → wpS (whLoop t m n ρ S) N Rt
  | 0, ρ, S, h => absurd h (h0 ρ S)
  | n + 1, ρ, S, h => by
    refine w_whS (wpE_mono (hs n ρ S h) fun b S1 h1 => ?_)
    cases b with
    | false => exact h1
    | true => exact wpS_mono (show wpS _ _ _ from h1) (fun ρ2 S2 h2 => wp_wh I hs h0 n ρ2 S2 h2) fun _ _ z => z
def wpF (g : Mg) (m : Ms) (N : Ev → Sto → Prop) (Rt : Wd → Sto → Prop) : List Wd → Ev → Sto → Prop
  | [], ρ, S => N ρ S
  | w :: r, ρ, S => ∃ ρ1, g w ρ = some ρ1 ∧ wpS (m ρ1 S) (fun ρ2 S2 => wpF g m N Rt r ρ2 S2) Rt
theorem wpF_for {N : Ev → Sto → Prop} {Rt : Wd → Sto → Prop} {g : Mg} {m : Ms} : ∀ (xs : List Wd) (ρ : Ev) (S : Sto), wpF g m N Rt xs ρ S → wpS (forLoop g m xs ρ S) N Rt
  | [], ρ, S, h => h
  | x :: xs, ρ, S, ⟨ρ1, e, h⟩ => w_forC e (wpS_mono h (fun ρ2 S2 h2 => wpF_for xs ρ2 S2 h2) fun _ _ h => h)
theorem wpF_app {N : Ev → Sto → Prop} {Rt : Wd → Sto → Prop} {g : Mg} {m : Ms} : ∀ (xs ys : List Wd) (ρ : Ev) (S : Sto), wpF g m (fun ρ' S' => wpF g m N Rt ys ρ' S') Rt xs ρ S → wpF g m N Rt (xs ++ ys) ρ S
  | [], ys, ρ, S, h => h
  | x :: xs, ys, ρ, S, ⟨ρ1, e, h⟩ => ⟨ρ1, e, wpS_mono h (fun ρ2 S2 h2 => wpF_app xs ys ρ2 S2 h2) fun _ _ h => h⟩
theorem wp_forT {N : Ev → Sto → Prop} {Rt : Wd → Sto → Prop} {g : Mg} {m : Ms} {α : Type} (enc : α → Wd) (xs : List α) (I : Ev → Sto → Prop) (hs : ∀ x ∈ xs, ∀ ρ S, I ρ S → ∃ ρ1, g (enc x) ρ = some ρ1 ∧ wpS (m ρ1 S) I Rt) (he : ∀ ρ S, I ρ S → N ρ S) (ρ : Ev) (S : Sto) (h : I ρ S) : wpS (forLoop g m (xs.map enc) ρ S) N Rt := by
  refine wp_for (I := fun r ρ S => I ρ S ∧ ∃ ys, (∀ y ∈ ys, y ∈ xs) ∧ r = ys.map enc) ?_ (fun ρ S h => he ρ S h.1) _ _ _ ⟨h, xs, fun _ h => h, rfl⟩
  rintro w r ρ S ⟨h, ys, hy, e⟩
  cases ys with
  | nil => cases e
  | cons y ys =>
    cases e
    obtain ⟨ρ1, e1, h1⟩ := hs y (hy y (List.mem_cons_self ..)) ρ S h
    exact ⟨ρ1, e1, wpS_mono h1 (fun ρ2 S2 h2 => ⟨h2, ys, fun z hz => hy z (List.mem_cons_of_mem _ hz), rfl⟩) fun _ _ h => h⟩
theorem wpX_ok {α : Type} {x : R α} {a : α} {S : Sto} (h : wpE x fun w S' => w = a ∧ S' = S) : x = .ok a S := by
  obtain ⟨w, S1, e, rfl, rfl⟩ := wpE_ex.1 h
  exact e
theorem siz : 1000 ≤ sizeLine := by decide
def prT {α : Type} (e : α → Wd) (p : Str × α) : Wd := .tuple [.str p.1, e p.2]
section
variable {α : Type} {e : α → Wd}
end
theorem atI_end {α : Type} {xs : List α} {l : α} (h : xs.getLast? = some l) : atI xs (-1) = some l := by
  obtain ⟨i, rfl⟩ := List.getLast?_eq_some_iff.1 h
  exact atI_last _ _
theorem Sz.sub {n k : Nat} {d : Wd} {xs : List Wd} (h : Sz n (k + 1) (.tuple xs)) (hd : d ∈ xs) : Sz n k d := by
  have hs := h.sh
  have hc := h.cl
  have hdp := h.dp
  have hl := h.ls
  have hw := h.wt
  simp only [PyData.showable, PyData.canLay0, PyData.depth, PyData.leavesShort, PyData.weight] at hs hc hdp hl hw
  clear h
  induction xs with
  | nil => cases hd
  | cons x xs ih =>
    simp only [PyData.showableAll, PyData.canLayAll0, PyData.depthAll, PyData.leavesShortAll, PyData.weightAll, Bool.and_eq_true] at hs hc hdp hl hw
    rcases List.mem_cons.1 hd with rfl | hd
    · exact ⟨hs.1, hc.1, by omega, hl.1, by omega⟩
    · exact ih hd hs.2 hc.2 (by omega) hl.2 (by omega)
instance {n k : Nat} {d : Wd} : Decidable (Sz n k d) := decidable_of_iff (d.showable = true ∧ d.canLay0 = true ∧ d.depth ≤ k ∧ d.leavesShort 13 = true ∧ d.weight ≤ n) ⟨fun ⟨a, b, c, e, f⟩ => ⟨a, b, c, e, f⟩, fun ⟨a, b, c, e, f⟩ => ⟨a, b, c, e, f⟩⟩
theorem mem2 {P : Wd → Prop} {a b : Wd} (ha : P a) (hb : P b) : ∀ x ∈ [a, b], P x := by
  intro x hx
  simp only [List.mem_cons, List.mem_nil_iff, or_false] at hx
  rcases hx with rfl | rfl
  · exact ha
  · exact hb
end DL
namespace DL
open PySem PySem.Spec PyProof.Rows L2
class Stp (G : Prop) (H : outParam Prop) : Prop where
  prf : H → G
theorem zq14 {G H : Prop} [s : Stp G H] (h : H) : G := s.prf h
section
variable {N : Ev → Sto → Prop} {Rt : Wd → Sto → Prop} {ρ : Ev} {S : Sto} {Q : Wd → Sto → Prop} {Qb : Bool → Sto → Prop} {Qs : List Wd → Sto → Prop} {Qo : Option Int → Sto → Prop}
instance iw_set {i : Nat} {f : Mx} : Stp (wpS (sSet i f ρ S) N Rt) (wpE (f ρ S) fun w S1 => N (ρ.set i (some (.val w))) S1) := ⟨w_set⟩
instance iw_ret {f : Mx} : Stp (wpS (sRet f ρ S) N Rt) (wpE (f ρ S) Rt) := ⟨w_ret⟩
instance iw_expr {f : Mx} : Stp (wpS (sExpr f ρ S) N Rt) (wpE (f ρ S) fun _ S1 => N ρ S1) := ⟨w_expr⟩
instance iw_ifS {t : Mt} {m m' : Ms} : Stp (wpS (sIf t m m' ρ S) N Rt) (wpE (t ρ S) fun b S1 => if b = true then wpS (m ρ S1) N Rt else wpS (m' ρ S1) N Rt) := ⟨w_ifS⟩
instance iw_asg {g : Mg} {f : Mx} : Stp (wpS (sAsg g f ρ S) N Rt) (wpE (f ρ S) fun w S1 => wpO (g w ρ) fun ρ' => N ρ' S1) := ⟨w_asg⟩
instance iw_own {i : Nat} {fs : Ma} : Stp (wpS (sOwn i fs ρ S) N Rt) (wpE (fs ρ S) fun ws S1 => ws.length ≤ sizeLine ∧ N (ρ.set i (some (.own ws))) S1) := ⟨w_own⟩
instance iw_par {i j : Nat} {f g : Mx} : Stp (wpS (sPar i j (aCons f (aCons g aNil)) ρ S) N Rt) (wpE (f ρ S) fun v S1 => wpE (g ρ S1) fun w S2 => N ((ρ.set i (some (.val v))).set j (some (.val w))) S2) := ⟨w_par⟩
instance iw_frz {i : Nat} {m : Ms} : Stp (wpS (sFrz i m ρ S) N Rt) (wpS (m (frzE i ρ) S) N Rt) := ⟨w_frz⟩
instance iw_nil  : Stp (wpS (sNil ρ S) N Rt) (N ρ S) := ⟨w_nil⟩
instance iw_for {fi : Mi} {g : Mg} {m : Ms} : Stp (wpS (sFor fi g m ρ S) N Rt) (wpE (fi ρ S) fun ws S1 => wpS (forLoop g m ws ρ S1) N Rt) := ⟨w_for⟩
instance iw_C {w : Wd} : Stp (wpE (mC w ρ S) Q) (Q w S) := ⟨w_C⟩
instance iw_bin {g : Wd → Wd → Option Wd} {fa fb : Mx} : Stp (wpE (mBin g fa fb ρ S) Q) (wpE (fa ρ S) fun x S1 => wpE (fb ρ S1) fun y S2 => wpO (g x y) fun w => Q w S2) := ⟨w_bin⟩
instance iw_un {g : Wd → Option Wd} {fa : Mx} : Stp (wpE (mUn g fa ρ S) Q) (wpE (fa ρ S) fun x S1 => wpO (g x) fun w => Q w S1) := ⟨w_un⟩
instance iw_CB {g : List Wd → Option Wd} {fs : Ma} : Stp (wpE (mCB g fs ρ S) Q) (wpE (fs ρ S) fun x S1 => wpO (g x) fun w => Q w S1) := ⟨w_CB⟩
instance iw_ix {fa fb : Mx} : Stp (wpE (mIx fa fb ρ S) Q) (wpE (fa ρ S) fun x S1 => wpE (fb ρ S1) fun y S2 => wpO (gIx S2 x y) fun w => Q w S2) := ⟨w_ix⟩
instance iw_and {fa fb : Mx} : Stp (wpE (mAnd fa fb ρ S) Q) (wpE (fa ρ S) fun x S1 => wpO (truD x) fun b => if b = true then wpE (fb ρ S1) Q else Q x S1) := ⟨w_and⟩
instance iw_not {fa : Mx} : Stp (wpE (mNot fa ρ S) Q) (wpE (fa ρ S) fun x S1 => wpO (truD x) fun b => Q (.bool (!b)) S1) := ⟨w_not⟩
instance iw_if {t : Mt} {fa fb : Mx} : Stp (wpE (mIf t fa fb ρ S) Q) (wpE (t ρ S) fun b S1 => if b = true then wpE (fa ρ S1) Q else wpE (fb ρ S1) Q) := ⟨w_if⟩
instance iw_tru {f : Mx} : Stp (wpE (mTru f ρ S) Qb) (wpE (f ρ S) fun x S1 => wpO (truD x) fun b => Qb b S1) := ⟨w_tru⟩
instance iw_andT {t u : Mt} : Stp (wpE (mAndT t u ρ S) Qb) (wpE (t ρ S) fun b S1 => if b = true then wpE (u ρ S1) Qb else Qb false S1) := ⟨w_andT⟩
instance iw_orT {t u : Mt} : Stp (wpE (mOrT t u ρ S) Qb) (wpE (t ρ S) fun b S1 => if b = true then Qb true S1 else wpE (u ρ S1) Qb) := ⟨w_orT⟩
instance iw_notT {t : Mt} : Stp (wpE (mNotT t ρ S) Qb) (wpE (t ρ S) fun b S1 => Qb (!b) S1) := ⟨w_notT⟩
instance iw_true  : Stp (wpE (tTrue ρ S) Qb) (Qb true S) := ⟨w_true⟩
instance iw_aNil  : Stp (wpE (aNil ρ S) Qs) (Qs [] S) := ⟨w_aNil⟩
instance iw_aCons {f : Mx} {fs : Ma} : Stp (wpE (aCons f fs ρ S) Qs) (wpE (f ρ S) fun x S1 => wpE (fs ρ S1) fun xs S2 => Qs (x :: xs) S2) := ⟨w_aCons⟩
instance iw_lst {fs : Ma} : Stp (wpE (mLst fs ρ S) Q) (wpE (fs ρ S) fun ws S1 => ws.length ≤ sizeLine ∧ Q (.list ws) S1) := ⟨w_lst⟩
instance iw_tup {fs : Ma} : Stp (wpE (mTup fs ρ S) Q) (wpE (fs ρ S) fun ws S1 => ws.length ≤ sizeLine ∧ Q (.tuple ws) S1) := ⟨w_tup⟩
instance iw_oNone  : Stp (wpE (oNone ρ S) Qo) (Qo none S) := ⟨w_oNone⟩
instance iw_oSome {f : Mx} : Stp (wpE (oSome f ρ S) Qo) (wpE (f ρ S) fun w S1 => ∃ i, w = .int i ∧ Qo (some i) S1) := ⟨w_oSome⟩
instance iw_sl {f : Mx} {lo hi : Mo} : Stp (wpE (mSl f lo hi ρ S) Q) (wpE (f ρ S) fun x S1 => wpE (lo ρ S1) fun l S2 => wpE (hi ρ S2) fun u S3 => wpO (gSl l u x) fun w => Q w S3) := ⟨w_sl⟩
instance iw_rec {names : List Str} {fs : Ma} : Stp (wpE (mRec names fs ρ S) Q) (wpE (fs ρ S) fun ws S1 => Q (oW S1.length) (S1 ++ [.dct (names.zip ws)])) := ⟨w_rec⟩
instance iw_call {g : Gd} {fs : Ma} : Stp (wpE (mCall g fs ρ S) Q) (wpE (fs ρ S) fun ws S1 => wpE (g ws S1) Q) := ⟨w_call⟩
instance iw_lc {vs : List Nat} {fi : Mi} {g : Mg} {t : Mt} {fe : Mx} : Stp (wpE (mLc vs fi g t fe ρ S) Q) (wpE (fi ρ S) fun ws S1 => wpE (lcLoop g t fe (wipeE ρ vs) ws [] S1) fun acc S2 => Q (.list acc) S2) := ⟨w_lc⟩
instance iw_iSeq {f : Mx} : Stp (wpE (iSeq f ρ S) Qs) (wpE (f ρ S) fun w S1 => wpO (itemsD w) fun ws => Qs ws S1) := ⟨w_iSeq⟩
instance iw_range1 {f : Mx} : Stp (wpE (iRange1 (aCons f aNil) ρ S) Qs) (wpE (f ρ S) fun w S1 => ∃ j, w = .int j ∧ (-(2 ^ 62) ≤ j ∧ j < 2 ^ 62) ∧ Qs (rangeD 0 j.toNat) S1) := ⟨w_range1⟩
instance iw_iStr {f : Mx} : Stp (wpE (iStr f ρ S) Qs) (wpE (f ρ S) fun w S1 => ∃ y, w = .str y ∧ Qs (signsD y) S1) := ⟨w_iStr⟩
instance iw_ok {α : Type} {a : α} {Q : α → Sto → Prop} : Stp (wpE (.ok a S) Q) (Q a S) := ⟨w_ok⟩
instance iw_t {A B : Prop} : Stp (if true = true then A else B) (A) := ⟨w_t⟩
instance iw_f {A B : Prop} : Stp (if false = true then A else B) (B) := ⟨w_f⟩
instance iwo_cells {k : Wd → Prop} {c : List Int} : Stp (wpO (gEq (.list (c.map PyData.int)) (.list [])) k) (k (.bool c.isEmpty)) := ⟨wo_cells⟩
instance iwo_le {i j : Int} {k : Wd → Prop} : Stp (wpO (gLe (.int i) (.int j)) k) (k (.bool (decide (i ≤ j)))) := ⟨wo_le⟩
instance iwo_lt {i j : Int} {k : Wd → Prop} : Stp (wpO (gLt (.int i) (.int j)) k) (k (.bool (decide (i < j)))) := ⟨wo_lt⟩
instance iwo_ge {i j : Int} {k : Wd → Prop} : Stp (wpO (gGe (.int i) (.int j)) k) (k (.bool (decide (j ≤ i)))) := ⟨wo_ge⟩
instance iwo_gt {i j : Int} {k : Wd → Prop} : Stp (wpO (gGt (.int i) (.int j)) k) (k (.bool (decide (j < i)))) := ⟨wo_gt⟩
instance iwo_eqi {i j : Int} {k : Wd → Prop} : Stp (wpO (gEq (.int i) (.int j)) k) (k (.bool (decide (i = j)))) := ⟨wo_eqi⟩
instance iwo_nei {i j : Int} {k : Wd → Prop} : Stp (wpO (gNe (.int i) (.int j)) k) (k (.bool (!decide (i = j)))) := ⟨wo_nei⟩
instance iw_enAp {f : Mx} : Stp (wpE (iEnumA (aCons f aNil) ρ S) Qs) (wpE (f ρ S) fun w S1 => wpO (itemsD w) fun ys => Qs (enumD 0 ys) S1) := ⟨w_enA'⟩
instance iw_starp {f : Mx} {fs : Ma} : Stp (wpE (aStar f fs ρ S) Qs) (wpE (f ρ S) fun w S1 => wpO (itemsD w) fun xs => wpE (fs ρ S1) fun ys S2 => Qs (xs ++ ys) S2) := ⟨w_star'⟩
instance iw_wh {t : Mt} {m : Ms} {fuel : Ev → Sto → Nat} : Stp (wpS (sWhile fuel t m ρ S) N Rt) (wpS (whLoop t m (fuel ρ S) ρ S) N Rt) := ⟨w_wh⟩
instance iw_map0  : Stp (wpE (mMap0 ρ S) Q) (Q (oW S.length) (S ++ [.tdc []])) := ⟨w_map0⟩
instance iw_ixT {fa fb : Mx} : Stp (wpE (mIxT fa fb ρ S) Q) (wpE (fa ρ S) fun x S1 => wpE (fb ρ S1) fun y S2 => wpO (recGetT S2 x y) fun w => Q w S2) := ⟨w_ixT⟩
instance iw_putT {fo fk f : Mx} : Stp (wpS (sPutT fo fk f ρ S) N Rt) (wpE (f ρ S) fun w S1 => wpE (fo ρ S1) fun o S2 => wpE (fk ρ S2) fun k S3 => wpO (recPutT S3 o k w) fun S4 => N ρ S4) := ⟨w_putT⟩
instance iw_po {i j : Nat} {f : Mx} : Stp (wpS (sPo i j f ρ S) N Rt) (wpE (f ρ S) fun w S1 => N ((ρ.set i (some (.val w))).set j (some (.own []))) S1) := ⟨w_po⟩
theorem zq11 {i : Nat} {w : Wd} (h : Q w S) (e : ρ[i]? = some (some (.val w)) := by with_unfolding_all rfl) : wpE (mV i ρ S) Q := w_V e h
theorem zq0 {i : Nat} {f : Mx} {ws : List Wd} (q : wpE (f ρ S) fun w S1 => ws.length < sizeLine ∧ N (ρ.set i (some (.own (ws ++ [w])))) S1) (h : ρ[i]? = some (some (.own ws)) := by with_unfolding_all rfl) : wpS (sApp i f ρ S) N Rt := w_app h q
theorem zq8 {fo : Mx} {x : Str} {f : Mx} (h : wpE (f ρ S) fun w S1 => wpE (fo ρ S1) fun o S2 => o = oW 0 ∧ wpO (recPut S2 0 x w) fun S3 => N ρ S3) : wpS (sPut fo x f ρ S) N Rt := w_put h
theorem zq10 {b : Bool} {A B : Prop} (h : A) (e : b = true := by with_unfolding_all rfl) : if b = true then A else B := w_bt e h
theorem zq3 {b : Bool} {A B : Prop} (h : B) (e : b = false := by with_unfolding_all rfl) : if b = true then A else B := w_bf e h
theorem zq5 {A : Prop} {ws : List Wd} (h : A) (e : decide (ws.length ≤ sizeLine) = true := by with_unfolding_all rfl) : ws.length ≤ sizeLine ∧ A := w_len h e
theorem zq6 {i j : Int} {k : Wd → Prop} (q : k (.int (i % j))) (h : 0 < j := by with_unfolding_all first | assumption | decide | omega) : wpO (gMod (.int i) (.int j)) k := wo_mod h q
theorem zq1 {i j : Int} {k : Wd → Prop} (q : k (.int (i / j))) (h : 0 < j := by with_unfolding_all first | assumption | decide | omega) (h1 : j < 1073741824 := by with_unfolding_all first | assumption | decide | omega) : wpO (gDiv (.int i) (.int j)) k := wo_div h h1 q
theorem zq13 {i j : Int} {k : Wd → Prop} (q : k (.int (i * j))) (h : (-(2 ^ 64) < i ∧ i < 2 ^ 64) ∨ (-(2 ^ 64) < j ∧ j < 2 ^ 64) := by with_unfolding_all first | exact Or.inl ⟨by decide, by decide⟩ | exact Or.inr ⟨by decide, by decide⟩ | exact Or.inl ⟨by omega, by omega⟩ | exact Or.inr ⟨by omega, by omega⟩) : wpO (gMul (.int i) (.int j)) k := wo_mul h q
theorem zq12 {i j : Int} {k : Wd → Prop} (q : k (.int (i ^ j.toNat))) (h : 0 ≤ j ∧ j ≤ 1000000 ∧ i.natAbs < 2 ^ 64 := by with_unfolding_all exact ⟨by decide, by decide, by first | decide | omega⟩) : wpO (gPow (.int i) (.int j)) k := wo_pow h q
theorem zq7 {i : Nat} {ws : List Wd} (q : Q (.int ws.length) S) (h : ρ[i]? = some (some (.own ws)) := by with_unfolding_all rfl) : wpE (mLenO i ρ S) Q := w_lenO h q
theorem zq2 {i : Nat} {f : Mx} {ws : List Wd} (q : wpE (f ρ S) fun w S1 => wpO (listD w) fun zs => ws.length + zs.length ≤ sizeLine ∧ N (ρ.set i (some (.own (ws ++ zs)))) S1) (h : ρ[i]? = some (some (.own ws)) := by with_unfolding_all rfl) : wpS (sExt i f ρ S) N Rt := w_ext' h q
theorem zq9 {α : Type} {o : Option α} {w : α} {k : α → Prop} (q : k w) (h : o = some w := by with_unfolding_all rfl) : wpO o k := ⟨w, h, q⟩
theorem zq4 {i : Int} {k : Int → Prop} (h : k i) : ∃ j, (PyData.int i : Wd) = .int j ∧ k j := ⟨i, rfl, h⟩
end
end DL
namespace PL
open PySem PySem.Spec PyProof.Rows L2 DL
def oS : Option Str → Wd
  | none => .none
  | some x => .str x
def oI : Option Int → Wd
  | none => .none
  | some x => .int x
def encU (u : Int × Int) : Wd := .tuple [.int u.1, .int u.2]
def encUs (us : Us) : Wd := .tuple (us.map encU)
def encS (s : Int × Option Str) : Wd := .tuple [.int s.1, oS s.2]
def encSy (st : Sy) : Wd := .tuple (st.map encS)
abbrev encP : Str × Sy → Wd := prT encSy
abbrev encM : Str × Us → Wd := prT encUs
def jw : Bool → Str
  | false => "first"
  | true => "later"
mutual
def encL : Lim → Wd
  | .one w n => .tuple [.str w.str, .int n]
  | .join b ls => .tuple [.str (jw b), .tuple (encLs ls)]
def encLs : List Lim → List Wd
  | [] => []
  | l :: ls => encL l :: encLs ls
end
theorem encLs_map : ∀ ls : List Lim, encLs ls = ls.map encL
  | [] => rfl
  | l :: ls => by simp only [encLs, List.map_cons, encLs_map ls]
theorem encL_join {b : Bool} {ls : List Lim} : encL (.join b ls) = .tuple [.str (jw b), .tuple (ls.map encL)] := by rw [encL, encLs_map]
def encSl (a : Int × Int × Int) : Wd := .tuple [.int a.1, .int a.2.1, .int a.2.2]
def encJ (j : Job) : Wd := .tuple [.str j.nm, .str j.pt, .str j.wy, encL j.lim, encSl j.sl]
def encSite (s : Site) : Wd := .tuple [.tuple (s.mc.map encM), .tuple (s.parts.map encP), .tuple (s.jobs.map encJ)]
def LimB (lo hi : Int) : Nat → Lim → Prop
  | _, .one _ n => lo ≤ n ∧ n ≤ hi
  | 0, .join _ _ => False
  | k + 1, .join _ ls => ls ≠ [] ∧ ls.length ≤ 10 ∧ ∀ l ∈ ls, LimB lo hi k l
theorem LimB.mono {lo hi lo' hi' : Int} (h1 : lo' ≤ lo) (h2 : hi ≤ hi') : ∀ {k k' : Nat} {l : Lim}, k ≤ k' → LimB lo hi k l → LimB lo' hi' k' l
  | _, _, .one w n, _, h => by
    unfold LimB at h ⊢
    exact ⟨by omega, by omega⟩
  | 0, _, .join _ _, _, h => by
    unfold LimB at h
    exact h.elim
  | k + 1, 0, .join _ _, hk, _ => by omega
  | k + 1, k' + 1, .join b ls, hk, h => by
    unfold LimB at h ⊢
    exact ⟨h.1, h.2.1, fun l hl => LimB.mono h1 h2 (by omega) (h.2.2 l hl)⟩
theorem LimB.one_ {lo hi n : Int} {w : CW} {k : Nat} (h : LimB lo hi k (.one w n)) : lo ≤ n ∧ n ≤ hi := by unfold LimB at h; exact h
theorem LimB.join_ {lo hi : Int} {b : Bool} {ls : List Lim} {k : Nat} (h : LimB lo hi k (.join b ls)) : ∃ k', k = k' + 1 ∧ ls ≠ [] ∧ ls.length ≤ 10 ∧ ∀ l ∈ ls, LimB lo hi k' l := by
  cases k with
  | zero => unfold LimB at h; exact h.elim
  | succ k => unfold LimB at h; exact ⟨k, rfl, h⟩
theorem LimB.mk_one {lo hi n : Int} {w : CW} {k : Nat} (h : lo ≤ n ∧ n ≤ hi) : LimB lo hi k (.one w n) := by unfold LimB; exact h
theorem LimB.mk_join {lo hi : Int} {b : Bool} {ls : List Lim} {k : Nat} (h0 : ls ≠ []) (h1 : ls.length ≤ 10) (h : ∀ l ∈ ls, LimB lo hi k l) : LimB lo hi (k + 1) (.join b ls) := by unfold LimB; exact ⟨h0, h1, h⟩
structure UsOk (us : Us) : Prop where
  ne : us ≠ []
  le : us.length ≤ 100
  bd : ∀ u ∈ us, (0 ≤ u.1 ∧ u.1 < 1000) ∧ 0 ≤ u.2 ∧ u.2 < 1000
instance {us : Us} : Decidable (UsOk us) := decidable_of_iff (us ≠ [] ∧ us.length ≤ 100 ∧ ∀ u ∈ us, (0 ≤ u.1 ∧ u.1 < 1000) ∧ 0 ≤ u.2 ∧ u.2 < 1000) ⟨fun ⟨a, b, c⟩ => ⟨a, b, c⟩, fun ⟨a, b, c⟩ => ⟨a, b, c⟩⟩
def Site.U (s : Site) (x : Str) : Us := (s.mc.lookup x).getD []
structure StOkP (s : Site) (st : Sy) : Prop where
  hd : ∃ p r, st = (0, p) :: r
  ln : st.length ≤ 1000
  up : ∀ q ∈ st, ∀ l, st.getLast? = some l → q.1 ≤ l.1
  nn : ∀ q ∈ st, 0 ≤ q.1 ∧ q.1 ≤ 1000
  us : ∀ q ∈ st, ∀ x, q.2 = some x → x ∈ s.mc.map (·.1)
section
variable {s : Site} {st : Sy} {d : Int}
theorem StOkP.ne (h : StOkP s st) : st ≠ [] := by
  obtain ⟨p, r, e⟩ := h.hd
  rw [e]
  exact List.cons_ne_nil _ _
end
end PL
namespace WF
open PySem PySem.Spec PyProof.Rows L2 DL
def m_is_name : Ms := (sSeq (sIf (mOrT (mNotT (mTru (mUn (gIsi "str") (mV 0)))) (mNotT (mTru (mChain gLe gLe (mC (.int 1)) (mCB gLen (aCons (mV 0) aNil)) (mC (.int 8)))))) (sRet (mC (.bool false))) sNil) (sRet (mCB gAll (aCons (mLc [1] (DL.iStr (mV 0)) (gtN 1) tTrue (mBin gIn (mV 1) (mC (.str "abcdefghijklmnopqrstuvwxyz")))) aNil))))
def g_is_name : Gd := runDef 2 1 m_is_name
end WF
namespace WF
open PySem PySem.Spec PyProof.Rows L2 DL
end WF
namespace WF
open PySem PySem.Spec PyProof.Rows L2 DL
end WF
namespace WF
open PySem PySem.Spec PyProof.Rows L2 DL
end WF
namespace WF
open PySem PySem.Spec PyProof.Rows L2 DL
end WF
namespace WF
open PySem PySem.Spec PyProof.Rows L2 DL
end WF
namespace WF
open PySem PySem.Spec PyProof.Rows L2 DL
end WF
namespace WF
open PySem PySem.Spec PyProof.Rows L2 DL
end WF
namespace WF
open PySem PySem.Spec PyProof.Rows L2 DL
end WF
namespace WF
open PySem PySem.Spec PyProof.Rows L2 DL
end WF
namespace WF
open PySem PySem.Spec PyProof.Rows L2 DL
end WF
namespace WF
open PySem PySem.Spec PyProof.Rows L2 DL PL
def NameOk (x : Str) : Prop := ∀ S, g_is_name [.str x] S = .ok (.bool true) S
section
variable {s : Site} {S : Sto} {st : Sy} {d lo hi : Int} {p : Str × Sy}
theorem require_eq {w1 w2 : Wd} : g_require_usable [.bool true, w1, w2] S = .ok .none S := rfl
theorem is_number_eq {i : Int} (h : 0 ≤ i) : g_is_number [.int i] S = .ok (.bool true) S := by
  refine wpR_ok (w_def rfl ?_)
  unfold m_is_number
  (repeat (first | with_reducible refine zq15 ?_ | (with_reducible first | refine zq14 ?_ | refine zq11 ?_ | refine zq10 ?_ | refine zq3 ?_ | refine zq4 ?_ | refine zq5 ?_ | refine zq0 ?_ | refine zq8 ?_ | refine zq6 ?_ | refine zq1 ?_ | refine zq13 ?_ | refine zq12 ?_ | refine zq7 ?_ | refine zq2 ?_ | refine zq9 ?_)))
  refine w_eq (a := .bool true) (S' := S) rfl ?_
  (repeat (first | with_reducible refine zq15 ?_ | (with_reducible first | refine zq14 ?_ | refine zq11 ?_ | refine zq10 ?_ | refine zq3 ?_ | refine zq4 ?_ | refine zq5 ?_ | refine zq0 ?_ | refine zq8 ?_ | refine zq6 ?_ | refine zq1 ?_ | refine zq13 ?_ | refine zq12 ?_ | refine zq7 ?_ | refine zq2 ?_ | refine zq9 ?_)))
  rw [decide_eq_true h]
  exact ⟨rfl, rfl⟩
end
end WF
namespace WF
open PySem PySem.Spec PyProof.Rows L2 DL
end WF
namespace WF
open PySem PySem.Spec PyProof.Rows L2 DL
end WF
namespace PL
open PySem PySem.Spec PyProof.Rows L2 DL
mutual
def szL : Lim → Nat
  | .one _ _ => 1
  | .join _ ls => 1 + szLs ls
def szLs : List Lim → Nat
  | [] => 0
  | l :: ls => szL l + szLs ls
end
def wordL : Lim → Str
  | .one w _ => w.str
  | .join b _ => jw b
def en : Nat → List Lim → List (Nat × Lim)
  | _, [] => []
  | n, l :: ls => (n, l) :: en (n + 1) ls
theorem en_len : ∀ (n : Nat) (ls : List Lim), (en n ls).length = ls.length
  | _, [] => rfl
  | n, l :: ls => by simp only [en, List.length_cons, en_len]
theorem en_mem : ∀ (n : Nat) (ls : List Lim) (p : Nat × Lim), p ∈ en n ls → p.2 ∈ ls
  | _, [], _, h => by cases h
  | n, l :: ls, p, h => by
    rcases List.mem_cons.1 h with rfl | h
    · exact List.mem_cons_self ..
    · exact List.mem_cons_of_mem _ (en_mem _ ls p h)
theorem en_sum : ∀ (n : Nat) (ls : List Lim), ((en n ls).map fun p => szL p.2).sum = szLs ls
  | _, [] => rfl
  | n, l :: ls => by simp only [en, List.map_cons, List.sum_cons, en_sum, szLs]
theorem en_enum : ∀ (n : Nat) (ls : List Lim), enumD n (ls.map encL) = (en n ls).map fun p => .tuple [.int (p.1 : Nat), encL p.2]
  | _, [] => rfl
  | n, l :: ls => by
    simp only [en, List.map_cons, enumD, en_enum (n + 1) ls]
theorem szL_pos : ∀ l : Lim, 1 ≤ szL l
  | .one _ _ => Nat.le_refl _
  | .join _ ls => by simp only [szL]; omega
theorem ints_int : ∀ l : List Int, intsD (l.map PyData.int) = some l
  | [] => rfl
  | x :: l => by simp only [List.map_cons, intsD, ints_int l, Option.map_some]
end PL
namespace WF
open PySem PySem.Spec PyProof.Rows L2 DL PL
section
variable {s : Site} {S : Sto} {st : Sy} {b : Int} {p : Str × Sy}
theorem limit_word_eq {l : Lim} : g_limit_word [encL l] S = .ok (.str (wordL l)) S := by
  refine wpR_ok (w_def rfl ?_)
  unfold m_limit_word
  cases l with
  | one w n =>
    cases w <;> (unfold encL; (repeat (first | with_reducible refine zq15 ?_ | (with_reducible first | refine zq14 ?_ | refine zq11 ?_ | refine zq10 ?_ | refine zq3 ?_ | refine zq4 ?_ | refine zq5 ?_ | refine zq0 ?_ | refine zq8 ?_ | refine zq6 ?_ | refine zq1 ?_ | refine zq13 ?_ | refine zq12 ?_ | refine zq7 ?_ | refine zq2 ?_ | refine zq9 ?_))); exact ⟨rfl, rfl⟩)
  | join b ls =>
    cases b <;> (rw [encL_join]; (repeat (first | with_reducible refine zq15 ?_ | (with_reducible first | refine zq14 ?_ | refine zq11 ?_ | refine zq10 ?_ | refine zq3 ?_ | refine zq4 ?_ | refine zq5 ?_ | refine zq0 ?_ | refine zq8 ?_ | refine zq6 ?_ | refine zq1 ?_ | refine zq13 ?_ | refine zq12 ?_ | refine zq7 ?_ | refine zq2 ?_ | refine zq9 ?_))); exact ⟨rfl, rfl⟩)
theorem inner_pairs_eq {path : List Wd} {c : Bool} {ls : List Lim} (hp : path.length + 1 ≤ sizeLine) (hl : ls.length ≤ sizeLine) : g_inner_pairs [.tuple path, encL (.join c ls)] S = .ok (.list ((en 0 ls).map fun q => .tuple [.tuple (path ++ [.int (q.1 : Nat)]), encL q.2])) S := by
  refine wpR_ok (w_def rfl ?_)
  unfold m_inner_pairs
  rw [encL_join]
  (repeat (first | with_reducible refine zq15 ?_ | (with_reducible first | refine zq14 ?_ | refine zq11 ?_ | refine zq10 ?_ | refine zq3 ?_ | refine zq4 ?_ | refine zq5 ?_ | refine zq0 ?_ | refine zq8 ?_ | refine zq6 ?_ | refine zq1 ?_ | refine zq13 ?_ | refine zq12 ?_ | refine zq7 ?_ | refine zq2 ?_ | refine zq9 ?_)))
  refine w_bf (by cases c <;> rfl) ?_
  (repeat (first | with_reducible refine zq15 ?_ | (with_reducible first | refine zq14 ?_ | refine zq11 ?_ | refine zq10 ?_ | refine zq3 ?_ | refine zq4 ?_ | refine zq5 ?_ | refine zq0 ?_ | refine zq8 ?_ | refine zq6 ?_ | refine zq1 ?_ | refine zq13 ?_ | refine zq12 ?_ | refine zq7 ?_ | refine zq2 ?_ | refine zq9 ?_)))
  rw [en_enum]
  refine lc_map (out := fun q => .tuple [.tuple (path ++ [.int (q.1 : Nat)]), encL q.2]) (en 0 ls) (by rw [en_len]; exact hl) (fun q hq => ⟨_, rfl, wpX_ok ?_⟩) ⟨rfl, rfl⟩
  (repeat (with_reducible first | refine zq14 ?_ | refine zq11 ?_ | refine zq10 ?_ | refine zq3 ?_ | refine zq4 ?_ | refine zq5 ?_ | refine zq0 ?_ | refine zq8 ?_ | refine zq6 ?_ | refine zq1 ?_ | refine zq13 ?_ | refine zq12 ?_ | refine zq7 ?_ | refine zq2 ?_ | refine zq9 ?_))
  refine ⟨by simpa using hp, ?_⟩
  (repeat (with_reducible first | refine zq14 ?_ | refine zq11 ?_ | refine zq10 ?_ | refine zq3 ?_ | refine zq4 ?_ | refine zq5 ?_ | refine zq0 ?_ | refine zq8 ?_ | refine zq6 ?_ | refine zq1 ?_ | refine zq13 ?_ | refine zq12 ?_ | refine zq7 ?_ | refine zq2 ?_ | refine zq9 ?_))
  exact ⟨rfl, rfl⟩
theorem is_amount_eq {i : Int} (h : 1 ≤ i) : g_is_amount [.int i] S = .ok (.bool true) S := by
  refine wpR_ok (w_def rfl ?_)
  unfold m_is_amount
  (repeat (first | with_reducible refine zq15 ?_ | (with_reducible first | refine zq14 ?_ | refine zq11 ?_ | refine zq10 ?_ | refine zq3 ?_ | refine zq4 ?_ | refine zq5 ?_ | refine zq0 ?_ | refine zq8 ?_ | refine zq6 ?_ | refine zq1 ?_ | refine zq13 ?_ | refine zq12 ?_ | refine zq7 ?_ | refine zq2 ?_ | refine zq9 ?_)))
  refine w_eq (a := .bool true) (S' := S) rfl ?_
  (repeat (first | with_reducible refine zq15 ?_ | (with_reducible first | refine zq14 ?_ | refine zq11 ?_ | refine zq10 ?_ | refine zq3 ?_ | refine zq4 ?_ | refine zq5 ?_ | refine zq0 ?_ | refine zq8 ?_ | refine zq6 ?_ | refine zq1 ?_ | refine zq13 ?_ | refine zq12 ?_ | refine zq7 ?_ | refine zq2 ?_ | refine zq9 ?_)))
  rw [decide_eq_true h]
  exact ⟨rfl, rfl⟩
def encW (q : List Wd × Lim) : Wd := .tuple [.tuple q.1, encL q.2]
structure LimOk (hi : Int) (k : Nat) (l : Lim) : Prop where
  b : LimB 1 hi k l
  z : szL l ≤ 500
  d : k ≤ 50
theorem limit_fault_eq {l : Lim} {hi : Int} {k : Nat} (h : LimOk hi k l) : g_limit_fault [encL l] S = .ok .none S := by
  have hz := siz
  refine wpR_ok (w_def rfl ?_)
  unfold m_limit_fault
  (repeat (first | with_reducible refine zq15 ?_ | (with_reducible first | refine zq14 ?_ | refine zq11 ?_ | refine zq10 ?_ | refine zq3 ?_ | refine zq4 ?_ | refine zq5 ?_ | refine zq0 ?_ | refine zq8 ?_ | refine zq6 ?_ | refine zq1 ?_ | refine zq13 ?_ | refine zq12 ?_ | refine zq7 ?_ | refine zq2 ?_ | refine zq9 ?_)))
  refine wp_wh (I := fun n ρ S' => S' = S ∧ ∃ (its : List (List Wd × Lim)) (x2 x3 x4 : Option Sl), (its.map fun q => szL q.2).sum < n ∧ n ≤ 1000 ∧ (∀ q ∈ its, ∃ k, LimB 1 hi k q.2 ∧ q.1.length + k ≤ 100) ∧
    ρ = [some (.val (encL l)), some (.own (its.map encW)), x2, x3, x4]) ?_ ?_ _ _ _ ⟨rfl, [([], l)], none, none, none, by have := h.z; simp; omega, Nat.le_refl _, ?_, rfl⟩
  · rintro n ρ S' ⟨rfl, its, x2, x3, x4, hs, hn, hq, rfl⟩
    have hlen : its.length ≤ (its.map fun q => szL q.2).sum := by
      clear hq hs
      induction its with
      | nil => exact Nat.le_refl _
      | cons q its ih =>
        have := szL_pos q.2
        simp only [List.length_cons, List.map_cons, List.sum_cons]
        omega
    (repeat (with_reducible first | refine zq14 ?_ | refine zq11 ?_ | refine zq10 ?_ | refine zq3 ?_ | refine zq4 ?_ | refine zq5 ?_ | refine zq0 ?_ | refine zq8 ?_ | refine zq6 ?_ | refine zq1 ?_ | refine zq13 ?_ | refine zq12 ?_ | refine zq7 ?_ | refine zq2 ?_ | refine zq9 ?_))
    rcases List.eq_nil_or_concat its with rfl | ⟨init, q, rfl⟩
    · (repeat (first | with_reducible refine zq15 ?_ | (with_reducible first | refine zq14 ?_ | refine zq11 ?_ | refine zq10 ?_ | refine zq3 ?_ | refine zq4 ?_ | refine zq5 ?_ | refine zq0 ?_ | refine zq8 ?_ | refine zq6 ?_ | refine zq1 ?_ | refine zq13 ?_ | refine zq12 ?_ | refine zq7 ?_ | refine zq2 ?_ | refine zq9 ?_)))
      exact ⟨rfl, rfl⟩
    simp only [List.concat_eq_append] at *
    refine w_bt (by simp) ?_
    refine zq15 ?_
    refine w_pop (ws := init.map encW) (w := encW q) (by simp) ?_
    obtain ⟨path, l1⟩ := q
    obtain ⟨k1, hB, hk1⟩ := hq (path, l1) (by simp)
    have hq' : ∀ q ∈ init, ∃ k, LimB 1 hi k q.2 ∧ q.1.length + k ≤ 100 := fun q h => hq q (by simp [h])
    simp only [List.map_append, List.sum_append, List.map_cons, List.map_nil, List.sum_cons, List.sum_nil, Nat.add_zero] at hs hlen
    simp only at hB hk1
    (repeat (first | with_reducible refine zq15 ?_ | (with_reducible first | refine zq14 ?_ | refine zq11 ?_ | refine zq10 ?_ | refine zq3 ?_ | refine zq4 ?_ | refine zq5 ?_ | refine zq0 ?_ | refine zq8 ?_ | refine zq6 ?_ | refine zq1 ?_ | refine zq13 ?_ | refine zq12 ?_ | refine zq7 ?_ | refine zq2 ?_ | refine zq9 ?_)))
    refine w_eq limit_word_eq ?_
    cases l1 with
    | one w n1 =>
      have hb := hB.one_
      (repeat (first | with_reducible refine zq15 ?_ | (with_reducible first | refine zq14 ?_ | refine zq11 ?_ | refine zq10 ?_ | refine zq3 ?_ | refine zq4 ?_ | refine zq5 ?_ | refine zq0 ?_ | refine zq8 ?_ | refine zq6 ?_ | refine zq1 ?_ | refine zq13 ?_ | refine zq12 ?_ | refine zq7 ?_ | refine zq2 ?_ | refine zq9 ?_)))
      refine w_bt (by cases w <;> rfl) ?_
      (repeat (first | with_reducible refine zq15 ?_ | (with_reducible first | refine zq14 ?_ | refine zq11 ?_ | refine zq10 ?_ | refine zq3 ?_ | refine zq4 ?_ | refine zq5 ?_ | refine zq0 ?_ | refine zq8 ?_ | refine zq6 ?_ | refine zq1 ?_ | refine zq13 ?_ | refine zq12 ?_ | refine zq7 ?_ | refine zq2 ?_ | refine zq9 ?_)))
      refine w_eq (is_amount_eq hb.1) ?_
      (repeat (first | with_reducible refine zq15 ?_ | (with_reducible first | refine zq14 ?_ | refine zq11 ?_ | refine zq10 ?_ | refine zq3 ?_ | refine zq4 ?_ | refine zq5 ?_ | refine zq0 ?_ | refine zq8 ?_ | refine zq6 ?_ | refine zq1 ?_ | refine zq13 ?_ | refine zq12 ?_ | refine zq7 ?_ | refine zq2 ?_ | refine zq9 ?_)))
      simp only [szL] at hs
      exact ⟨rfl, init, _, _, _, by omega, by omega, hq', rfl⟩
    | join c ls =>
      obtain ⟨k2, rfl, hne, hle, hall⟩ := hB.join_
      simp only [szL] at hs hlen
      have hz2 : 2000 ≤ sizeLine := by decide
      (repeat (first | with_reducible refine zq15 ?_ | (with_reducible first | refine zq14 ?_ | refine zq11 ?_ | refine zq10 ?_ | refine zq3 ?_ | refine zq4 ?_ | refine zq5 ?_ | refine zq0 ?_ | refine zq8 ?_ | refine zq6 ?_ | refine zq1 ?_ | refine zq13 ?_ | refine zq12 ?_ | refine zq7 ?_ | refine zq2 ?_ | refine zq9 ?_)))
      refine w_bf (by cases c <;> rfl) ?_
      rw [encL_join]
      (repeat (first | with_reducible refine zq15 ?_ | (with_reducible first | refine zq14 ?_ | refine zq11 ?_ | refine zq10 ?_ | refine zq3 ?_ | refine zq4 ?_ | refine zq5 ?_ | refine zq0 ?_ | refine zq8 ?_ | refine zq6 ?_ | refine zq1 ?_ | refine zq13 ?_ | refine zq12 ?_ | refine zq7 ?_ | refine zq2 ?_ | refine zq9 ?_)))
      refine w_bf (by simpa using hne) ?_
      (repeat (first | with_reducible refine zq15 ?_ | (with_reducible first | refine zq14 ?_ | refine zq11 ?_ | refine zq10 ?_ | refine zq3 ?_ | refine zq4 ?_ | refine zq5 ?_ | refine zq0 ?_ | refine zq8 ?_ | refine zq6 ?_ | refine zq1 ?_ | refine zq13 ?_ | refine zq12 ?_ | refine zq7 ?_ | refine zq2 ?_ | refine zq9 ?_)))
      rw [← encL_join]
      refine w_eq (inner_pairs_eq (by show path.length + 1 ≤ sizeLine; omega) (by omega)) ?_
      (repeat (first | with_reducible refine zq15 ?_ | (with_reducible first | refine zq14 ?_ | refine zq11 ?_ | refine zq10 ?_ | refine zq3 ?_ | refine zq4 ?_ | refine zq5 ?_ | refine zq0 ?_ | refine zq8 ?_ | refine zq6 ?_ | refine zq1 ?_ | refine zq13 ?_ | refine zq12 ?_ | refine zq7 ?_ | refine zq2 ?_ | refine zq9 ?_)))
      refine ⟨by simp only [List.length_map, List.length_reverse, en_len]; simp only [List.length_append, List.length_singleton] at hlen; omega, ?_⟩
      refine ⟨rfl, init ++ ((en 0 ls).map fun q => (path ++ [.int (q.1 : Nat)], q.2)).reverse, some (.val (.tuple path)), some (.val (encL (.join c ls))), some (.val (.str (jw c))), ?_, by omega, ?_, ?_⟩
      · rw [List.map_append, List.sum_append, List.map_reverse, List.sum_reverse, List.map_map]
        have := en_sum 0 ls
        simp only [Function.comp_def]
        omega
      · intro q hq
        rcases List.mem_append.1 hq with hq | hq
        · exact hq' q hq
        · obtain ⟨e, he, rfl⟩ := List.mem_map.1 (List.mem_reverse.1 hq)
          exact ⟨k2, hall _ (en_mem 0 ls e he), by simp; omega⟩
      · simp only [List.map_append, List.map_reverse, List.map_map]
        rfl
  · rintro ρ S' ⟨rfl, its, x2, x3, x4, hs, hn, hq, rfl⟩
    omega
  · intro q hq
    rw [List.mem_singleton.1 hq]
    exact ⟨k, h.b, by have := h.d; simp; omega⟩
theorem is_limit_eq {l : Lim} {hi : Int} {k : Nat} (h : LimOk hi k l) : g_is_limit [encL l] S = .ok (.bool true) S := by
  refine wpR_ok (w_def rfl ?_)
  unfold m_is_limit
  (repeat (first | with_reducible refine zq15 ?_ | (with_reducible first | refine zq14 ?_ | refine zq11 ?_ | refine zq10 ?_ | refine zq3 ?_ | refine zq4 ?_ | refine zq5 ?_ | refine zq0 ?_ | refine zq8 ?_ | refine zq6 ?_ | refine zq1 ?_ | refine zq13 ?_ | refine zq12 ?_ | refine zq7 ?_ | refine zq2 ?_ | refine zq9 ?_)))
  refine w_eq (limit_fault_eq h) ?_
  (repeat (first | with_reducible refine zq15 ?_ | (with_reducible first | refine zq14 ?_ | refine zq11 ?_ | refine zq10 ?_ | refine zq3 ?_ | refine zq4 ?_ | refine zq5 ?_ | refine zq0 ?_ | refine zq8 ?_ | refine zq6 ?_ | refine zq1 ?_ | refine zq13 ?_ | refine zq12 ?_ | refine zq7 ?_ | refine zq2 ?_ | refine zq9 ?_)))
  exact ⟨rfl, rfl⟩
end
end WF
namespace PL
open PySem PySem.Spec PyProof.Rows L2 DL
def Weaker (l l' : Lim) : Prop := ∀ c, passes l c = true → passes l' c = true
mutual
def shiftL (a : CW → Int) : Lim → Lim
  | .one w n => .one w (n + a w)
  | .join b ls => .join b (shiftLs a ls)
def shiftLs (a : CW → Int) : List Lim → List Lim
  | [] => []
  | l :: ls => shiftL a l :: shiftLs a ls
end
theorem shiftLs_map {a : CW → Int} : ∀ ls : List Lim, shiftLs a ls = ls.map (shiftL a)
  | [] => rfl
  | l :: ls => by simp only [shiftLs, List.map_cons, shiftLs_map ls]
theorem shiftL_join {a : CW → Int} {b : Bool} {ls : List Lim} : shiftL a (.join b ls) = .join b (ls.map (shiftL a)) := by rw [shiftL, shiftLs_map]
mutual
theorem passes_shift {a c : CW → Int} : ∀ l : Lim, passes (shiftL a l) c = passes l fun w => c w - a w
  | .one w n => by
    simp only [shiftL, passes]
    congr 1
    exact propext ⟨fun h => by omega, fun h => by omega⟩
  | .join false ls => by simp only [shiftL, passes, passAny_shift ls]
  | .join true ls => by simp only [shiftL, passes, passAll_shift ls]
theorem passAny_shift {a c : CW → Int} : ∀ ls : List Lim, passAny (shiftLs a ls) c = passAny ls fun w => c w - a w
  | [] => rfl
  | l :: ls => by simp only [shiftLs, passAny, passes_shift l, passAny_shift ls]
theorem passAll_shift {a c : CW → Int} : ∀ ls : List Lim, passAll (shiftLs a ls) c = passAll ls fun w => c w - a w
  | [] => rfl
  | l :: ls => by simp only [shiftLs, passAll, passes_shift l, passAll_shift ls]
end
theorem shift_weaker {a : CW → Int} (h : ∀ w, 0 ≤ a w) (l : Lim) : Weaker (shiftL a l) l := fun c p => by
  rw [passes_shift] at p
  exact passes_mono (fun w => by have := h w; omega) l p
theorem LimB.shift {a : CW → Int} {lo hi lo' hi' : Int} (h : ∀ w, lo' ≤ lo + a w ∧ hi + a w ≤ hi') : ∀ {k : Nat} {l : Lim}, LimB lo hi k l → LimB lo' hi' k (shiftL a l)
  | _, .one w n, q => by
    have := q.one_
    have := h w
    rw [shiftL]
    exact LimB.mk_one ⟨by omega, by omega⟩
  | 0, .join _ _, q => by
    unfold LimB at q
    exact q.elim
  | k + 1, .join b ls, q => by
    unfold LimB at q
    rw [shiftL_join]
    refine LimB.mk_join (by simpa using q.1) (by simpa using q.2.1) fun l hl => ?_
    obtain ⟨l', hl', rfl⟩ := List.mem_map.1 hl
    exact LimB.shift h (q.2.2 l' hl')
mutual
theorem szL_shift {a : CW → Int} : ∀ l : Lim, szL (shiftL a l) = szL l
  | .one _ _ => by simp only [shiftL, szL]
  | .join _ ls => by simp only [shiftL, szL, szLs_shift ls]
theorem szLs_shift {a : CW → Int} : ∀ ls : List Lim, szLs (shiftLs a ls) = szLs ls
  | [] => rfl
  | l :: ls => by simp only [shiftLs, szLs, szL_shift l, szLs_shift ls]
end
end PL
namespace DL
open PySem PySem.Spec PyProof.Rows L2
theorem gNe_same {x : Wd} (h : SeqAt.shaped x = true) (hx : PyData.eqv x x = true) : gNe x x = some (.bool false) := by
  unfold gNe
  split
  · simp
  · rw [if_pos ⟨h, h⟩, hx]
    rfl
end DL
namespace PL
open PySem PySem.Spec PyProof.Rows L2 DL
mutual
def apL (p : List Int) : Lim → List (List Int × Lim)
  | .one w n => [(p, .one w n)]
  | .join b ls => (p, .join b ls) :: apLs p 0 ls
def apLs (p : List Int) : Nat → List Lim → List (List Int × Lim)
  | _, [] => []
  | k, l :: ls => apL (p ++ [(k : Int)]) l ++ apLs p (k + 1) ls
end
mutual
theorem apL_len : ∀ (p : List Int) (l : Lim), (apL p l).length = szL l
  | p, .one w n => by simp only [apL, szL]; rfl
  | p, .join b ls => by simp only [apL, szL, List.length_cons, apLs_len p 0 ls]; omega
theorem apLs_len : ∀ (p : List Int) (k : Nat) (ls : List Lim), (apLs p k ls).length = szLs ls
  | p, _, [] => by simp only [apLs, szLs]; rfl
  | p, k, l :: ls => by simp only [apLs, szLs, List.length_append, apL_len _ l, apLs_len p (k + 1) ls]
end
def encA (q : List Int × Lim) : Wd := .tuple [.tuple (q.1.map .int), encL q.2]
theorem look_put_same {k : List Int} {w : Wd} : ∀ {M : List (List Int × Wd)}, lookT k (putT k w M) = some w := by
  intro M
  unfold putT
  split
  · rename_i h
    induction M with
    | nil => cases h
    | cons q M ih =>
      obtain ⟨k', d⟩ := q
      rw [List.map_cons]
      unfold lookT
      by_cases c : k' = k
      · rw [if_pos c, if_pos c]
      · rw [if_neg c]
        simp only
        rw [if_neg c]
        refine ih ?_
        rw [List.any_cons, decide_eq_false c, Bool.false_or] at h
        exact h
  · rename_i h
    induction M with
    | nil => simp [lookT]
    | cons q M ih =>
      obtain ⟨k', d⟩ := q
      rw [List.any_cons] at h
      have c : ¬ k' = k := fun c => h (by rw [decide_eq_true c]; rfl)
      rw [List.cons_append]
      unfold lookT
      rw [if_neg c]
      exact ih fun z => h (by rw [z, Bool.or_true])
theorem look_put_ne {k k2 : List Int} {w : Wd} (hne : k2 ≠ k) : ∀ {M : List (List Int × Wd)}, lookT k2 (putT k w M) = lookT k2 M := by
  intro M
  unfold putT
  split
  · rename_i hh
    clear hh
    induction M with
    | nil => rfl
    | cons q M ih =>
      obtain ⟨k', d⟩ := q
      rw [List.map_cons]
      by_cases c : k' = k
      · rw [if_pos c]
        unfold lookT
        rw [if_neg (fun z => hne (z.symm.trans c)), if_neg (fun z => hne (z.symm.trans c))]
        exact ih
      · rw [if_neg c]
        unfold lookT
        rw [ih]
  · rename_i hh
    clear hh
    induction M with
    | nil => simp [lookT, Ne.symm hne]
    | cons q M ih =>
      obtain ⟨k', d⟩ := q
      rw [List.cons_append]
      unfold lookT
      rw [ih]
theorem put_len (k : List Int) (w : Wd) (M : List (List Int × Wd)) : (putT k w M).length ≤ M.length + 1 := by
  unfold putT
  split
  · rw [List.length_map]; omega
  · rw [List.length_append]; exact Nat.le_refl _
theorem len_szLs : ∀ ls : List Lim, ls.length ≤ szLs ls
  | [] => Nat.zero_le _
  | l :: ls => by
    have h1 := szL_pos l
    have h2 := len_szLs ls
    simp only [List.length_cons, szLs]
    omega
def Pre (p q : List Int) : Prop := ∃ r, q = p ++ r
theorem pre_refl {p : List Int} : Pre p p := ⟨[], by simp⟩
theorem pre_down {p q : List Int} {k : Int} (h : Pre (p ++ [k]) q) : Pre p q := by
  obtain ⟨r, rfl⟩ := h
  exact ⟨k :: r, by simp⟩
theorem pre_other {p q : List Int} {k j : Int} (hkj : k ≠ j) (h : Pre (p ++ [k]) (p ++ [j] ++ q)) : False := by
  obtain ⟨r, h⟩ := h
  rw [List.append_assoc, List.append_assoc] at h
  have h := List.append_cancel_left h
  simp only [List.cons_append, List.nil_append] at h
  injection h with h1 _
  exact hkj h1.symm
section
variable {g : Mg} {m : Ms} {Rt : Wd → Sto → Prop} {val : Lim → Wd} {I : List (List Int × Wd) → Ev → Sto → Prop}
mutual
theorem tree_one (h1 : ∀ p w n M ρ S, M.length ≤ 900 → I M ρ S → ∃ ρ1, g (encA (p, .one w n)) ρ = some ρ1 ∧ wpS (m ρ1 S) (fun ρ2 S2 => I (putT p (val (.one w n)) M) ρ2 S2) Rt)
    (h2 : ∀ p b ls M ρ S, M.length ≤ 900 → ls.length ≤ 500 → p.length ≤ 500 → I M ρ S → (∀ (k : Nat) (l : Lim), ls[k]? = some l → lookT (p ++ [(k : Int)]) M = some (val l)) → ∃ ρ1, g (encA (p, .join b ls)) ρ = some ρ1 ∧ wpS (m ρ1 S) (fun ρ2 S2 => I (putT p (val (.join b ls)) M) ρ2 S2) Rt) :
    ∀ (x : Lim) (p : List Int) (M : List (List Int × Wd)) (ρ : Ev) (S : Sto) (N : Ev → Sto → Prop), M.length + szL x ≤ 900 → p.length + szL x ≤ 500 → I M ρ S →
      (∀ M' ρ' S', I M' ρ' S' → lookT p M' = some (val x) → (∀ q, ¬ Pre p q → lookT q M' = lookT q M) → M'.length ≤ M.length + szL x → N ρ' S') → wpF g m N Rt (((apL p x).reverse).map encA) ρ S
  | .one w n, p, M, ρ, S, N, hM, hp, hI, q => by
    simp only [apL, List.reverse_cons, List.reverse_nil, List.nil_append, List.map_cons, List.map_nil]
    simp only [szL] at hM hp q
    obtain ⟨ρ1, e, h⟩ := h1 p w n M ρ S (by omega) hI
    refine ⟨ρ1, e, wpS_mono h (fun ρ2 S2 h => ?_) fun _ _ h => h⟩
    exact q _ ρ2 S2 h look_put_same (fun q hq => look_put_ne fun e => hq (by rw [e]; exact pre_refl)) (put_len _ _ _)
  | .join b ls, p, M, ρ, S, N, hM, hp, hI, q => by
    simp only [apL, List.reverse_cons, List.map_append, List.map_cons, List.map_nil]
    simp only [szL] at hM hp q
    have hll := len_szLs ls
    refine wpF_app _ _ _ _ (tree_all h1 h2 ls p 0 M ρ S _ (by omega) (by omega) hI fun M' ρ' S' hI' hk hq hl => ?_)
    obtain ⟨ρ1, e, h⟩ := h2 p b ls M' ρ' S' (by omega) (by omega) (by omega) hI' fun k l hl => by have := hk k l hl; rwa [Nat.zero_add] at this
    refine ⟨ρ1, e, wpS_mono h (fun ρ2 S2 h => ?_) fun _ _ h => h⟩
    refine q _ ρ2 S2 h look_put_same (fun r hr => ?_) (by have := put_len p (val (.join b ls)) M'; omega)
    rw [look_put_ne fun e => hr (by rw [e]; exact pre_refl)]
    exact hq r fun j hj => hr (pre_down hj)
theorem tree_all (h1 : ∀ p w n M ρ S, M.length ≤ 900 → I M ρ S → ∃ ρ1, g (encA (p, .one w n)) ρ = some ρ1 ∧ wpS (m ρ1 S) (fun ρ2 S2 => I (putT p (val (.one w n)) M) ρ2 S2) Rt)
    (h2 : ∀ p b ls M ρ S, M.length ≤ 900 → ls.length ≤ 500 → p.length ≤ 500 → I M ρ S → (∀ (k : Nat) (l : Lim), ls[k]? = some l → lookT (p ++ [(k : Int)]) M = some (val l)) → ∃ ρ1, g (encA (p, .join b ls)) ρ = some ρ1 ∧ wpS (m ρ1 S) (fun ρ2 S2 => I (putT p (val (.join b ls)) M) ρ2 S2) Rt) :
    ∀ (ls : List Lim) (p : List Int) (j : Nat) (M : List (List Int × Wd)) (ρ : Ev) (S : Sto) (N : Ev → Sto → Prop), M.length + szLs ls ≤ 900 → p.length + 1 + szLs ls ≤ 500 → I M ρ S →
      (∀ M' ρ' S', I M' ρ' S' → (∀ (k : Nat) (l : Lim), ls[k]? = some l → lookT (p ++ [((j + k : Nat) : Int)]) M' = some (val l)) → (∀ q, (∀ i : Int, ¬ Pre (p ++ [i]) q) → lookT q M' = lookT q M) → M'.length ≤ M.length + szLs ls → N ρ' S') → wpF g m N Rt (((apLs p j ls).reverse).map encA) ρ S
  | [], p, j, M, ρ, S, N, hM, hp, hI, q => by
    simp only [apLs, List.reverse_nil, List.map_nil]
    exact q M ρ S hI (fun k l h => by simp at h) (fun _ _ => rfl) (by simp only [szLs]; omega)
  | l :: ls, p, j, M, ρ, S, N, hM, hp, hI, q => by
    simp only [apLs, List.reverse_append, List.map_append]
    simp only [szLs] at hM hp q
    have hz := szL_pos l
    refine wpF_app _ _ _ _ (tree_all h1 h2 ls p (j + 1) M ρ S _ (by omega) (by omega) hI fun M1 ρ1 S1 hI1 hk1 hq1 hl1 => ?_)
    refine tree_one h1 h2 l (p ++ [(j : Int)]) M1 ρ1 S1 N (by omega) (by simp; omega) hI1 fun M2 ρ2 S2 hI2 hk2 hq2 hl2 => ?_
    refine q M2 ρ2 S2 hI2 (fun k x hx => ?_) (fun r hr => ?_) (by omega)
    · cases k with
      | zero =>
        rw [List.getElem?_cons_zero] at hx
        cases hx
        exact hk2
      | succ k =>
        rw [List.getElem?_cons_succ] at hx
        have := hk1 k x hx
        rw [show j + 1 + k = j + (k + 1) by omega] at this
        rw [hq2 _ fun z => ?_]
        · exact this
        · have z' : Pre (p ++ [(j : Int)]) (p ++ [((j + (k + 1) : Nat) : Int)] ++ []) := by rw [List.append_nil]; exact z
          exact pre_other (by omega) z'
    · rw [hq2 r (hr _)]
      exact hq1 r hr
end
end
end PL
namespace WF
open PySem PySem.Spec PyProof.Rows L2 DL
end WF
namespace WF
open PySem PySem.Spec PyProof.Rows L2 DL
end WF
namespace WF
open PySem PySem.Spec PyProof.Rows L2 DL
end WF
namespace WF
open PySem PySem.Spec PyProof.Rows L2 DL
end WF
namespace WF
open PySem PySem.Spec PyProof.Rows L2 DL
end WF
namespace WF
open PySem PySem.Spec PyProof.Rows L2 DL
end WF
namespace WF
open PySem PySem.Spec PyProof.Rows L2 DL
end WF
namespace WF
open PySem PySem.Spec PyProof.Rows L2 DL
end WF
namespace WF
open PySem PySem.Spec PyProof.Rows L2 DL
end WF
namespace WF
open PySem PySem.Spec PyProof.Rows L2 DL
end WF
namespace PL
open PySem PySem.Spec PyProof.Rows L2 DL
def flatA (its : List (List Int × Lim)) : List (List Int × Lim) := its.flatMap fun q => apL q.1 q.2
def kids (p : List Int) (n : Nat) (ls : List Lim) : List (List Int × Lim) := (en n ls).map fun q => (p ++ [(q.1 : Int)], q.2)
theorem flat_kids (p : List Int) : ∀ (n : Nat) (ls : List Lim), flatA (kids p n ls) = apLs p n ls
  | _, [] => rfl
  | n, l :: ls => by
    have ih := flat_kids p (n + 1) ls
    unfold flatA kids at ih ⊢
    simp only [en, List.map_cons, List.flatMap_cons, apLs, ih]
theorem kids_sum (p : List Int) (ls : List Lim) : ((kids p 0 ls).map fun q => szL q.2).sum = szLs ls := by
  unfold kids
  rw [List.map_map]
  exact en_sum 0 ls
theorem kids_len (p : List Int) (ls : List Lim) : (kids p 0 ls).length = ls.length := by
  unfold kids
  rw [List.length_map, en_len]
theorem szL_mem : ∀ (ls : List Lim) (l : Lim), l ∈ ls → szL l ≤ szLs ls
  | [], _, h => by cases h
  | y :: ls, l, h => by
    simp only [szLs]
    rcases List.mem_cons.1 h with e | h
    · rw [e]; omega
    · have := szL_mem ls l h; omega
mutual
theorem canLay_encL : ∀ l : Lim, (encL l).canLay0 = true
  | .one w n => by
    have : PyData.strOk w.str = true := by cases w <;> decide +kernel
    simp only [encL, PyData.canLay0, PyData.canLayAll0, this, Bool.and_true]
  | .join b ls => by
    have h0 : PyData.strOk (jw b) = true := by cases b <;> decide +kernel
    unfold encL
    have := canLay_encLs ls
    simp only [PyData.canLay0, PyData.canLayAll0, this, h0, Bool.and_true]
theorem canLay_encLs : ∀ ls : List Lim, PyData.canLayAll0 (encLs ls) = true
  | [] => rfl
  | l :: ls => by simp only [encLs, PyData.canLayAll0, canLay_encL l, canLay_encLs ls]; rfl
end
theorem map_range_get {α β : Type} {f : Nat → β} {g : α → β} {ls : List α} (h : ∀ k x, ls[k]? = some x → f k = g x) : (List.range ls.length).map f = ls.map g := by
  refine List.ext_getElem? fun k => ?_
  rw [List.getElem?_map, List.getElem?_map]
  by_cases c : k < ls.length
  · rw [List.getElem?_eq_getElem c, List.getElem?_range c]
    simp only [Option.map_some]
    rw [h k ls[k] (List.getElem?_eq_getElem c)]
  · rw [List.getElem?_eq_none (show (List.range ls.length).length ≤ k by simp; omega), List.getElem?_eq_none (show ls.length ≤ k by omega)]
    rfl
def tri (a : Int × Int × Int) : CW → Int
  | .hours => a.1
  | .cycles => a.2.1
  | .days => a.2.2
def negS (a : Int × Int × Int) : Int × Int × Int := (0 - a.1 - 1, 0 - a.2.1 - 1, 0 - a.2.2 - 1)
noncomputable section
def dueD (u : Uf) (j : Job) (b : Int) : Option Int := (fp u j.lim b).map (· - 1)
def lateD (u : Uf) (j : Job) (b : Int) : Option Int := (fp u (shiftL (tri j.sl) j.lim) b).map (· - 1)
def reachD (u : Uf) (j : Job) (b : Int) : Option Int := fp u (shiftL (tri (negS j.sl)) j.lim) b
def earlyD (u : Uf) (j : Job) (b : Int) : Option Int := match reachD u j b, lateD u j b with
  | none, none => none
  | some r, none => some (if r > b + 1 then r else b + 1)
  | none, some l => some l
  | some r, some l => some (if l < (if r > b + 1 then r else b + 1) then l else (if r > b + 1 then r else b + 1))
end
structure JobOk (s : Site) (j : Job) (hi : Int) (k : Nat) : Prop where
  lim : LimB 1 hi k j.lim
  z : szL j.lim ≤ 400
  k8 : k < 11
  sl : (0 ≤ j.sl.1 ∧ j.sl.1 ≤ 500) ∧ (0 ≤ j.sl.2.1 ∧ j.sl.2.1 ≤ 500) ∧ 0 ≤ j.sl.2.2 ∧ j.sl.2.2 ≤ 500
  pt : ∃ st, (j.pt, st) ∈ s.parts
  hi0 : 0 ≤ hi ∧ hi ≤ 500
end PL
namespace WF
open PySem PySem.Spec PyProof.Rows L2 DL PL
section
variable {s : Site} {S : Sto} {b : Int} {p : Str × Sy} {j : Job}
theorem inner_one_eq {w1 : Wd} {w : CW} {n : Int} : g_inner_pairs [w1, encL (.one w n)] S = .ok (.list []) S := by
  refine wpR_ok (w_def rfl ?_)
  unfold m_inner_pairs
  cases w <;> (unfold encL; (repeat (first | with_reducible refine zq15 ?_ | (with_reducible first | refine zq14 ?_ | refine zq11 ?_ | refine zq10 ?_ | refine zq3 ?_ | refine zq4 ?_ | refine zq5 ?_ | refine zq0 ?_ | refine zq8 ?_ | refine zq6 ?_ | refine zq1 ?_ | refine zq13 ?_ | refine zq12 ?_ | refine zq7 ?_ | refine zq2 ?_ | refine zq9 ?_))); exact ⟨rfl, rfl⟩)
theorem inner_join_eq {q : List Int} {c : Bool} {ls : List Lim} (hp : q.length + 1 ≤ sizeLine) (hl : ls.length ≤ sizeLine) : g_inner_pairs [.tuple (q.map .int), encL (.join c ls)] S = .ok (.list ((kids q 0 ls).map encA)) S := by
  rw [inner_pairs_eq (by simpa using hp) hl]
  unfold kids
  rw [List.map_map]
  congr 2
  refine List.map_congr_left fun x _ => ?_
  simp [encA]
theorem all_pairs_eq {l : Lim} (h : szL l ≤ 500) : g_all_pairs [encL l] S = .ok (.list ((apL [] l).map encA)) S := by
  have hz : 2000 ≤ sizeLine := by decide
  refine wpR_ok (w_def rfl ?_)
  unfold m_all_pairs
  (repeat (first | with_reducible refine zq15 ?_ | (with_reducible first | refine zq14 ?_ | refine zq11 ?_ | refine zq10 ?_ | refine zq3 ?_ | refine zq4 ?_ | refine zq5 ?_ | refine zq0 ?_ | refine zq8 ?_ | refine zq6 ?_ | refine zq1 ?_ | refine zq13 ?_ | refine zq12 ?_ | refine zq7 ?_ | refine zq2 ?_ | refine zq9 ?_)))
  refine wp_wh (I := fun n ρ S' => S' = S ∧ ∃ (done its : List (List Int × Lim)) (x3 x4 : Option Sl), (its.map fun q => szL q.2).sum < n ∧ n ≤ 1000 ∧ done ++ flatA its.reverse = apL [] l ∧ (∀ q ∈ its, q.1.length + szL q.2 ≤ 501) ∧
    ρ = [some (.val (encL l)), some (.own (done.map encA)), some (.own (its.map encA)), x3, x4]) ?_ ?_ _ _ _ ⟨rfl, [], [([], l)], none, none, by simp; omega, Nat.le_refl _, by simp [flatA], by simp; omega, rfl⟩
  · rintro n ρ S' ⟨rfl, done, its, x3, x4, hs, hn, hd, hq, rfl⟩
    (repeat (with_reducible first | refine zq14 ?_ | refine zq11 ?_ | refine zq10 ?_ | refine zq3 ?_ | refine zq4 ?_ | refine zq5 ?_ | refine zq0 ?_ | refine zq8 ?_ | refine zq6 ?_ | refine zq1 ?_ | refine zq13 ?_ | refine zq12 ?_ | refine zq7 ?_ | refine zq2 ?_ | refine zq9 ?_))
    rcases List.eq_nil_or_concat its with rfl | ⟨init, q, rfl⟩
    · (repeat (first | with_reducible refine zq15 ?_ | (with_reducible first | refine zq14 ?_ | refine zq11 ?_ | refine zq10 ?_ | refine zq3 ?_ | refine zq4 ?_ | refine zq5 ?_ | refine zq0 ?_ | refine zq8 ?_ | refine zq6 ?_ | refine zq1 ?_ | refine zq13 ?_ | refine zq12 ?_ | refine zq7 ?_ | refine zq2 ?_ | refine zq9 ?_)))
      simp only [List.reverse_nil, flatA, List.flatMap_nil, List.append_nil] at hd
      rw [← hd]
      exact ⟨rfl, rfl⟩
    simp only [List.concat_eq_append] at *
    refine w_bt (by simp) ?_
    refine zq15 ?_
    refine w_pop (ws := init.map encA) (w := encA q) (by simp) ?_
    obtain ⟨path, x⟩ := q
    have hq0 := hq (path, x) (by simp)
    have hlen := congrArg List.length hd
    rw [List.length_append, apL_len] at hlen
    simp only [List.map_append, List.sum_append, List.map_cons, List.map_nil, List.sum_cons, List.sum_nil, Nat.add_zero] at hs
    have hil : init.length ≤ (init.map fun q => szL q.2).sum := by
      clear hs hn hd hq hq0 hlen
      induction init with
      | nil => exact Nat.le_refl _
      | cons q its ih =>
        have := szL_pos q.2
        simp only [List.length_cons, List.map_cons, List.sum_cons]
        omega
    simp only [List.reverse_append, List.reverse_cons, List.reverse_nil, List.nil_append, List.cons_append] at hd
    have hq' : ∀ q ∈ init, q.1.length + szL q.2 ≤ 501 := fun q h => hq q (by simp [h])
    (repeat (first | with_reducible refine zq15 ?_ | (with_reducible first | refine zq14 ?_ | refine zq11 ?_ | refine zq10 ?_ | refine zq3 ?_ | refine zq4 ?_ | refine zq5 ?_ | refine zq0 ?_ | refine zq8 ?_ | refine zq6 ?_ | refine zq1 ?_ | refine zq13 ?_ | refine zq12 ?_ | refine zq7 ?_ | refine zq2 ?_ | refine zq9 ?_)))
    refine ⟨by simp only [List.length_map]; omega, ?_⟩
    (repeat (first | with_reducible refine zq15 ?_ | (with_reducible first | refine zq14 ?_ | refine zq11 ?_ | refine zq10 ?_ | refine zq3 ?_ | refine zq4 ?_ | refine zq5 ?_ | refine zq0 ?_ | refine zq8 ?_ | refine zq6 ?_ | refine zq1 ?_ | refine zq13 ?_ | refine zq12 ?_ | refine zq7 ?_ | refine zq2 ?_ | refine zq9 ?_)))
    cases x with
    | one w n1 =>
      simp only [szL] at hs
      refine w_eq inner_one_eq ?_
      (repeat (first | with_reducible refine zq15 ?_ | (with_reducible first | refine zq14 ?_ | refine zq11 ?_ | refine zq10 ?_ | refine zq3 ?_ | refine zq4 ?_ | refine zq5 ?_ | refine zq0 ?_ | refine zq8 ?_ | refine zq6 ?_ | refine zq1 ?_ | refine zq13 ?_ | refine zq12 ?_ | refine zq7 ?_ | refine zq2 ?_ | refine zq9 ?_)))
      refine ⟨by simp; omega, rfl, done ++ [(path, .one w n1)], init, some (.val (.tuple (path.map .int))), some (.val (encL (.one w n1))), by omega, by omega, ?_, hq', ?_⟩
      · rw [← hd]
        simp [flatA, apL]
      · simp only [List.map_append, List.reverse_nil, List.append_nil]
        rfl
    | join c ls =>
      simp only [szL] at hs hq0
      have hll := len_szLs ls
      refine w_eq (inner_join_eq (by show path.length + 1 ≤ sizeLine; omega) (by omega)) ?_
      (repeat (first | with_reducible refine zq15 ?_ | (with_reducible first | refine zq14 ?_ | refine zq11 ?_ | refine zq10 ?_ | refine zq3 ?_ | refine zq4 ?_ | refine zq5 ?_ | refine zq0 ?_ | refine zq8 ?_ | refine zq6 ?_ | refine zq1 ?_ | refine zq13 ?_ | refine zq12 ?_ | refine zq7 ?_ | refine zq2 ?_ | refine zq9 ?_)))
      refine ⟨by simp only [List.length_map, List.length_reverse, kids_len]; omega, rfl, done ++ [(path, .join c ls)], init ++ (kids path 0 ls).reverse, some (.val (.tuple (path.map .int))), some (.val (encL (.join c ls))), ?_, by omega, ?_, ?_, ?_⟩
      · rw [List.map_append, List.sum_append, List.map_reverse, List.sum_reverse, kids_sum]
        omega
      · rw [← hd]
        rw [List.reverse_append, List.reverse_reverse]
        have := flat_kids path 0 ls
        unfold flatA at this ⊢
        rw [List.flatMap_append, this]
        simp [apL]
      · intro q hq
        rcases List.mem_append.1 hq with hq | hq
        · exact hq' q hq
        · unfold kids at hq
          obtain ⟨e, he, rfl⟩ := List.mem_map.1 (List.mem_reverse.1 hq)
          have hm := en_mem 0 ls e he
          have hle : szL e.2 ≤ szLs ls := szL_mem ls e.2 hm
          simp only [List.length_append, List.length_singleton]
          omega
      · simp only [List.map_append, List.map_reverse]
        rfl
  · rintro ρ S' ⟨rfl, done, its, x3, x4, hs, hn, hd, hq, rfl⟩
    omega
theorem number_for_eq {w : CW} {a : Int × Int × Int} : g_number_for [.str w.str, encSl a] S = .ok (.int (tri a w)) S := by
  refine wpR_ok (w_def rfl ?_)
  unfold m_number_for
  cases w <;> ((repeat (first | with_reducible refine zq15 ?_ | (with_reducible first | refine zq14 ?_ | refine zq11 ?_ | refine zq10 ?_ | refine zq3 ?_ | refine zq4 ?_ | refine zq5 ?_ | refine zq0 ?_ | refine zq8 ?_ | refine zq6 ?_ | refine zq1 ?_ | refine zq13 ?_ | refine zq12 ?_ | refine zq7 ?_ | refine zq2 ?_ | refine zq9 ?_))); exact ⟨rfl, rfl⟩)
theorem getT0 {M : List (List Int × Wd)} {k : List Int} {w : Wd} (h : lookT k M = some w) : recGetT [.tdc M] (oW 0) (.tuple (k.map .int)) = some w := by
  unfold recGetT
  simp only [ints_int]
  exact h
theorem putT0 {M : List (List Int × Wd)} {k : List Int} {w : Wd} (h : M.length < sizeLine) : recPutT [.tdc M] (oW 0) (.tuple (k.map .int)) w = some [.tdc (putT k w M)] := by
  unfold recPutT
  simp only [ints_int]
  show (if M.length < sizeLine then _ else none) = _
  rw [if_pos h]
  rfl
theorem widened_eq {l : Lim} {a : Int × Int × Int} (h : szL l ≤ 400) : g_widened [encL l, encSl a] S = .ok (encL (shiftL (tri a) l)) S := by
  have hz : 2000 ≤ sizeLine := by decide
  suffices hw : ∃ S', runDef 8 2 m_widened [encL l, encSl a] [] = .ok (encL (shiftL (tri a) l)) S' by
    obtain ⟨S', e⟩ := hw
    refine pureG_eq e ?_ (bnd_lay _ (canLay_encL _))
    simp only [bndAll, bnd_lay _ (canLay_encL l)]
    rfl
  suffices hw : wpE (runDef 8 2 m_widened [encL l, encSl a] []) fun w _ => w = encL (shiftL (tri a) l) by
    obtain ⟨w, S', e, rfl⟩ := wpE_ex.1 hw
    exact ⟨S', e⟩
  refine w_def rfl ?_
  unfold m_widened
  refine zq15 ?_
  (repeat (with_reducible first | refine zq14 ?_ | refine zq11 ?_ | refine zq10 ?_ | refine zq3 ?_ | refine zq4 ?_ | refine zq5 ?_ | refine zq0 ?_ | refine zq8 ?_ | refine zq6 ?_ | refine zq1 ?_ | refine zq13 ?_ | refine zq12 ?_ | refine zq7 ?_ | refine zq2 ?_ | refine zq9 ?_))
  refine w_seqJ (fun ρ S => ∃ M x3 x4 x5 x6, S = [.tdc M] ∧ lookT [] M = some (encL (shiftL (tri a) l)) ∧ ρ = [some (.val (encL l)), some (.val (encSl a)), some (.val (oW 0)), x3, x4, x5, x6, none]) ?_ ?_
  · (repeat (with_reducible first | refine zq14 ?_ | refine zq11 ?_ | refine zq10 ?_ | refine zq3 ?_ | refine zq4 ?_ | refine zq5 ?_ | refine zq0 ?_ | refine zq8 ?_ | refine zq6 ?_ | refine zq1 ?_ | refine zq13 ?_ | refine zq12 ?_ | refine zq7 ?_ | refine zq2 ?_ | refine zq9 ?_))
    refine w_eq (all_pairs_eq (by omega)) ?_
    (repeat (with_reducible first | refine zq14 ?_ | refine zq11 ?_ | refine zq10 ?_ | refine zq3 ?_ | refine zq4 ?_ | refine zq5 ?_ | refine zq0 ?_ | refine zq8 ?_ | refine zq6 ?_ | refine zq1 ?_ | refine zq13 ?_ | refine zq12 ?_ | refine zq7 ?_ | refine zq2 ?_ | refine zq9 ?_))
    rw [← List.map_reverse]
    refine wpF_for _ _ _ (tree_one (val := fun x => encL (shiftL (tri a) x)) (I := fun M ρ S => S = [.tdc M] ∧ ∃ x3 x4 x5 x6, ρ = [some (.val (encL l)), some (.val (encSl a)), some (.val (oW 0)), x3, x4, x5, x6, none]) ?_ ?_ l [] [] _ _ _ (by simp; omega) (by simp; omega) ⟨rfl, none, none, none, none, rfl⟩ ?_)
    · rintro q w n M ρ S hM ⟨rfl, x3, x4, x5, x6, rfl⟩
      refine ⟨_, rfl, ?_⟩
      (repeat (first | with_reducible refine zq15 ?_ | (with_reducible first | refine zq14 ?_ | refine zq11 ?_ | refine zq10 ?_ | refine zq3 ?_ | refine zq4 ?_ | refine zq5 ?_ | refine zq0 ?_ | refine zq8 ?_ | refine zq6 ?_ | refine zq1 ?_ | refine zq13 ?_ | refine zq12 ?_ | refine zq7 ?_ | refine zq2 ?_ | refine zq9 ?_)))
      refine w_bt (by cases w <;> rfl) ?_
      (repeat (first | with_reducible refine zq15 ?_ | (with_reducible first | refine zq14 ?_ | refine zq11 ?_ | refine zq10 ?_ | refine zq3 ?_ | refine zq4 ?_ | refine zq5 ?_ | refine zq0 ?_ | refine zq8 ?_ | refine zq6 ?_ | refine zq1 ?_ | refine zq13 ?_ | refine zq12 ?_ | refine zq7 ?_ | refine zq2 ?_ | refine zq9 ?_)))
      refine w_eq number_for_eq ?_
      (repeat (first | with_reducible refine zq15 ?_ | (with_reducible first | refine zq14 ?_ | refine zq11 ?_ | refine zq10 ?_ | refine zq3 ?_ | refine zq4 ?_ | refine zq5 ?_ | refine zq0 ?_ | refine zq8 ?_ | refine zq6 ?_ | refine zq1 ?_ | refine zq13 ?_ | refine zq12 ?_ | refine zq7 ?_ | refine zq2 ?_ | refine zq9 ?_)))
      refine wpO_rfl (putT0 (by omega)) ?_
      refine ⟨?_, some (.val (.tuple (q.map .int))), some (.val (encL (.one w n))), some (.val (.str w.str)), some (.val (.int n)), rfl⟩
      simp only [shiftL, encL]
    · rintro q c ls M ρ S hM hl hq ⟨rfl, x3, x4, x5, x6, rfl⟩ hk
      refine ⟨[some (.val (encL l)), some (.val (encSl a)), some (.val (oW 0)), some (.val (.tuple (q.map .int))), some (.val (.tuple [.str (jw c), .tuple (ls.map encL)])), x5, x6, none], by rw [← encL_join]; rfl, ?_⟩
      (repeat (first | with_reducible refine zq15 ?_ | (with_reducible first | refine zq14 ?_ | refine zq11 ?_ | refine zq10 ?_ | refine zq3 ?_ | refine zq4 ?_ | refine zq5 ?_ | refine zq0 ?_ | refine zq8 ?_ | refine zq6 ?_ | refine zq1 ?_ | refine zq13 ?_ | refine zq12 ?_ | refine zq7 ?_ | refine zq2 ?_ | refine zq9 ?_)))
      refine w_bf (by cases c <;> rfl) ?_
      (repeat (first | with_reducible refine zq15 ?_ | (with_reducible first | refine zq14 ?_ | refine zq11 ?_ | refine zq10 ?_ | refine zq3 ?_ | refine zq4 ?_ | refine zq5 ?_ | refine zq0 ?_ | refine zq8 ?_ | refine zq6 ?_ | refine zq1 ?_ | refine zq13 ?_ | refine zq12 ?_ | refine zq7 ?_ | refine zq2 ?_ | refine zq9 ?_)))
      simp only [List.length_map]
      refine ⟨by omega, ?_⟩
      refine lc_map (enc := fun i : Nat => .int (0 + (i : Int))) (out := fun i : Nat => encL (shiftL (tri a) (ls.getD i (.one .days 0)))) (List.range ((ls.length : Int)).toNat) (by simp; omega) (fun i hi => ⟨_, rfl, wpX_ok ?_⟩) ?_
      · (repeat (with_reducible first | refine zq14 ?_ | refine zq11 ?_ | refine zq10 ?_ | refine zq3 ?_ | refine zq4 ?_ | refine zq5 ?_ | refine zq0 ?_ | refine zq8 ?_ | refine zq6 ?_ | refine zq1 ?_ | refine zq13 ?_ | refine zq12 ?_ | refine zq7 ?_ | refine zq2 ?_ | refine zq9 ?_))
        have hi : i < ls.length := by simpa using hi
        refine wpO_rfl (w := PyData.tuple ((q ++ [(i : Int)]).map .int)) (by simp only [gAdd, List.length_map, List.length_singleton]; rw [if_pos (by omega)]; simp) ?_
        (repeat (with_reducible first | refine zq14 ?_ | refine zq11 ?_ | refine zq10 ?_ | refine zq3 ?_ | refine zq4 ?_ | refine zq5 ?_ | refine zq0 ?_ | refine zq8 ?_ | refine zq6 ?_ | refine zq1 ?_ | refine zq13 ?_ | refine zq12 ?_ | refine zq7 ?_ | refine zq2 ?_ | refine zq9 ?_))
        have := hk i ls[i] (List.getElem?_eq_getElem hi)
        refine wpO_rfl (getT0 this) ?_
        rw [List.getD_eq_getElem?_getD, List.getElem?_eq_getElem hi]
        exact ⟨rfl, rfl⟩
      rw [Int.toNat_natCast, map_range_get (g := fun x => encL (shiftL (tri a) x)) fun k x hx => by rw [List.getD_eq_getElem?_getD, hx]; rfl]
      (repeat (first | with_reducible refine zq15 ?_ | (with_reducible first | refine zq14 ?_ | refine zq11 ?_ | refine zq10 ?_ | refine zq3 ?_ | refine zq4 ?_ | refine zq5 ?_ | refine zq0 ?_ | refine zq8 ?_ | refine zq6 ?_ | refine zq1 ?_ | refine zq13 ?_ | refine zq12 ?_ | refine zq7 ?_ | refine zq2 ?_ | refine zq9 ?_)))
      refine wpO_rfl (putT0 (by omega)) ?_
      refine ⟨?_, _, _, _, _, rfl⟩
      rw [shiftL_join, encL_join, List.map_map]
      rfl
    · rintro M' ρ' S' ⟨rfl, x3, x4, x5, x6, rfl⟩ hk _ _
      exact ⟨M', x3, x4, x5, x6, rfl, hk, rfl⟩
  · rintro ρ S ⟨M, x3, x4, x5, x6, rfl, hk, rfl⟩
    (repeat (with_reducible first | refine zq14 ?_ | refine zq11 ?_ | refine zq10 ?_ | refine zq3 ?_ | refine zq4 ?_ | refine zq5 ?_ | refine zq0 ?_ | refine zq8 ?_ | refine zq6 ?_ | refine zq1 ?_ | refine zq13 ?_ | refine zq12 ?_ | refine zq7 ?_ | refine zq2 ?_ | refine zq9 ?_))
    exact ⟨_, getT0 (k := []) hk, rfl⟩
end
end WF
namespace PL
open PySem PySem.Spec PyProof.Rows L2 DL
abbrev Cn := Int × Int × Int
abbrev Cp := Option (Int × Int)
def encCp : Cp → Wd
  | none => .none
  | some a => .tuple [.int a.1, .int a.2]
def CpOk : Cp → Prop
  | none => True
  | some a => 0 ≤ a.1 ∧ 0 ≤ a.2
def Room (cp : Cp) (h c d : Int) : Prop := match cp with
  | none => 0 < h + c → 1 ≤ d
  | some a => h ≤ d * a.1 ∧ c ≤ d * a.2
def Can (cp : Cp) (c : Cn) : Prop := 0 ≤ c.1 ∧ 0 ≤ c.2.1 ∧ 0 ≤ c.2.2 ∧ Room cp c.1 c.2.1 c.2.2
def upD (h a : Int) : Int := if h > 0 then -(-h / a) else 0
def leastD (h c : Int) : Cp → Option Int
  | none => some (if h + c > 0 then 1 else 0)
  | some a => if (h > 0 ∧ a.1 = 0) ∨ (c > 0 ∧ a.2 = 0) then none else some (max 0 (max (upD h a.1) (upD c a.2)))
theorem Room.mono {cp : Cp} {h c d h' c' d' : Int} (hc : CpOk cp) (r : Room cp h c d) (h1 : h' ≤ h) (h2 : c' ≤ c) (h3 : d ≤ d') : Room cp h' c' d' := by
  cases cp with
  | none =>
    unfold Room at r ⊢
    intro z
    have := r (by omega)
    omega
  | some a =>
    obtain ⟨a1, a2⟩ := hc
    obtain ⟨r1, r2⟩ := r
    exact ⟨Int.le_trans h1 (Int.le_trans r1 (Int.mul_le_mul_of_nonneg_right h3 a1)), Int.le_trans h2 (Int.le_trans r2 (Int.mul_le_mul_of_nonneg_right h3 a2))⟩
theorem Can.none_of {cp : Cp} (hc : CpOk cp) {c : Cn} (h : Can cp c) : Can none c := by
  obtain ⟨h0, h1, h2, h3⟩ := h
  refine ⟨h0, h1, h2, ?_⟩
  cases cp with
  | none => exact h3
  | some a =>
    intro z
    rcases Int.lt_or_le 0 c.2.2 with p | p
    · exact p
    · have e : c.2.2 = 0 := by omega
      obtain ⟨r1, r2⟩ := h3
      rw [e, Int.zero_mul] at r1 r2
      omega
theorem Can.less {a b : Int × Int} (h1 : a.1 ≤ b.1) (h2 : a.2 ≤ b.2) {c : Cn} (h : Can (some a) c) : Can (some b) c := by
  obtain ⟨c0, c1, c2, r1, r2⟩ := h
  exact ⟨c0, c1, c2, Int.le_trans r1 (Int.mul_le_mul_of_nonneg_left h1 c2), Int.le_trans r2 (Int.mul_le_mul_of_nonneg_left h2 c2)⟩
def plsD (o : Lim) : List (CW × Int) := (apL [] o).filterMap fun q => match q.2 with
  | .one w n => some (w, n)
  | _ => none
def numsD (o : Lim) (w : CW) : List Int := sortU (0 :: ((plsD o).filter fun q => decide (q.1.str = w.str)).map fun q => q.2 + 1)
theorem mem_pls {o : Lim} {w : CW} {n : Int} : (w, n) ∈ plsD o ↔ ∃ q ∈ apL [] o, q.2 = .one w n := by
  unfold plsD
  rw [List.mem_filterMap]
  constructor
  · rintro ⟨q, hq, e⟩
    split at e
    · rename_i w' n' h
      cases e
      exact ⟨q, hq, h⟩
    · cases e
  · rintro ⟨q, hq, e⟩
    exact ⟨q, hq, by rw [e]⟩
def critD (o : Lim) (cp : Cp) : List Cn := (numsD o .hours).flatMap fun h => (numsD o .cycles).flatMap fun c => match leastD h c cp with
  | none => []
  | some f => (numsD o .days).map fun d => (h, c, if f > d then f else d)
def partD (l o : Lim) (cp : Cp) : Option Cn := (critD o cp).find? fun c => passes o (tri c) && !passes l (tri c)
def Never (l o : Lim) (cp : Cp) : Prop := ∀ c, Can cp c → passes o (tri c) = true → passes l (tri c) = true
structure Pos (o : Lim) : Prop where
  p : ∀ w n, (w, n) ∈ plsD o → 0 ≤ n
theorem Never.refl (l : Lim) (cp : Cp) : Never l l cp := fun _ _ h => h
theorem Never.trans {a b c : Lim} {cp : Cp} (h1 : Never a b cp) (h2 : Never b c cp) : Never a c cp := fun x hx hp => h1 x hx (h2 x hx hp)
theorem Never.of {l o : Lim} {cp : Cp} (h : ∀ c, passes o c = true → passes l c = true) : Never l o cp := fun x _ hp => h _ hp
mutual
theorem apL_pos {lo hi : Int} (h0 : 0 ≤ lo) : ∀ (p : List Int) (k : Nat) (l : Lim), LimB lo hi k l → ∀ q ∈ apL p l, ∀ w n, q.2 = .one w n → lo ≤ n ∧ n ≤ hi
  | p, k, .one w n, h, q, hq, w', n', e => by
    simp only [apL, List.mem_singleton] at hq
    subst hq
    cases e
    exact h.one_
  | p, k, .join b ls, h, q, hq, w', n', e => by
    simp only [apL, List.mem_cons] at hq
    rcases hq with rfl | hq
    · cases e
    · obtain ⟨k', rfl, _, _, hall⟩ := h.join_
      exact apLs_pos h0 p k' 0 ls hall q hq w' n' e
theorem apLs_pos {lo hi : Int} (h0 : 0 ≤ lo) : ∀ (p : List Int) (k j : Nat) (ls : List Lim), (∀ l ∈ ls, LimB lo hi k l) → ∀ q ∈ apLs p j ls, ∀ w n, q.2 = .one w n → lo ≤ n ∧ n ≤ hi
  | p, k, j, [], _, q, hq, _, _, _ => by simp only [apLs] at hq; cases hq
  | p, k, j, l :: ls, h, q, hq, w', n', e => by
    simp only [apLs, List.mem_append] at hq
    rcases hq with hq | hq
    · exact apL_pos h0 _ k l (h l (List.mem_cons_self ..)) q hq w' n' e
    · exact apLs_pos h0 p k (j + 1) ls (fun x hx => h x (List.mem_cons_of_mem _ hx)) q hq w' n' e
end
theorem LimB.pls {lo hi : Int} {k : Nat} {l : Lim} (h : LimB lo hi k l) (h0 : 0 ≤ lo) {w : CW} {n : Int} (hm : (w, n) ∈ plsD l) : lo ≤ n ∧ n ≤ hi := by
  obtain ⟨q, hq, e⟩ := mem_pls.1 hm
  exact apL_pos h0 [] k l h q hq w n e
theorem LimB.pos {lo hi : Int} {k : Nat} {l : Lim} (h : LimB lo hi k l) (h0 : 0 ≤ lo) : Pos l := ⟨fun w n hm => by have := h.pls h0 hm; omega⟩
theorem pls_len (o : Lim) : (plsD o).length ≤ szL o := by
  unfold plsD
  refine Nat.le_trans (List.length_filterMap_le _ _) ?_
  rw [apL_len]
  exact Nat.le_refl _
theorem nums_len (o : Lim) (w : CW) : (numsD o w).length ≤ szL o + 1 := by
  unfold numsD
  refine Nat.le_trans sortU_len ?_
  rw [List.length_cons, List.length_map]
  have := List.length_filter_le (fun q : CW × Int => decide (q.1.str = w.str)) (plsD o)
  have := pls_len o
  omega
end PL
namespace WF
open PySem PySem.Spec PyProof.Rows L2 DL
end WF
namespace WF
open PySem PySem.Spec PyProof.Rows L2 DL
end WF
namespace WF
open PySem PySem.Spec PyProof.Rows L2 DL
end WF
namespace WF
open PySem PySem.Spec PyProof.Rows L2 DL
def m_plain_limits : Ms := (sRet (mLc [1, 2] (iSeq (mCall WF.g_parts_of (aCons (mV 0) aNil))) (gtT (gtCons (gtN 1) (gtCons (gtN 2) gtNil))) (mTru (mBin gIn (mIx (mV 2) (mC (.int 0))) (mC (.tuple [(.str "hours"), (.str "cycles"), (.str "days")])))) (mV 2)))
def g_plain_limits : Gd := runDef 3 1 m_plain_limits
end WF
namespace WF
open PySem PySem.Spec PyProof.Rows L2 DL
def m_passing_numbers : Ms := (sRet (mCB gSortSet (aCons (mLst (aCons (mC (.int 0)) (aStar (mLc [2] (iSeq (mCall WF.g_plain_limits (aCons (mV 0) aNil))) (gtN 2) (mTru (mBin gEq (mIx (mV 2) (mC (.int 0))) (mV 1))) (mBin gAdd (mIx (mV 2) (mC (.int 1))) (mC (.int 1)))) aNil))) aNil)))
def g_passing_numbers : Gd := runDef 3 2 m_passing_numbers
end WF
namespace WF
open PySem PySem.Spec PyProof.Rows L2 DL
def m_least_days : Ms := (sSeq (sIf (mTru (mBin gIsN (mV 2) (mC .none))) (sRet (mCB gInt (aCons (mBin gGt (mBin gAdd (mV 0) (mV 1)) (mC (.int 0))) aNil))) sNil) (sSeq (sOwn 3 (aCons (mC (.int 0)) aNil)) (sSeq (sFor (iSeq (mTup (aCons (mTup (aCons (mV 0) (aCons (mIx (mV 2) (mC (.int 0))) aNil))) (aCons (mTup (aCons (mV 1) (aCons (mIx (mV 2) (mC (.int 1))) aNil))) aNil)))) (gtT (gtCons (gtN 4) (gtCons (gtN 5) gtNil))) (sSeq (sIf (mAndT (mTru (mBin gGt (mV 4) (mC (.int 0)))) (mTru (mBin gEq (mV 5) (mC (.int 0))))) (sRet (mC .none)) sNil) (sApp 3 (mIf (mTru (mBin gGt (mV 4) (mC (.int 0)))) (mUn gNeg (mBin gDiv (mUn gNeg (mV 4)) (mV 5))) (mC (.int 0)))))) (sFrz 3 (sRet (mCB gMax (aCons (mV 3) aNil)))))))
def g_least_days : Gd := runDef 6 3 m_least_days
end WF
namespace WF
open PySem PySem.Spec PyProof.Rows L2 DL
def m_critical_counts : Ms := (sSeq (sOwn 2 aNil) (sSeq (sFor (iSeq (mCall WF.g_passing_numbers (aCons (mV 0) (aCons (mC (.str "hours")) aNil)))) (gtN 3) (sFor (iSeq (mCall WF.g_passing_numbers (aCons (mV 0) (aCons (mC (.str "cycles")) aNil)))) (gtN 4) (sSeq (sSet 5 (mCall WF.g_least_days (aCons (mV 3) (aCons (mV 4) (aCons (mV 1) aNil))))) (sFor (iSeq (mIf (mTru (mBin gNotN (mV 5) (mC .none))) (mCall WF.g_passing_numbers (aCons (mV 0) (aCons (mC (.str "days")) aNil))) (mLst aNil))) (gtN 6) (sApp 2 (mTup (aCons (mV 3) (aCons (mV 4) (aCons (mCB gMax (aCons (mV 6) (aCons (mV 5) aNil))) aNil))))))))) (sFrz 2 (sRet (mV 2)))))
def g_critical_counts : Gd := runDef 7 2 m_critical_counts
end WF
namespace WF
open PySem PySem.Spec PyProof.Rows L2 DL
def m_parting : Ms := (sSeq (sFor (iSeq (mCall WF.g_critical_counts (aCons (mV 1) (aCons (mV 2) aNil)))) (gtN 3) (sIf (mAndT (mTru (mCall WF.g_is_passed (aCons (mV 1) (aCons (mV 3) aNil)))) (mNotT (mTru (mCall WF.g_is_passed (aCons (mV 0) (aCons (mV 3) aNil)))))) (sRet (mV 3)) sNil)) (sRet (mC .none)))
def g_parting : Gd := runDef 4 3 m_parting
end WF
namespace WF
open PySem PySem.Spec PyProof.Rows L2 DL
end WF
namespace WF
open PySem PySem.Spec PyProof.Rows L2 DL
end WF
namespace WF
open PySem PySem.Spec PyProof.Rows L2 DL
end WF
namespace WF
open PySem PySem.Spec PyProof.Rows L2 DL PL
section
variable {S : Sto}
theorem bools_bool : ∀ l : List Bool, boolsD (l.map PyData.bool) = some l
  | [] => rfl
  | b :: l => by simp only [List.map_cons, boolsD, bools_bool l]; rfl
theorem gAny_b {α : Type} (f : α → Bool) (xs : List α) : gAny [.list (xs.map fun x => PyData.bool (f x))] = some (.bool (xs.any f)) := by
  have e : (xs.map fun x => PyData.bool (f x)) = (xs.map f).map PyData.bool := by rw [List.map_map]; rfl
  rw [e]
  simp only [gAny, bools_bool, Option.map_some, List.any_map]
  rfl
theorem gAll_b {α : Type} (f : α → Bool) (xs : List α) : gAll [.list (xs.map fun x => PyData.bool (f x))] = some (.bool (xs.all f)) := by
  have e : (xs.map fun x => PyData.bool (f x)) = (xs.map f).map PyData.bool := by rw [List.map_map]; rfl
  rw [e]
  simp only [gAll, bools_bool, Option.map_some, List.all_map]
  rfl
def low (c z : Cn) : CW → Int := fun w => tri c w + tri z w
theorem passes_join {b : Bool} {ls : List Lim} {c : CW → Int} : passes (.join b ls) c = if b = true then ls.all (passes · c) else ls.any (passes · c) := by
  cases b
  · rw [if_neg Bool.false_ne_true]
    simp only [passes, passAny_iff]
  · rw [if_pos rfl]
    simp only [passes, passAll_iff]
theorem encSl_lay (a : Cn) : (encSl a).canLay0 = true := rfl
theorem passes_less_eq {l : Lim} {c z : Cn} (h : szL l ≤ 400) : g_passes_less [encL l, encSl c, encSl z] S = .ok (.bool (passes l (low c z))) S := by
  have hz : 2000 ≤ sizeLine := by decide
  suffices hw : ∃ S', runDef 10 3 m_passes_less [encL l, encSl c, encSl z] [] = .ok (.bool (passes l (low c z))) S' by
    obtain ⟨S', e⟩ := hw
    refine pureG_eq e ?_ (bnd_lay _ rfl)
    simp only [bndAll, bnd_lay _ (canLay_encL l), bnd_lay _ (encSl_lay c), bnd_lay _ (encSl_lay z)]
    rfl
  suffices hw : wpE (runDef 10 3 m_passes_less [encL l, encSl c, encSl z] []) fun w _ => w = .bool (passes l (low c z)) by
    obtain ⟨w, S', e, rfl⟩ := wpE_ex.1 hw
    exact ⟨S', e⟩
  refine w_def rfl ?_
  unfold m_passes_less
  refine zq15 ?_
  (repeat (with_reducible first | refine zq14 ?_ | refine zq11 ?_ | refine zq10 ?_ | refine zq3 ?_ | refine zq4 ?_ | refine zq5 ?_ | refine zq0 ?_ | refine zq8 ?_ | refine zq6 ?_ | refine zq1 ?_ | refine zq13 ?_ | refine zq12 ?_ | refine zq7 ?_ | refine zq2 ?_ | refine zq9 ?_))
  refine w_seqJ (fun ρ S => ∃ M x4 x5 x6 x7 x8, S = [.tdc M] ∧ lookT [] M = some (.bool (passes l (low c z))) ∧ ρ = [some (.val (encL l)), some (.val (encSl c)), some (.val (encSl z)), some (.val (oW 0)), x4, x5, x6, x7, x8, none]) ?_ ?_
  · (repeat (with_reducible first | refine zq14 ?_ | refine zq11 ?_ | refine zq10 ?_ | refine zq3 ?_ | refine zq4 ?_ | refine zq5 ?_ | refine zq0 ?_ | refine zq8 ?_ | refine zq6 ?_ | refine zq1 ?_ | refine zq13 ?_ | refine zq12 ?_ | refine zq7 ?_ | refine zq2 ?_ | refine zq9 ?_))
    refine w_eq (all_pairs_eq (by omega)) ?_
    (repeat (with_reducible first | refine zq14 ?_ | refine zq11 ?_ | refine zq10 ?_ | refine zq3 ?_ | refine zq4 ?_ | refine zq5 ?_ | refine zq0 ?_ | refine zq8 ?_ | refine zq6 ?_ | refine zq1 ?_ | refine zq13 ?_ | refine zq12 ?_ | refine zq7 ?_ | refine zq2 ?_ | refine zq9 ?_))
    rw [← List.map_reverse]
    refine wpF_for _ _ _ (tree_one (val := fun x => .bool (passes x (low c z))) (I := fun M ρ S => S = [.tdc M] ∧ ∃ x4 x5 x6 x7 x8, ρ = [some (.val (encL l)), some (.val (encSl c)), some (.val (encSl z)), some (.val (oW 0)), x4, x5, x6, x7, x8, none]) ?_ ?_ l [] [] _ _ _ (by simp; omega) (by simp; omega) ⟨rfl, none, none, none, none, none, rfl⟩ ?_)
    · rintro q w n M ρ S hM ⟨rfl, x4, x5, x6, x7, x8, rfl⟩
      refine ⟨_, rfl, ?_⟩
      (repeat (first | with_reducible refine zq15 ?_ | (with_reducible first | refine zq14 ?_ | refine zq11 ?_ | refine zq10 ?_ | refine zq3 ?_ | refine zq4 ?_ | refine zq5 ?_ | refine zq0 ?_ | refine zq8 ?_ | refine zq6 ?_ | refine zq1 ?_ | refine zq13 ?_ | refine zq12 ?_ | refine zq7 ?_ | refine zq2 ?_ | refine zq9 ?_)))
      refine w_bt (by cases w <;> rfl) ?_
      (repeat (first | with_reducible refine zq15 ?_ | (with_reducible first | refine zq14 ?_ | refine zq11 ?_ | refine zq10 ?_ | refine zq3 ?_ | refine zq4 ?_ | refine zq5 ?_ | refine zq0 ?_ | refine zq8 ?_ | refine zq6 ?_ | refine zq1 ?_ | refine zq13 ?_ | refine zq12 ?_ | refine zq7 ?_ | refine zq2 ?_ | refine zq9 ?_)))
      refine w_eq number_for_eq ?_
      (repeat (first | with_reducible refine zq15 ?_ | (with_reducible first | refine zq14 ?_ | refine zq11 ?_ | refine zq10 ?_ | refine zq3 ?_ | refine zq4 ?_ | refine zq5 ?_ | refine zq0 ?_ | refine zq8 ?_ | refine zq6 ?_ | refine zq1 ?_ | refine zq13 ?_ | refine zq12 ?_ | refine zq7 ?_ | refine zq2 ?_ | refine zq9 ?_)))
      refine w_eq number_for_eq ?_
      (repeat (first | with_reducible refine zq15 ?_ | (with_reducible first | refine zq14 ?_ | refine zq11 ?_ | refine zq10 ?_ | refine zq3 ?_ | refine zq4 ?_ | refine zq5 ?_ | refine zq0 ?_ | refine zq8 ?_ | refine zq6 ?_ | refine zq1 ?_ | refine zq13 ?_ | refine zq12 ?_ | refine zq7 ?_ | refine zq2 ?_ | refine zq9 ?_)))
      refine wpO_rfl (putT0 (by omega)) ?_
      refine ⟨?_, some (.val (.tuple (q.map .int))), some (.val (encL (.one w n))), some (.val (.str w.str)), some (.val (.int n)), x8, rfl⟩
      have : passes (.one w n) (low c z) = decide (n - tri z w < tri c w) := by
        simp only [passes, low]
        refine decide_eq_decide.2 ⟨fun h => by omega, fun h => by omega⟩
      rw [this]
    · rintro q b ls M ρ S hM hl hq ⟨rfl, x4, x5, x6, x7, x8, rfl⟩ hk
      refine ⟨[some (.val (encL l)), some (.val (encSl c)), some (.val (encSl z)), some (.val (oW 0)), some (.val (.tuple (q.map .int))), some (.val (.tuple [.str (jw b), .tuple (ls.map encL)])), x6, x7, x8, none], by rw [← encL_join]; rfl, ?_⟩
      (repeat (first | with_reducible refine zq15 ?_ | (with_reducible first | refine zq14 ?_ | refine zq11 ?_ | refine zq10 ?_ | refine zq3 ?_ | refine zq4 ?_ | refine zq5 ?_ | refine zq0 ?_ | refine zq8 ?_ | refine zq6 ?_ | refine zq1 ?_ | refine zq13 ?_ | refine zq12 ?_ | refine zq7 ?_ | refine zq2 ?_ | refine zq9 ?_)))
      refine w_bf (by cases b <;> rfl) ?_
      (repeat (first | with_reducible refine zq15 ?_ | (with_reducible first | refine zq14 ?_ | refine zq11 ?_ | refine zq10 ?_ | refine zq3 ?_ | refine zq4 ?_ | refine zq5 ?_ | refine zq0 ?_ | refine zq8 ?_ | refine zq6 ?_ | refine zq1 ?_ | refine zq13 ?_ | refine zq12 ?_ | refine zq7 ?_ | refine zq2 ?_ | refine zq9 ?_)))
      simp only [List.length_map]
      refine ⟨by omega, ?_⟩
      refine lc_map (enc := fun i : Nat => .int (0 + (i : Int))) (out := fun i : Nat => .bool (passes (ls.getD i (.one .days 0)) (low c z))) (List.range ((ls.length : Int)).toNat) (by simp; omega) (fun i hi => ⟨_, rfl, wpX_ok ?_⟩) ?_
      · (repeat (with_reducible first | refine zq14 ?_ | refine zq11 ?_ | refine zq10 ?_ | refine zq3 ?_ | refine zq4 ?_ | refine zq5 ?_ | refine zq0 ?_ | refine zq8 ?_ | refine zq6 ?_ | refine zq1 ?_ | refine zq13 ?_ | refine zq12 ?_ | refine zq7 ?_ | refine zq2 ?_ | refine zq9 ?_))
        have hi : i < ls.length := by simpa using hi
        refine wpO_rfl (w := PyData.tuple ((q ++ [(i : Int)]).map .int)) (by simp only [gAdd, List.length_map, List.length_singleton]; rw [if_pos (by omega)]; simp) ?_
        (repeat (with_reducible first | refine zq14 ?_ | refine zq11 ?_ | refine zq10 ?_ | refine zq3 ?_ | refine zq4 ?_ | refine zq5 ?_ | refine zq0 ?_ | refine zq8 ?_ | refine zq6 ?_ | refine zq1 ?_ | refine zq13 ?_ | refine zq12 ?_ | refine zq7 ?_ | refine zq2 ?_ | refine zq9 ?_))
        have := hk i ls[i] (List.getElem?_eq_getElem hi)
        refine wpO_rfl (getT0 this) ?_
        rw [List.getD_eq_getElem?_getD, List.getElem?_eq_getElem hi]
        exact ⟨rfl, rfl⟩
      rw [Int.toNat_natCast, map_range_get (g := fun x => PyData.bool (passes x (low c z))) fun k x hx => by rw [List.getD_eq_getElem?_getD, hx]; rfl]
      (repeat (first | with_reducible refine zq15 ?_ | (with_reducible first | refine zq14 ?_ | refine zq11 ?_ | refine zq10 ?_ | refine zq3 ?_ | refine zq4 ?_ | refine zq5 ?_ | refine zq0 ?_ | refine zq8 ?_ | refine zq6 ?_ | refine zq1 ?_ | refine zq13 ?_ | refine zq12 ?_ | refine zq7 ?_ | refine zq2 ?_ | refine zq9 ?_)))
      cases b
      · refine w_bt rfl ?_
        (repeat (first | with_reducible refine zq15 ?_ | (with_reducible first | refine zq14 ?_ | refine zq11 ?_ | refine zq10 ?_ | refine zq3 ?_ | refine zq4 ?_ | refine zq5 ?_ | refine zq0 ?_ | refine zq8 ?_ | refine zq6 ?_ | refine zq1 ?_ | refine zq13 ?_ | refine zq12 ?_ | refine zq7 ?_ | refine zq2 ?_ | refine zq9 ?_)))
        refine wpO_rfl (gAny_b _ _) ?_
        (repeat (first | with_reducible refine zq15 ?_ | (with_reducible first | refine zq14 ?_ | refine zq11 ?_ | refine zq10 ?_ | refine zq3 ?_ | refine zq4 ?_ | refine zq5 ?_ | refine zq0 ?_ | refine zq8 ?_ | refine zq6 ?_ | refine zq1 ?_ | refine zq13 ?_ | refine zq12 ?_ | refine zq7 ?_ | refine zq2 ?_ | refine zq9 ?_)))
        refine wpO_rfl (putT0 (by omega)) ?_
        refine ⟨?_, _, _, _, _, _, rfl⟩
        rw [passes_join, if_neg Bool.false_ne_true]
      · refine w_bf rfl ?_
        (repeat (first | with_reducible refine zq15 ?_ | (with_reducible first | refine zq14 ?_ | refine zq11 ?_ | refine zq10 ?_ | refine zq3 ?_ | refine zq4 ?_ | refine zq5 ?_ | refine zq0 ?_ | refine zq8 ?_ | refine zq6 ?_ | refine zq1 ?_ | refine zq13 ?_ | refine zq12 ?_ | refine zq7 ?_ | refine zq2 ?_ | refine zq9 ?_)))
        refine wpO_rfl (gAll_b _ _) ?_
        (repeat (first | with_reducible refine zq15 ?_ | (with_reducible first | refine zq14 ?_ | refine zq11 ?_ | refine zq10 ?_ | refine zq3 ?_ | refine zq4 ?_ | refine zq5 ?_ | refine zq0 ?_ | refine zq8 ?_ | refine zq6 ?_ | refine zq1 ?_ | refine zq13 ?_ | refine zq12 ?_ | refine zq7 ?_ | refine zq2 ?_ | refine zq9 ?_)))
        refine wpO_rfl (putT0 (by omega)) ?_
        refine ⟨?_, _, _, _, _, _, rfl⟩
        rw [passes_join, if_pos rfl]
    · rintro M' ρ' S' ⟨rfl, x4, x5, x6, x7, x8, rfl⟩ hk _ _
      exact ⟨M', x4, x5, x6, x7, x8, rfl, hk, rfl⟩
  · rintro ρ S ⟨M, x4, x5, x6, x7, x8, rfl, hk, rfl⟩
    (repeat (with_reducible first | refine zq14 ?_ | refine zq11 ?_ | refine zq10 ?_ | refine zq3 ?_ | refine zq4 ?_ | refine zq5 ?_ | refine zq0 ?_ | refine zq8 ?_ | refine zq6 ?_ | refine zq1 ?_ | refine zq13 ?_ | refine zq12 ?_ | refine zq7 ?_ | refine zq2 ?_ | refine zq9 ?_))
    exact ⟨_, getT0 (k := []) hk, rfl⟩
theorem is_passed_eq {l : Lim} {c : Cn} (h : szL l ≤ 400) : g_is_passed [encL l, encSl c] S = .ok (.bool (passes l (tri c))) S := by
  have e := passes_less_eq (S := S) (c := c) (z := (0, 0, 0)) h
  have e0 : low c (0, 0, 0) = tri c := by funext w; cases w <;> simp [low, tri]
  rw [e0] at e
  refine wpR_ok (w_def rfl ?_)
  unfold m_is_passed
  (repeat (first | with_reducible refine zq15 ?_ | (with_reducible first | refine zq14 ?_ | refine zq11 ?_ | refine zq10 ?_ | refine zq3 ?_ | refine zq4 ?_ | refine zq5 ?_ | refine zq0 ?_ | refine zq8 ?_ | refine zq6 ?_ | refine zq1 ?_ | refine zq13 ?_ | refine zq12 ?_ | refine zq7 ?_ | refine zq2 ?_ | refine zq9 ?_)))
  refine w_eq e ?_
  exact ⟨rfl, rfl⟩
theorem parts_of_eq {l : Lim} (h : szL l ≤ 400) : g_parts_of [encL l] S = .ok (.tuple ((apL [] l).map encA)) S := by
  refine wpR_ok (w_def rfl ?_)
  unfold m_parts_of
  (repeat (first | with_reducible refine zq15 ?_ | (with_reducible first | refine zq14 ?_ | refine zq11 ?_ | refine zq10 ?_ | refine zq3 ?_ | refine zq4 ?_ | refine zq5 ?_ | refine zq0 ?_ | refine zq8 ?_ | refine zq6 ?_ | refine zq1 ?_ | refine zq13 ?_ | refine zq12 ?_ | refine zq7 ?_ | refine zq2 ?_ | refine zq9 ?_)))
  refine w_eq (all_pairs_eq (by omega)) ?_
  (repeat (first | with_reducible refine zq15 ?_ | (with_reducible first | refine zq14 ?_ | refine zq11 ?_ | refine zq10 ?_ | refine zq3 ?_ | refine zq4 ?_ | refine zq5 ?_ | refine zq0 ?_ | refine zq8 ?_ | refine zq6 ?_ | refine zq1 ?_ | refine zq13 ?_ | refine zq12 ?_ | refine zq7 ?_ | refine zq2 ?_ | refine zq9 ?_)))
  exact ⟨rfl, rfl⟩
def encPl (q : CW × Int) : Wd := .tuple [.str q.1.str, .int q.2]
def isOne : Lim → Bool
  | .one _ _ => true
  | _ => false
theorem pls_enc (its : List (List Int × Lim)) : ((its.filter fun q => isOne q.2).map fun q => encL q.2) = (its.filterMap fun q => match q.2 with
  | .one w n => some (w, n)
  | _ => none).map encPl := by
  induction its with
  | nil => rfl
  | cons q its ih =>
    obtain ⟨p, x⟩ := q
    cases x with
    | one w n =>
      rw [List.filter_cons_of_pos (p := fun q : List Int × Lim => isOne q.2) (a := (p, .one w n)) rfl, List.filterMap_cons]
      simp only [List.map_cons, ih]
      congr 1
    | join b ls =>
      rw [List.filter_cons_of_neg (p := fun q : List Int × Lim => isOne q.2) (a := (p, .join b ls)) Bool.false_ne_true, List.filterMap_cons]
      exact ih
theorem plain_limits_eq {l : Lim} (h : szL l ≤ 400) : g_plain_limits [encL l] S = .ok (.list ((plsD l).map encPl)) S := by
  have hz : 2000 ≤ sizeLine := by decide
  refine wpR_ok (w_def rfl ?_)
  unfold m_plain_limits
  (repeat (first | with_reducible refine zq15 ?_ | (with_reducible first | refine zq14 ?_ | refine zq11 ?_ | refine zq10 ?_ | refine zq3 ?_ | refine zq4 ?_ | refine zq5 ?_ | refine zq0 ?_ | refine zq8 ?_ | refine zq6 ?_ | refine zq1 ?_ | refine zq13 ?_ | refine zq12 ?_ | refine zq7 ?_ | refine zq2 ?_ | refine zq9 ?_)))
  refine w_eq (parts_of_eq h) ?_
  (repeat (first | with_reducible refine zq15 ?_ | (with_reducible first | refine zq14 ?_ | refine zq11 ?_ | refine zq10 ?_ | refine zq3 ?_ | refine zq4 ?_ | refine zq5 ?_ | refine zq0 ?_ | refine zq8 ?_ | refine zq6 ?_ | refine zq1 ?_ | refine zq13 ?_ | refine zq12 ?_ | refine zq7 ?_ | refine zq2 ?_ | refine zq9 ?_)))
  rw [lc_pure (enc := encA) (p := fun q => isOne q.2) (out := fun q => encL q.2) (apL [] l) [] (by simp only [List.length_nil, apL_len]; omega) fun q hq => ?_]
  · rw [List.nil_append, pls_enc]
    exact ⟨rfl, rfl⟩
  · obtain ⟨p, x⟩ := q
    cases x with
    | one w n => exact ⟨_, rfl, by cases w <;> rfl, fun _ => rfl⟩
    | join b ls =>
      refine ⟨_, rfl, ?_, fun h => by cases h⟩
      rw [encL_join]
      cases b <;> rfl
theorem passing_numbers_eq {l : Lim} {w : CW} (h : szL l ≤ 50) : g_passing_numbers [encL l, .str w.str] S = .ok (.list ((numsD l w).map .int)) S := by
  have hz : 2000 ≤ sizeLine := by decide
  have hl := pls_len l
  refine wpR_ok (w_def rfl ?_)
  unfold m_passing_numbers
  (repeat (with_reducible first | refine zq14 ?_ | refine zq11 ?_ | refine zq10 ?_ | refine zq3 ?_ | refine zq4 ?_ | refine zq5 ?_ | refine zq0 ?_ | refine zq8 ?_ | refine zq6 ?_ | refine zq1 ?_ | refine zq13 ?_ | refine zq12 ?_ | refine zq7 ?_ | refine zq2 ?_ | refine zq9 ?_))
  refine w_eq (plain_limits_eq (by omega)) ?_
  (repeat (with_reducible first | refine zq14 ?_ | refine zq11 ?_ | refine zq10 ?_ | refine zq3 ?_ | refine zq4 ?_ | refine zq5 ?_ | refine zq0 ?_ | refine zq8 ?_ | refine zq6 ?_ | refine zq1 ?_ | refine zq13 ?_ | refine zq12 ?_ | refine zq7 ?_ | refine zq2 ?_ | refine zq9 ?_))
  rw [lc_pure (enc := encPl) (p := fun q => decide (q.1.str = w.str)) (out := fun q => .int (q.2 + 1)) (plsD l) [] (by simp only [List.length_nil]; omega) fun q hq => ?_]
  · (repeat (with_reducible first | refine zq14 ?_ | refine zq11 ?_ | refine zq10 ?_ | refine zq3 ?_ | refine zq4 ?_ | refine zq5 ?_ | refine zq0 ?_ | refine zq8 ?_ | refine zq6 ?_ | refine zq1 ?_ | refine zq13 ?_ | refine zq12 ?_ | refine zq7 ?_ | refine zq2 ?_ | refine zq9 ?_))
    have e : ([PyData.int 0] ++ (List.map (fun q : CW × Int => PyData.int (q.2 + 1)) (List.filter (fun q => decide (q.1.str = w.str)) (plsD l)))) = (0 :: ((plsD l).filter fun q => decide (q.1.str = w.str)).map fun q => q.2 + 1).map PyData.int := by
      simp [List.map_map, Function.comp_def]
    have hfl := List.length_filter_le (fun q : CW × Int => decide (q.1.str = w.str)) (plsD l)
    refine ⟨by simp only [List.length_cons, List.length_append, List.length_map, List.length_nil]; omega, ?_⟩
    (repeat (with_reducible first | refine zq14 ?_ | refine zq11 ?_ | refine zq10 ?_ | refine zq3 ?_ | refine zq4 ?_ | refine zq5 ?_ | refine zq0 ?_ | refine zq8 ?_ | refine zq6 ?_ | refine zq1 ?_ | refine zq13 ?_ | refine zq12 ?_ | refine zq7 ?_ | refine zq2 ?_ | refine zq9 ?_))
    have e2 : (PyData.int 0 :: ([] ++ List.map (fun q : CW × Int => PyData.int (q.2 + 1)) (List.filter (fun q => decide (q.1.str = w.str)) (plsD l)) ++ [])) = (0 :: ((plsD l).filter fun q => decide (q.1.str = w.str)).map fun q => q.2 + 1).map PyData.int := by
      rw [← e]; simp
    rw [e2]
    refine wpO_rfl (w := .list ((numsD l w).map .int)) ?_ ⟨rfl, rfl⟩
    simp only [gSortSet, ints_int, Option.bind_some]
    rw [if_pos (by simp only [List.length_cons, List.length_map]; omega)]
    rfl
  · obtain ⟨w', n⟩ := q
    exact ⟨_, rfl, by cases w <;> cases w' <;> rfl, fun _ => rfl⟩
theorem least_turn {h c v a : Int} {w2 : Wd} {xs : List Int} {N : Ev → Sto → Prop} {Rt : Wd → Sto → Prop} (h0 : 0 ≤ a) (h1 : a < 1000) (hx : xs.length ≤ 10) (q0 : v > 0 ∧ a = 0 → Rt .none S)
    (q1 : ¬ (v > 0 ∧ a = 0) → N [some (.val (.int h)), some (.val (.int c)), some (.val w2), some (.own ((xs ++ [upD v a]).map .int)), some (.val (.int v)), some (.val (.int a))] S) :
    wpS (sSeq (sIf (mAndT (mTru (mBin gGt (mV 4) (mC (PyData.int 0)))) (mTru (mBin gEq (mV 5) (mC (PyData.int 0))))) (sRet (mC PyData.none)) sNil) (sApp 3 (mIf (mTru (mBin gGt (mV 4) (mC (PyData.int 0)))) (mUn gNeg (mBin gDiv (mUn gNeg (mV 4)) (mV 5))) (mC (PyData.int 0))))
      [some (.val (.int h)), some (.val (.int c)), some (.val w2), some (.own (xs.map .int)), some (.val (.int v)), some (.val (.int a))] S) N Rt := by
  have hz : 2000 ≤ sizeLine := by decide
  refine w_seqJ (fun ρ S' => S' = S ∧ ¬ (v > 0 ∧ a = 0) ∧ ρ = [some (.val (.int h)), some (.val (.int c)), some (.val w2), some (.own (xs.map .int)), some (.val (.int v)), some (.val (.int a))]) ?_ ?_
  · (repeat (with_reducible first | refine zq14 ?_ | refine zq11 ?_ | refine zq10 ?_ | refine zq3 ?_ | refine zq4 ?_ | refine zq5 ?_ | refine zq0 ?_ | refine zq8 ?_ | refine zq6 ?_ | refine zq1 ?_ | refine zq13 ?_ | refine zq12 ?_ | refine zq7 ?_ | refine zq2 ?_ | refine zq9 ?_))
    refine w_b (fun hv => ?_) (fun hv => ?_)
    · have hv := of_decide_eq_true hv
      (repeat (with_reducible first | refine zq14 ?_ | refine zq11 ?_ | refine zq10 ?_ | refine zq3 ?_ | refine zq4 ?_ | refine zq5 ?_ | refine zq0 ?_ | refine zq8 ?_ | refine zq6 ?_ | refine zq1 ?_ | refine zq13 ?_ | refine zq12 ?_ | refine zq7 ?_ | refine zq2 ?_ | refine zq9 ?_))
      refine w_b (fun ha => ?_) (fun ha => ?_)
      · (repeat (with_reducible first | refine zq14 ?_ | refine zq11 ?_ | refine zq10 ?_ | refine zq3 ?_ | refine zq4 ?_ | refine zq5 ?_ | refine zq0 ?_ | refine zq8 ?_ | refine zq6 ?_ | refine zq1 ?_ | refine zq13 ?_ | refine zq12 ?_ | refine zq7 ?_ | refine zq2 ?_ | refine zq9 ?_))
        exact q0 ⟨hv, of_decide_eq_true ha⟩
      · (repeat (with_reducible first | refine zq14 ?_ | refine zq11 ?_ | refine zq10 ?_ | refine zq3 ?_ | refine zq4 ?_ | refine zq5 ?_ | refine zq0 ?_ | refine zq8 ?_ | refine zq6 ?_ | refine zq1 ?_ | refine zq13 ?_ | refine zq12 ?_ | refine zq7 ?_ | refine zq2 ?_ | refine zq9 ?_))
        exact ⟨rfl, fun z => of_decide_eq_false ha z.2, rfl⟩
    · have hv := of_decide_eq_false hv
      (repeat (with_reducible first | refine zq14 ?_ | refine zq11 ?_ | refine zq10 ?_ | refine zq3 ?_ | refine zq4 ?_ | refine zq5 ?_ | refine zq0 ?_ | refine zq8 ?_ | refine zq6 ?_ | refine zq1 ?_ | refine zq13 ?_ | refine zq12 ?_ | refine zq7 ?_ | refine zq2 ?_ | refine zq9 ?_))
      exact ⟨rfl, fun z => hv z.1, rfl⟩
  · rintro ρ S' ⟨rfl, hn, rfl⟩
    have e : (xs ++ [upD v a]).map PyData.int = xs.map PyData.int ++ [.int (upD v a)] := by simp
    rw [e] at q1
    (repeat (with_reducible first | refine zq14 ?_ | refine zq11 ?_ | refine zq10 ?_ | refine zq3 ?_ | refine zq4 ?_ | refine zq5 ?_ | refine zq0 ?_ | refine zq8 ?_ | refine zq6 ?_ | refine zq1 ?_ | refine zq13 ?_ | refine zq12 ?_ | refine zq7 ?_ | refine zq2 ?_ | refine zq9 ?_))
    refine w_b (fun hv => ?_) (fun hv => ?_)
    · have hv := of_decide_eq_true hv
      have hd : 0 < a ∧ a < 1073741824 := ⟨by
        rcases Int.lt_or_eq_of_le h0 with z | z
        · exact z
        · exact absurd ⟨hv, z.symm⟩ hn, by omega⟩
      (repeat (with_reducible first | refine zq14 ?_ | refine zq11 ?_ | refine zq10 ?_ | refine zq3 ?_ | refine zq4 ?_ | refine zq5 ?_ | refine zq0 ?_ | refine zq8 ?_ | refine zq6 ?_ | refine zq1 ?_ | refine zq13 ?_ | refine zq12 ?_ | refine zq7 ?_ | refine zq2 ?_ | refine zq9 ?_))
      refine ⟨by rw [List.length_map]; omega, ?_⟩
      have e2 : -(-v / a) = upD v a := by unfold upD; rw [if_pos hv]
      rw [e2]
      exact q1 hn
    · have hv := of_decide_eq_false hv
      (repeat (with_reducible first | refine zq14 ?_ | refine zq11 ?_ | refine zq10 ?_ | refine zq3 ?_ | refine zq4 ?_ | refine zq5 ?_ | refine zq0 ?_ | refine zq8 ?_ | refine zq6 ?_ | refine zq1 ?_ | refine zq13 ?_ | refine zq12 ?_ | refine zq7 ?_ | refine zq2 ?_ | refine zq9 ?_))
      refine ⟨by rw [List.length_map]; omega, ?_⟩
      have e2 : 0 = upD v a := by unfold upD; rw [if_neg hv]
      rw [e2]
      exact q1 hn
theorem least_days_eq {h c : Int} {cp : Cp} (hc : CpOk cp) (hs : ∀ a, cp = some a → a.1 < 1000 ∧ a.2 < 1000) : g_least_days [.int h, .int c, encCp cp] S = .ok (oI (leastD h c cp)) S := by
  refine wpR_ok (w_def rfl ?_)
  unfold m_least_days
  cases cp with
  | none =>
    (repeat (first | with_reducible refine zq15 ?_ | (with_reducible first | refine zq14 ?_ | refine zq11 ?_ | refine zq10 ?_ | refine zq3 ?_ | refine zq4 ?_ | refine zq5 ?_ | refine zq0 ?_ | refine zq8 ?_ | refine zq6 ?_ | refine zq1 ?_ | refine zq13 ?_ | refine zq12 ?_ | refine zq7 ?_ | refine zq2 ?_ | refine zq9 ?_)))
    refine ⟨?_, rfl⟩
    simp only [leastD, oI, decide_eq_true_eq, gt_iff_lt]
  | some a =>
    obtain ⟨a1, a2⟩ := a
    obtain ⟨h1, h2⟩ := hs _ rfl
    obtain ⟨g1, g2⟩ := hc
    simp only at h1 h2 g1 g2
    (repeat (first | with_reducible refine zq15 ?_ | (with_reducible first | refine zq14 ?_ | refine zq11 ?_ | refine zq10 ?_ | refine zq3 ?_ | refine zq4 ?_ | refine zq5 ?_ | refine zq0 ?_ | refine zq8 ?_ | refine zq6 ?_ | refine zq1 ?_ | refine zq13 ?_ | refine zq12 ?_ | refine zq7 ?_ | refine zq2 ?_ | refine zq9 ?_)))
    refine wpF_for _ _ _ ?_
    refine ⟨_, rfl, ?_⟩
    refine least_turn (xs := [0]) g1 h1 (by decide) (fun z => ?_) fun z1 => ?_
    · simp only [leastD]
      rw [if_pos (.inl z)]
      simp [oI]
    refine ⟨_, rfl, ?_⟩
    refine least_turn (xs := [0, upD h a1]) g2 h2 (by show (2 : Nat) ≤ 10; decide) (fun z => ?_) fun z2 => ?_
    · simp only [leastD]
      rw [if_pos (.inr z)]
      simp [oI]
    simp only [wpF]
    (repeat (first | with_reducible refine zq15 ?_ | (with_reducible first | refine zq14 ?_ | refine zq11 ?_ | refine zq10 ?_ | refine zq3 ?_ | refine zq4 ?_ | refine zq5 ?_ | refine zq0 ?_ | refine zq8 ?_ | refine zq6 ?_ | refine zq1 ?_ | refine zq13 ?_ | refine zq12 ?_ | refine zq7 ?_ | refine zq2 ?_ | refine zq9 ?_)))
    have e3 : leastD h c (some (a1, a2)) = some (max 0 (max (upD h a1) (upD c a2))) := by
      simp only [leastD]
      rw [if_neg (by rw [not_or]; exact ⟨z1, z2⟩)]
    rw [e3]
    refine ⟨?_, rfl⟩
    simp only [oI, PyData.int.injEq]
    split <;> split <;> omega
def dayL (o : Lim) (cp : Cp) (h c : Int) : List Cn := match leastD h c cp with
  | none => []
  | some f => (numsD o .days).map fun d => (h, c, if f > d then f else d)
def cycL (o : Lim) (cp : Cp) (h : Int) : List Cn := (numsD o .cycles).flatMap fun c => dayL o cp h c
theorem crit_cyc (o : Lim) (cp : Cp) : critD o cp = (numsD o .hours).flatMap fun h => cycL o cp h := rfl
theorem flat_len {α β : Type} {f : α → List β} {m : Nat} : ∀ {xs : List α}, (∀ x ∈ xs, (f x).length ≤ m) → (xs.flatMap f).length ≤ xs.length * m
  | [], _ => by simp
  | x :: xs, h => by
    have h1 := h x (List.mem_cons_self ..)
    have h2 := flat_len fun y hy => h y (List.mem_cons_of_mem x hy)
    simp only [List.flatMap_cons, List.length_append, List.length_cons, Nat.succ_mul]
    omega
theorem crit_len {o : Lim} {cp : Cp} (h : szL o ≤ 30) : (critD o cp).length ≤ 29791 := by
  have n1 := nums_len o .hours
  have n2 := nums_len o .cycles
  have n3 := nums_len o .days
  have h1 : ∀ a c, (dayL o cp a c).length ≤ 31 := fun a c => by
    unfold dayL
    split
    · exact Nat.zero_le _
    · rw [List.length_map]; omega
  have h2 : ∀ a, (cycL o cp a).length ≤ 961 := fun a => by
    refine Nat.le_trans (flat_len (m := 31) fun c _ => h1 a c) ?_
    omega
  rw [crit_cyc]
  refine Nat.le_trans (flat_len (m := 961) fun a _ => h2 a) ?_
  omega
theorem critical_eq {o : Lim} {cp : Cp} (h : szL o ≤ 30) (hc : CpOk cp) (hs : ∀ a, cp = some a → a.1 < 1000 ∧ a.2 < 1000) : g_critical_counts [encL o, encCp cp] S = .ok (.list ((critD o cp).map encSl)) S := by
  have hz : 100000 ≤ sizeLine := by decide
  have hlen := crit_len (cp := cp) h
  refine wpR_ok (w_def rfl ?_)
  have pn1 : ∀ S, g_passing_numbers [encL o, .str "hours"] S = .ok (.list ((numsD o .hours).map .int)) S := fun S => passing_numbers_eq (w := .hours) (by omega)
  have pn2 : ∀ S, g_passing_numbers [encL o, .str "cycles"] S = .ok (.list ((numsD o .cycles).map .int)) S := fun S => passing_numbers_eq (w := .cycles) (by omega)
  have pn3 : ∀ S, g_passing_numbers [encL o, .str "days"] S = .ok (.list ((numsD o .days).map .int)) S := fun S => passing_numbers_eq (w := .days) (by omega)
  unfold m_critical_counts
  refine zq15 ?_
  (repeat (with_reducible first | refine zq14 ?_ | refine zq11 ?_ | refine zq10 ?_ | refine zq3 ?_ | refine zq4 ?_ | refine zq5 ?_ | refine zq0 ?_ | refine zq8 ?_ | refine zq6 ?_ | refine zq1 ?_ | refine zq13 ?_ | refine zq12 ?_ | refine zq7 ?_ | refine zq2 ?_ | refine zq9 ?_))
  refine w_seqJ (fun ρ S' => S' = S ∧ ∃ x3 x4 x5 x6, ρ = [some (.val (encL o)), some (.val (encCp cp)), some (.own ((critD o cp).map encSl)), x3, x4, x5, x6]) ?_ ?_
  · (repeat (with_reducible first | refine zq14 ?_ | refine zq11 ?_ | refine zq10 ?_ | refine zq3 ?_ | refine zq4 ?_ | refine zq5 ?_ | refine zq0 ?_ | refine zq8 ?_ | refine zq6 ?_ | refine zq1 ?_ | refine zq13 ?_ | refine zq12 ?_ | refine zq7 ?_ | refine zq2 ?_ | refine zq9 ?_))
    refine w_eq (pn1 _) ?_
    (repeat (with_reducible first | refine zq14 ?_ | refine zq11 ?_ | refine zq10 ?_ | refine zq3 ?_ | refine zq4 ?_ | refine zq5 ?_ | refine zq0 ?_ | refine zq8 ?_ | refine zq6 ?_ | refine zq1 ?_ | refine zq13 ?_ | refine zq12 ?_ | refine zq7 ?_ | refine zq2 ?_ | refine zq9 ?_))
    refine wp_for (I := fun r ρ S' => S' = S ∧ ∃ (hs : List Int) (acc : List Cn) (x3 x4 x5 x6 : Option Sl), r = hs.map .int ∧ acc ++ (hs.flatMap fun h => cycL o cp h) = critD o cp ∧ ρ = [some (.val (encL o)), some (.val (encCp cp)), some (.own (acc.map encSl)), x3, x4, x5, x6]) ?_ ?_ _ _ _ ⟨rfl, numsD o .hours, [], none, none, none, none, rfl, rfl, rfl⟩
    · rintro w r ρ S' ⟨hSS, hs1, acc, x3, x4, x5, x6, hr, ha, rfl⟩
      subst hSS
      cases hs1 with
      | nil => cases hr
      | cons a hs1 =>
      simp only [List.map_cons, List.cons.injEq] at hr
      obtain ⟨rfl, rfl⟩ := hr
      simp only [List.flatMap_cons] at ha
      refine ⟨_, rfl, ?_⟩
      (repeat (with_reducible first | refine zq14 ?_ | refine zq11 ?_ | refine zq10 ?_ | refine zq3 ?_ | refine zq4 ?_ | refine zq5 ?_ | refine zq0 ?_ | refine zq8 ?_ | refine zq6 ?_ | refine zq1 ?_ | refine zq13 ?_ | refine zq12 ?_ | refine zq7 ?_ | refine zq2 ?_ | refine zq9 ?_))
      refine w_eq (pn2 _) ?_
      (repeat (with_reducible first | refine zq14 ?_ | refine zq11 ?_ | refine zq10 ?_ | refine zq3 ?_ | refine zq4 ?_ | refine zq5 ?_ | refine zq0 ?_ | refine zq8 ?_ | refine zq6 ?_ | refine zq1 ?_ | refine zq13 ?_ | refine zq12 ?_ | refine zq7 ?_ | refine zq2 ?_ | refine zq9 ?_))
      refine wp_for (I := fun r ρ S2 => S2 = S' ∧ ∃ (cs : List Int) (acc2 : List Cn) (x4 x5 x6 : Option Sl), r = cs.map .int ∧ acc2 ++ (cs.flatMap fun c => dayL o cp a c) = acc ++ cycL o cp a ∧ ρ = [some (.val (encL o)), some (.val (encCp cp)), some (.own (acc2.map encSl)), some (.val (.int a)), x4, x5, x6]) ?_ ?_ _ _ _ ⟨rfl, numsD o .cycles, acc, x4, x5, x6, rfl, rfl, rfl⟩
      · rintro w r ρ S2 ⟨hS2, cs, acc2, x4, x5, x6, hr, ha2, rfl⟩
        subst hS2
        cases cs with
        | nil => cases hr
        | cons c cs =>
        simp only [List.map_cons, List.cons.injEq] at hr
        obtain ⟨rfl, rfl⟩ := hr
        simp only [List.flatMap_cons] at ha2
        refine ⟨_, rfl, ?_⟩
        refine zq15 ?_
        (repeat (with_reducible first | refine zq14 ?_ | refine zq11 ?_ | refine zq10 ?_ | refine zq3 ?_ | refine zq4 ?_ | refine zq5 ?_ | refine zq0 ?_ | refine zq8 ?_ | refine zq6 ?_ | refine zq1 ?_ | refine zq13 ?_ | refine zq12 ?_ | refine zq7 ?_ | refine zq2 ?_ | refine zq9 ?_))
        refine w_eq (least_days_eq hc hs) ?_
        (repeat (with_reducible first | refine zq14 ?_ | refine zq11 ?_ | refine zq10 ?_ | refine zq3 ?_ | refine zq4 ?_ | refine zq5 ?_ | refine zq0 ?_ | refine zq8 ?_ | refine zq6 ?_ | refine zq1 ?_ | refine zq13 ?_ | refine zq12 ?_ | refine zq7 ?_ | refine zq2 ?_ | refine zq9 ?_))
        cases e : leastD a c cp with
        | none =>
          have e1 : dayL o cp a c = [] := by unfold dayL; rw [e]
          rw [e1, List.nil_append] at ha2
          (repeat (with_reducible first | refine zq14 ?_ | refine zq11 ?_ | refine zq10 ?_ | refine zq3 ?_ | refine zq4 ?_ | refine zq5 ?_ | refine zq0 ?_ | refine zq8 ?_ | refine zq6 ?_ | refine zq1 ?_ | refine zq13 ?_ | refine zq12 ?_ | refine zq7 ?_ | refine zq2 ?_ | refine zq9 ?_))
          exact ⟨rfl, cs, acc2, _, _, _, rfl, ha2, rfl⟩
        | some f =>
          have e1 : dayL o cp a c = (numsD o .days).map fun d => (a, c, if f > d then f else d) := by unfold dayL; rw [e]
          rw [e1] at ha2
          have L1 := congrArg List.length ha
          have L2 := congrArg List.length ha2
          simp only [List.length_append, List.length_map] at L1 L2
          (repeat (with_reducible first | refine zq14 ?_ | refine zq11 ?_ | refine zq10 ?_ | refine zq3 ?_ | refine zq4 ?_ | refine zq5 ?_ | refine zq0 ?_ | refine zq8 ?_ | refine zq6 ?_ | refine zq1 ?_ | refine zq13 ?_ | refine zq12 ?_ | refine zq7 ?_ | refine zq2 ?_ | refine zq9 ?_))
          refine w_eq (pn3 _) ?_
          (repeat (with_reducible first | refine zq14 ?_ | refine zq11 ?_ | refine zq10 ?_ | refine zq3 ?_ | refine zq4 ?_ | refine zq5 ?_ | refine zq0 ?_ | refine zq8 ?_ | refine zq6 ?_ | refine zq1 ?_ | refine zq13 ?_ | refine zq12 ?_ | refine zq7 ?_ | refine zq2 ?_ | refine zq9 ?_))
          refine wp_for (I := fun r ρ S3 => S3 = S2 ∧ ∃ (ds : List Int) (acc3 : List Cn) (x6 : Option Sl), r = ds.map .int ∧ (acc3 ++ ds.map fun d => (a, c, if f > d then f else d)) = acc2 ++ ((numsD o .days).map fun d => (a, c, if f > d then f else d)) ∧ ρ = [some (.val (encL o)), some (.val (encCp cp)), some (.own (acc3.map encSl)), some (.val (.int a)), some (.val (.int c)), some (.val (.int f)), x6]) ?_ ?_ _ _ _ ⟨rfl, numsD o .days, acc2, x6, rfl, rfl, rfl⟩
          · rintro w r ρ S3 ⟨hS3, ds, acc3, x6, hr, ha3, rfl⟩
            subst hS3
            cases ds with
            | nil => cases hr
            | cons d ds =>
            simp only [List.map_cons, List.cons.injEq] at hr
            obtain ⟨rfl, rfl⟩ := hr
            have L3 := congrArg List.length ha3
            simp only [List.length_append, List.length_map, List.length_cons] at L3
            refine ⟨_, rfl, ?_⟩
            (repeat (with_reducible first | refine zq14 ?_ | refine zq11 ?_ | refine zq10 ?_ | refine zq3 ?_ | refine zq4 ?_ | refine zq5 ?_ | refine zq0 ?_ | refine zq8 ?_ | refine zq6 ?_ | refine zq1 ?_ | refine zq13 ?_ | refine zq12 ?_ | refine zq7 ?_ | refine zq2 ?_ | refine zq9 ?_))
            refine ⟨by rw [List.length_map]; omega, ?_⟩
            refine ⟨rfl, ds, acc3 ++ [(a, c, if f > d then f else d)], some (.val (.int d)), rfl, ?_, ?_⟩
            · rw [← ha3, List.append_assoc]
              rfl
            · rw [List.map_append]
              rfl
          · rintro ρ S3 ⟨hS3, ds, acc3, x6, hr, ha3, rfl⟩
            subst hS3
            cases ds with
            | cons _ _ => cases hr
            | nil =>
            simp only [List.map_nil, List.append_nil] at ha3
            rw [ha3]
            refine ⟨rfl, cs, _, _, _, _, rfl, ?_, rfl⟩
            rw [List.append_assoc]
            exact ha2
      · rintro ρ S2 ⟨hS2, cs, acc2, x4, x5, x6, hr, ha2, rfl⟩
        subst hS2
        cases cs with
        | cons _ _ => cases hr
        | nil =>
        simp only [List.flatMap_nil, List.append_nil] at ha2
        refine ⟨rfl, hs1, acc ++ cycL o cp a, some (.val (.int a)), x4, x5, x6, rfl, ?_, by rw [ha2]⟩
        rw [← ha, List.append_assoc]
    · rintro ρ S' ⟨hSS, hs1, acc, x3, x4, x5, x6, hr, ha, rfl⟩
      subst hSS
      cases hs1 with
      | cons _ _ => cases hr
      | nil =>
      simp only [List.flatMap_nil, List.append_nil] at ha
      rw [ha]
      exact ⟨rfl, x3, x4, x5, x6, rfl⟩
  · rintro ρ S' ⟨hSS, x3, x4, x5, x6, rfl⟩
    subst hSS
    (repeat (first | with_reducible refine zq15 ?_ | (with_reducible first | refine zq14 ?_ | refine zq11 ?_ | refine zq10 ?_ | refine zq3 ?_ | refine zq4 ?_ | refine zq5 ?_ | refine zq0 ?_ | refine zq8 ?_ | refine zq6 ?_ | refine zq1 ?_ | refine zq13 ?_ | refine zq12 ?_ | refine zq7 ?_ | refine zq2 ?_ | refine zq9 ?_)))
    exact ⟨rfl, rfl⟩
def encO : Option Cn → Wd
  | none => .none
  | some c => encSl c
theorem parting_eq {l o : Lim} {cp : Cp} (hl : szL l ≤ 400) (h : szL o ≤ 30) (hc : CpOk cp) (hs : ∀ a, cp = some a → a.1 < 1000 ∧ a.2 < 1000) : g_parting [encL l, encL o, encCp cp] S = .ok (encO (partD l o cp)) S := by
  refine wpR_ok (w_def rfl ?_)
  unfold m_parting
  refine w_seqJ (fun ρ S' => S' = S ∧ partD l o cp = none) ?_ ?_
  · (repeat (with_reducible first | refine zq14 ?_ | refine zq11 ?_ | refine zq10 ?_ | refine zq3 ?_ | refine zq4 ?_ | refine zq5 ?_ | refine zq0 ?_ | refine zq8 ?_ | refine zq6 ?_ | refine zq1 ?_ | refine zq13 ?_ | refine zq12 ?_ | refine zq7 ?_ | refine zq2 ?_ | refine zq9 ?_))
    refine w_eq (critical_eq h hc hs) ?_
    (repeat (with_reducible first | refine zq14 ?_ | refine zq11 ?_ | refine zq10 ?_ | refine zq3 ?_ | refine zq4 ?_ | refine zq5 ?_ | refine zq0 ?_ | refine zq8 ?_ | refine zq6 ?_ | refine zq1 ?_ | refine zq13 ?_ | refine zq12 ?_ | refine zq7 ?_ | refine zq2 ?_ | refine zq9 ?_))
    refine wp_for (I := fun r ρ S' => S' = S ∧ ∃ (cs : List Cn) (x3 : Option Sl), r = cs.map encSl ∧ (cs.find? fun c => passes o (tri c) && !passes l (tri c)) = partD l o cp ∧ ρ = [some (.val (encL l)), some (.val (encL o)), some (.val (encCp cp)), x3]) ?_ ?_ _ _ _ ⟨rfl, critD o cp, none, rfl, rfl, rfl⟩
    · rintro w r ρ S' ⟨hS, cs, x3, hr, hp, rfl⟩
      subst hS
      cases cs with
      | nil => cases hr
      | cons c cs =>
      simp only [List.map_cons, List.cons.injEq] at hr
      obtain ⟨rfl, rfl⟩ := hr
      refine ⟨_, rfl, ?_⟩
      (repeat (with_reducible first | refine zq14 ?_ | refine zq11 ?_ | refine zq10 ?_ | refine zq3 ?_ | refine zq4 ?_ | refine zq5 ?_ | refine zq0 ?_ | refine zq8 ?_ | refine zq6 ?_ | refine zq1 ?_ | refine zq13 ?_ | refine zq12 ?_ | refine zq7 ?_ | refine zq2 ?_ | refine zq9 ?_))
      refine w_eq (is_passed_eq (by omega)) ?_
      (repeat (with_reducible first | refine zq14 ?_ | refine zq11 ?_ | refine zq10 ?_ | refine zq3 ?_ | refine zq4 ?_ | refine zq5 ?_ | refine zq0 ?_ | refine zq8 ?_ | refine zq6 ?_ | refine zq1 ?_ | refine zq13 ?_ | refine zq12 ?_ | refine zq7 ?_ | refine zq2 ?_ | refine zq9 ?_))
      refine w_b (fun h1 => ?_) (fun h1 => ?_)
      · (repeat (with_reducible first | refine zq14 ?_ | refine zq11 ?_ | refine zq10 ?_ | refine zq3 ?_ | refine zq4 ?_ | refine zq5 ?_ | refine zq0 ?_ | refine zq8 ?_ | refine zq6 ?_ | refine zq1 ?_ | refine zq13 ?_ | refine zq12 ?_ | refine zq7 ?_ | refine zq2 ?_ | refine zq9 ?_))
        refine w_eq (is_passed_eq hl) ?_
        (repeat (with_reducible first | refine zq14 ?_ | refine zq11 ?_ | refine zq10 ?_ | refine zq3 ?_ | refine zq4 ?_ | refine zq5 ?_ | refine zq0 ?_ | refine zq8 ?_ | refine zq6 ?_ | refine zq1 ?_ | refine zq13 ?_ | refine zq12 ?_ | refine zq7 ?_ | refine zq2 ?_ | refine zq9 ?_))
        cases h2 : passes l (tri c) with
        | true =>
          rw [List.find?_cons_of_neg (by rw [h1, h2]; decide)] at hp
          (repeat (first | with_reducible refine zq15 ?_ | (with_reducible first | refine zq14 ?_ | refine zq11 ?_ | refine zq10 ?_ | refine zq3 ?_ | refine zq4 ?_ | refine zq5 ?_ | refine zq0 ?_ | refine zq8 ?_ | refine zq6 ?_ | refine zq1 ?_ | refine zq13 ?_ | refine zq12 ?_ | refine zq7 ?_ | refine zq2 ?_ | refine zq9 ?_)))
          exact ⟨rfl, cs, _, rfl, hp, rfl⟩
        | false =>
          rw [List.find?_cons_of_pos (by rw [h1, h2]; decide)] at hp
          (repeat (first | with_reducible refine zq15 ?_ | (with_reducible first | refine zq14 ?_ | refine zq11 ?_ | refine zq10 ?_ | refine zq3 ?_ | refine zq4 ?_ | refine zq5 ?_ | refine zq0 ?_ | refine zq8 ?_ | refine zq6 ?_ | refine zq1 ?_ | refine zq13 ?_ | refine zq12 ?_ | refine zq7 ?_ | refine zq2 ?_ | refine zq9 ?_)))
          rw [← hp]
          exact ⟨rfl, rfl⟩
      · rw [List.find?_cons_of_neg (by rw [h1, Bool.false_and]; exact Bool.false_ne_true)] at hp
        (repeat (first | with_reducible refine zq15 ?_ | (with_reducible first | refine zq14 ?_ | refine zq11 ?_ | refine zq10 ?_ | refine zq3 ?_ | refine zq4 ?_ | refine zq5 ?_ | refine zq0 ?_ | refine zq8 ?_ | refine zq6 ?_ | refine zq1 ?_ | refine zq13 ?_ | refine zq12 ?_ | refine zq7 ?_ | refine zq2 ?_ | refine zq9 ?_)))
        exact ⟨rfl, cs, _, rfl, hp, rfl⟩
    · rintro ρ S' ⟨hS, cs, x3, hr, hp, rfl⟩
      cases cs with
      | cons _ _ => cases hr
      | nil => exact ⟨hS, hp.symm⟩
  · rintro ρ S' ⟨rfl, hp⟩
    (repeat (first | with_reducible refine zq15 ?_ | (with_reducible first | refine zq14 ?_ | refine zq11 ?_ | refine zq10 ?_ | refine zq3 ?_ | refine zq4 ?_ | refine zq5 ?_ | refine zq0 ?_ | refine zq8 ?_ | refine zq6 ?_ | refine zq1 ?_ | refine zq13 ?_ | refine zq12 ?_ | refine zq7 ?_ | refine zq2 ?_ | refine zq9 ?_)))
    rw [hp]
    exact ⟨rfl, rfl⟩
structure TwoOk (l o : Lim) (cp : Cp) : Prop where
  bl : ∃ hi k, LimB 1 hi k l ∧ k ≤ 50
  bo : ∃ hi k, LimB 1 hi k o ∧ k ≤ 50
  zl : szL l ≤ 30
  zo : szL o ≤ 30
  c : CpOk cp
  s : ∀ a, cp = some a → a.1 < 1000 ∧ a.2 < 1000
theorem TwoOk.swap {l o : Lim} {cp : Cp} (h : TwoOk l o cp) : TwoOk o l cp := ⟨h.bo, h.bl, h.zo, h.zl, h.c, h.s⟩
theorem TwoOk.part {l o : Lim} {cp : Cp} (h : TwoOk l o cp) : g_parting [encL l, encL o, encCp cp] S = .ok (encO (partD l o cp)) S := parting_eq (by have := h.zl; omega) h.zo h.c h.s
end
end WF
namespace PL
open PySem PySem.Spec PyProof.Rows L2 DL
inductive At : Lim → List Int → Lim → Prop where
  | nil (l : Lim) : At l [] l
  | cons {b : Bool} {ls : List Lim} {k : Nat} {x y : Lim} {q : List Int} (h : ls[k]? = some x) (t : At x q y) : At (.join b ls) ((k : Int) :: q) y
def along : Lim → List Int → List Lim
  | l, [] => [l]
  | .join b ls, k :: q => .join b ls :: (match ls[k.toNat]? with
    | some x => along x q
    | none => [])
  | .one _ _, _ :: _ => []
def setAt (l : Lim) (k : Int) (y : Lim) : Lim := match l with
  | .join b ls => .join b (ls.take k.toNat ++ y :: ls.drop (k.toNat + 1))
  | l => l
def cutAt (l : Lim) (k : Int) : Lim := match l with
  | .join b ls => .join b (ls.take k.toNat ++ ls.drop (k.toNat + 1))
  | l => l
def woL : Lim → List Int → Lim
  | l, [] => l
  | l, [k] => cutAt l k
  | .join b ls, k :: j :: q => match ls[k.toNat]? with
    | some x => setAt (.join b ls) k (woL x (j :: q))
    | none => .join b ls
  | .one w n, _ :: _ :: _ => .one w n
theorem along_cons {b : Bool} {ls : List Lim} {k : Nat} {x : Lim} {q : List Int} (h : ls[k]? = some x) : along (.join b ls) ((k : Int) :: q) = .join b ls :: along x q := by
  simp only [along, Int.toNat_natCast, h]
theorem along_len {l y : Lim} {q : List Int} (h : At l q y) : (along l q).length = q.length + 1 := by
  induction h with
  | nil l => cases l <;> rfl
  | cons h t ih => rw [along_cons h, List.length_cons, List.length_cons, ih]
theorem along_last {l y : Lim} {q : List Int} (h : At l q y) : ∃ fs, along l q = fs ++ [y] ∧ fs.length = q.length := by
  induction h with
  | nil l => exact ⟨[], by cases l <;> rfl, rfl⟩
  | @cons b ls k x y q h t ih =>
    obtain ⟨fs, e, n⟩ := ih
    exact ⟨.join b ls :: fs, by rw [along_cons h, e]; rfl, by simp [n]⟩
theorem At.snoc {l y : Lim} {q : List Int} {b : Bool} {ls : List Lim} {k : Nat} (h : At l q (.join b ls)) (hk : ls[k]? = some y) : At l (q ++ [(k : Int)]) y := by
  generalize e : Lim.join b ls = z at h
  induction h with
  | nil l => subst e; exact .cons hk (.nil y)
  | cons h t ih => exact .cons h (ih e)
theorem At.split {l y : Lim} {q : List Int} (h : At l q y) (hq : q ≠ []) : ∃ p b ls, ∃ k : Nat, q = p ++ [(k : Int)] ∧ At l p (.join b ls) ∧ ls[k]? = some y := by
  induction h with
  | nil l => exact absurd rfl hq
  | @cons b ls k x y q h t ih =>
    cases t with
    | nil => exact ⟨[], b, ls, k, rfl, .nil _, h⟩
    | cons h2 t2 =>
      obtain ⟨p, b', ls', k', e, t', e'⟩ := ih (by simp)
      exact ⟨(k : Int) :: p, b', ls', k', by rw [e]; rfl, .cons h t', e'⟩
mutual
theorem apL_at : ∀ (p : List Int) (l : Lim), ∀ q ∈ apL p l, ∃ r, q.1 = p ++ r ∧ At l r q.2
  | p, .one w n, q, hq => by
    simp only [apL, List.mem_singleton] at hq
    subst hq
    exact ⟨[], by simp, .nil _⟩
  | p, .join b ls, q, hq => by
    simp only [apL, List.mem_cons] at hq
    rcases hq with rfl | hq
    · exact ⟨[], by simp, .nil _⟩
    · obtain ⟨k, x, r, h1, h2, h3⟩ := apLs_at p 0 ls q hq
      exact ⟨(k : Int) :: r, by rw [h2, Nat.zero_add], .cons h1 h3⟩
theorem apLs_at : ∀ (p : List Int) (j : Nat) (ls : List Lim), ∀ q ∈ apLs p j ls, ∃ (k : Nat) (x : Lim) (r : List Int), ls[k]? = some x ∧ q.1 = p ++ ((j + k : Nat) : Int) :: r ∧ At x r q.2
  | p, j, [], q, hq => by simp only [apLs] at hq; cases hq
  | p, j, l :: ls, q, hq => by
    simp only [apLs, List.mem_append] at hq
    rcases hq with hq | hq
    · obtain ⟨r, e, h⟩ := apL_at _ l q hq
      exact ⟨0, l, r, rfl, by rw [e]; simp, h⟩
    · obtain ⟨k, x, r, h1, h2, h3⟩ := apLs_at p (j + 1) ls q hq
      exact ⟨k + 1, x, r, by rw [List.getElem?_cons_succ]; exact h1, by rw [h2]; congr 2; congr 1; omega, h3⟩
end
theorem wo_at {l : Lim} {p : List Int} {b : Bool} {ls : List Lim} {k : Int} (h : At l p (.join b ls)) : woL l (p ++ [k]) = ((((along l p).dropLast).zip p).foldr (fun q y => setAt q.1 q.2 y) (cutAt (.join b ls) k)) := by
  generalize e : Lim.join b ls = z at h
  induction h with
  | nil l => subst e; rfl
  | @cons b' ls' k' x y q h t ih =>
    have := ih e
    rw [along_cons h]
    obtain ⟨fs, e2, n⟩ := along_last t
    have ne : along x q ≠ [] := by rw [e2]; simp
    rw [List.dropLast_cons_of_ne_nil ne, List.zip_cons_cons, List.foldr_cons, ← this]
    cases q with
    | nil => simp only [List.cons_append, List.nil_append, woL, Int.toNat_natCast, h]
    | cons j q => simp only [List.cons_append, woL, Int.toNat_natCast, h]
theorem szLs_app : ∀ (a b : List Lim), szLs (a ++ b) = szLs a + szLs b
  | [], b => by simp [szLs]
  | x :: a, b => by simp only [List.cons_append, szLs, szLs_app a b]; omega
theorem cut_eq {ls : List Lim} {k : Nat} {x : Lim} (h : ls[k]? = some x) : ls = ls.take k ++ x :: ls.drop (k + 1) := by
  obtain ⟨hk, e⟩ := List.getElem?_eq_some_iff.1 h
  rw [← e, List.getElem_cons_drop, List.take_append_drop]
def rl (l : Lim) : Nat := (encL l).shown.length
def rls (ls : List Lim) : Nat := piled (PyData.shownAll (ls.map encL))
theorem rls_cons (x : Lim) (ls : List Lim) : rls (x :: ls) = rl x + 2 + rls ls := by
  unfold rls rl
  simp only [List.map_cons, PyData.shownAll]
  rw [piled_cons]
theorem rls_app : ∀ (a b : List Lim), rls (a ++ b) = rls a + rls b
  | [], b => by
    have : rls [] = 0 := rfl
    rw [List.nil_append, this]
    omega
  | x :: a, b => by rw [List.cons_append, rls_cons, rls_cons, rls_app a b]; omega
theorem tt_len {ts : List Str} (h : ts ≠ []) : (tupleText ts).length = piled ts + if ts.length = 1 then 1 else 0 := by
  have := join_length_add ts h
  unfold tupleText
  rw [strLen_append, strLen_append]
  have e1 : (("(" : String) : Str).length = 1 := rfl
  rw [e1]
  by_cases c : ts.length = 1
  · rw [if_pos c, if_pos (by rw [c]; rfl)]
    have e2 : ((",)" : String) : Str).length = 2 := rfl
    rw [e2]
    omega
  · rw [if_neg c, if_neg (by intro z; exact c (eq_of_beq z))]
    have e2 : ((")" : String) : Str).length = 1 := rfl
    rw [e2]
    omega
theorem shownAll_len : ∀ xs : List Wd, (PyData.shownAll xs).length = xs.length
  | [] => rfl
  | x :: xs => by simp only [PyData.shownAll, List.length_cons, shownAll_len xs]
theorem rl_join {b : Bool} {ls : List Lim} (h : ls ≠ []) : rl (.join b ls) = (PyData.shown (.str (jw b))).length + 4 + (rls ls + if ls.length = 1 then 1 else 0) := by
  unfold rl
  rw [encL_join]
  simp only [PyData.shown, PyData.shownAll]
  rw [tt_len (by simp), piled_cons, piled_cons, tt_len (ts := PyData.shownAll (ls.map encL)) (by
    intro e
    have := congrArg List.length e
    rw [shownAll_len, List.length_map] at this
    exact h (List.eq_nil_of_length_eq_zero this)), shownAll_len, List.length_map]
  have e2 : ∀ a b : Str, (if [a, b].length = 1 then 1 else 0 : Nat) = 0 := fun a b => rfl
  rw [e2]
  have : piled [] = 0 := rfl
  rw [this]
  unfold rls
  omega
structure Less (l l' : Lim) : Prop where
  b : ∀ lo hi m, LimB lo hi m l → LimB lo hi m l'
  z : szL l' < szL l
  r : rl l' ≤ rl l
theorem cut_less {b : Bool} {ls : List Lim} {k : Nat} {x : Lim} (h : ls[k]? = some x) (hn : 1 < ls.length) : Less (.join b ls) (cutAt (.join b ls) k) := by
  have e := cut_eq h
  have hk := (List.getElem?_eq_some_iff.1 h).1
  have hl : (ls.take k ++ ls.drop (k + 1)).length = ls.length - 1 := by rw [List.length_append, List.length_take, List.length_drop]; omega
  have ne : ls.take k ++ ls.drop (k + 1) ≠ [] := fun z => by rw [z] at hl; simp at hl; omega
  have nl : ls ≠ [] := fun z => by rw [z] at hn; cases hn
  show Less (.join b ls) (.join b (ls.take (k : Int).toNat ++ ls.drop ((k : Int).toNat + 1)))
  rw [Int.toNat_natCast]
  refine ⟨fun lo hi m hb => ?_, ?_, ?_⟩
  · obtain ⟨m', rfl, h0, h1, h2⟩ := hb.join_
    refine LimB.mk_join ne (by omega) fun y hy => ?_
    rcases List.mem_append.1 hy with hy | hy
    · exact h2 y (List.mem_of_mem_take hy)
    · exact h2 y (List.mem_of_mem_drop hy)
  · have := szL_pos x
    have e2 := congrArg szLs e
    rw [szLs_app] at e2
    simp only [szLs] at e2
    simp only [szL, szLs_app]
    omega
  · rw [rl_join ne, rl_join nl, rls_app, hl]
    have e2 := congrArg rls e
    rw [rls_app, rls_cons] at e2
    rw [if_neg (show ¬ ls.length = 1 by omega)]
    split <;> omega
theorem set_less {b : Bool} {ls : List Lim} {k : Nat} {x y : Lim} (h : ls[k]? = some x) (hy : Less x y) : Less (.join b ls) (setAt (.join b ls) k y) := by
  have e := cut_eq h
  have hk := (List.getElem?_eq_some_iff.1 h).1
  have hl : (ls.take k ++ y :: ls.drop (k + 1)).length = ls.length := by rw [List.length_append, List.length_cons, List.length_take, List.length_drop]; omega
  have ne : ls.take k ++ y :: ls.drop (k + 1) ≠ [] := by simp
  have nl : ls ≠ [] := fun z => by rw [z] at hk; cases hk
  have hx : x ∈ ls := List.mem_of_getElem? h
  show Less (.join b ls) (.join b (ls.take (k : Int).toNat ++ y :: ls.drop ((k : Int).toNat + 1)))
  rw [Int.toNat_natCast]
  refine ⟨fun lo hi m hb => ?_, ?_, ?_⟩
  · obtain ⟨m', rfl, h0, h1, h2⟩ := hb.join_
    refine LimB.mk_join ne (by omega) fun z hz => ?_
    rcases List.mem_append.1 hz with hz | hz
    · exact h2 z (List.mem_of_mem_take hz)
    · rcases List.mem_cons.1 hz with rfl | hz
      · exact hy.b _ _ _ (h2 x hx)
      · exact h2 z (List.mem_of_mem_drop hz)
  · have := hy.z
    have e2 := congrArg szLs e
    rw [szLs_app] at e2
    simp only [szLs] at e2
    simp only [szL, szLs_app, szLs]
    omega
  · rw [rl_join ne, rl_join nl, rls_app, rls_cons, hl]
    have := hy.r
    have e2 := congrArg rls e
    rw [rls_app, rls_cons] at e2
    omega
theorem wo_less {l : Lim} {p : List Int} {b : Bool} {ls : List Lim} {k : Nat} {x : Lim} (h : At l p (.join b ls)) (hk : ls[k]? = some x) (hn : 1 < ls.length) : Less l (woL l (p ++ [(k : Int)])) := by
  generalize e : Lim.join b ls = z at h
  induction h with
  | nil l => subst e; exact cut_less hk hn
  | @cons b' ls' k' x' y q h t ih =>
    have := ih e
    have ew : woL (.join b' ls') ((k' : Int) :: q ++ [(k : Int)]) = setAt (.join b' ls') k' (woL x' (q ++ [(k : Int)])) := by
      cases q with
      | nil => simp only [List.cons_append, List.nil_append, woL, Int.toNat_natCast, h]
      | cons j q => simp only [List.cons_append, woL, Int.toNat_natCast, h]
    rw [ew]
    exact set_less h this
end PL
namespace WF
open PySem PySem.Spec PyProof.Rows L2 DL
end WF
namespace WF
open PySem PySem.Spec PyProof.Rows L2 DL
end WF
namespace WF
open PySem PySem.Spec PyProof.Rows L2 DL
end WF
namespace WF
open PySem PySem.Spec PyProof.Rows L2 DL
end WF
namespace DL
open PySem PySem.Spec PyProof.Rows L2
theorem w_ixO {ρ : Ev} {S : Sto} {i : Nat} {f : Mx} {ws : List Wd} {Q : Wd → Sto → Prop} (h : ρ[i]? = some (some (.own ws))) (q : wpE (f ρ S) fun y S1 => ∃ k, y = .int k ∧ wpO (atI ws k) fun w => Q w S1) : wpE (mIxO i f ρ S) Q := by
  unfold mIxO
  rw [h]
  obtain ⟨y, S1, e, k, rfl, hq⟩ := wpE_ex.1 q
  simp only [e, R.bnd_ok]
  obtain ⟨w, e2, hq⟩ := hq
  rw [e2]
  exact hq
theorem w_zipM {ρ : Ev} {S : Sto} {f f' : Mx} {Qs : List Wd → Sto → Prop} (h : wpE (f ρ S) fun x S1 => wpE (f' ρ S1) fun y S2 => ∃ xs ys, x = .list xs ∧ y = .tuple ys ∧ Qs (zipD xs ys) S2) : wpE (iZipM (aCons f (aCons f' aNil)) ρ S) Qs := by
  unfold iZipM aCons aNil
  simp only [wpE_bnd, wpE_ok]
  refine wpE_mono h fun x S1 h => wpE_mono h fun y S2 ⟨xs, ys, ex, ey, q⟩ => ?_
  subst ex ey
  exact q
end DL
namespace WF
open PySem PySem.Spec PyProof.Rows L2 DL PL
section
variable {S : Sto}
theorem at_len {l y : Lim} {q : List Int} (h : At l q y) : q.length + szL y ≤ szL l := by
  induction h with
  | nil l => simp
  | @cons b ls k x y q h t ih =>
    have := szL_mem ls x (List.mem_of_getElem? h)
    simp only [List.length_cons, szL]
    omega
theorem along_snoc {l x : Lim} {p : List Int} {b : Bool} {ls : List Lim} {k : Nat} (h : At l p (.join b ls)) (hk : ls[k]? = some x) : along l (p ++ [(k : Int)]) = along l p ++ [x] := by
  generalize e : Lim.join b ls = z at h
  induction h with
  | nil l =>
    subst e
    have : along (.join b ls) [] = [.join b ls] := rfl
    rw [List.nil_append, along_cons hk, this]
    have : along x [] = [x] := by cases x <;> rfl
    rw [this]
    rfl
  | @cons b' ls' k' x' y q h t ih =>
    rw [List.cons_append, along_cons h, along_cons h, ih e]
    rfl
theorem chain_at {l y : Lim} {p : List Int} (h : At l p y) : ∀ q ∈ ((along l p).dropLast).zip p, ∃ b ls, ∃ k : Nat, q = (Lim.join b ls, (k : Int)) ∧ k < ls.length ∧ szL (.join b ls) ≤ szL l := by
  induction h with
  | nil l => simp
  | @cons b ls k x y q h t ih =>
    intro e he
    obtain ⟨fs, e2, n⟩ := along_last t
    have ne : along x q ≠ [] := by rw [e2]; simp
    rw [along_cons h, List.dropLast_cons_of_ne_nil ne, List.zip_cons_cons, List.mem_cons] at he
    rcases he with rfl | he
    · exact ⟨b, ls, k, rfl, (List.getElem?_eq_some_iff.1 h).1, Nat.le_refl _⟩
    · obtain ⟨b', ls', k', e3, e4, e5⟩ := ih e he
      have := szL_mem ls x (List.mem_of_getElem? h)
      exact ⟨b', ls', k', e3, e4, by have : szL (.join b ls) = 1 + szLs ls := by simp only [szL]
                                     omega⟩
theorem limits_along_eq {l y : Lim} {q : List Int} (h : At l q y) (hq : q.length ≤ 100) (hz : szL l ≤ 400) : g_limits_along [encL l, .tuple (q.map .int)] S = .ok (.list ((along l q).map encL)) S := by
  have hs : 2000 ≤ sizeLine := by decide
  have hal := along_len h
  refine wpR_ok (w_def rfl ?_)
  unfold m_limits_along
  refine zq15 ?_
  (repeat (with_reducible first | refine zq14 ?_ | refine zq11 ?_ | refine zq10 ?_ | refine zq3 ?_ | refine zq4 ?_ | refine zq5 ?_ | refine zq0 ?_ | refine zq8 ?_ | refine zq6 ?_ | refine zq1 ?_ | refine zq13 ?_ | refine zq12 ?_ | refine zq7 ?_ | refine zq2 ?_ | refine zq9 ?_))
  refine w_eq require_eq ?_
  (repeat (with_reducible first | refine zq14 ?_ | refine zq11 ?_ | refine zq10 ?_ | refine zq3 ?_ | refine zq4 ?_ | refine zq5 ?_ | refine zq0 ?_ | refine zq8 ?_ | refine zq6 ?_ | refine zq1 ?_ | refine zq13 ?_ | refine zq12 ?_ | refine zq7 ?_ | refine zq2 ?_ | refine zq9 ?_))
  refine zq15 ?_
  (repeat (with_reducible first | refine zq14 ?_ | refine zq11 ?_ | refine zq10 ?_ | refine zq3 ?_ | refine zq4 ?_ | refine zq5 ?_ | refine zq0 ?_ | refine zq8 ?_ | refine zq6 ?_ | refine zq1 ?_ | refine zq13 ?_ | refine zq12 ?_ | refine zq7 ?_ | refine zq2 ?_ | refine zq9 ?_))
  refine w_seqJ (fun ρ S' => S' = S ∧ ∃ x3 x4 x5, ρ = [some (.val (encL l)), some (.val (.tuple (q.map .int))), some (.own ((along l q).map encL)), x3, x4, x5]) ?_ ?_
  · (repeat (with_reducible first | refine zq14 ?_ | refine zq11 ?_ | refine zq10 ?_ | refine zq3 ?_ | refine zq4 ?_ | refine zq5 ?_ | refine zq0 ?_ | refine zq8 ?_ | refine zq6 ?_ | refine zq1 ?_ | refine zq13 ?_ | refine zq12 ?_ | refine zq7 ?_ | refine zq2 ?_ | refine zq9 ?_))
    refine wp_for (I := fun r ρ S' => S' = S ∧ ∃ (fs : List Lim) (x z : Lim) (r' : List Int) (x3 x4 x5 : Option Sl), r = r'.map .int ∧ At x r' z ∧ fs ++ along x r' = along l q ∧ ρ = [some (.val (encL l)), some (.val (.tuple (q.map .int))), some (.own ((fs ++ [x]).map encL)), x3, x4, x5]) ?_ ?_ _ _ _ ⟨rfl, [], l, y, q, none, none, none, rfl, h, rfl, rfl⟩
    · rintro w r ρ S' ⟨hS, fs, x, z, r', x3, x4, x5, hr, hat, he, rfl⟩
      subst hS
      cases hat with
      | nil => cases hr
      | @cons b ls k x' _ q' hk ht =>
      simp only [List.map_cons, List.cons.injEq] at hr
      obtain ⟨rfl, rfl⟩ := hr
      have hkl := (List.getElem?_eq_some_iff.1 hk).1
      have L := congrArg List.length he
      rw [List.length_append, along_cons hk, List.length_cons] at L
      refine ⟨_, rfl, ?_⟩
      refine zq15 ?_
      (repeat (with_reducible first | refine zq14 ?_ | refine zq11 ?_ | refine zq10 ?_ | refine zq3 ?_ | refine zq4 ?_ | refine zq5 ?_ | refine zq0 ?_ | refine zq8 ?_ | refine zq6 ?_ | refine zq1 ?_ | refine zq13 ?_ | refine zq12 ?_ | refine zq7 ?_ | refine zq2 ?_ | refine zq9 ?_))
      refine w_ixO rfl ?_
      (repeat (with_reducible first | refine zq14 ?_ | refine zq11 ?_ | refine zq10 ?_ | refine zq3 ?_ | refine zq4 ?_ | refine zq5 ?_ | refine zq0 ?_ | refine zq8 ?_ | refine zq6 ?_ | refine zq1 ?_ | refine zq13 ?_ | refine zq12 ?_ | refine zq7 ?_ | refine zq2 ?_ | refine zq9 ?_))
      refine wpO_rfl (w := .tuple [.str (jw b), .tuple (ls.map encL)]) (by rw [List.map_append, ← encL_join]; exact atI_last _ _) ?_
      (repeat (with_reducible first | refine zq14 ?_ | refine zq11 ?_ | refine zq10 ?_ | refine zq3 ?_ | refine zq4 ?_ | refine zq5 ?_ | refine zq0 ?_ | refine zq8 ?_ | refine zq6 ?_ | refine zq1 ?_ | refine zq13 ?_ | refine zq12 ?_ | refine zq7 ?_ | refine zq2 ?_ | refine zq9 ?_))
      refine zq15 ?_
      (repeat (with_reducible first | refine zq14 ?_ | refine zq11 ?_ | refine zq10 ?_ | refine zq3 ?_ | refine zq4 ?_ | refine zq5 ?_ | refine zq0 ?_ | refine zq8 ?_ | refine zq6 ?_ | refine zq1 ?_ | refine zq13 ?_ | refine zq12 ?_ | refine zq7 ?_ | refine zq2 ?_ | refine zq9 ?_))
      refine w_bt (by cases b <;> rfl) ?_
      (repeat (with_reducible first | refine zq14 ?_ | refine zq11 ?_ | refine zq10 ?_ | refine zq3 ?_ | refine zq4 ?_ | refine zq5 ?_ | refine zq0 ?_ | refine zq8 ?_ | refine zq6 ?_ | refine zq1 ?_ | refine zq13 ?_ | refine zq12 ?_ | refine zq7 ?_ | refine zq2 ?_ | refine zq9 ?_))
      refine w_eq (is_number_eq (by omega)) ?_
      (repeat (with_reducible first | refine zq14 ?_ | refine zq11 ?_ | refine zq10 ?_ | refine zq3 ?_ | refine zq4 ?_ | refine zq5 ?_ | refine zq0 ?_ | refine zq8 ?_ | refine zq6 ?_ | refine zq1 ?_ | refine zq13 ?_ | refine zq12 ?_ | refine zq7 ?_ | refine zq2 ?_ | refine zq9 ?_))
      rw [List.length_map, decide_eq_true (show (k : Int) < (ls.length : Int) by omega)]
      refine w_eq require_eq ?_
      (repeat (with_reducible first | refine zq14 ?_ | refine zq11 ?_ | refine zq10 ?_ | refine zq3 ?_ | refine zq4 ?_ | refine zq5 ?_ | refine zq0 ?_ | refine zq8 ?_ | refine zq6 ?_ | refine zq1 ?_ | refine zq13 ?_ | refine zq12 ?_ | refine zq7 ?_ | refine zq2 ?_ | refine zq9 ?_))
      refine wpO_rfl (w := encL x') (by
        show atI (ls.map encL) (k : Int) = _
        rw [atI_in (by omega) (by rw [List.length_map]; omega), List.getElem_map]
        obtain ⟨_, e⟩ := List.getElem?_eq_some_iff.1 hk
        simp only [Int.toNat_natCast, e]) ?_
      refine ⟨by rw [List.length_map, List.length_append, List.length_singleton]; omega, rfl, fs ++ [.join b ls], x', z, q', some (.val (.int k)), some (.val (.str (jw b))), some (.val (.tuple (ls.map encL))), rfl, ht, ?_, ?_⟩
      · rw [← he, along_cons hk, List.append_assoc]
        rfl
      · simp only [List.map_append, List.map_cons, List.map_nil]
        rfl
    · rintro ρ S' ⟨hS, fs, x, z, r', x3, x4, x5, hr, hat, he, rfl⟩
      subst hS
      cases hat with
      | cons _ _ => cases hr
      | nil =>
      have e1 : along x [] = [x] := by cases x <;> rfl
      rw [e1] at he
      rw [he]
      exact ⟨rfl, x3, x4, x5, rfl⟩
  · rintro ρ S' ⟨rfl, x3, x4, x5, rfl⟩
    (repeat (first | with_reducible refine zq15 ?_ | (with_reducible first | refine zq14 ?_ | refine zq11 ?_ | refine zq10 ?_ | refine zq3 ?_ | refine zq4 ?_ | refine zq5 ?_ | refine zq0 ?_ | refine zq8 ?_ | refine zq6 ?_ | refine zq1 ?_ | refine zq13 ?_ | refine zq12 ?_ | refine zq7 ?_ | refine zq2 ?_ | refine zq9 ?_)))
    exact ⟨rfl, rfl⟩
theorem part_at_eq {l y : Lim} {q : List Int} (h : At l q y) (hq : q.length ≤ 100) (hz : szL l ≤ 400) : g_part_at [encL l, .tuple (q.map .int)] S = .ok (encL y) S := by
  obtain ⟨fs, e, n⟩ := along_last h
  refine wpR_ok (w_def rfl ?_)
  unfold m_part_at
  (repeat (first | with_reducible refine zq15 ?_ | (with_reducible first | refine zq14 ?_ | refine zq11 ?_ | refine zq10 ?_ | refine zq3 ?_ | refine zq4 ?_ | refine zq5 ?_ | refine zq0 ?_ | refine zq8 ?_ | refine zq6 ?_ | refine zq1 ?_ | refine zq13 ?_ | refine zq12 ?_ | refine zq7 ?_ | refine zq2 ?_ | refine zq9 ?_)))
  refine w_eq (limits_along_eq h hq hz) ?_
  (repeat (first | with_reducible refine zq15 ?_ | (with_reducible first | refine zq14 ?_ | refine zq11 ?_ | refine zq10 ?_ | refine zq3 ?_ | refine zq4 ?_ | refine zq5 ?_ | refine zq0 ?_ | refine zq8 ?_ | refine zq6 ?_ | refine zq1 ?_ | refine zq13 ?_ | refine zq12 ?_ | refine zq7 ?_ | refine zq2 ?_ | refine zq9 ?_)))
  refine wpO_rfl (w := encL y) (by rw [e, List.map_append]; exact atI_last _ _) ?_
  exact ⟨rfl, rfl⟩
theorem shaped_ints (q : List Int) : SeqAt.shaped (.tuple (q.map PyData.int)) = true := by
  have h1 : PyData.canLayAll0 (q.map PyData.int) = true := by
    induction q with
    | nil => rfl
    | cons k q ih => simp only [List.map_cons, PyData.canLayAll0, PyData.canLay0, ih]; rfl
  have h2 : PyData.depthAll (q.map PyData.int) = 0 := by
    induction q with
    | nil => rfl
    | cons k q ih => simp only [List.map_cons, PyData.depthAll, PyData.depth]; rw [ih (by simpa [PyData.canLayAll0, PyData.canLay0] using h1)]; rfl
  simp only [SeqAt.shaped, PyData.canLay0, PyData.depth, h1, h2]
  rfl
theorem eqv_ints : ∀ (q r : List Int), PyData.eqv (.tuple (q.map PyData.int)) (.tuple (r.map PyData.int)) = decide (q = r)
  | [], [] => rfl
  | [], _ :: _ => rfl
  | _ :: _, [] => rfl
  | k :: q, j :: r => by
    have ih := eqv_ints q r
    simp only [List.map_cons, PyData.eqv, PyData.eqvAll] at ih ⊢
    rw [ih]
    by_cases c : k = j
    · subst c
      simp
    · simp [c]
theorem cut_init {xs : List Wd} {x : Wd} : DL.cutD (xs ++ [x]) none (some (-1)) = xs := by
  unfold DL.cutD
  have e0 : HT.sIx (xs ++ [x]).length 0 none = 0 := rfl
  have e1 : HT.sIx (xs ++ [x]).length (xs ++ [x]).length (some (-1)) = xs.length := by
    show (if (-1 : Int) < 0 then ((-1 : Int) + ((xs ++ [x]).length : Int)).toNat else min (-1 : Int).toNat (xs ++ [x]).length) = _
    rw [if_pos (by decide), List.length_append, List.length_singleton]
    omega
  rw [e0, e1, List.drop_zero, Nat.sub_zero, List.take_left]
theorem cut_two {xs : List Wd} {x y : Wd} : DL.cutD (xs ++ [x] ++ [y]) none (some (-2)) = xs := by
  unfold DL.cutD
  have e0 : HT.sIx (xs ++ [x] ++ [y]).length 0 none = 0 := rfl
  have e1 : HT.sIx (xs ++ [x] ++ [y]).length (xs ++ [x] ++ [y]).length (some (-2)) = xs.length := by
    show (if (-2 : Int) < 0 then ((-2 : Int) + ((xs ++ [x] ++ [y]).length : Int)).toNat else min (-2 : Int).toNat (xs ++ [x] ++ [y]).length) = _
    rw [if_pos (by decide)]
    simp only [List.length_append, List.length_singleton]
    omega
  rw [e0, e1, List.drop_zero, Nat.sub_zero, List.append_assoc, List.take_left]
theorem cut_take {xs : List Wd} {k : Nat} (h : k ≤ xs.length) : DL.cutD xs none (some (k : Int)) = xs.take k := by
  unfold DL.cutD
  have e0 : HT.sIx xs.length 0 none = 0 := rfl
  have e1 : HT.sIx xs.length xs.length (some (k : Int)) = k := by
    show (if (k : Int) < 0 then ((k : Int) + (xs.length : Int)).toNat else min (k : Int).toNat xs.length) = _
    rw [if_neg (by omega), Int.toNat_natCast]
    omega
  rw [e0, e1, List.drop_zero, Nat.sub_zero]
theorem cut_drop {xs : List Wd} {k : Nat} (h : k ≤ xs.length) : DL.cutD xs (some (k : Int)) none = xs.drop k := by
  unfold DL.cutD
  have e0 : HT.sIx xs.length 0 (some (k : Int)) = k := by
    show (if (k : Int) < 0 then ((k : Int) + (xs.length : Int)).toNat else min (k : Int).toNat xs.length) = _
    rw [if_neg (by omega), Int.toNat_natCast]
    omega
  have e1 : HT.sIx xs.length xs.length none = xs.length := rfl
  rw [e0, e1]
  exact List.take_of_length_le (by rw [List.length_drop]; exact Nat.le_refl _)
theorem atI_two {α : Type} (xs : List α) (x y : α) : atI (xs ++ [x] ++ [y]) (-2) = some x := by
  unfold atI ixN
  rw [if_neg (by decide)]
  have e : (xs ++ [x] ++ [y]).length = xs.length + 2 := by simp
  rw [e, if_pos (by omega), Option.bind_some, show ((-2 : Int) + ((xs.length + 2 : Nat) : Int)).toNat = xs.length by omega, List.append_assoc, List.getElem?_append_right (Nat.le_refl _), Nat.sub_self]
  rfl
theorem ne_nil (q : List Int) : gNe (.tuple (q.map PyData.int)) (.tuple []) = some (.bool (decide (q ≠ []))) := by
  have e : gNe (.tuple (q.map PyData.int)) (.tuple []) = if SeqAt.shaped (.tuple (q.map PyData.int)) = true ∧ SeqAt.shaped (.tuple []) = true then some (.bool (!PyData.eqv (.tuple (q.map PyData.int)) (.tuple []))) else none := rfl
  rw [e, if_pos ⟨shaped_ints q, rfl⟩]
  have e2 := eqv_ints q []
  rw [List.map_nil] at e2
  rw [e2]
  congr 2
  cases q <;> rfl
theorem zip_enc : ∀ (A : List Lim) (P : List Int), A.length = P.length → zipD (A.map encL) (P.map PyData.int) = (A.zip P).map fun q => PyData.tuple [encL q.1, .int q.2]
  | [], [], _ => rfl
  | [], _ :: _, h => by cases h
  | _ :: _, [], h => by cases h
  | x :: A, k :: P, h => by
    simp only [List.map_cons, zipD, List.zip_cons_cons]
    rw [zip_enc A P (by simpa using h)]
theorem zip_rev : ∀ (A : List Lim) (P : List Int), A.length = P.length → A.reverse.zip P.reverse = (A.zip P).reverse
  | [], [], _ => rfl
  | [], _ :: _, h => by cases h
  | _ :: _, [], h => by cases h
  | x :: A, k :: P, h => by
    have h' : A.length = P.length := by simpa using h
    rw [List.reverse_cons, List.reverse_cons, List.zip_append (by rw [List.length_reverse, List.length_reverse, h']), zip_rev A P h']
    show (A.zip P).reverse ++ [(x, k)] = ((x, k) :: A.zip P).reverse
    rw [List.reverse_cons]
theorem put_along_eq {A : List Lim} {P : List Int} {y : Lim} (hl : A.length = P.length) (hn : P.length ≤ 100) (ha : ∀ q ∈ A.zip P, ∃ b ls, ∃ k : Nat, q = (Lim.join b ls, (k : Int)) ∧ k < ls.length ∧ ls.length ≤ 400) :
    g_put_along [.list (A.map encL), .tuple (P.map .int), encL y] S = .ok (encL ((A.zip P).foldr (fun q y => setAt q.1 q.2 y) y)) S := by
  have hs : 2000 ≤ sizeLine := by decide
  refine wpR_ok (w_def rfl ?_)
  unfold m_put_along
  refine w_seqJ (fun ρ S' => S' = S ∧ ∃ x3 x4 x5, ρ = [some (.val (.list (A.map encL))), some (.val (.tuple (P.map .int))), some (.val (encL ((A.zip P).foldr (fun q y => setAt q.1 q.2 y) y))), x3, x4, x5]) ?_ ?_
  · refine w_for (w_zipM ?_)
    (repeat (with_reducible first | refine zq14 ?_ | refine zq11 ?_ | refine zq10 ?_ | refine zq3 ?_ | refine zq4 ?_ | refine zq5 ?_ | refine zq0 ?_ | refine zq8 ?_ | refine zq6 ?_ | refine zq1 ?_ | refine zq13 ?_ | refine zq12 ?_ | refine zq7 ?_ | refine zq2 ?_ | refine zq9 ?_))
    refine ⟨_, _, rfl, rfl, ?_⟩
    rw [← List.map_reverse, ← List.map_reverse, zip_enc _ _ (by simp [hl]), zip_rev _ _ hl]
    refine wp_for (I := fun r ρ S' => S' = S ∧ ∃ (done rest : List (Lim × Int)) (x3 x4 x5 : Option Sl), r = rest.map (fun q => PyData.tuple [encL q.1, .int q.2]) ∧ A.zip P = rest.reverse ++ done ∧ ρ = [some (.val (.list (A.map encL))), some (.val (.tuple (P.map .int))), some (.val (encL (done.foldr (fun q y => setAt q.1 q.2 y) y))), x3, x4, x5]) ?_ ?_ _ _ _ ⟨rfl, [], (A.zip P).reverse, none, none, none, rfl, by simp, rfl⟩
    · rintro w r ρ S' ⟨hS, done, rest, x3, x4, x5, hr, hz, rfl⟩
      subst hS
      cases rest with
      | nil => cases hr
      | cons q rest =>
      simp only [List.map_cons, List.cons.injEq] at hr
      obtain ⟨rfl, rfl⟩ := hr
      obtain ⟨b, ls, k, rfl, hk, hls⟩ := ha q (by rw [hz]; simp)
      refine ⟨[some (.val (.list (A.map encL))), some (.val (.tuple (P.map .int))), some (.val (encL (done.foldr (fun q y => setAt q.1 q.2 y) y))), some (.val (.str (jw b))), some (.val (.tuple (ls.map encL))), some (.val (.int k))], by simp only; rw [encL_join]; rfl, ?_⟩
      (repeat (with_reducible first | refine zq14 ?_ | refine zq11 ?_ | refine zq10 ?_ | refine zq3 ?_ | refine zq4 ?_ | refine zq5 ?_ | refine zq0 ?_ | refine zq8 ?_ | refine zq6 ?_ | refine zq1 ?_ | refine zq13 ?_ | refine zq12 ?_ | refine zq7 ?_ | refine zq2 ?_ | refine zq9 ?_))
      have c1 : DL.cutD (ls.map encL) none (some (k : Int)) = (ls.take k).map encL := by rw [cut_take (by rw [List.length_map]; omega), List.map_take]
      have c2 : DL.cutD (ls.map encL) (some ((k : Int) + 1)) none = (ls.drop (k + 1)).map encL := by
        have := cut_drop (xs := ls.map encL) (k := k + 1) (by rw [List.length_map]; omega)
        rw [← List.map_drop] at this
        exact this
      rw [c1, c2]
      refine ⟨by simp only [List.length_append, List.length_cons, List.length_map, List.length_nil, List.length_take, List.length_drop]; omega, ?_⟩
      (repeat (with_reducible first | refine zq14 ?_ | refine zq11 ?_ | refine zq10 ?_ | refine zq3 ?_ | refine zq4 ?_ | refine zq5 ?_ | refine zq0 ?_ | refine zq8 ?_ | refine zq6 ?_ | refine zq1 ?_ | refine zq13 ?_ | refine zq12 ?_ | refine zq7 ?_ | refine zq2 ?_ | refine zq9 ?_))
      refine ⟨rfl, (Lim.join b ls, (k : Int)) :: done, rest, some (.val (.str (jw b))), some (.val (.tuple (ls.map encL))), some (.val (.int k)), rfl, by rw [hz]; simp, ?_⟩
      have e3 : encL (List.foldr (fun q y => setAt q.1 q.2 y) y ((Lim.join b ls, (k : Int)) :: done)) = .tuple [.str (jw b), .tuple ((ls.take k).map encL ++ encL (done.foldr (fun q y => setAt q.1 q.2 y) y) :: ((ls.drop (k + 1)).map encL ++ []))] := by
        rw [List.foldr_cons]
        show encL (.join b _) = _
        rw [encL_join, List.map_append, List.map_cons, List.append_nil, Int.toNat_natCast]
      rw [e3]
      rfl
    · rintro ρ S' ⟨hS, done, rest, x3, x4, x5, hr, hz, rfl⟩
      cases rest with
      | cons _ _ => cases hr
      | nil =>
      rw [List.reverse_nil, List.nil_append] at hz
      rw [hz]
      exact ⟨hS, x3, x4, x5, rfl⟩
  · rintro ρ S' ⟨rfl, x3, x4, x5, rfl⟩
    (repeat (first | with_reducible refine zq15 ?_ | (with_reducible first | refine zq14 ?_ | refine zq11 ?_ | refine zq10 ?_ | refine zq3 ?_ | refine zq4 ?_ | refine zq5 ?_ | refine zq0 ?_ | refine zq8 ?_ | refine zq6 ?_ | refine zq1 ?_ | refine zq13 ?_ | refine zq12 ?_ | refine zq7 ?_ | refine zq2 ?_ | refine zq9 ?_)))
    exact ⟨rfl, rfl⟩
theorem without_part_eq {l x : Lim} {p : List Int} {b : Bool} {ls : List Lim} {k : Nat} (h : At l p (.join b ls)) (hk : ls[k]? = some x) (hn : 1 < ls.length) (hz : szL l ≤ 90) :
    g_without_part [encL l, .tuple ((p ++ [(k : Int)]).map .int)] S = .ok (encL (woL l (p ++ [(k : Int)]))) S := by
  have hs : 2000 ≤ sizeLine := by decide
  have hx := h.snoc hk
  have hxl := at_len hx
  have hpl := at_len h
  have hls := len_szLs ls
  have hkl := (List.getElem?_eq_some_iff.1 hk).1
  have hsz : szL (.join b ls) = 1 + szLs ls := by simp only [szL]
  simp only [List.length_append, List.length_singleton] at hxl
  obtain ⟨fs, e1, n1⟩ := along_last h
  have e2 : (along l (p ++ [(k : Int)])).map encL = fs.map encL ++ [encL (.join b ls)] ++ [encL x] := by rw [along_snoc h hk, e1]; simp
  refine wpR_ok (w_def rfl ?_)
  unfold m_without_part
  (repeat (first | with_reducible refine zq15 ?_ | (with_reducible first | refine zq14 ?_ | refine zq11 ?_ | refine zq10 ?_ | refine zq3 ?_ | refine zq4 ?_ | refine zq5 ?_ | refine zq0 ?_ | refine zq8 ?_ | refine zq6 ?_ | refine zq1 ?_ | refine zq13 ?_ | refine zq12 ?_ | refine zq7 ?_ | refine zq2 ?_ | refine zq9 ?_)))
  refine w_eq (limits_along_eq hx (by simp; omega) (by omega)) ?_
  rw [e2]
  (repeat (first | with_reducible refine zq15 ?_ | (with_reducible first | refine zq14 ?_ | refine zq11 ?_ | refine zq10 ?_ | refine zq3 ?_ | refine zq4 ?_ | refine zq5 ?_ | refine zq0 ?_ | refine zq8 ?_ | refine zq6 ?_ | refine zq1 ?_ | refine zq13 ?_ | refine zq12 ?_ | refine zq7 ?_ | refine zq2 ?_ | refine zq9 ?_)))
  rw [show decide (0 < (((p ++ [(k : Int)]).map PyData.int).length : Int)) = true from decide_eq_true (by simp only [List.length_map, List.length_append, List.length_singleton]; omega)]
  refine w_eq require_eq ?_
  (repeat (first | with_reducible refine zq15 ?_ | (with_reducible first | refine zq14 ?_ | refine zq11 ?_ | refine zq10 ?_ | refine zq3 ?_ | refine zq4 ?_ | refine zq5 ?_ | refine zq0 ?_ | refine zq8 ?_ | refine zq6 ?_ | refine zq1 ?_ | refine zq13 ?_ | refine zq12 ?_ | refine zq7 ?_ | refine zq2 ?_ | refine zq9 ?_)))
  refine wpO_rfl (w := .tuple [.str (jw b), .tuple (ls.map encL)]) (by rw [← encL_join]; exact atI_two _ _ _) ?_
  (repeat (first | with_reducible refine zq15 ?_ | (with_reducible first | refine zq14 ?_ | refine zq11 ?_ | refine zq10 ?_ | refine zq3 ?_ | refine zq4 ?_ | refine zq5 ?_ | refine zq0 ?_ | refine zq8 ?_ | refine zq6 ?_ | refine zq1 ?_ | refine zq13 ?_ | refine zq12 ?_ | refine zq7 ?_ | refine zq2 ?_ | refine zq9 ?_)))
  rw [show decide (1 < ((ls.map encL).length : Int)) = true from decide_eq_true (by rw [List.length_map]; omega)]
  refine w_eq require_eq ?_
  (repeat (first | with_reducible refine zq15 ?_ | (with_reducible first | refine zq14 ?_ | refine zq11 ?_ | refine zq10 ?_ | refine zq3 ?_ | refine zq4 ?_ | refine zq5 ?_ | refine zq0 ?_ | refine zq8 ?_ | refine zq6 ?_ | refine zq1 ?_ | refine zq13 ?_ | refine zq12 ?_ | refine zq7 ?_ | refine zq2 ?_ | refine zq9 ?_)))
  refine wpO_rfl (w := .int k) (by first | (rw [List.map_append]; exact atI_last _ _) | rw [List.map_append]) ?_
  have c1 : DL.cutD (ls.map encL) none (some (k : Int)) = (ls.take k).map encL := by rw [cut_take (by rw [List.length_map]; omega), List.map_take]
  have c2 : DL.cutD (ls.map encL) (some ((k : Int) + 1)) none = (ls.drop (k + 1)).map encL := by
    have := cut_drop (xs := ls.map encL) (k := k + 1) (by rw [List.length_map]; omega)
    rw [← List.map_drop] at this
    exact this
  have c3 : DL.cutD (fs.map encL ++ [encL (.join b ls)] ++ [encL x]) none (some (-2)) = fs.map encL := cut_two
  have c4 : DL.cutD ((p ++ [(k : Int)]).map PyData.int) none (some (-1)) = p.map PyData.int := by rw [List.map_append]; exact cut_init
  (repeat (first | with_reducible refine zq15 ?_ | (with_reducible first | refine zq14 ?_ | refine zq11 ?_ | refine zq10 ?_ | refine zq3 ?_ | refine zq4 ?_ | refine zq5 ?_ | refine zq0 ?_ | refine zq8 ?_ | refine zq6 ?_ | refine zq1 ?_ | refine zq13 ?_ | refine zq12 ?_ | refine zq7 ?_ | refine zq2 ?_ | refine zq9 ?_)))
  rw [c1, c2, c3, c4]
  refine wpO_rfl (w := .tuple ((ls.take k ++ ls.drop (k + 1)).map encL)) (by
    simp only [gAdd, List.length_map, List.length_take, List.length_drop]
    rw [if_pos (by omega), List.map_append]) ?_
  (repeat (first | with_reducible refine zq15 ?_ | (with_reducible first | refine zq14 ?_ | refine zq11 ?_ | refine zq10 ?_ | refine zq3 ?_ | refine zq4 ?_ | refine zq5 ?_ | refine zq0 ?_ | refine zq8 ?_ | refine zq6 ?_ | refine zq1 ?_ | refine zq13 ?_ | refine zq12 ?_ | refine zq7 ?_ | refine zq2 ?_ | refine zq9 ?_)))
  have ew : woL l (p ++ [(k : Int)]) = ((fs.zip p).foldr (fun q y => setAt q.1 q.2 y) (.join b (ls.take k ++ ls.drop (k + 1)))) := by
    rw [wo_at h, e1, List.dropLast_concat]
    rfl
  rw [ew, ← encL_join]
  have hc := chain_at h
  rw [e1, List.dropLast_concat] at hc
  refine w_eq (put_along_eq n1 (by omega) fun q hq => ?_) ⟨rfl, rfl⟩
  obtain ⟨b', ls', k', e4, e5, e6⟩ := hc q hq
  refine ⟨b', ls', k', e4, e5, ?_⟩
  have := len_szLs ls'
  have : szL (.join b' ls') = 1 + szLs ls' := by simp only [szL]
  omega
structure OneOk (l : Lim) (cp : Cp) : Prop where
  bl : ∃ hi k, LimB 1 hi k l ∧ k ≤ 50
  zl : szL l ≤ 30
  c : CpOk cp
  s : ∀ a, cp = some a → a.1 < 1000 ∧ a.2 < 1000
theorem OneOk.less {l l' : Lim} {cp : Cp} (h : OneOk l cp) (hl : Less l l') : OneOk l' cp := by
  obtain ⟨hi, k, hb, hk⟩ := h.bl
  exact ⟨⟨hi, k, hl.b _ _ _ hb, hk⟩, by have := hl.z; have := h.zl; omega, h.c, h.s⟩
end
end WF
namespace DL
open PySem PySem.Spec PyProof.Rows L2
section
variable {X : Cx} {x : Str} {c : Value} {body suite : List Stmt} {b₀ : Stmt} {np pos pos' : Pos} {m mh : Ms} {fx : Xm} {cs : List Str}
def CsOk (X : Cx) (cs : List Str) (c : Value) : Prop := ∀ y ∈ cs, ∀ C, X.mg y = some (.ref C) → PySem.W.exmOne X.K (.ref C) c = some true
theorem CsOk.nil : CsOk X [] c := fun y hy => by cases hy
theorem CsOk.cons {y : Str} (hy : X.mg y = some (.ref (He.ga X.K y))) (he : PySem.W.exmOne X.K (.ref (He.ga X.K y)) c = some true) (r : CsOk X cs c) : CsOk X (y :: cs) c := fun z hz C e => by
  rcases List.mem_cons.mp hz with rfl | hz
  · rw [hy] at e
    cases e
    exact he
  · exact r z hz C e
end
end DL
namespace DL
open PySem PySem.Spec PyProof.Rows L2
inductive OutG where
  | nx (ws : List Wd) (ρ : Ev) (S : Sto)
  | rt (ws : List Wd) (S : Sto)
  | bk (ws : List Wd) (ρ : Ev) (S : Sto)
  | ct (ws : List Wd) (ρ : Ev) (S : Sto)
  | bad
def postG (K : Fg) (D : GEnds) (mu : List Addr) (B O : Addr → Prop) (H : Hp) : OutG → Prop
  | .nx ws ρ S => ∀ ys σ' H' mu' O', ExtS mu mu' O O' H H' → Rel K mu' B O' H' σ' ρ S → RpAll K mu' (fun a => B a ∨ O' a) H' ys ws → D.nx ys σ' H'
  | .rt ws S => ∀ ys H' mu' O', ExtS mu mu' O O' H H' → StOk K mu' (fun a => B a ∨ O' a) H' S → RpAll K mu' (fun a => B a ∨ O' a) H' ys ws → D.rt ys .non H'
  | .bk ws ρ S => ∀ ys σ' H' mu' O', ExtS mu mu' O O' H H' → Rel K mu' B O' H' σ' ρ S → RpAll K mu' (fun a => B a ∨ O' a) H' ys ws → D.bk ys σ' H'
  | .ct ws ρ S => ∀ ys σ' H' mu' O', ExtS mu mu' O O' H H' → Rel K mu' B O' H' σ' ρ S → RpAll K mu' (fun a => B a ∨ O' a) H' ys ws → D.ct ys σ' H'
  | .bad => False
theorem GS.weak {X : Cx} {st : Stmt} {t t' : TGn} (h : GS X st t) (w : ∀ D ys σ H, t' D ys σ H → t D ys σ H) : GS X st t' :=
  ⟨fun A S ip R n ys s₀ c fs K J gd lv s σ H D g hn k hI ht => h.run A S ip R n ys s₀ c fs K J gd lv s σ H D g hn k hI (w _ _ _ _ ht)⟩
theorem GSs.weak {X : Cx} {st : List Stmt} {t t' : TGn} (h : GSs X st t) (w : ∀ D ys σ H, t' D ys σ H → t D ys σ H) : GSs X st t' :=
  ⟨fun A S ip R n ys s₀ c fs K J gd lv s σ H D g hn k hI ht => h.run A S ip R n ys s₀ c fs K J gd lv s σ H D g hn k hI (w _ _ _ _ ht)⟩
theorem postG.mono {K : Fg} {D D' : GEnds} {mu m1 : List Addr} {B O O1 : Addr → Prop} {H H1 : Hp} {o : OutG} (e : ExtS mu m1 O O1 H H1) (h : postG K D mu B O H o) (hn : ∀ ys σ H, D.nx ys σ H → D'.nx ys σ H) (hr : ∀ ys v H, D.rt ys v H → D'.rt ys v H)
    (hb : ∀ ys σ H, D.bk ys σ H → D'.bk ys σ H) (hc : ∀ ys σ H, D.ct ys σ H → D'.ct ys σ H) : postG K D' m1 B O1 H1 o := by
  cases o with
  | nx ws ρ S => exact fun ys σ' H' mu' O' x r p => hn _ _ _ (h ys σ' H' mu' O' (e.trans x) r p)
  | rt ws S => exact fun ys H' mu' O' x s p => hr _ _ _ (h ys H' mu' O' (e.trans x) s p)
  | bk ws ρ S => exact fun ys σ' H' mu' O' x r p => hb _ _ _ (h ys σ' H' mu' O' (e.trans x) r p)
  | ct ws ρ S => exact fun ys σ' H' mu' O' x r p => hc _ _ _ (h ys σ' H' mu' O' (e.trans x) r p)
  | bad => exact h
theorem postG.ext {K : Fg} {D : GEnds} {mu m1 : List Addr} {B O O1 : Addr → Prop} {H H1 : Hp} {o : OutG} (e : ExtS mu m1 O O1 H H1) (h : postG K D mu B O H o) : postG K D m1 B O1 H1 o :=
  h.mono e (fun _ _ _ z => z) (fun _ _ _ z => z) (fun _ _ _ z => z) fun _ _ _ z => z
section
variable {X : Cx} {st : Stmt} {rest : List Stmt}
end
section
variable {P : Program} {w : World} {K : Fg} {mg : Str → Option Value} {base : Heap} {x : Str} {st : Stmt}
end
section
variable {X : Cx} {k k' : Nat} {x : Str} {st : Stmt} {ps : List Str} {g : Gd} {p pos pos' : Pos} {e : Expr} {es : List Expr} {fs : Ma} {nm : Str}
end
end DL
namespace DL
open PySem PySem.Spec PyProof.Rows L2
section
variable {X : Cx} {k k' i : Nat} {a : Addr} {x y : Str} {st : Stmt} {ps : List Str} {g : Gd} {p pos : Pos} {e : Expr} {es : List Expr} {f : Mx} {fs : Ma} {G : Bool}
end
section
variable {K : Fg} {mu : List Addr} {B O : Addr → Prop} {H : Hp} {σ : Sg} {ρ : Ev} {S : Sto}
theorem Rel.any (h : Rel K mu B O H σ ρ S) {i : Nat} (hi : ∀ w, ρ[i]? ≠ some (some w)) (v : Option V) : Rel K mu B O H (σ.set i v) ρ S := by
  have ne : ∀ {j : Nat} {w : Sl}, ρ[j]? = some (some w) → i ≠ j := fun {j w} e z => hi w (z ▸ e)
  refine ⟨by rw [List.length_set]; exact h.len, fun j w e => ?_, fun j ws e => ?_, fun j k ws ws' b e1 e2 e3 e4 => ?_, h.sto, h.bn⟩
  · rw [List.getElem?_set_ne (ne e)]
    exact h.val j w e
  · rw [List.getElem?_set_ne (ne e)]
    exact h.own j ws e
  · rw [List.getElem?_set_ne (ne e1)] at e3
    rw [List.getElem?_set_ne (ne e2)] at e4
    exact h.dif j k ws ws' b e1 e2 e3 e4
end
section
variable {X : Cx} {elt : Expr} {es : List Expr} {scope : Scope} {own : List (Str × Nat)} {pos tp np : Pos} {kt i : Nat} {y : Str} {L : List (Addr × Mx)}
end
end DL
namespace DL
open PySem PySem.Spec PyProof.Rows L2
section
variable {X : Cx}
end
end DL
namespace DL
open PySem PySem.Spec PyProof.Rows L2
section
variable {N : List Wd → Ev → Sto → Prop} {Rt : List Wd → Sto → Prop} {ρ : Ev} {S : Sto} {ws : List Wd}
end
section
variable {ρ : Ev} {S : Sto} {Q : Wd → Sto → Prop}
end
theorem w_lc0 {S : Sto} {g : Mg} {t : Mt} {fe : Mx} {ρ : Ev} {acc : List Wd} {Q : List Wd → Sto → Prop} (h : Q acc S) : wpE (lcLoop g t fe ρ [] acc S) Q := h
theorem w_lc1 {S : Sto} {g : Mg} {t : Mt} {fe : Mx} {ρ ρ1 : Ev} {w : Wd} {r acc : List Wd} {Q : List Wd → Sto → Prop} (e : g w ρ = some ρ1) (h : wpE (t ρ1 S) fun b S1 => if b = true then wpE (fe ρ1 S1) fun y S2 => acc.length < sizeLine ∧ wpE (lcLoop g t fe ρ r (acc ++ [y]) S2) Q else wpE (lcLoop g t fe ρ r acc S1) Q) : wpE (lcLoop g t fe ρ (w :: r) acc S) Q := by
  unfold lcLoop
  rw [e]
  simp only [wpE_bnd]
  refine wpE_mono h fun b S1 h1 => ?_
  cases b with
  | false => exact h1
  | true =>
    simp only [if_true, wpE_bnd] at h1 ⊢
    refine wpE_mono h1 fun y S2 h2 => ?_
    rw [if_pos h2.1]
    exact h2.2
end DL
namespace WF
open PySem PySem.Spec PyProof.Rows L2 DL
end WF
namespace WF
open PySem PySem.Spec PyProof.Rows L2 DL
end WF
namespace WF
open PySem PySem.Spec PyProof.Rows L2 DL
end WF
namespace WF
open PySem PySem.Spec PyProof.Rows L2 DL
end WF
namespace WF
open PySem PySem.Spec PyProof.Rows L2 DL
end WF
namespace WF
open PySem PySem.Spec PyProof.Rows L2 DL
end WF
namespace PL
open PySem PySem.Spec PyProof.Rows L2 DL
end PL
namespace WF
open PySem PySem.Spec PyProof.Rows L2 DL PL
section
variable {s : Site} {S : Sto} {st : Sy} {b d : Int} {p : Str × Sy}
end
end WF
namespace WF
open PySem PySem.Spec PyProof.Rows L2 DL
end WF
namespace WF
open PySem PySem.Spec PyProof.Rows L2 DL
end WF
namespace WF
open PySem PySem.Spec PyProof.Rows L2 DL
end WF
namespace WF
open PySem PySem.Spec PyProof.Rows L2 DL
end WF
namespace WF
open PySem PySem.Spec PyProof.Rows L2 DL
end WF
namespace WF
open PySem PySem.Spec PyProof.Rows L2 DL
end WF
namespace WF
open PySem PySem.Spec PyProof.Rows L2 DL
end WF
namespace WF
open PySem PySem.Spec PyProof.Rows L2 DL
end WF
namespace WF
open PySem PySem.Spec PyProof.Rows L2 DL
end WF
namespace WF
open PySem PySem.Spec PyProof.Rows L2 DL
end WF
namespace WF
open PySem PySem.Spec PyProof.Rows L2 DL
end WF
namespace WF
open PySem PySem.Spec PyProof.Rows L2 DL
end WF
namespace WF
open PySem PySem.Spec PyProof.Rows L2 DL
end WF
namespace WF
open PySem PySem.Spec PyProof.Rows L2 DL
end WF
namespace WF
open PySem PySem.Spec PyProof.Rows L2 DL
end WF
namespace WF
open PySem PySem.Spec PyProof.Rows L2 DL
end WF
namespace PL
open PySem PySem.Spec PyProof.Rows L2 DL
abbrev ltS (x y : Str) : Prop := kS x < kS y
end PL
namespace WF
open PySem PySem.Spec PyProof.Rows L2 DL PL
structure Nm (x : Str) : Prop where
  ok : NameOk x
  so : PyData.strOk x = true
  le : x.cps.size ≤ 8
structure StK (nm : List Str) (n : Nat) (st : Sy) : Prop where
  hd : ∃ p r, st = (0, p) :: r
  ln : st.length ≤ n
  rise : (st.map (·.1)).Pairwise (· < ·)
  bd : ∀ q ∈ st, 0 ≤ q.1 ∧ q.1 ≤ 1000
  us : ∀ q ∈ st, ∀ x, q.2 = some x → x ∈ nm
structure JbK (pn : List Str) (j : Job) : Prop where
  pt : j.pt ∈ pn
  wy : j.wy = ("kept" : Str) ∨ j.wy = ("fresh" : Str)
  lim : ∃ hi k, LimOk hi k j.lim ∧ k ≤ 12
  sl : 0 ≤ j.sl.1 ∧ 0 ≤ j.sl.2.1 ∧ 0 ≤ j.sl.2.2
structure Good (n : Nat) (s : Site) : Prop where
  mn : ∀ m ∈ s.mc, Nm m.1
  pn : ∀ p ∈ s.parts, Nm p.1
  jn : ∀ j ∈ s.jobs, Nm j.nm
  mr : (s.mc.map (·.1)).Pairwise ltS
  pr : (s.parts.map (·.1)).Pairwise ltS
  jr : (s.jobs.map (·.nm)).Pairwise ltS
  us : ∀ m ∈ s.mc, UsOk m.2
  st : ∀ p ∈ s.parts, StK (s.mc.map (·.1)) n p.2
  jb : ∀ j ∈ s.jobs, JbK (s.parts.map (·.1)) j
  ml : s.mc.length ≤ 20
  pl : s.parts.length ≤ 20
  jl : s.jobs.length ≤ 20
  n3 : n ≤ 300
theorem StK.up {nm : List Str} {n : Nat} {st : Sy} (h : StK nm n st) : ∀ q ∈ st, ∀ l, st.getLast? = some l → q.1 ≤ l.1 := by
  intro q hq l hl
  obtain ⟨i, rfl⟩ := List.getLast?_eq_some_iff.1 hl
  have := h.rise
  rw [List.map_append, List.pairwise_append] at this
  rcases List.mem_append.1 hq with m | m
  · have := this.2.2 q.1 (List.mem_map_of_mem m) l.1 (by simp)
    omega
  · rw [List.mem_singleton.1 m]
    exact Int.le_refl _
section
variable {s : Site} {S : Sto} {n : Nat} {d : Int} {Q : Wd → Sto → Prop}
theorem sh_iff {w : Wd} : SeqAt.shaped w = true ↔ w.canLay0 = true ∧ w.depth ≤ 60 ∨ SeqAt.shaped w = true := ⟨.inr, fun h => h.elim (fun ⟨a, b⟩ => by
  simp only [SeqAt.shaped, a, Bool.true_and, decide_eq_true_eq]
  omega) id⟩
structure Lay (k : Nat) (w : Wd) : Prop where
  cl : w.canLay0 = true
  dp : w.depth ≤ k
theorem Lay.sh {k : Nat} {w : Wd} (h : Lay k w) (hk : k ≤ 60) : SeqAt.shaped w = true := sh_iff.2 (.inl ⟨h.cl, by have := h.dp; omega⟩)
theorem Lay.mono {k k' : Nat} {w : Wd} (h : Lay k w) (hk : k ≤ k') : Lay k' w := ⟨h.cl, Nat.le_trans h.dp hk⟩
theorem lay_all {k : Nat} : ∀ {xs : List Wd}, (∀ x ∈ xs, Lay k x) → PyData.canLayAll0 xs = true ∧ PyData.depthAll xs ≤ k
  | [], _ => ⟨rfl, by simp [PyData.depthAll]⟩
  | x :: xs, h => by
    obtain ⟨a, b⟩ := lay_all fun y hy => h y (List.mem_cons_of_mem _ hy)
    have c := h x (List.mem_cons_self ..)
    exact ⟨by simp [PyData.canLayAll0, c.cl, a], by simp only [PyData.depthAll]; have := c.dp; omega⟩
theorem Lay.tup {k : Nat} {xs : List Wd} (h : ∀ x ∈ xs, Lay k x) : Lay (k + 1) (.tuple xs) := by
  obtain ⟨a, b⟩ := lay_all h
  exact ⟨by simpa [PyData.canLay0] using a, by simp only [PyData.depth]; omega⟩
theorem Lay.lst {k : Nat} {xs : List Wd} (h : ∀ x ∈ xs, Lay k x) : Lay (k + 1) (.list xs) := by
  obtain ⟨a, b⟩ := lay_all h
  exact ⟨by simpa [PyData.canLay0] using a, by simp only [PyData.depth]; omega⟩
theorem Lay.int {i : Int} {k : Nat} : Lay k (.int i) := ⟨rfl, by simp [PyData.depth]⟩
theorem Lay.non {k : Nat} : Lay k .none := ⟨rfl, by simp [PyData.depth]⟩
theorem Lay.bool {b : Bool} {k : Nat} : Lay k (.bool b) := ⟨rfl, by simp [PyData.depth]⟩
theorem Lay.str {x : Str} (h : PyData.strOk x = true) {k : Nat} : Lay k (.str x) := ⟨by simpa [PyData.canLay0] using h, by simp [PyData.depth]⟩
section
variable (G : Good n s)
include G
theorem Good.mso : ∀ y ∈ s.mc.map (·.1), PyData.strOk y = true := fun y hy => by
  obtain ⟨m, hm, rfl⟩ := List.mem_map.1 hy
  exact (G.mn m hm).so
theorem Good.pso : ∀ y ∈ s.parts.map (·.1), PyData.strOk y = true := fun y hy => by
  obtain ⟨m, hm, rfl⟩ := List.mem_map.1 hy
  exact (G.pn m hm).so
end
end
end WF
namespace PL
open PySem PySem.Spec PyProof.Rows L2 DL
noncomputable section
def lateOk (o : Option Int) (b : Int) : Bool := match o with
  | none => true
  | some l => decide (b < l)
def windD (u : Uf) (j : Job) (b : Int) : Option (Int × Option Int) := if j.wy = ("kept" : Str) ∧ (dueD u j b).isSome = true ∧ lateOk (lateD u j b) b = true then (earlyD u j b).map fun e => (e, lateD u j b) else none
end
end PL
namespace WF
open PySem PySem.Spec PyProof.Rows L2 DL PL
section
variable {s : Site} {S : Sto} {b : Int} {p : Str × Sy} {j : Job}
theorem _root_.PL.JobOk.lw {hi : Int} {k : Nat} (h : JobOk s j hi k) : LimB 1 (hi + 500) k (shiftL (tri j.sl) j.lim) := h.lim.shift fun w => by
  have := h.sl
  cases w <;> simp only [tri] <;> omega
theorem _root_.PL.JobOk.ln {hi : Int} {k : Nat} (h : JobOk s j hi k) : LimB (-500) hi k (shiftL (tri (negS j.sl)) j.lim) := h.lim.shift fun w => by
  have := h.sl
  cases w <;> simp only [tri, negS] <;> omega
end
end WF
namespace WF
open PySem PySem.Spec PyProof.Rows L2 DL
end WF
namespace WF
open PySem PySem.Spec PyProof.Rows L2 DL
end WF
namespace WF
open PySem PySem.Spec PyProof.Rows L2 DL
end WF
namespace WF
open PySem PySem.Spec PyProof.Rows L2 DL
end WF
namespace WF
open PySem PySem.Spec PyProof.Rows L2 DL
end WF
namespace WF
open PySem PySem.Spec PyProof.Rows L2 DL
end WF
namespace WF
open PySem PySem.Spec PyProof.Rows L2 DL
end WF
namespace WF
open PySem PySem.Spec PyProof.Rows L2 DL
end WF
namespace WF
open PySem PySem.Spec PyProof.Rows L2 DL PL
section
variable {s : Site} {S : Sto} {b d : Int} {j : Job} {hi : Int} {k : Nat} {st : Sy}
end
end WF
namespace PL
open PySem PySem.Spec PyProof.Rows L2 DL
def UseLe (u v : Uf) : Prop := ∀ d w, u d w ≤ v d w
theorem UseLe.refl (u : Uf) : UseLe u u := fun _ _ => Int.le_refl _
theorem UseLe.trans {u v z : Uf} (h : UseLe u v) (k : UseLe v z) : UseLe u z := fun d w => Int.le_trans (h d w) (k d w)
section
variable {u v z : Uf} {s b b' : Int} {j : Job} {l : Lim}
noncomputable def kb (u : Uf) (j : Job) : Nat → Int → Option Int
  | 0, b => some b
  | k + 1, b => (dueD u j b).bind (kb u j k)
abbrev Win := Option (Int × Option Int)
noncomputable def kw (u : Uf) (j : Job) (k : Nat) : Win := (kb u j k 0).bind (windD u j)
end
end PL
namespace WF
open PySem PySem.Spec PyProof.Rows L2 DL PL
section
variable {s : Site} {S : Sto} {b d : Int} {j : Job} {hi : Int} {k : Nat} {bs : List Int}
end
end WF
namespace WF
open PySem PySem.Spec PyProof.Rows L2 DL
end WF
namespace WF
open PySem PySem.Spec PyProof.Rows L2 DL
end WF
namespace WF
open PySem PySem.Spec PyProof.Rows L2 DL
end WF
namespace WF
open PySem PySem.Spec PyProof.Rows L2 DL PL
section
variable {s : Site} {S S0 : Sto} {b d : Int} {j : Job} {hi : Int} {k : Nat} {bs : List Int}
end
end WF
namespace WF
open PySem PySem.Spec PyProof.Rows L2 DL
end WF
namespace WF
open PySem PySem.Spec PyProof.Rows L2 DL
end WF
namespace WF
open PySem PySem.Spec PyProof.Rows L2 DL
end WF
namespace WF
open PySem PySem.Spec PyProof.Rows L2 DL
end WF
namespace WF
open PySem PySem.Spec PyProof.Rows L2 DL
end WF
namespace WF
open PySem PySem.Spec PyProof.Rows L2 DL
end WF
namespace WF
open PySem PySem.Spec PyProof.Rows L2 DL
end WF
namespace WF
open PySem PySem.Spec PyProof.Rows L2 DL
end WF
namespace WF
open PySem PySem.Spec PyProof.Rows L2 DL
end WF
namespace WF
open PySem PySem.Spec PyProof.Rows L2 DL
end WF
namespace WF
open PySem PySem.Spec PyProof.Rows L2 DL
end WF
namespace WF
open PySem PySem.Spec PyProof.Rows L2 DL
end WF
namespace WF
open PySem PySem.Spec PyProof.Rows L2 DL
end WF
namespace WF
open PySem PySem.Spec PyProof.Rows L2 DL
end WF
namespace WF
open PySem PySem.Spec PyProof.Rows L2 DL
end WF
namespace WF
open PySem PySem.Spec PyProof.Rows L2 DL
end WF
namespace WF
open PySem PySem.Spec PyProof.Rows L2 DL
end WF
namespace WF
open PySem PySem.Spec PyProof.Rows L2 DL
end WF
namespace WF
open PySem PySem.Spec PyProof.Rows L2 DL
end WF
namespace WF
open PySem PySem.Spec PyProof.Rows L2 DL
end WF
namespace WF
open PySem PySem.Spec PyProof.Rows L2 DL
end WF
namespace WF
open PySem PySem.Spec PyProof.Rows L2 DL
end WF
namespace WF
open PySem PySem.Spec PyProof.Rows L2 DL
end WF
namespace WF
open PySem PySem.Spec PyProof.Rows L2 DL
end WF
namespace WF
open PySem PySem.Spec PyProof.Rows L2 DL
end WF
namespace WF
open PySem PySem.Spec PyProof.Rows L2 DL
end WF
namespace WF
open PySem PySem.Spec PyProof.Rows L2 DL
end WF
namespace PL
open PySem PySem.Spec PyProof.Rows L2 DL
abbrev URun := Us × Us
structure UsLe (a b : Us) : Prop where
  len : a.length = b.length
  le : ∀ (i : Nat) (p q : Int × Int), a[i]? = some p → b[i]? = some q → p.1 ≤ q.1 ∧ p.2 ≤ q.2
structure RunLe (r t : URun) : Prop where
  a : UsLe r.1 t.1
  b : UsLe r.2 t.2
theorem UsLe.refl (a : Us) : UsLe a a := ⟨rfl, fun i p q h1 h2 => by rw [h1] at h2; cases h2; exact ⟨Int.le_refl _, Int.le_refl _⟩⟩
theorem UsLe.trans {a b c : Us} (h : UsLe a b) (k : UsLe b c) : UsLe a c := ⟨h.len.trans k.len, fun i p q h1 h2 => by
  have hl : i < b.length := by rw [← h.len]; exact (List.getElem?_eq_some_iff.1 h1).1
  have e := List.getElem?_eq_getElem hl
  have x1 := h.le i p _ h1 e
  have x2 := k.le i _ q e h2
  omega⟩
theorem RunLe.refl (r : URun) : RunLe r r := ⟨.refl _, .refl _⟩
theorem RunLe.trans {a b c : URun} (h : RunLe a b) (k : RunLe b c) : RunLe a c := ⟨h.a.trans k.a, h.b.trans k.b⟩
theorem UF.far {u : Uf} {s t : Int} (U : UF u s) (h : s ≤ t) : UF u t := ⟨U.pos, U.bd, U.day, fun d w hd => by rw [U.std d w (by omega), U.std t w h]⟩
end PL
namespace WF
open PySem PySem.Spec PyProof.Rows L2 DL PL
section
variable {s : Site} {S : Sto} {b : Int} {j : Job} {hi : Int} {k : Nat} {st : Sy} {r t : URun} {us vs : Us}
end
end WF
namespace WF
open PySem PySem.Spec PyProof.Rows L2 DL
end WF
namespace WF
open PySem PySem.Spec PyProof.Rows L2 DL
end WF
namespace WF
open PySem PySem.Spec PyProof.Rows L2 DL
end WF
namespace WF
open PySem PySem.Spec PyProof.Rows L2 DL
end WF
namespace WF
open PySem PySem.Spec PyProof.Rows L2 DL
end WF
namespace WF
open PySem PySem.Spec PyProof.Rows L2 DL
end WF
namespace WF
open PySem PySem.Spec PyProof.Rows L2 DL
end WF
namespace PL
open PySem PySem.Spec PyProof.Rows L2 DL
noncomputable section
end
section
variable {a b st : Sy} {d k : Int} {o : Option Str}
end
end PL
namespace WF
open PySem PySem.Spec PyProof.Rows L2 DL PL
section
variable {s : Site} {S : Sto} {n : Nat} {d : Int} {Q : Wd → Sto → Prop}
section
variable (G : Good n s)
include G
theorem Good.place {o : Option Str} (ho : ∀ x, o = some x → x ∈ s.mc.map (·.1)) : ∀ x, o = some x → PyData.strOk x = true := fun x e => G.mso x (ho x e)
end
end
end WF
namespace WF
open PySem PySem.Spec PyProof.Rows L2 DL
end WF
namespace WF
open PySem PySem.Spec PyProof.Rows L2 DL
end WF
namespace WF
open PySem PySem.Spec PyProof.Rows L2 DL
end WF
namespace WF
open PySem PySem.Spec PyProof.Rows L2 DL
end WF
namespace WF
open PySem PySem.Spec PyProof.Rows L2 DL
end WF
namespace WF
open PySem PySem.Spec PyProof.Rows L2 DL
end WF
namespace WF
open PySem PySem.Spec PyProof.Rows L2 DL
end WF
namespace WF
open PySem PySem.Spec PyProof.Rows L2 DL
end WF
namespace WF
open PySem PySem.Spec PyProof.Rows L2 DL
end WF
namespace WF
open PySem PySem.Spec PyProof.Rows L2 DL
end WF
namespace WF
open PySem PySem.Spec PyProof.Rows L2 DL
end WF
namespace WF
open PySem PySem.Spec PyProof.Rows L2 DL PL
section
variable {s : Site} {S : Sto} {n : Nat} {d : Int} {Q : Wd → Sto → Prop} {ρ : Ev}
end
end WF
namespace PL
open PySem PySem.Spec PyProof.Rows L2 DL
instance {x y : Str} : Decidable (ltS x y) := inferInstanceAs (Decidable (kS x < kS y))
end PL
namespace WF
open PySem PySem.Spec PyProof.Rows L2 DL PL
section
variable {s : Site} {S : Sto} {n : Nat} {d : Int} {Q : Wd → Sto → Prop}
theorem StK.mono {nm : List Str} {n n' : Nat} {st : Sy} (h : StK nm n st) (hn : n ≤ n') : StK nm n' st := ⟨h.hd, Nat.le_trans h.ln hn, h.rise, h.bd, h.us⟩
section
variable (G : Good n s)
include G
theorem Good.mono {n' : Nat} (h : n ≤ n') (h3 : n' ≤ 300) : Good n' s := ⟨G.mn, G.pn, G.jn, G.mr, G.pr, G.jr, G.us, fun p hp => (G.st p hp).mono h, G.jb, G.ml, G.pl, G.jl, h3⟩
omit G in
theorem lay_lim (l : Lim) {hi : Int} : ∀ {k : Nat} {lo : Int}, LimB lo hi k l → Lay (2 * k + 1) (encL l) := by
  intro k lo h
  have dp : ∀ (k : Nat) (l : Lim), LimB lo hi k l → (encL l).depth ≤ 2 * k + 1 := by
    intro k
    induction k with
    | zero =>
      intro l h
      cases l with
      | one w i => unfold encL; simp [PyData.depth, PyData.depthAll]
      | join c ls => obtain ⟨_, e, _⟩ := h.join_; cases e
    | succ k ih =>
      intro l h
      cases l with
      | one w i =>
        unfold encL
        simp only [PyData.depth, PyData.depthAll]
        omega
      | join c ls =>
        obtain ⟨k', e, _, _, hall⟩ := h.join_
        cases e
        rw [encL_join]
        have : PyData.depthAll (ls.map encL) ≤ 2 * k + 1 := by
          have hh : ∀ w ∈ ls.map encL, w.depth ≤ 2 * k + 1 := fun w hw => by
            obtain ⟨z, hz, rfl⟩ := List.mem_map.1 hw
            exact ih z (hall z hz)
          generalize ls.map encL = ws at hh
          induction ws with
          | nil => simp [PyData.depthAll]
          | cons w ws ihw =>
            simp only [PyData.depthAll]
            have := hh w (List.mem_cons_self ..)
            have := ihw fun z hz => hh z (List.mem_cons_of_mem _ hz)
            omega
        simp only [PyData.depth, PyData.depthAll]
        omega
  exact ⟨canLay_encL l, dp k l h⟩
omit G in
theorem lay_S {q : Int × Option Str} (h : ∀ x, q.2 = some x → PyData.strOk x = true) : Lay 1 (encS q) := Lay.tup (k := 0) fun w hw => by
  simp only [List.mem_cons, List.mem_nil_iff, or_false] at hw
  rcases hw with rfl | rfl
  · exact Lay.int
  · cases e : q.2 with
    | none => exact Lay.non
    | some x => exact Lay.str (h x e)
theorem Good.layM {m : Str × Us} (hm : m ∈ s.mc) : Lay 3 (PL.encM m) := Lay.tup (k := 2) fun w hw => by
  simp only [List.mem_cons, List.mem_nil_iff, or_false] at hw
  rcases hw with rfl | rfl
  · exact Lay.str (G.mn m hm).so
  · exact Lay.tup (k := 1) fun w hw => by
      obtain ⟨u, hu, rfl⟩ := List.mem_map.1 hw
      exact Lay.tup (k := 0) fun w hw => by
        simp only [List.mem_cons, List.mem_nil_iff, or_false] at hw
        rcases hw with rfl | rfl <;> exact Lay.int
theorem Good.layP {p : Str × Sy} (hp : p ∈ s.parts) : Lay 3 (encP p) := Lay.tup (k := 2) fun w hw => by
  simp only [List.mem_cons, List.mem_nil_iff, or_false] at hw
  rcases hw with rfl | rfl
  · exact Lay.str (G.pn p hp).so
  · exact Lay.tup (k := 1) fun w hw => by
      obtain ⟨q, hq, rfl⟩ := List.mem_map.1 hw
      exact lay_S fun x e => G.mso x ((G.st p hp).us q hq x e)
theorem Good.layJ {j : Job} (hj : j ∈ s.jobs) : Lay 30 (PL.encJ j) := by
  have h := G.jb j hj
  obtain ⟨hi, k, hl, hk⟩ := h.lim
  refine Lay.tup (k := 29) fun w hw => ?_
  simp only [List.mem_cons, List.mem_nil_iff, or_false] at hw
  rcases hw with rfl | rfl | rfl | rfl | rfl
  · exact Lay.str (G.jn j hj).so
  · exact Lay.str (G.pso j.pt h.pt)
  · rcases h.wy with e | e <;> rw [e] <;> exact Lay.str (by decide +kernel)
  · exact (lay_lim j.lim hl.b).mono (by omega)
  · exact (Lay.tup (k := 0) fun w hw => by
      simp only [List.mem_cons, List.mem_nil_iff, or_false] at hw
      rcases hw with rfl | rfl | rfl <;> exact Lay.int).mono (by decide)
theorem Good.layMs : Lay 4 (.tuple (s.mc.map PL.encM)) := Lay.tup (k := 3) fun w hw => by
  obtain ⟨m, hm, rfl⟩ := List.mem_map.1 hw
  exact G.layM hm
theorem Good.layJs : Lay 31 (.tuple (s.jobs.map PL.encJ)) := Lay.tup (k := 30) fun w hw => by
  obtain ⟨m, hm, rfl⟩ := List.mem_map.1 hw
  exact G.layJ hm
theorem Good.lay : Lay 32 (encSite s) := Lay.tup (k := 31) fun w hw => by
  simp only [List.mem_cons, List.mem_nil_iff, or_false] at hw
  rcases hw with rfl | rfl | rfl
  · exact G.layMs.mono (by decide)
  · exact (Lay.tup (k := 3) fun w hw => by
      obtain ⟨m, hm, rfl⟩ := List.mem_map.1 hw
      exact G.layP hm).mono (by decide)
  · exact G.layJs
omit G in
theorem eqv_refl {k : Nat} {w : Wd} (h : Lay k w) : PyData.eqv w w = true := SeqAt.eqv_refl _ h.cl
end
end
end WF
namespace DL
open PySem PySem.Spec PyProof.Rows L2
def wpB (o : Out) (x : Option (Xn × Sto)) (N : Ev → Sto → Prop) (Rt : Wd → Sto → Prop) (Ex : Xn → Sto → Prop) : Prop := match x with
  | none => wpS o N Rt
  | some (e, S) => o = .bad ∧ Ex e S
def wpC {α : Type} (r : R α) (x : Option (Xn × Sto)) (Q : α → Sto → Prop) (Ex : Xn → Sto → Prop) : Prop := match x with
  | none => wpE r Q
  | some (e, S) => r = .bad ∧ Ex e S
section
variable {N N' : Ev → Sto → Prop} {Rt Rt' : Wd → Sto → Prop} {Ex Ex' : Xn → Sto → Prop} {ρ : Ev} {S : Sto} {Q : Wd → Sto → Prop} {Qs : List Wd → Sto → Prop}
theorem wpB_mono {o : Out} {x : Option (Xn × Sto)} (h : wpB o x N Rt Ex) (n : ∀ a S, N a S → N' a S) (r : ∀ a S, Rt a S → Rt' a S) (e : ∀ a S, Ex a S → Ex' a S) : wpB o x N' Rt' Ex' := by
  cases x with
  | none => exact wpS_mono (show wpS o N Rt from h) n r
  | some p => exact ⟨h.1, e _ _ h.2⟩
theorem b_expr {f : Mx} {fx : Xm} (h : wpC (f ρ S) (fx ρ S) (fun _ S1 => N ρ S1) Ex) : wpB (sExpr f ρ S) (fx ρ S) N Rt Ex := by
  cases y : fx ρ S with
  | some r =>
    rw [y] at h
    refine ⟨?_, h.2⟩
    unfold sExpr
    rw [show f ρ S = .bad from h.1]
    rfl
  | none => rw [y] at h; exact w_expr h
theorem b_ret {f : Mx} {fx : Xm} (h : wpC (f ρ S) (fx ρ S) Rt Ex) : wpB (sRet f ρ S) (fx ρ S) N Rt Ex := by
  cases y : fx ρ S with
  | some r =>
    rw [y] at h
    refine ⟨?_, h.2⟩
    unfold sRet
    rw [show f ρ S = .bad from h.1]
    rfl
  | none => rw [y] at h; exact w_ret h
theorem b_set {i : Nat} {f : Mx} {fx : Xm} (h : wpC (f ρ S) (fx ρ S) (fun w S1 => N (ρ.set i (some (.val w))) S1) Ex) : wpB (sSet i f ρ S) (fx ρ S) N Rt Ex := by
  cases y : fx ρ S with
  | some r =>
    rw [y] at h
    refine ⟨?_, h.2⟩
    unfold sSet
    rw [show f ρ S = .bad from h.1]
    rfl
  | none => rw [y] at h; exact w_set h
theorem b_forL {g : Mg} {m : Ms} {fx : Xm} (I : List Wd → Ev → Sto → Prop) (hs : ∀ w r ρ S, I (w :: r) ρ S → ∃ ρ1, g w ρ = some ρ1 ∧ wpB (m ρ1 S) (fx ρ1 S) (I r) Rt Ex) (he : ∀ ρ S, I [] ρ S → N ρ S) : ∀ (ws : List Wd) (ρ : Ev) (S : Sto), I ws ρ S → wpB (forLoop g m ws ρ S) (xForL g fx m ws ρ S) N Rt Ex
  | [], ρ, S, h => he ρ S h
  | w :: r, ρ, S, h => by
    obtain ⟨ρ1, e, q⟩ := hs w r ρ S h
    unfold forLoop xForL
    simp only [e]
    cases y : fx ρ1 S with
    | some p =>
      rw [y] at q
      refine ⟨?_, q.2⟩
      rw [show m ρ1 S = .bad from q.1]
    | none =>
      rw [y] at q
      have q : wpS (m ρ1 S) _ _ := q
      simp only
      cases z : m ρ1 S with
      | nx ρ2 S2 => rw [z] at q; exact b_forL I hs he r ρ2 S2 q
      | rt w S2 => rw [z] at q; exact q
      | bk _ _ => rw [z] at q; exact q.elim
      | ct _ _ => rw [z] at q; exact q.elim
      | bad => rw [z] at q; exact q.elim
instance ib_expr {f : Mx} {fx : Xm} : Stp (wpB (sExpr f ρ S) (fx ρ S) N Rt Ex) (wpC (f ρ S) (fx ρ S) (fun _ S1 => N ρ S1) Ex) := ⟨b_expr⟩
instance ib_ret {f : Mx} {fx : Xm} : Stp (wpB (sRet f ρ S) (fx ρ S) N Rt Ex) (wpC (f ρ S) (fx ρ S) Rt Ex) := ⟨b_ret⟩
instance ib_set {i : Nat} {f : Mx} {fx : Xm} : Stp (wpB (sSet i f ρ S) (fx ρ S) N Rt Ex) (wpC (f ρ S) (fx ρ S) (fun w S1 => N (ρ.set i (some (.val w))) S1) Ex) := ⟨b_set⟩
end
end DL
namespace PL
open PySem PySem.Spec PyProof.Rows L2 DL
mutual
def okW (m : Nat) : Wd → Bool
  | .none => true
  | .bool _ => true
  | .int i => decide (i.natAbs ≤ m)
  | .str s => PyData.strOk s && decide (s.cps.size ≤ 8)
  | .list xs => okWs m xs
  | .tuple xs => okWs m xs
  | .dict _ => false
def okWs (m : Nat) : List Wd → Bool
  | [] => true
  | x :: xs => okW m x && okWs m xs
end
mutual
def nodes : Wd → Nat
  | .list xs => nodesL xs + 1
  | .tuple xs => nodesL xs + 1
  | .none => 1
  | .bool _ => 1
  | .int _ => 1
  | .str _ => 1
  | .dict _ => 1
def nodesL : List Wd → Nat
  | [] => 0
  | x :: xs => nodes x + nodesL xs
end
structure Gw (m n k : Nat) (w : Wd) : Prop where
  ok : okW m w = true
  nd : nodes w ≤ n
  dp : w.depth ≤ k
theorem okWs_iff {m : Nat} : ∀ {xs : List Wd}, okWs m xs = true ↔ ∀ x ∈ xs, okW m x = true
  | [] => by simp [okWs]
  | x :: xs => by simp [okWs, okWs_iff (xs := xs)]
theorem nodes_pos (w : Wd) : 1 ≤ nodes w := by cases w <;> simp [nodes]
theorem nodesL_len : ∀ (xs : List Wd), xs.length ≤ nodesL xs
  | [] => Nat.le_refl _
  | x :: xs => by
    have h1 := nodesL_len xs
    have h2 := nodes_pos x
    simp only [nodesL, List.length_cons]
    omega
theorem nodes_mem : ∀ {xs : List Wd} {x : Wd}, x ∈ xs → nodes x ≤ nodesL xs
  | y :: xs, x, h => by
    simp only [nodesL]
    rcases List.mem_cons.1 h with rfl | h
    · omega
    · have := nodes_mem h
      omega
theorem nodesL_app : ∀ (xs ys : List Wd), nodesL (xs ++ ys) = nodesL xs + nodesL ys
  | [], ys => by simp [nodesL]
  | x :: xs, ys => by simp only [List.cons_append, nodesL, nodesL_app xs ys]; omega
theorem depthAll_iff {k : Nat} : ∀ {xs : List Wd}, PyData.depthAll xs ≤ k ↔ ∀ x ∈ xs, x.depth ≤ k
  | [] => by simp [PyData.depthAll]
  | x :: xs => by
    simp only [PyData.depthAll, Nat.max_le, List.mem_cons, forall_eq_or_imp, depthAll_iff (xs := xs)]
mutual
theorem okW_facts {m : Nat} (hm : m < 2 ^ 30) : ∀ (w : Wd), okW m w = true → w.showable = true ∧ w.canLay0 = true ∧ w.leavesShort 13 = true ∧ w.weight + 1 ≤ 32 * nodes w
  | .none, _ => ⟨rfl, rfl, rfl, by simp [PyData.weight, nodes]⟩
  | .bool b, _ => ⟨rfl, rfl, rfl, by simp [PyData.weight, nodes]⟩
  | .int i, h => by
    have h1 : i.natAbs < 2 ^ 30 := by
      have := of_decide_eq_true (show decide (i.natAbs ≤ m) = true from h)
      omega
    have s := Sz.int h1
    exact ⟨s.sh, s.cl, s.ls, by have := s.wt; simp only [nodes]; omega⟩
  | .str x, h => by
    obtain ⟨h1, h2⟩ := Bool.and_eq_true_iff.mp (show (PyData.strOk x && decide (x.cps.size ≤ 8)) = true from h)
    have h2 := of_decide_eq_true h2
    have s := Sz.str h1 h2
    exact ⟨s.sh, s.cl, s.ls, by have := s.wt; simp only [nodes]; omega⟩
  | .list xs, h => by
    obtain ⟨a, b, c, d⟩ := okWs_facts hm xs h
    exact ⟨by simp [PyData.showable, a], by simp [PyData.canLay0, b], by simp [PyData.leavesShort, c], by simp only [PyData.weight, nodes]; omega⟩
  | .tuple xs, h => by
    obtain ⟨a, b, c, d⟩ := okWs_facts hm xs h
    exact ⟨by simp [PyData.showable, a], by simp [PyData.canLay0, b], by simp [PyData.leavesShort, c], by simp only [PyData.weight, nodes]; omega⟩
  | .dict xs, h => by cases h
theorem okWs_facts {m : Nat} (hm : m < 2 ^ 30) : ∀ (xs : List Wd), okWs m xs = true → PyData.showableAll xs = true ∧ PyData.canLayAll0 xs = true ∧ PyData.leavesShortAll 13 xs = true ∧ PyData.weightAll xs ≤ 32 * nodesL xs
  | [], _ => by simp [PyData.showableAll, PyData.canLayAll0, PyData.leavesShortAll, PyData.weightAll]
  | x :: xs, h => by
    obtain ⟨h1, h2⟩ := Bool.and_eq_true_iff.mp (show (okW m x && okWs m xs) = true from h)
    obtain ⟨a, b, c, d⟩ := okW_facts hm x h1
    obtain ⟨a', b', c', d'⟩ := okWs_facts hm xs h2
    exact ⟨by simp [PyData.showableAll, a, a'], by simp [PyData.canLayAll0, b, b'], by simp [PyData.leavesShortAll, c, c'], by simp only [PyData.weightAll, nodesL]; omega⟩
end
mutual
theorem okW_cl {m : Nat} : ∀ (w : Wd), okW m w = true → w.canLay0 = true
  | .none, _ => rfl
  | .bool b, _ => rfl
  | .int i, h => rfl
  | .str x, h => (Bool.and_eq_true_iff.mp (show (PyData.strOk x && decide (x.cps.size ≤ 8)) = true from h)).1
  | .list xs, h => by simp only [PyData.canLay0]; exact okWs_cl xs h
  | .tuple xs, h => by simp only [PyData.canLay0]; exact okWs_cl xs h
  | .dict xs, h => by cases h
theorem okWs_cl {m : Nat} : ∀ (xs : List Wd), okWs m xs = true → PyData.canLayAll0 xs = true
  | [], _ => rfl
  | x :: xs, h => by
    obtain ⟨h1, h2⟩ := Bool.and_eq_true_iff.mp (show (okW m x && okWs m xs) = true from h)
    simp [PyData.canLayAll0, okW_cl x h1, okWs_cl xs h2]
end
mutual
theorem okW_mono {m m' : Nat} (hm : m ≤ m') : ∀ (w : Wd), okW m w = true → okW m' w = true
  | .none, _ => rfl
  | .bool b, _ => rfl
  | .int i, h => by
    have := of_decide_eq_true (show decide (i.natAbs ≤ m) = true from h)
    exact decide_eq_true (show i.natAbs ≤ m' by omega)
  | .str x, h => h
  | .list xs, h => okWs_mono hm xs h
  | .tuple xs, h => okWs_mono hm xs h
  | .dict xs, h => by cases h
theorem okWs_mono {m m' : Nat} (hm : m ≤ m') : ∀ (xs : List Wd), okWs m xs = true → okWs m' xs = true
  | [], _ => rfl
  | x :: xs, h => by
    obtain ⟨h1, h2⟩ := Bool.and_eq_true_iff.mp (show (okW m x && okWs m xs) = true from h)
    simp [okWs, okW_mono hm x h1, okWs_mono hm xs h2]
end
theorem Gw.sz {m n k : Nat} {w : Wd} (h : Gw m n k w) (hm : m < 2 ^ 30) : Sz (32 * n) k w := by
  obtain ⟨a, b, c, d⟩ := okW_facts hm w h.ok
  have := h.nd
  exact ⟨a, b, h.dp, c, by omega⟩
theorem Gw.mono {m n k m' n' k' : Nat} {w : Wd} (h : Gw m n k w) (h1 : m ≤ m') (h2 : n ≤ n') (h3 : k ≤ k') : Gw m' n' k' w := ⟨okW_mono h1 w h.ok, Nat.le_trans h.nd h2, Nat.le_trans h.dp h3⟩
theorem Gw.tup {m n k : Nat} {xs : List Wd} (h : ∀ x ∈ xs, okW m x = true) (hd : ∀ x ∈ xs, x.depth ≤ k) (hn : nodesL xs + 1 ≤ n) : Gw m n (k + 1) (.tuple xs) := ⟨by simp only [okW]; exact okWs_iff.2 h, by simpa [nodes] using hn, by simp only [PyData.depth]; have := depthAll_iff.2 hd; omega⟩
theorem Gw.lst {m n k : Nat} {xs : List Wd} (h : ∀ x ∈ xs, okW m x = true) (hd : ∀ x ∈ xs, x.depth ≤ k) (hn : nodesL xs + 1 ≤ n) : Gw m n (k + 1) (.list xs) := ⟨by simp only [okW]; exact okWs_iff.2 h, by simpa [nodes] using hn, by simp only [PyData.depth]; have := depthAll_iff.2 hd; omega⟩
theorem Gw.mem {m n k : Nat} {xs : List Wd} (h : Gw m n (k + 1) (.tuple xs)) {x : Wd} (hx : x ∈ xs) : Gw m n k x := ⟨okWs_iff.1 (show okWs m xs = true from h.ok) x hx, by have := nodes_mem hx; have := h.nd; simp only [nodes] at this; omega, by have := h.dp; simp only [PyData.depth] at this; exact depthAll_iff.1 (show PyData.depthAll xs ≤ k by omega) x hx⟩
def Nw (w : Wd) : Prop := ∃ m n k, Gw m n k w ∧ n ≤ 100000 ∧ k ≤ 60
section
variable {w : Wd} {xs : List Wd}
theorem Nw.mem (h : Nw (.tuple xs)) {x : Wd} (hx : x ∈ xs) : Nw x := by
  obtain ⟨m, n, k, g, h1, h2⟩ := h
  refine ⟨m, n, k, ⟨okWs_iff.1 (show okWs m xs = true from g.ok) x hx, ?_, ?_⟩, h1, h2⟩
  · have a := nodes_mem hx
    have b := g.nd
    simp only [nodes] at b
    omega
  · have b := g.dp
    simp only [PyData.depth] at b
    exact depthAll_iff.1 (show PyData.depthAll xs ≤ k by omega) x hx
theorem Nw.len (h : Nw (.tuple xs)) : xs.length ≤ 100000 := by
  obtain ⟨m, n, k, g, h1, h2⟩ := h
  have a := nodesL_len xs
  have b := g.nd
  simp only [nodes] at b
  omega
theorem siz5 : 100000 ≤ sizeLine := by decide
theorem Nw.line (h : Nw (.tuple xs)) : xs.length ≤ sizeLine := Nat.le_trans h.len siz5
theorem Nw.shaped (h : Nw w) : SeqAt.shaped w = true := by
  obtain ⟨m, n, k, g, h1, h2⟩ := h
  have b := g.dp
  simp only [SeqAt.shaped, okW_cl w g.ok, Bool.true_and, decide_eq_true_eq]
  omega
theorem Nw.kind (h : Nw w) : ∃ k, kindD w = some k := by
  obtain ⟨m, n, k, g, h1, h2⟩ := h
  have := g.ok
  cases w <;> first | exact ⟨_, rfl⟩ | cases this
end
section
variable {g : Mg} {t : Mt} {fe : Mx} {ρ : Ev} {S : Sto} {Q : List Wd → Sto → Prop}
end
theorem b_range {n : Nat} {g : Mg} {m : Ms} {fx : Xm} {N : Ev → Sto → Prop} {Rt : Wd → Sto → Prop} {Ex : Xn → Sto → Prop} (J : Nat → Ev → Sto → Prop) (hs : ∀ i ρ S, i < n → J i ρ S → ∃ ρ1, g (.int i) ρ = some ρ1 ∧ wpB (m ρ1 S) (fx ρ1 S) (J (i + 1)) Rt Ex) (he : ∀ ρ S, J n ρ S → N ρ S)
    {ρ : Ev} {S : Sto} (h : J 0 ρ S) : wpB (forLoop g m (rangeD 0 n) ρ S) (xForL g fx m (rangeD 0 n) ρ S) N Rt Ex := by
  have gen : ∀ (k i : Nat), i + k = n → ∀ (ρ : Ev) (S : Sto), J i ρ S → wpB (forLoop g m ((List.range' i k).map fun (j : Nat) => (.int (0 + j) : Wd)) ρ S) (xForL g fx m ((List.range' i k).map fun (j : Nat) => (.int (0 + j) : Wd)) ρ S) N Rt Ex := by
    intro k
    induction k with
    | zero =>
      intro i hi ρ S h
      obtain rfl : i = n := by omega
      exact he ρ S h
    | succ k ih =>
      intro i hi ρ S h
      refine b_forL (fun r ρ S => (r = (List.range' i (k + 1)).map (fun (j : Nat) => (.int (0 + j) : Wd)) ∧ J i ρ S) ∨ ∃ i' k', i' + k' = n ∧ r = (List.range' i' k').map (fun (j : Nat) => (.int (0 + j) : Wd)) ∧ J i' ρ S) ?_ ?_ _ _ _ (.inl ⟨rfl, h⟩)
      · have st : ∀ (i' k' : Nat) (w : Wd) (r : List Wd) (ρ : Ev) (S : Sto), i' + k' = n → w :: r = (List.range' i' k').map (fun (j : Nat) => (.int (0 + j) : Wd)) → J i' ρ S → ∃ ρ1, g w ρ = some ρ1 ∧ wpB (m ρ1 S) (fx ρ1 S) (fun ρ S => (r = (List.range' i (k + 1)).map (fun (j : Nat) => (.int (0 + j) : Wd)) ∧ J i ρ S) ∨ ∃ i' k', i' + k' = n ∧ r = (List.range' i' k').map (fun (j : Nat) => (.int (0 + j) : Wd)) ∧ J i' ρ S) Rt Ex := by
          intro i' k' w r ρ S e1 e2 h
          cases k' with
          | zero => simp at e2
          | succ k' =>
            rw [List.range'_succ, List.map_cons] at e2
            cases e2
            obtain ⟨ρ1, a, b⟩ := hs i' ρ S (by omega) h
            refine ⟨ρ1, by simpa using a, wpB_mono b (fun ρ2 S2 h2 => .inr ⟨i' + 1, k', by omega, rfl, h2⟩) (fun _ _ z => z) fun _ _ z => z⟩
        rintro w r ρ S (⟨e, h⟩ | ⟨i', k', e1, e2, h⟩)
        · exact st i (k + 1) w r ρ S hi e h
        · exact st i' k' w r ρ S e1 e2 h
      · rintro ρ S (⟨e, h⟩ | ⟨i', k', e1, e2, h⟩)
        · simp at e
        · cases k' with
          | zero =>
            obtain rfl : i' = n := by omega
            exact he ρ S h
          | succ k' => simp [List.range'_succ] at e2
  have := gen n 0 (by omega) ρ S h
  rw [rangeD, List.range_eq_range']
  exact this
end PL
namespace WF
open PySem PySem.Spec PyProof.Rows L2 DL
end WF
namespace WF
open PySem PySem.Spec PyProof.Rows L2 DL
end WF
namespace WF
open PySem PySem.Spec PyProof.Rows L2 DL PL
def fedR (c : List Int) (a l t : Int) : Rec := .dct [("cells", .list (c.map PyData.int)), ("at", .int a), ("left", .int l), ("count", .int t)]
def FedOk (S0 S : Sto) : Prop := ∃ c a l t, S = fedR c a l t :: S0
section
variable {c : List Int} {a l t i : Int} {S0 : Sto} {k : Sto → Prop} {K : Wd → Prop}
instance iwd_count : Stp (oW 0 = oW 0 ∧ wpO (recPut (fedR c a l t :: S0) 0 "count" (.int i)) k) (k (fedR c a l i :: S0)) := ⟨fun h => ⟨rfl, _, rfl, h⟩⟩
instance iwd_left : Stp (oW 0 = oW 0 ∧ wpO (recPut (fedR c a l t :: S0) 0 "left" (.int i)) k) (k (fedR c a i t :: S0)) := ⟨fun h => ⟨rfl, _, rfl, h⟩⟩
instance iwd_at : Stp (oW 0 = oW 0 ∧ wpO (recPut (fedR c a l t :: S0) 0 "at" (.int i)) k) (k (fedR c i l t :: S0)) := ⟨fun h => ⟨rfl, _, rfl, h⟩⟩
end
section
variable {S S0 : Sto} {Q : Wd → Sto → Prop}
theorem feed_k01_eq {ns : List Int} (h : ns.length ≤ 63) : g_feed_k01 [.list (ns.map PyData.int)] [] = .ok (oW 0) [fedR ns 0 0 0] := by
  refine wpR_ok (w_def rfl ?_)
  unfold m_feed_k01
  (repeat (first | with_reducible refine zq15 ?_ | (with_reducible first | refine zq14 ?_ | refine zq11 ?_ | refine zq10 ?_ | refine zq3 ?_ | refine zq4 ?_ | refine zq5 ?_ | refine zq0 ?_ | refine zq8 ?_ | refine zq6 ?_ | refine zq1 ?_ | refine zq13 ?_ | refine zq12 ?_ | refine zq7 ?_ | refine zq2 ?_ | refine zq9 ?_)))
  have e : DL.cutD (ns.map PyData.int) none (some 63) = ns.map PyData.int := by
    refine cut_whole ⟨rfl, ?_⟩
    show min 63 (ns.map PyData.int).length = _
    rw [List.length_map]
    omega
  rw [e]
  exact ⟨rfl, rfl⟩
theorem draw_k01_wp {m : Int} (hS : FedOk S0 S) (h0 : 0 < m) (h1 : m < 1073741824) (q : ∀ d S', 0 ≤ d → d < m → FedOk S0 S' → Q (.int d) S') : wpE (g_draw_k01 [oW 0, .int m] S) Q := by
  obtain ⟨c, a, l, t, rfl⟩ := hS
  have fin : ∀ (i : Int) (S' : Sto), FedOk S0 S' → Q (.int (i % m)) S' := fun i S' h => q _ S' (Int.emod_nonneg _ (by omega)) (Int.emod_lt_of_pos _ h0) h
  have ok : ∀ c a l t, FedOk S0 (fedR c a l t :: S0) := fun c a l t => ⟨c, a, l, t, rfl⟩
  refine w_def rfl ?_
  unfold m_draw_k01
  refine zq15 ?_
  (repeat (with_reducible first | refine zq14 ?_ | refine zq11 ?_ | refine zq10 ?_ | refine zq3 ?_ | refine zq4 ?_ | refine zq5 ?_ | refine zq0 ?_ | refine zq8 ?_ | refine zq6 ?_ | refine zq1 ?_ | refine zq13 ?_ | refine zq12 ?_ | refine zq7 ?_ | refine zq2 ?_ | refine zq9 ?_))
  refine zq15 ?_
  (repeat (with_reducible first | refine zq14 ?_ | refine zq11 ?_ | refine zq10 ?_ | refine zq3 ?_ | refine zq4 ?_ | refine zq5 ?_ | refine zq0 ?_ | refine zq8 ?_ | refine zq6 ?_ | refine zq1 ?_ | refine zq13 ?_ | refine zq12 ?_ | refine zq7 ?_ | refine zq2 ?_ | refine zq9 ?_))
  refine w_b (fun hl => ?_) (fun hl => ?_)
  · (repeat (first | with_reducible refine zq15 ?_ | (with_reducible first | refine zq14 ?_ | refine zq11 ?_ | refine zq10 ?_ | refine zq3 ?_ | refine zq4 ?_ | refine zq5 ?_ | refine zq0 ?_ | refine zq8 ?_ | refine zq6 ?_ | refine zq1 ?_ | refine zq13 ?_ | refine zq12 ?_ | refine zq7 ?_ | refine zq2 ?_ | refine zq9 ?_)))
    exact fin _ _ (ok _ _ _ _)
  refine zq15 ?_
  (repeat (with_reducible first | refine zq14 ?_ | refine zq11 ?_ | refine zq10 ?_ | refine zq3 ?_ | refine zq4 ?_ | refine zq5 ?_ | refine zq0 ?_ | refine zq8 ?_ | refine zq6 ?_ | refine zq1 ?_ | refine zq13 ?_ | refine zq12 ?_ | refine zq7 ?_ | refine zq2 ?_ | refine zq9 ?_))
  refine zq15 ?_
  (repeat (with_reducible first | refine zq14 ?_ | refine zq11 ?_ | refine zq10 ?_ | refine zq3 ?_ | refine zq4 ?_ | refine zq5 ?_ | refine zq0 ?_ | refine zq8 ?_ | refine zq6 ?_ | refine zq1 ?_ | refine zq13 ?_ | refine zq12 ?_ | refine zq7 ?_ | refine zq2 ?_ | refine zq9 ?_))
  refine w_seqJ (fun ρ S => ∃ z : Int, S = fedR c (a + 1) l (t + 1) :: S0 ∧ ρ = [some (.val (oW 0)), some (.val (.int m)), none, some (.val (.int a)), some (.val (.int z)), none]) ?_ ?_
  · (repeat (with_reducible first | refine zq14 ?_ | refine zq11 ?_ | refine zq10 ?_ | refine zq3 ?_ | refine zq4 ?_ | refine zq5 ?_ | refine zq0 ?_ | refine zq8 ?_ | refine zq6 ?_ | refine zq1 ?_ | refine zq13 ?_ | refine zq12 ?_ | refine zq7 ?_ | refine zq2 ?_ | refine zq9 ?_))
    refine wpO_rfl gNe_cells ?_
    (repeat (with_reducible first | refine zq14 ?_ | refine zq11 ?_ | refine zq10 ?_ | refine zq3 ?_ | refine zq4 ?_ | refine zq5 ?_ | refine zq0 ?_ | refine zq8 ?_ | refine zq6 ?_ | refine zq1 ?_ | refine zq13 ?_ | refine zq12 ?_ | refine zq7 ?_ | refine zq2 ?_ | refine zq9 ?_))
    refine w_b (fun hc => ?_) (fun hc => ?_)
    · have hc1 : 0 < c.length := by
        cases c with
        | nil => cases hc
        | cons _ _ => exact Nat.succ_pos _
      (repeat (with_reducible first | refine zq14 ?_ | refine zq11 ?_ | refine zq10 ?_ | refine zq3 ?_ | refine zq4 ?_ | refine zq5 ?_ | refine zq0 ?_ | refine zq8 ?_ | refine zq6 ?_ | refine zq1 ?_ | refine zq13 ?_ | refine zq12 ?_ | refine zq7 ?_ | refine zq2 ?_ | refine zq9 ?_))
      refine wo_mod (by simpa using hc1) ?_
      have hx : 0 ≤ a % ((c.map PyData.int).length : Int) := Int.emod_nonneg _ (by rw [List.length_map]; omega)
      have hy : a % ((c.map PyData.int).length : Int) < (c.map PyData.int).length := Int.emod_lt_of_pos _ (by simpa using hc1)
      (repeat (with_reducible first | refine zq14 ?_ | refine zq11 ?_ | refine zq10 ?_ | refine zq3 ?_ | refine zq4 ?_ | refine zq5 ?_ | refine zq0 ?_ | refine zq8 ?_ | refine zq6 ?_ | refine zq1 ?_ | refine zq13 ?_ | refine zq12 ?_ | refine zq7 ?_ | refine zq2 ?_ | refine zq9 ?_))
      refine wpO_rfl (atI_in hx hy) ?_
      rw [List.getElem_map]
      exact ⟨_, rfl, rfl⟩
    · (repeat (with_reducible first | refine zq14 ?_ | refine zq11 ?_ | refine zq10 ?_ | refine zq3 ?_ | refine zq4 ?_ | refine zq5 ?_ | refine zq0 ?_ | refine zq8 ?_ | refine zq6 ?_ | refine zq1 ?_ | refine zq13 ?_ | refine zq12 ?_ | refine zq7 ?_ | refine zq2 ?_ | refine zq9 ?_))
      exact ⟨_, rfl, rfl⟩
  · rintro ρ S ⟨z, rfl, rfl⟩
    refine zq15 ?_
    refine w_ifS ?_
    refine wpE_mono (Q := fun b S1 => S1 = fedR c (a + 1) l (t + 1) :: S0) ?_ ?_
    · (repeat (with_reducible first | refine zq14 ?_ | refine zq11 ?_ | refine zq10 ?_ | refine zq3 ?_ | refine zq4 ?_ | refine zq5 ?_ | refine zq0 ?_ | refine zq8 ?_ | refine zq6 ?_ | refine zq1 ?_ | refine zq13 ?_ | refine zq12 ?_ | refine zq7 ?_ | refine zq2 ?_ | refine zq9 ?_))
      refine w_b (fun hl => ?_) (fun hl => ?_)
      · (repeat (with_reducible first | refine zq14 ?_ | refine zq11 ?_ | refine zq10 ?_ | refine zq3 ?_ | refine zq4 ?_ | refine zq5 ?_ | refine zq0 ?_ | refine zq8 ?_ | refine zq6 ?_ | refine zq1 ?_ | refine zq13 ?_ | refine zq12 ?_ | refine zq7 ?_ | refine zq2 ?_ | refine zq9 ?_))
        rfl
      · rfl
    rintro b _ rfl
    cases b with
    | true =>
      (repeat (with_reducible first | refine zq14 ?_ | refine zq11 ?_ | refine zq10 ?_ | refine zq3 ?_ | refine zq4 ?_ | refine zq5 ?_ | refine zq0 ?_ | refine zq8 ?_ | refine zq6 ?_ | refine zq1 ?_ | refine zq13 ?_ | refine zq12 ?_ | refine zq7 ?_ | refine zq2 ?_ | refine zq9 ?_))
      refine zq15 ?_
      (repeat (with_reducible first | refine zq14 ?_ | refine zq11 ?_ | refine zq10 ?_ | refine zq3 ?_ | refine zq4 ?_ | refine zq5 ?_ | refine zq0 ?_ | refine zq8 ?_ | refine zq6 ?_ | refine zq1 ?_ | refine zq13 ?_ | refine zq12 ?_ | refine zq7 ?_ | refine zq2 ?_ | refine zq9 ?_))
      exact fin _ _ (ok _ _ _ _)
    | false =>
      (repeat (with_reducible first | refine zq14 ?_ | refine zq11 ?_ | refine zq10 ?_ | refine zq3 ?_ | refine zq4 ?_ | refine zq5 ?_ | refine zq0 ?_ | refine zq8 ?_ | refine zq6 ?_ | refine zq1 ?_ | refine zq13 ?_ | refine zq12 ?_ | refine zq7 ?_ | refine zq2 ?_ | refine zq9 ?_))
      refine zq15 ?_
      (repeat (with_reducible first | refine zq14 ?_ | refine zq11 ?_ | refine zq10 ?_ | refine zq3 ?_ | refine zq4 ?_ | refine zq5 ?_ | refine zq0 ?_ | refine zq8 ?_ | refine zq6 ?_ | refine zq1 ?_ | refine zq13 ?_ | refine zq12 ?_ | refine zq7 ?_ | refine zq2 ?_ | refine zq9 ?_))
      refine zq15 ?_
      generalize hx : (z % 1000000531 + 230017 * (t + 1) + 101) % 2147482951 = x
      have x0 : 0 ≤ x := by rw [← hx]; exact Int.emod_nonneg _ (by decide)
      have x1 : x < 2147482951 := by rw [← hx]; exact Int.emod_lt_of_pos _ (by decide)
      (repeat (with_reducible first | refine zq14 ?_ | refine zq11 ?_ | refine zq10 ?_ | refine zq3 ?_ | refine zq4 ?_ | refine zq5 ?_ | refine zq0 ?_ | refine zq8 ?_ | refine zq6 ?_ | refine zq1 ?_ | refine zq13 ?_ | refine zq12 ?_ | refine zq7 ?_ | refine zq2 ?_ | refine zq9 ?_))
      generalize hy : (x * x + 5100007 * (t + 1) + 59) % 2147482949 = y
      have y0 : 0 ≤ y := by rw [← hy]; exact Int.emod_nonneg _ (by decide)
      have y1 : y < 2147482949 := by rw [← hy]; exact Int.emod_lt_of_pos _ (by decide)
      (repeat (with_reducible first | refine zq14 ?_ | refine zq11 ?_ | refine zq10 ?_ | refine zq3 ?_ | refine zq4 ?_ | refine zq5 ?_ | refine zq0 ?_ | refine zq8 ?_ | refine zq6 ?_ | refine zq1 ?_ | refine zq13 ?_ | refine zq12 ?_ | refine zq7 ?_ | refine zq2 ?_ | refine zq9 ?_))
      exact fin _ _ (ok _ _ _ _)
theorem pickK {ys : List Wd} {d : Int} {K : Wd → Prop} (h0 : 0 ≤ d) (h1 : d < ys.length) (q : ∀ y ∈ ys, K y) : wpO (gIx S (.list ys) (.int d)) K :=
  wpO_rfl (atI_in h0 h1) (q _ (List.getElem_mem _))
def zK : Nat → Nat
  | 0 => 1
  | n + 1 => 1 + 3 * zK n
theorem zK_pos : ∀ n, 1 ≤ zK n
  | 0 => Nat.le_refl _
  | n + 1 => by simp only [zK]; omega
theorem szLsK {m : Nat} : ∀ {ls : List Lim}, (∀ l ∈ ls, szL l ≤ m) → szLs ls ≤ ls.length * m
  | [], _ => by simp [szLs]
  | l :: ls, h => by
    have h1 := h l (List.mem_cons_self ..)
    have h2 := szLsK fun x hx => h x (List.mem_cons_of_mem l hx)
    simp only [szLs, List.length_cons, Nat.succ_mul]
    omega
theorem limit_k01_wp : ∀ (n k : Nat) (S : Sto) (Q : Wd → Sto → Prop), FedOk S0 S → n < k → (∀ l S', LimB 1 99 n l → szL l ≤ zK n → FedOk S0 S' → Q (encL l) S') → wpE (g_limit_k01 k [oW 0, .int n] S) Q := by
  have hz := siz
  intro n
  induction n with
  | zero =>
    intro k S Q hS hk q
    obtain ⟨k, rfl⟩ : ∃ k', k = k' + 1 := ⟨k - 1, by omega⟩
    refine w_def rfl ?_
    unfold m_limit_k01
    refine zq15 ?_
    (repeat (with_reducible first | refine zq14 ?_ | refine zq11 ?_ | refine zq10 ?_ | refine zq3 ?_ | refine zq4 ?_ | refine zq5 ?_ | refine zq0 ?_ | refine zq8 ?_ | refine zq6 ?_ | refine zq1 ?_ | refine zq13 ?_ | refine zq12 ?_ | refine zq7 ?_ | refine zq2 ?_ | refine zq9 ?_))
    refine draw_k01_wp hS (by decide) (by decide) fun d S' hd0 hd1 hS' => ?_
    refine zq15 ?_
    refine w_ifS ?_
    refine wpE_mono (Q := fun b S1 => S1 = S' ∧ b = true) ?_ ?_
    · (repeat (with_reducible first | refine zq14 ?_ | refine zq11 ?_ | refine zq10 ?_ | refine zq3 ?_ | refine zq4 ?_ | refine zq5 ?_ | refine zq0 ?_ | refine zq8 ?_ | refine zq6 ?_ | refine zq1 ?_ | refine zq13 ?_ | refine zq12 ?_ | refine zq7 ?_ | refine zq2 ?_ | refine zq9 ?_))
      refine w_b (fun _ => ⟨rfl, rfl⟩) fun _ => ?_
      (repeat (with_reducible first | refine zq14 ?_ | refine zq11 ?_ | refine zq10 ?_ | refine zq3 ?_ | refine zq4 ?_ | refine zq5 ?_ | refine zq0 ?_ | refine zq8 ?_ | refine zq6 ?_ | refine zq1 ?_ | refine zq13 ?_ | refine zq12 ?_ | refine zq7 ?_ | refine zq2 ?_ | refine zq9 ?_))
      exact ⟨rfl, rfl⟩
    rintro b _ ⟨rfl, rfl⟩
    (repeat (with_reducible first | refine zq14 ?_ | refine zq11 ?_ | refine zq10 ?_ | refine zq3 ?_ | refine zq4 ?_ | refine zq5 ?_ | refine zq0 ?_ | refine zq8 ?_ | refine zq6 ?_ | refine zq1 ?_ | refine zq13 ?_ | refine zq12 ?_ | refine zq7 ?_ | refine zq2 ?_ | refine zq9 ?_))
    refine zq15 ?_
    (repeat (with_reducible first | refine zq14 ?_ | refine zq11 ?_ | refine zq10 ?_ | refine zq3 ?_ | refine zq4 ?_ | refine zq5 ?_ | refine zq0 ?_ | refine zq8 ?_ | refine zq6 ?_ | refine zq1 ?_ | refine zq13 ?_ | refine zq12 ?_ | refine zq7 ?_ | refine zq2 ?_ | refine zq9 ?_))
    refine draw_k01_wp hS' (by decide) (by decide) fun d2 S2 h20 h21 hS2 => ?_
    refine pickK h20 (by simpa using h21) fun y hy => ?_
    obtain ⟨i, rfl, hi⟩ : ∃ i : Int, y = .int i ∧ 1 ≤ i ∧ i ≤ 99 := by
      simp only [List.mem_cons, List.mem_nil_iff, or_false] at hy
      rcases hy with rfl | rfl | rfl | rfl | rfl | rfl <;> exact ⟨_, rfl, by decide, by decide⟩
    (repeat (with_reducible first | refine zq14 ?_ | refine zq11 ?_ | refine zq10 ?_ | refine zq3 ?_ | refine zq4 ?_ | refine zq5 ?_ | refine zq0 ?_ | refine zq8 ?_ | refine zq6 ?_ | refine zq1 ?_ | refine zq13 ?_ | refine zq12 ?_ | refine zq7 ?_ | refine zq2 ?_ | refine zq9 ?_))
    refine pickK (Int.emod_nonneg _ (by decide)) (by have := Int.emod_lt_of_pos d (show (0 : Int) < 3 by decide); simpa using this) fun y hy => ?_
    obtain ⟨w, rfl⟩ : ∃ w : CW, y = .str w.str := by
      simp only [List.mem_cons, List.mem_nil_iff, or_false] at hy
      rcases hy with rfl | rfl | rfl
      · exact ⟨.hours, rfl⟩
      · exact ⟨.cycles, rfl⟩
      · exact ⟨.days, rfl⟩
    (repeat (with_reducible first | refine zq14 ?_ | refine zq11 ?_ | refine zq10 ?_ | refine zq3 ?_ | refine zq4 ?_ | refine zq5 ?_ | refine zq0 ?_ | refine zq8 ?_ | refine zq6 ?_ | refine zq1 ?_ | refine zq13 ?_ | refine zq12 ?_ | refine zq7 ?_ | refine zq2 ?_ | refine zq9 ?_))
    exact q (.one w i) _ (LimB.mk_one hi) (Nat.le_refl _) hS2
  | succ n ih =>
    intro k S Q hS hk q
    obtain ⟨k, rfl⟩ : ∃ k', k = k' + 1 := ⟨k - 1, by omega⟩
    refine w_def rfl ?_
    unfold m_limit_k01
    refine zq15 ?_
    (repeat (with_reducible first | refine zq14 ?_ | refine zq11 ?_ | refine zq10 ?_ | refine zq3 ?_ | refine zq4 ?_ | refine zq5 ?_ | refine zq0 ?_ | refine zq8 ?_ | refine zq6 ?_ | refine zq1 ?_ | refine zq13 ?_ | refine zq12 ?_ | refine zq7 ?_ | refine zq2 ?_ | refine zq9 ?_))
    refine draw_k01_wp hS (by decide) (by decide) fun d S' hd0 hd1 hS' => ?_
    refine zq15 ?_
    refine w_ifS ?_
    refine wpE_mono (Q := fun b S1 => S1 = S') ?_ ?_
    · (repeat (with_reducible first | refine zq14 ?_ | refine zq11 ?_ | refine zq10 ?_ | refine zq3 ?_ | refine zq4 ?_ | refine zq5 ?_ | refine zq0 ?_ | refine zq8 ?_ | refine zq6 ?_ | refine zq1 ?_ | refine zq13 ?_ | refine zq12 ?_ | refine zq7 ?_ | refine zq2 ?_ | refine zq9 ?_))
      refine w_b (fun _ => rfl) fun _ => ?_
      (repeat (with_reducible first | refine zq14 ?_ | refine zq11 ?_ | refine zq10 ?_ | refine zq3 ?_ | refine zq4 ?_ | refine zq5 ?_ | refine zq0 ?_ | refine zq8 ?_ | refine zq6 ?_ | refine zq1 ?_ | refine zq13 ?_ | refine zq12 ?_ | refine zq7 ?_ | refine zq2 ?_ | refine zq9 ?_))
      rfl
    rintro b _ rfl
    cases b with
    | true =>
      (repeat (with_reducible first | refine zq14 ?_ | refine zq11 ?_ | refine zq10 ?_ | refine zq3 ?_ | refine zq4 ?_ | refine zq5 ?_ | refine zq0 ?_ | refine zq8 ?_ | refine zq6 ?_ | refine zq1 ?_ | refine zq13 ?_ | refine zq12 ?_ | refine zq7 ?_ | refine zq2 ?_ | refine zq9 ?_))
      refine zq15 ?_
      (repeat (with_reducible first | refine zq14 ?_ | refine zq11 ?_ | refine zq10 ?_ | refine zq3 ?_ | refine zq4 ?_ | refine zq5 ?_ | refine zq0 ?_ | refine zq8 ?_ | refine zq6 ?_ | refine zq1 ?_ | refine zq13 ?_ | refine zq12 ?_ | refine zq7 ?_ | refine zq2 ?_ | refine zq9 ?_))
      refine draw_k01_wp hS' (by decide) (by decide) fun d2 S2 h20 h21 hS2 => ?_
      refine pickK h20 (by simpa using h21) fun y hy => ?_
      obtain ⟨i, rfl, hi⟩ : ∃ i : Int, y = .int i ∧ 1 ≤ i ∧ i ≤ 99 := by
        simp only [List.mem_cons, List.mem_nil_iff, or_false] at hy
        rcases hy with rfl | rfl | rfl | rfl | rfl | rfl <;> exact ⟨_, rfl, by decide, by decide⟩
      (repeat (with_reducible first | refine zq14 ?_ | refine zq11 ?_ | refine zq10 ?_ | refine zq3 ?_ | refine zq4 ?_ | refine zq5 ?_ | refine zq0 ?_ | refine zq8 ?_ | refine zq6 ?_ | refine zq1 ?_ | refine zq13 ?_ | refine zq12 ?_ | refine zq7 ?_ | refine zq2 ?_ | refine zq9 ?_))
      refine pickK (Int.emod_nonneg _ (by decide)) (by have := Int.emod_lt_of_pos d (show (0 : Int) < 3 by decide); simpa using this) fun y hy => ?_
      obtain ⟨w, rfl⟩ : ∃ w : CW, y = .str w.str := by
        simp only [List.mem_cons, List.mem_nil_iff, or_false] at hy
        rcases hy with rfl | rfl | rfl
        · exact ⟨.hours, rfl⟩
        · exact ⟨.cycles, rfl⟩
        · exact ⟨.days, rfl⟩
      (repeat (with_reducible first | refine zq14 ?_ | refine zq11 ?_ | refine zq10 ?_ | refine zq3 ?_ | refine zq4 ?_ | refine zq5 ?_ | refine zq0 ?_ | refine zq8 ?_ | refine zq6 ?_ | refine zq1 ?_ | refine zq13 ?_ | refine zq12 ?_ | refine zq7 ?_ | refine zq2 ?_ | refine zq9 ?_))
      exact q (.one w i) _ (LimB.mk_one hi) (zK_pos _) hS2
    | false =>
      (repeat (with_reducible first | refine zq14 ?_ | refine zq11 ?_ | refine zq10 ?_ | refine zq3 ?_ | refine zq4 ?_ | refine zq5 ?_ | refine zq0 ?_ | refine zq8 ?_ | refine zq6 ?_ | refine zq1 ?_ | refine zq13 ?_ | refine zq12 ?_ | refine zq7 ?_ | refine zq2 ?_ | refine zq9 ?_))
      refine zq15 ?_
      (repeat (with_reducible first | refine zq14 ?_ | refine zq11 ?_ | refine zq10 ?_ | refine zq3 ?_ | refine zq4 ?_ | refine zq5 ?_ | refine zq0 ?_ | refine zq8 ?_ | refine zq6 ?_ | refine zq1 ?_ | refine zq13 ?_ | refine zq12 ?_ | refine zq7 ?_ | refine zq2 ?_ | refine zq9 ?_))
      refine draw_k01_wp hS' (by decide) (by decide) fun d2 S2 h20 h21 hS2 => ?_
      (repeat (with_reducible first | refine zq14 ?_ | refine zq11 ?_ | refine zq10 ?_ | refine zq3 ?_ | refine zq4 ?_ | refine zq5 ?_ | refine zq0 ?_ | refine zq8 ?_ | refine zq6 ?_ | refine zq1 ?_ | refine zq13 ?_ | refine zq12 ?_ | refine zq7 ?_ | refine zq2 ?_ | refine zq9 ?_))
      refine ⟨by omega, ?_⟩
      refine wp_lc (I := fun r acc S' => FedOk S0 S' ∧ ∃ ls : List Lim, acc = ls.map encL ∧ 0 < ls.length + r.length ∧ ls.length + r.length ≤ 3 ∧ ∀ l ∈ ls, LimB 1 99 n l ∧ szL l ≤ zK n) ?_ ?_ _ _ _ ⟨hS2, [], rfl, by simp [rangeD]; omega, by simp [rangeD]; omega, by simp⟩
      · rintro w r acc S' ⟨hS', ls, rfl, hl0, hl, ha⟩
        refine ⟨_, rfl, ?_⟩
        (repeat (with_reducible first | refine zq14 ?_ | refine zq11 ?_ | refine zq10 ?_ | refine zq3 ?_ | refine zq4 ?_ | refine zq5 ?_ | refine zq0 ?_ | refine zq8 ?_ | refine zq6 ?_ | refine zq1 ?_ | refine zq13 ?_ | refine zq12 ?_ | refine zq7 ?_ | refine zq2 ?_ | refine zq9 ?_))
        have e : ((n + 1 : Nat) : Int) - 1 = (n : Nat) := by omega
        rw [e]
        simp only [List.length_cons] at hl hl0
        refine ih k S' _ hS' (by omega) fun l S' hw hw2 hS' => ⟨by simp; omega, hS', ls ++ [l], by simp, by simp; omega, by simp; omega, ?_⟩
        intro x hx
        rcases List.mem_append.1 hx with hx | hx
        · exact ha x hx
        · rw [List.mem_singleton.1 hx]; exact ⟨hw, hw2⟩
      · rintro acc S' ⟨hS', ls, rfl, hl0, hl, ha⟩
        simp only [List.length_nil, Nat.add_zero] at hl hl0
        (repeat (with_reducible first | refine zq14 ?_ | refine zq11 ?_ | refine zq10 ?_ | refine zq3 ?_ | refine zq4 ?_ | refine zq5 ?_ | refine zq0 ?_ | refine zq8 ?_ | refine zq6 ?_ | refine zq1 ?_ | refine zq13 ?_ | refine zq12 ?_ | refine zq7 ?_ | refine zq2 ?_ | refine zq9 ?_))
        refine pickK (Int.emod_nonneg _ (by decide)) (by have := Int.emod_lt_of_pos d (show (0 : Int) < 2 by decide); simpa using this) fun y hy => ?_
        obtain ⟨b, rfl⟩ : ∃ b, y = .str (jw b) := by
          simp only [List.mem_cons, List.mem_nil_iff, or_false] at hy
          rcases hy with rfl | rfl
          · exact ⟨false, rfl⟩
          · exact ⟨true, rfl⟩
        (repeat (with_reducible first | refine zq14 ?_ | refine zq11 ?_ | refine zq10 ?_ | refine zq3 ?_ | refine zq4 ?_ | refine zq5 ?_ | refine zq0 ?_ | refine zq8 ?_ | refine zq6 ?_ | refine zq1 ?_ | refine zq13 ?_ | refine zq12 ?_ | refine zq7 ?_ | refine zq2 ?_ | refine zq9 ?_))
        have q := q (.join b ls) S'
        rw [encL_join] at q
        refine q (LimB.mk_join (List.length_pos_iff.1 hl0) (by omega) fun l hl => (ha l hl).1) ?_ hS'
        have h2 := szLsK fun l hl => (ha l hl).2
        have h3 := Nat.mul_le_mul_right (zK n) hl
        simp only [szL, zK]
        omega
theorem slack_k01_wp (hS : FedOk S0 S) (q : ∀ (a : Int × Int × Int) S', (0 ≤ a.1 ∧ a.1 ≤ 9) ∧ (0 ≤ a.2.1 ∧ a.2.1 ≤ 9) ∧ (0 ≤ a.2.2 ∧ a.2.2 ≤ 9) → FedOk S0 S' → Q (encSl a) S') : wpE (g_slack_k01 [oW 0] S) Q := by
  have hz := siz
  refine w_def rfl ?_
  unfold m_slack_k01
  (repeat (with_reducible first | refine zq14 ?_ | refine zq11 ?_ | refine zq10 ?_ | refine zq3 ?_ | refine zq4 ?_ | refine zq5 ?_ | refine zq0 ?_ | refine zq8 ?_ | refine zq6 ?_ | refine zq1 ?_ | refine zq13 ?_ | refine zq12 ?_ | refine zq7 ?_ | refine zq2 ?_ | refine zq9 ?_))
  refine ⟨by decide, ?_⟩
  refine wp_lc (I := fun r acc S' => FedOk S0 S' ∧ ∃ ns : List Int, acc = ns.map PyData.int ∧ ns.length + r.length = 3 ∧ ∀ i ∈ ns, 0 ≤ i ∧ i ≤ 9) ?_ ?_ _ _ _ ⟨hS, [], rfl, by decide, by simp⟩
  · rintro w r acc S' ⟨hS', ns, rfl, hl, ha⟩
    refine ⟨_, rfl, ?_⟩
    (repeat (with_reducible first | refine zq14 ?_ | refine zq11 ?_ | refine zq10 ?_ | refine zq3 ?_ | refine zq4 ?_ | refine zq5 ?_ | refine zq0 ?_ | refine zq8 ?_ | refine zq6 ?_ | refine zq1 ?_ | refine zq13 ?_ | refine zq12 ?_ | refine zq7 ?_ | refine zq2 ?_ | refine zq9 ?_))
    simp only [List.length_cons] at hl
    refine draw_k01_wp hS' (by decide) (by decide) fun d S2 hd0 hd1 hS2 => ?_
    refine pickK hd0 (by simpa using hd1) fun y hy => ?_
    obtain ⟨i, rfl, hi⟩ : ∃ i : Int, y = .int i ∧ 0 ≤ i ∧ i ≤ 9 := by
      simp only [List.mem_cons, List.mem_nil_iff, or_false] at hy
      rcases hy with rfl | rfl | rfl | rfl | rfl <;> exact ⟨_, rfl, by decide, by decide⟩
    refine ⟨by simp; omega, hS2, ns ++ [i], by simp, by simp; omega, ?_⟩
    intro x hx
    rcases List.mem_append.1 hx with hx | hx
    · exact ha x hx
    · rw [List.mem_singleton.1 hx]
      exact hi
  rintro acc S' ⟨hS', ns, rfl, hal, ha⟩
  simp only [List.length_nil, Nat.add_zero] at hal
  obtain ⟨i1, i2, i3, rfl⟩ : ∃ a b c, ns = [a, b, c] := by
    match ns, hal with
    | [a, b, c], _ => exact ⟨a, b, c, rfl⟩
  (repeat (with_reducible first | refine zq14 ?_ | refine zq11 ?_ | refine zq10 ?_ | refine zq3 ?_ | refine zq4 ?_ | refine zq5 ?_ | refine zq0 ?_ | refine zq8 ?_ | refine zq6 ?_ | refine zq1 ?_ | refine zq13 ?_ | refine zq12 ?_ | refine zq7 ?_ | refine zq2 ?_ | refine zq9 ?_))
  exact q (i1, i2, i3) _ ⟨ha i1 (by simp), ha i2 (by simp), ha i3 (by simp)⟩ hS'
end
instance {l : List Str} : Decidable (l.Pairwise ltS) := inferInstance
structure SmallS (s : Site) : Prop where
  ml : s.mc.length ≤ 3
  us : ∀ m ∈ s.mc, m.2.length ≤ 3
  pl : s.parts.length ≤ 4
  st : ∀ p ∈ s.parts, p.2.length ≤ 4
  jl : s.jobs.length ≤ 6
  lm : ∀ j ∈ s.jobs, LimB 1 99 4 j.lim ∧ szL j.lim ≤ 13
  sl : ∀ j ∈ s.jobs, j.sl.1 ≤ 9 ∧ j.sl.2.1 ≤ 9 ∧ j.sl.2.2 ≤ 9
section
variable {S S0 : Sto} {Q : Wd → Sto → Prop}
end
end WF
namespace WF
open PySem PySem.Spec PyProof.Rows L2 DL
end WF
namespace WF
open PySem PySem.Spec PyProof.Rows L2 DL
end WF
namespace PL
open PySem PySem.Spec PyProof.Rows L2 DL
theorem nodesL_map {α : Type} {f : α → Wd} {c : Nat} : ∀ {l : List α}, (∀ x ∈ l, nodes (f x) ≤ c) → nodesL (l.map f) ≤ l.length * c
  | [], _ => by simp [nodesL]
  | x :: l, h => by
    have h1 := h x (List.mem_cons_self ..)
    have h2 := nodesL_map fun y hy => h y (List.mem_cons_of_mem x hy)
    simp only [List.map_cons, nodesL, List.length_cons, Nat.succ_mul]
    omega
mutual
theorem nodes_lim : ∀ l : Lim, nodes (encL l) = 3 * szL l
  | .one w n => by simp only [encL, nodes, nodesL, szL]
  | .join b ls => by
    have := nodes_lims ls
    simp only [encL, nodes, nodesL, szL]
    omega
theorem nodes_lims : ∀ ls : List Lim, nodesL (encLs ls) = 3 * szLs ls
  | [] => rfl
  | l :: ls => by
    have h1 := nodes_lim l
    have h2 := nodes_lims ls
    simp only [encLs, nodesL, szLs]
    omega
end
end PL
namespace WF
open PySem PySem.Spec PyProof.Rows L2 DL PL
theorem ok_int {i : Int} (h : i.natAbs ≤ 1000) : okW 1000 (.int i) = true := decide_eq_true h
theorem ok_str {x : Str} (h : PyData.strOk x = true) (l : x.cps.size ≤ 8) : okW 1000 (.str x) = true := by
  show (PyData.strOk x && decide (x.cps.size ≤ 8)) = true
  rw [h, decide_eq_true l]
  rfl
theorem ok_tup {xs : List Wd} (h : ∀ x ∈ xs, okW 1000 x = true) : okW 1000 (.tuple xs) = true := by
  simp only [okW]
  exact okWs_iff.2 h
theorem ok_lim : ∀ (k : Nat) (l : Lim), LimB 1 99 k l → okW 1000 (encL l) = true := by
  intro k
  induction k with
  | zero =>
    intro l h
    cases l with
    | one w i =>
      have := h.one_
      unfold encL
      refine ok_tup (mem2 ?_ (ok_int (by omega)))
      cases w <;> exact ok_str (by decide +kernel) (by decide +kernel)
    | join c ls => obtain ⟨_, e, _⟩ := h.join_; cases e
  | succ k ih =>
    intro l h
    cases l with
    | one w i =>
      have := h.one_
      unfold encL
      refine ok_tup (mem2 ?_ (ok_int (by omega)))
      cases w <;> exact ok_str (by decide +kernel) (by decide +kernel)
    | join c ls =>
      obtain ⟨k', e, _, _, hall⟩ := h.join_
      cases e
      rw [encL_join]
      refine ok_tup (mem2 ?_ (ok_tup fun w hw => ?_))
      · cases c <;> exact ok_str (by decide +kernel) (by decide +kernel)
      · obtain ⟨z, hz, rfl⟩ := List.mem_map.1 hw
        exact ih z (hall z hz)
section
variable {s : Site} {S S0 : Sto} {n : Nat} {d : Int} {Q : Wd → Sto → Prop}
def secondS : Site where
  mc := [("days", [(0, 0), (20, 3), (1, 1)]), ("task", [(5, 5)])]
  parts := [("machine", [(0, none), (1, some "task"), (2, none), (9, some "days")]), ("task", [(0, some "days"), (3, some "task")])]
  jobs := [⟨"first", "task", "kept", .join true [.join false [.one .cycles 3, .join true [.one .days 2]], .one .hours 1, .one .cycles 3], 3, 1, 0⟩, ⟨"part", "machine", "fresh", .one .cycles 99, 0, 9, 9⟩, ⟨"task", "task", "kept", .join false [.one .days 1], 0, 0, 5⟩]
theorem second_eq : g_second_site_k02 [] S = .ok (encSite secondS) S := by kernel_rfl
end
end WF
namespace WF
open PySem PySem.Spec PyProof.Rows L2 DL
end WF
namespace WF
open PySem PySem.Spec PyProof.Rows L2 DL
end WF
namespace WF
open PySem PySem.Spec PyProof.Rows L2 DL
end WF
namespace WF.TB
open PySem PySem.Spec PyProof.Rows L2 DL
def sprR (c : List Int) (a l t : Int) : Rec := .dct [("cells", .list (c.map PyData.int)), ("place", .int a), ("rest", .int l), ("count", .int t)]
def SprOk (x : Str) (S0 : Sto) (n : Nat) (S : Sto) : Prop := ∃ c a l t, S = Rec.tab x :: sprR c a l t :: S0 ∧ 0 ≤ t ∧ t + n ≤ 1000000
scoped instance iw_put1 {ρ : Ev} {S : Sto} {N : Ev → Sto → Prop} {Rt : Wd → Sto → Prop} {fo : Mx} {y : Str} {f : Mx} : Stp (DL.wpS (sPut fo y f ρ S) N Rt) (wpE (f ρ S) fun w S1 => wpE (fo ρ S1) fun o S2 => o = oW 1 ∧ wpO (recPut S2 1 y w) fun S3 => N ρ S3) := ⟨w_put⟩
theorem SprOk.le {x : Str} {S0 S : Sto} {n m : Nat} (h : SprOk x S0 n S) (hm : m ≤ n) : SprOk x S0 m S := by
  obtain ⟨c, a, l, t, e, h0, h1⟩ := h
  exact ⟨c, a, l, t, e, h0, by omega⟩
section
variable {x : Str} {c : List Int} {a l t i : Int} {x : Str} {S0 : Sto} {k : Sto → Prop} {K : Wd → Prop}
instance iws_count : Stp (oW 1 = oW 1 ∧ wpO (recPut (Rec.tab x :: sprR c a l t :: S0) 1 "count" (.int i)) k) (k (Rec.tab x :: sprR c a l i :: S0)) := ⟨fun h => ⟨rfl, _, rfl, h⟩⟩
instance iws_rest : Stp (oW 1 = oW 1 ∧ wpO (recPut (Rec.tab x :: sprR c a l t :: S0) 1 "rest" (.int i)) k) (k (Rec.tab x :: sprR c a i t :: S0)) := ⟨fun h => ⟨rfl, _, rfl, h⟩⟩
instance iws_place : Stp (oW 1 = oW 1 ∧ wpO (recPut (Rec.tab x :: sprR c a l t :: S0) 1 "place" (.int i)) k) (k (Rec.tab x :: sprR c i l t :: S0)) := ⟨fun h => ⟨rfl, _, rfl, h⟩⟩
end
section
variable {x : Str} {S S0 : Sto} {Q : Wd → Sto → Prop} {n : Nat}
end
end WF.TB
namespace WF.TB
open PySem PySem.Spec PyProof.Rows L2 DL PL
def FedOk (x0 : Str) (S0 S : Sto) : Prop := ∃ c a l t, S = Rec.tab x0 :: fedR c a l t :: S0
section
variable {x0 : Str} {c : List Int} {a l t i : Int} {S0 : Sto} {k : Sto → Prop} {K : Wd → Prop}
scoped instance iwd_count : Stp (oW 1 = oW 1 ∧ wpO (recPut (Rec.tab x0 :: fedR c a l t :: S0) 1 "count" (.int i)) k) (k (Rec.tab x0 :: fedR c a l i :: S0)) := ⟨fun h => ⟨rfl, _, rfl, h⟩⟩
scoped instance iwd_left : Stp (oW 1 = oW 1 ∧ wpO (recPut (Rec.tab x0 :: fedR c a l t :: S0) 1 "left" (.int i)) k) (k (Rec.tab x0 :: fedR c a i t :: S0)) := ⟨fun h => ⟨rfl, _, rfl, h⟩⟩
scoped instance iwd_at : Stp (oW 1 = oW 1 ∧ wpO (recPut (Rec.tab x0 :: fedR c a l t :: S0) 1 "at" (.int i)) k) (k (Rec.tab x0 :: fedR c i l t :: S0)) := ⟨fun h => ⟨rfl, _, rfl, h⟩⟩
end
section
variable {x0 : Str} {S S0 : Sto} {Q : Wd → Sto → Prop}
theorem feed_k01_eq {ns : List Int} (h : ns.length ≤ 63) : g_feed_k01 [.list (ns.map PyData.int)] [Rec.tab x0] = .ok (oW 1) [Rec.tab x0, fedR ns 0 0 0] := by
  refine wpR_ok (w_def rfl ?_)
  unfold m_feed_k01
  (repeat (first | with_reducible refine zq15 ?_ | (with_reducible first | refine zq14 ?_ | refine zq11 ?_ | refine zq10 ?_ | refine zq3 ?_ | refine zq4 ?_ | refine zq5 ?_ | refine zq0 ?_ | refine zq8 ?_ | refine zq6 ?_ | refine zq1 ?_ | refine zq13 ?_ | refine zq12 ?_ | refine zq7 ?_ | refine zq2 ?_ | refine zq9 ?_)))
  have e : DL.cutD (ns.map PyData.int) none (some 63) = ns.map PyData.int := by
    refine cut_whole ⟨rfl, ?_⟩
    show min 63 (ns.map PyData.int).length = _
    rw [List.length_map]
    omega
  rw [e]
  exact ⟨rfl, rfl⟩
theorem draw_k01_wp {m : Int} (hS : FedOk x0 S0 S) (h0 : 0 < m) (h1 : m < 1073741824) (q : ∀ d S', 0 ≤ d → d < m → FedOk x0 S0 S' → Q (.int d) S') : wpE (g_draw_k01 [oW 1, .int m] S) Q := by
  obtain ⟨c, a, l, t, rfl⟩ := hS
  have fin : ∀ (i : Int) (S' : Sto), FedOk x0 S0 S' → Q (.int (i % m)) S' := fun i S' h => q _ S' (Int.emod_nonneg _ (by omega)) (Int.emod_lt_of_pos _ h0) h
  have ok : ∀ c a l t, FedOk x0 S0 (Rec.tab x0 :: fedR c a l t :: S0) := fun c a l t => ⟨c, a, l, t, rfl⟩
  refine w_def rfl ?_
  unfold m_draw_k01
  refine zq15 ?_
  (repeat (with_reducible first | refine zq14 ?_ | refine zq11 ?_ | refine zq10 ?_ | refine zq3 ?_ | refine zq4 ?_ | refine zq5 ?_ | refine zq0 ?_ | refine zq8 ?_ | refine zq6 ?_ | refine zq1 ?_ | refine zq13 ?_ | refine zq12 ?_ | refine zq7 ?_ | refine zq2 ?_ | refine zq9 ?_))
  refine zq15 ?_
  (repeat (with_reducible first | refine zq14 ?_ | refine zq11 ?_ | refine zq10 ?_ | refine zq3 ?_ | refine zq4 ?_ | refine zq5 ?_ | refine zq0 ?_ | refine zq8 ?_ | refine zq6 ?_ | refine zq1 ?_ | refine zq13 ?_ | refine zq12 ?_ | refine zq7 ?_ | refine zq2 ?_ | refine zq9 ?_))
  refine w_b (fun hl => ?_) (fun hl => ?_)
  · (repeat (first | with_reducible refine zq15 ?_ | (with_reducible first | refine zq14 ?_ | refine zq11 ?_ | refine zq10 ?_ | refine zq3 ?_ | refine zq4 ?_ | refine zq5 ?_ | refine zq0 ?_ | refine zq8 ?_ | refine zq6 ?_ | refine zq1 ?_ | refine zq13 ?_ | refine zq12 ?_ | refine zq7 ?_ | refine zq2 ?_ | refine zq9 ?_)))
    exact fin _ _ (ok _ _ _ _)
  refine zq15 ?_
  (repeat (with_reducible first | refine zq14 ?_ | refine zq11 ?_ | refine zq10 ?_ | refine zq3 ?_ | refine zq4 ?_ | refine zq5 ?_ | refine zq0 ?_ | refine zq8 ?_ | refine zq6 ?_ | refine zq1 ?_ | refine zq13 ?_ | refine zq12 ?_ | refine zq7 ?_ | refine zq2 ?_ | refine zq9 ?_))
  refine zq15 ?_
  (repeat (with_reducible first | refine zq14 ?_ | refine zq11 ?_ | refine zq10 ?_ | refine zq3 ?_ | refine zq4 ?_ | refine zq5 ?_ | refine zq0 ?_ | refine zq8 ?_ | refine zq6 ?_ | refine zq1 ?_ | refine zq13 ?_ | refine zq12 ?_ | refine zq7 ?_ | refine zq2 ?_ | refine zq9 ?_))
  refine w_seqJ (fun ρ S => ∃ z : Int, S = Rec.tab x0 :: fedR c (a + 1) l (t + 1) :: S0 ∧ ρ = [some (.val (oW 1)), some (.val (.int m)), none, some (.val (.int a)), some (.val (.int z)), none]) ?_ ?_
  · (repeat (with_reducible first | refine zq14 ?_ | refine zq11 ?_ | refine zq10 ?_ | refine zq3 ?_ | refine zq4 ?_ | refine zq5 ?_ | refine zq0 ?_ | refine zq8 ?_ | refine zq6 ?_ | refine zq1 ?_ | refine zq13 ?_ | refine zq12 ?_ | refine zq7 ?_ | refine zq2 ?_ | refine zq9 ?_))
    refine wpO_rfl gNe_cells ?_
    (repeat (with_reducible first | refine zq14 ?_ | refine zq11 ?_ | refine zq10 ?_ | refine zq3 ?_ | refine zq4 ?_ | refine zq5 ?_ | refine zq0 ?_ | refine zq8 ?_ | refine zq6 ?_ | refine zq1 ?_ | refine zq13 ?_ | refine zq12 ?_ | refine zq7 ?_ | refine zq2 ?_ | refine zq9 ?_))
    refine w_b (fun hc => ?_) (fun hc => ?_)
    · have hc1 : 0 < c.length := by
        cases c with
        | nil => cases hc
        | cons _ _ => exact Nat.succ_pos _
      (repeat (with_reducible first | refine zq14 ?_ | refine zq11 ?_ | refine zq10 ?_ | refine zq3 ?_ | refine zq4 ?_ | refine zq5 ?_ | refine zq0 ?_ | refine zq8 ?_ | refine zq6 ?_ | refine zq1 ?_ | refine zq13 ?_ | refine zq12 ?_ | refine zq7 ?_ | refine zq2 ?_ | refine zq9 ?_))
      refine wo_mod (by simpa using hc1) ?_
      have hx : 0 ≤ a % ((c.map PyData.int).length : Int) := Int.emod_nonneg _ (by rw [List.length_map]; omega)
      have hy : a % ((c.map PyData.int).length : Int) < (c.map PyData.int).length := Int.emod_lt_of_pos _ (by simpa using hc1)
      (repeat (with_reducible first | refine zq14 ?_ | refine zq11 ?_ | refine zq10 ?_ | refine zq3 ?_ | refine zq4 ?_ | refine zq5 ?_ | refine zq0 ?_ | refine zq8 ?_ | refine zq6 ?_ | refine zq1 ?_ | refine zq13 ?_ | refine zq12 ?_ | refine zq7 ?_ | refine zq2 ?_ | refine zq9 ?_))
      refine wpO_rfl (atI_in hx hy) ?_
      rw [List.getElem_map]
      exact ⟨_, rfl, rfl⟩
    · (repeat (with_reducible first | refine zq14 ?_ | refine zq11 ?_ | refine zq10 ?_ | refine zq3 ?_ | refine zq4 ?_ | refine zq5 ?_ | refine zq0 ?_ | refine zq8 ?_ | refine zq6 ?_ | refine zq1 ?_ | refine zq13 ?_ | refine zq12 ?_ | refine zq7 ?_ | refine zq2 ?_ | refine zq9 ?_))
      exact ⟨_, rfl, rfl⟩
  · rintro ρ S ⟨z, rfl, rfl⟩
    refine zq15 ?_
    refine w_ifS ?_
    refine wpE_mono (Q := fun b S1 => S1 = Rec.tab x0 :: fedR c (a + 1) l (t + 1) :: S0) ?_ ?_
    · (repeat (with_reducible first | refine zq14 ?_ | refine zq11 ?_ | refine zq10 ?_ | refine zq3 ?_ | refine zq4 ?_ | refine zq5 ?_ | refine zq0 ?_ | refine zq8 ?_ | refine zq6 ?_ | refine zq1 ?_ | refine zq13 ?_ | refine zq12 ?_ | refine zq7 ?_ | refine zq2 ?_ | refine zq9 ?_))
      refine w_b (fun hl => ?_) (fun hl => ?_)
      · (repeat (with_reducible first | refine zq14 ?_ | refine zq11 ?_ | refine zq10 ?_ | refine zq3 ?_ | refine zq4 ?_ | refine zq5 ?_ | refine zq0 ?_ | refine zq8 ?_ | refine zq6 ?_ | refine zq1 ?_ | refine zq13 ?_ | refine zq12 ?_ | refine zq7 ?_ | refine zq2 ?_ | refine zq9 ?_))
        rfl
      · rfl
    rintro b _ rfl
    cases b with
    | true =>
      (repeat (with_reducible first | refine zq14 ?_ | refine zq11 ?_ | refine zq10 ?_ | refine zq3 ?_ | refine zq4 ?_ | refine zq5 ?_ | refine zq0 ?_ | refine zq8 ?_ | refine zq6 ?_ | refine zq1 ?_ | refine zq13 ?_ | refine zq12 ?_ | refine zq7 ?_ | refine zq2 ?_ | refine zq9 ?_))
      refine zq15 ?_
      (repeat (with_reducible first | refine zq14 ?_ | refine zq11 ?_ | refine zq10 ?_ | refine zq3 ?_ | refine zq4 ?_ | refine zq5 ?_ | refine zq0 ?_ | refine zq8 ?_ | refine zq6 ?_ | refine zq1 ?_ | refine zq13 ?_ | refine zq12 ?_ | refine zq7 ?_ | refine zq2 ?_ | refine zq9 ?_))
      exact fin _ _ (ok _ _ _ _)
    | false =>
      (repeat (with_reducible first | refine zq14 ?_ | refine zq11 ?_ | refine zq10 ?_ | refine zq3 ?_ | refine zq4 ?_ | refine zq5 ?_ | refine zq0 ?_ | refine zq8 ?_ | refine zq6 ?_ | refine zq1 ?_ | refine zq13 ?_ | refine zq12 ?_ | refine zq7 ?_ | refine zq2 ?_ | refine zq9 ?_))
      refine zq15 ?_
      (repeat (with_reducible first | refine zq14 ?_ | refine zq11 ?_ | refine zq10 ?_ | refine zq3 ?_ | refine zq4 ?_ | refine zq5 ?_ | refine zq0 ?_ | refine zq8 ?_ | refine zq6 ?_ | refine zq1 ?_ | refine zq13 ?_ | refine zq12 ?_ | refine zq7 ?_ | refine zq2 ?_ | refine zq9 ?_))
      refine zq15 ?_
      generalize hx : (z % 1000000531 + 230017 * (t + 1) + 101) % 2147482951 = x
      have x0 : 0 ≤ x := by rw [← hx]; exact Int.emod_nonneg _ (by decide)
      have x1 : x < 2147482951 := by rw [← hx]; exact Int.emod_lt_of_pos _ (by decide)
      (repeat (with_reducible first | refine zq14 ?_ | refine zq11 ?_ | refine zq10 ?_ | refine zq3 ?_ | refine zq4 ?_ | refine zq5 ?_ | refine zq0 ?_ | refine zq8 ?_ | refine zq6 ?_ | refine zq1 ?_ | refine zq13 ?_ | refine zq12 ?_ | refine zq7 ?_ | refine zq2 ?_ | refine zq9 ?_))
      generalize hy : (x * x + 5100007 * (t + 1) + 59) % 2147482949 = y
      have y0 : 0 ≤ y := by rw [← hy]; exact Int.emod_nonneg _ (by decide)
      have y1 : y < 2147482949 := by rw [← hy]; exact Int.emod_lt_of_pos _ (by decide)
      (repeat (with_reducible first | refine zq14 ?_ | refine zq11 ?_ | refine zq10 ?_ | refine zq3 ?_ | refine zq4 ?_ | refine zq5 ?_ | refine zq0 ?_ | refine zq8 ?_ | refine zq6 ?_ | refine zq1 ?_ | refine zq13 ?_ | refine zq12 ?_ | refine zq7 ?_ | refine zq2 ?_ | refine zq9 ?_))
      exact fin _ _ (ok _ _ _ _)
theorem limit_k01_wp : ∀ (n k : Nat) (S : Sto) (Q : Wd → Sto → Prop), FedOk x0 S0 S → n < k → (∀ l S', LimB 1 99 n l → szL l ≤ zK n → FedOk x0 S0 S' → Q (encL l) S') → wpE (g_limit_k01 k [oW 1, .int n] S) Q := by
  have hz := siz
  intro n
  induction n with
  | zero =>
    intro k S Q hS hk q
    obtain ⟨k, rfl⟩ : ∃ k', k = k' + 1 := ⟨k - 1, by omega⟩
    refine w_def rfl ?_
    unfold m_limit_k01
    refine zq15 ?_
    (repeat (with_reducible first | refine zq14 ?_ | refine zq11 ?_ | refine zq10 ?_ | refine zq3 ?_ | refine zq4 ?_ | refine zq5 ?_ | refine zq0 ?_ | refine zq8 ?_ | refine zq6 ?_ | refine zq1 ?_ | refine zq13 ?_ | refine zq12 ?_ | refine zq7 ?_ | refine zq2 ?_ | refine zq9 ?_))
    refine draw_k01_wp hS (by decide) (by decide) fun d S' hd0 hd1 hS' => ?_
    refine zq15 ?_
    refine w_ifS ?_
    refine wpE_mono (Q := fun b S1 => S1 = S' ∧ b = true) ?_ ?_
    · (repeat (with_reducible first | refine zq14 ?_ | refine zq11 ?_ | refine zq10 ?_ | refine zq3 ?_ | refine zq4 ?_ | refine zq5 ?_ | refine zq0 ?_ | refine zq8 ?_ | refine zq6 ?_ | refine zq1 ?_ | refine zq13 ?_ | refine zq12 ?_ | refine zq7 ?_ | refine zq2 ?_ | refine zq9 ?_))
      refine w_b (fun _ => ⟨rfl, rfl⟩) fun _ => ?_
      (repeat (with_reducible first | refine zq14 ?_ | refine zq11 ?_ | refine zq10 ?_ | refine zq3 ?_ | refine zq4 ?_ | refine zq5 ?_ | refine zq0 ?_ | refine zq8 ?_ | refine zq6 ?_ | refine zq1 ?_ | refine zq13 ?_ | refine zq12 ?_ | refine zq7 ?_ | refine zq2 ?_ | refine zq9 ?_))
      exact ⟨rfl, rfl⟩
    rintro b _ ⟨rfl, rfl⟩
    (repeat (with_reducible first | refine zq14 ?_ | refine zq11 ?_ | refine zq10 ?_ | refine zq3 ?_ | refine zq4 ?_ | refine zq5 ?_ | refine zq0 ?_ | refine zq8 ?_ | refine zq6 ?_ | refine zq1 ?_ | refine zq13 ?_ | refine zq12 ?_ | refine zq7 ?_ | refine zq2 ?_ | refine zq9 ?_))
    refine zq15 ?_
    (repeat (with_reducible first | refine zq14 ?_ | refine zq11 ?_ | refine zq10 ?_ | refine zq3 ?_ | refine zq4 ?_ | refine zq5 ?_ | refine zq0 ?_ | refine zq8 ?_ | refine zq6 ?_ | refine zq1 ?_ | refine zq13 ?_ | refine zq12 ?_ | refine zq7 ?_ | refine zq2 ?_ | refine zq9 ?_))
    refine draw_k01_wp hS' (by decide) (by decide) fun d2 S2 h20 h21 hS2 => ?_
    refine pickK h20 (by simpa using h21) fun y hy => ?_
    obtain ⟨i, rfl, hi⟩ : ∃ i : Int, y = .int i ∧ 1 ≤ i ∧ i ≤ 99 := by
      simp only [List.mem_cons, List.mem_nil_iff, or_false] at hy
      rcases hy with rfl | rfl | rfl | rfl | rfl | rfl <;> exact ⟨_, rfl, by decide, by decide⟩
    (repeat (with_reducible first | refine zq14 ?_ | refine zq11 ?_ | refine zq10 ?_ | refine zq3 ?_ | refine zq4 ?_ | refine zq5 ?_ | refine zq0 ?_ | refine zq8 ?_ | refine zq6 ?_ | refine zq1 ?_ | refine zq13 ?_ | refine zq12 ?_ | refine zq7 ?_ | refine zq2 ?_ | refine zq9 ?_))
    refine pickK (Int.emod_nonneg _ (by decide)) (by have := Int.emod_lt_of_pos d (show (0 : Int) < 3 by decide); simpa using this) fun y hy => ?_
    obtain ⟨w, rfl⟩ : ∃ w : CW, y = .str w.str := by
      simp only [List.mem_cons, List.mem_nil_iff, or_false] at hy
      rcases hy with rfl | rfl | rfl
      · exact ⟨.hours, rfl⟩
      · exact ⟨.cycles, rfl⟩
      · exact ⟨.days, rfl⟩
    (repeat (with_reducible first | refine zq14 ?_ | refine zq11 ?_ | refine zq10 ?_ | refine zq3 ?_ | refine zq4 ?_ | refine zq5 ?_ | refine zq0 ?_ | refine zq8 ?_ | refine zq6 ?_ | refine zq1 ?_ | refine zq13 ?_ | refine zq12 ?_ | refine zq7 ?_ | refine zq2 ?_ | refine zq9 ?_))
    exact q (.one w i) _ (LimB.mk_one hi) (Nat.le_refl _) hS2
  | succ n ih =>
    intro k S Q hS hk q
    obtain ⟨k, rfl⟩ : ∃ k', k = k' + 1 := ⟨k - 1, by omega⟩
    refine w_def rfl ?_
    unfold m_limit_k01
    refine zq15 ?_
    (repeat (with_reducible first | refine zq14 ?_ | refine zq11 ?_ | refine zq10 ?_ | refine zq3 ?_ | refine zq4 ?_ | refine zq5 ?_ | refine zq0 ?_ | refine zq8 ?_ | refine zq6 ?_ | refine zq1 ?_ | refine zq13 ?_ | refine zq12 ?_ | refine zq7 ?_ | refine zq2 ?_ | refine zq9 ?_))
    refine draw_k01_wp hS (by decide) (by decide) fun d S' hd0 hd1 hS' => ?_
    refine zq15 ?_
    refine w_ifS ?_
    refine wpE_mono (Q := fun b S1 => S1 = S') ?_ ?_
    · (repeat (with_reducible first | refine zq14 ?_ | refine zq11 ?_ | refine zq10 ?_ | refine zq3 ?_ | refine zq4 ?_ | refine zq5 ?_ | refine zq0 ?_ | refine zq8 ?_ | refine zq6 ?_ | refine zq1 ?_ | refine zq13 ?_ | refine zq12 ?_ | refine zq7 ?_ | refine zq2 ?_ | refine zq9 ?_))
      refine w_b (fun _ => rfl) fun _ => ?_
      (repeat (with_reducible first | refine zq14 ?_ | refine zq11 ?_ | refine zq10 ?_ | refine zq3 ?_ | refine zq4 ?_ | refine zq5 ?_ | refine zq0 ?_ | refine zq8 ?_ | refine zq6 ?_ | refine zq1 ?_ | refine zq13 ?_ | refine zq12 ?_ | refine zq7 ?_ | refine zq2 ?_ | refine zq9 ?_))
      rfl
    rintro b _ rfl
    cases b with
    | true =>
      (repeat (with_reducible first | refine zq14 ?_ | refine zq11 ?_ | refine zq10 ?_ | refine zq3 ?_ | refine zq4 ?_ | refine zq5 ?_ | refine zq0 ?_ | refine zq8 ?_ | refine zq6 ?_ | refine zq1 ?_ | refine zq13 ?_ | refine zq12 ?_ | refine zq7 ?_ | refine zq2 ?_ | refine zq9 ?_))
      refine zq15 ?_
      (repeat (with_reducible first | refine zq14 ?_ | refine zq11 ?_ | refine zq10 ?_ | refine zq3 ?_ | refine zq4 ?_ | refine zq5 ?_ | refine zq0 ?_ | refine zq8 ?_ | refine zq6 ?_ | refine zq1 ?_ | refine zq13 ?_ | refine zq12 ?_ | refine zq7 ?_ | refine zq2 ?_ | refine zq9 ?_))
      refine draw_k01_wp hS' (by decide) (by decide) fun d2 S2 h20 h21 hS2 => ?_
      refine pickK h20 (by simpa using h21) fun y hy => ?_
      obtain ⟨i, rfl, hi⟩ : ∃ i : Int, y = .int i ∧ 1 ≤ i ∧ i ≤ 99 := by
        simp only [List.mem_cons, List.mem_nil_iff, or_false] at hy
        rcases hy with rfl | rfl | rfl | rfl | rfl | rfl <;> exact ⟨_, rfl, by decide, by decide⟩
      (repeat (with_reducible first | refine zq14 ?_ | refine zq11 ?_ | refine zq10 ?_ | refine zq3 ?_ | refine zq4 ?_ | refine zq5 ?_ | refine zq0 ?_ | refine zq8 ?_ | refine zq6 ?_ | refine zq1 ?_ | refine zq13 ?_ | refine zq12 ?_ | refine zq7 ?_ | refine zq2 ?_ | refine zq9 ?_))
      refine pickK (Int.emod_nonneg _ (by decide)) (by have := Int.emod_lt_of_pos d (show (0 : Int) < 3 by decide); simpa using this) fun y hy => ?_
      obtain ⟨w, rfl⟩ : ∃ w : CW, y = .str w.str := by
        simp only [List.mem_cons, List.mem_nil_iff, or_false] at hy
        rcases hy with rfl | rfl | rfl
        · exact ⟨.hours, rfl⟩
        · exact ⟨.cycles, rfl⟩
        · exact ⟨.days, rfl⟩
      (repeat (with_reducible first | refine zq14 ?_ | refine zq11 ?_ | refine zq10 ?_ | refine zq3 ?_ | refine zq4 ?_ | refine zq5 ?_ | refine zq0 ?_ | refine zq8 ?_ | refine zq6 ?_ | refine zq1 ?_ | refine zq13 ?_ | refine zq12 ?_ | refine zq7 ?_ | refine zq2 ?_ | refine zq9 ?_))
      exact q (.one w i) _ (LimB.mk_one hi) (zK_pos _) hS2
    | false =>
      (repeat (with_reducible first | refine zq14 ?_ | refine zq11 ?_ | refine zq10 ?_ | refine zq3 ?_ | refine zq4 ?_ | refine zq5 ?_ | refine zq0 ?_ | refine zq8 ?_ | refine zq6 ?_ | refine zq1 ?_ | refine zq13 ?_ | refine zq12 ?_ | refine zq7 ?_ | refine zq2 ?_ | refine zq9 ?_))
      refine zq15 ?_
      (repeat (with_reducible first | refine zq14 ?_ | refine zq11 ?_ | refine zq10 ?_ | refine zq3 ?_ | refine zq4 ?_ | refine zq5 ?_ | refine zq0 ?_ | refine zq8 ?_ | refine zq6 ?_ | refine zq1 ?_ | refine zq13 ?_ | refine zq12 ?_ | refine zq7 ?_ | refine zq2 ?_ | refine zq9 ?_))
      refine draw_k01_wp hS' (by decide) (by decide) fun d2 S2 h20 h21 hS2 => ?_
      (repeat (with_reducible first | refine zq14 ?_ | refine zq11 ?_ | refine zq10 ?_ | refine zq3 ?_ | refine zq4 ?_ | refine zq5 ?_ | refine zq0 ?_ | refine zq8 ?_ | refine zq6 ?_ | refine zq1 ?_ | refine zq13 ?_ | refine zq12 ?_ | refine zq7 ?_ | refine zq2 ?_ | refine zq9 ?_))
      refine ⟨by omega, ?_⟩
      refine wp_lc (I := fun r acc S' => FedOk x0 S0 S' ∧ ∃ ls : List Lim, acc = ls.map encL ∧ 0 < ls.length + r.length ∧ ls.length + r.length ≤ 3 ∧ ∀ l ∈ ls, LimB 1 99 n l ∧ szL l ≤ zK n) ?_ ?_ _ _ _ ⟨hS2, [], rfl, by simp [rangeD]; omega, by simp [rangeD]; omega, by simp⟩
      · rintro w r acc S' ⟨hS', ls, rfl, hl0, hl, ha⟩
        refine ⟨_, rfl, ?_⟩
        (repeat (with_reducible first | refine zq14 ?_ | refine zq11 ?_ | refine zq10 ?_ | refine zq3 ?_ | refine zq4 ?_ | refine zq5 ?_ | refine zq0 ?_ | refine zq8 ?_ | refine zq6 ?_ | refine zq1 ?_ | refine zq13 ?_ | refine zq12 ?_ | refine zq7 ?_ | refine zq2 ?_ | refine zq9 ?_))
        have e : ((n + 1 : Nat) : Int) - 1 = (n : Nat) := by omega
        rw [e]
        simp only [List.length_cons] at hl hl0
        refine ih k S' _ hS' (by omega) fun l S' hw hw2 hS' => ⟨by simp; omega, hS', ls ++ [l], by simp, by simp; omega, by simp; omega, ?_⟩
        intro x hx
        rcases List.mem_append.1 hx with hx | hx
        · exact ha x hx
        · rw [List.mem_singleton.1 hx]; exact ⟨hw, hw2⟩
      · rintro acc S' ⟨hS', ls, rfl, hl0, hl, ha⟩
        simp only [List.length_nil, Nat.add_zero] at hl hl0
        (repeat (with_reducible first | refine zq14 ?_ | refine zq11 ?_ | refine zq10 ?_ | refine zq3 ?_ | refine zq4 ?_ | refine zq5 ?_ | refine zq0 ?_ | refine zq8 ?_ | refine zq6 ?_ | refine zq1 ?_ | refine zq13 ?_ | refine zq12 ?_ | refine zq7 ?_ | refine zq2 ?_ | refine zq9 ?_))
        refine pickK (Int.emod_nonneg _ (by decide)) (by have := Int.emod_lt_of_pos d (show (0 : Int) < 2 by decide); simpa using this) fun y hy => ?_
        obtain ⟨b, rfl⟩ : ∃ b, y = .str (jw b) := by
          simp only [List.mem_cons, List.mem_nil_iff, or_false] at hy
          rcases hy with rfl | rfl
          · exact ⟨false, rfl⟩
          · exact ⟨true, rfl⟩
        (repeat (with_reducible first | refine zq14 ?_ | refine zq11 ?_ | refine zq10 ?_ | refine zq3 ?_ | refine zq4 ?_ | refine zq5 ?_ | refine zq0 ?_ | refine zq8 ?_ | refine zq6 ?_ | refine zq1 ?_ | refine zq13 ?_ | refine zq12 ?_ | refine zq7 ?_ | refine zq2 ?_ | refine zq9 ?_))
        have q := q (.join b ls) S'
        rw [encL_join] at q
        refine q (LimB.mk_join (List.length_pos_iff.1 hl0) (by omega) fun l hl => (ha l hl).1) ?_ hS'
        have h2 := szLsK fun l hl => (ha l hl).2
        have h3 := Nat.mul_le_mul_right (zK n) hl
        simp only [szL, zK]
        omega
theorem slack_k01_wp (hS : FedOk x0 S0 S) (q : ∀ (a : Int × Int × Int) S', (0 ≤ a.1 ∧ a.1 ≤ 9) ∧ (0 ≤ a.2.1 ∧ a.2.1 ≤ 9) ∧ (0 ≤ a.2.2 ∧ a.2.2 ≤ 9) → FedOk x0 S0 S' → Q (encSl a) S') : wpE (g_slack_k01 [oW 1] S) Q := by
  have hz := siz
  refine w_def rfl ?_
  unfold m_slack_k01
  (repeat (with_reducible first | refine zq14 ?_ | refine zq11 ?_ | refine zq10 ?_ | refine zq3 ?_ | refine zq4 ?_ | refine zq5 ?_ | refine zq0 ?_ | refine zq8 ?_ | refine zq6 ?_ | refine zq1 ?_ | refine zq13 ?_ | refine zq12 ?_ | refine zq7 ?_ | refine zq2 ?_ | refine zq9 ?_))
  refine ⟨by decide, ?_⟩
  refine wp_lc (I := fun r acc S' => FedOk x0 S0 S' ∧ ∃ ns : List Int, acc = ns.map PyData.int ∧ ns.length + r.length = 3 ∧ ∀ i ∈ ns, 0 ≤ i ∧ i ≤ 9) ?_ ?_ _ _ _ ⟨hS, [], rfl, by decide, by simp⟩
  · rintro w r acc S' ⟨hS', ns, rfl, hl, ha⟩
    refine ⟨_, rfl, ?_⟩
    (repeat (with_reducible first | refine zq14 ?_ | refine zq11 ?_ | refine zq10 ?_ | refine zq3 ?_ | refine zq4 ?_ | refine zq5 ?_ | refine zq0 ?_ | refine zq8 ?_ | refine zq6 ?_ | refine zq1 ?_ | refine zq13 ?_ | refine zq12 ?_ | refine zq7 ?_ | refine zq2 ?_ | refine zq9 ?_))
    simp only [List.length_cons] at hl
    refine draw_k01_wp hS' (by decide) (by decide) fun d S2 hd0 hd1 hS2 => ?_
    refine pickK hd0 (by simpa using hd1) fun y hy => ?_
    obtain ⟨i, rfl, hi⟩ : ∃ i : Int, y = .int i ∧ 0 ≤ i ∧ i ≤ 9 := by
      simp only [List.mem_cons, List.mem_nil_iff, or_false] at hy
      rcases hy with rfl | rfl | rfl | rfl | rfl <;> exact ⟨_, rfl, by decide, by decide⟩
    refine ⟨by simp; omega, hS2, ns ++ [i], by simp, by simp; omega, ?_⟩
    intro x hx
    rcases List.mem_append.1 hx with hx | hx
    · exact ha x hx
    · rw [List.mem_singleton.1 hx]
      exact hi
  rintro acc S' ⟨hS', ns, rfl, hal, ha⟩
  simp only [List.length_nil, Nat.add_zero] at hal
  obtain ⟨i1, i2, i3, rfl⟩ : ∃ a b c, ns = [a, b, c] := by
    match ns, hal with
    | [a, b, c], _ => exact ⟨a, b, c, rfl⟩
  (repeat (with_reducible first | refine zq14 ?_ | refine zq11 ?_ | refine zq10 ?_ | refine zq3 ?_ | refine zq4 ?_ | refine zq5 ?_ | refine zq0 ?_ | refine zq8 ?_ | refine zq6 ?_ | refine zq1 ?_ | refine zq13 ?_ | refine zq12 ?_ | refine zq7 ?_ | refine zq2 ?_ | refine zq9 ?_))
  exact q (i1, i2, i3) _ ⟨ha i1 (by simp), ha i2 (by simp), ha i3 (by simp)⟩ hS'
end
section
variable {x0 : Str} {S S0 : Sto} {Q : Wd → Sto → Prop}
end
end WF.TB
namespace WF
open PySem PySem.Spec PyProof.Rows L2 DL
end WF
namespace WF
open PySem PySem.Spec PyProof.Rows L2 DL
end WF
namespace WF
open PySem PySem.Spec PyProof.Rows L2 DL
end WF
namespace WF
open PySem PySem.Spec PyProof.Rows L2 DL
end WF
namespace WF
open PySem PySem.Spec PyProof.Rows L2 DL
end WF
namespace WF
open PySem PySem.Spec PyProof.Rows L2 DL
end WF
namespace WF
open PySem PySem.Spec PyProof.Rows L2 DL
end WF
namespace WF
open PySem PySem.Spec PyProof.Rows L2 DL
end WF
namespace WF
open PySem PySem.Spec PyProof.Rows L2 DL
end WF
namespace WF
open PySem PySem.Spec PyProof.Rows L2 DL
end WF
namespace WF
open PySem PySem.Spec PyProof.Rows L2 DL
end WF
namespace WF
open PySem PySem.Spec PyProof.Rows L2 DL
end WF
namespace WF
open PySem PySem.Spec PyProof.Rows L2 DL
end WF
namespace WF
open PySem PySem.Spec PyProof.Rows L2 DL
end WF
namespace WF
open PySem PySem.Spec PyProof.Rows L2 DL
end WF
namespace DL
open PySem PySem.Spec PyProof.Rows L2
section
variable {ρ : Ev} {S S1 S2 : Sto} {f fa fb : Mx} {fs : Ma} {w v : Wd} {ws : List Wd} {m : Ms} {st : Ms} {i n p : Nat} {g : Gd} {gx : Xd}
theorem to_call (h : fs ρ S = .ok ws S1) : mCall g fs ρ S = g ws S1 := by unfold mCall; rw [h]; rfl
theorem ok_nil : aNil ρ S = .ok [] S := rfl
theorem ok_cons (h : f ρ S = .ok w S1) (k : fs ρ S1 = .ok ws S2) : aCons f fs ρ S = .ok (w :: ws) S2 := by
  unfold aCons
  rw [h]
  show (fs ρ S1).bnd _ = _
  rw [k]
  rfl
end
end DL
namespace WF
open PySem PySem.Spec PyProof.Rows L2 DL PL
section
variable {S : Sto} {w v : Wd} {ns : List Str} {x z : Str} {s : Site} {n : Nat}
end
section
variable {S : Sto} {w v : Wd} {s : Site} {n : Nat} (G : Good n s)
include G
end
end WF
namespace WF
open PySem PySem.Spec PyProof.Rows L2 DL PL
section
variable {S S1 : Sto} {w v : Wd} {ns : List Str} {x z : Str} {s : Site} {n : Nat} {d : Int}
end
section
variable {S : Sto} {w v : Wd} {s : Site} {n : Nat} (G : Good n s)
include G
end
section
variable {S S' : Sto} {ρ : Ev} {fE : Mx} {xE : Xm} {z x0 : Str} {c : List Int} {a l t : Int} {N : Ev → Sto → Prop} {Rt : Wd → Sto → Prop}
end
end WF
namespace WF
open PySem PySem.Spec PyProof.Rows L2 DL
end WF
namespace WF
open PySem PySem.Spec PyProof.Rows L2 DL
end WF
namespace WF
open PySem PySem.Spec PyProof.Rows L2 DL
end WF
namespace WF
open PySem PySem.Spec PyProof.Rows L2 DL
end WF
namespace WF
open PySem PySem.Spec PyProof.Rows L2 DL
end WF
namespace WF
open PySem PySem.Spec PyProof.Rows L2 DL
end WF
namespace WF
open PySem PySem.Spec PyProof.Rows L2 DL PL
def Is (g : Gd) (w : Wd) (b : Bool) : Prop := ∀ S, g [w] S = .ok (.bool b) S
open Classical in
noncomputable def val (g : Gd) (w : Wd) : Bool := decide (Is g w true)
section
variable {g : Gd} {w a b c : Wd} {z : Bool} {xs : List Wd} {S : Sto} {x : Str}
theorem Is.val (h : Is g w z) : WF.val g w = z := by
  classical
  unfold WF.val
  cases z with
  | true => simp only [decide_eq_true_eq]; exact h
  | false =>
    simp only [decide_eq_false_iff_not]
    intro k
    have e := (k []).symm.trans (h [])
    cases e
end
end WF
namespace WF
open PySem PySem.Spec PyProof.Rows L2 DL
end WF
namespace WF
open PySem PySem.Spec PyProof.Rows L2 DL
end WF
namespace WF
open PySem PySem.Spec PyProof.Rows L2 DL
end WF
namespace WF
open PySem PySem.Spec PyProof.Rows L2 DL
end WF
namespace WF
open PySem PySem.Spec PyProof.Rows L2 DL
end WF
namespace WF
open PySem PySem.Spec PyProof.Rows L2 DL
end WF
namespace WF
open PySem PySem.Spec PyProof.Rows L2 DL PL
section
variable {g : Gd} {x : Xd} {ws : List Wd} {t : Str} {S : Sto} {Q : Wd → Sto → Prop} {Ex : Xn → Sto → Prop}
end
section
variable {S : Sto} {w v u : Wd} {s : Site} {n : Nat} (G : Good n s)
include G
end
end WF
namespace WF
open PySem PySem.Spec PyProof.Rows L2 DL PL
section
variable {n : Nat} {s : Site} {S : Sto} {w r0 : Wd} {tail : List Wd} {Q : Wd → Sto → Prop} {Ex : Xn → Sto → Prop}
end
end WF
namespace WF
open PySem PySem.Spec PyProof.Rows L2 DL PL
section
variable {n : Nat} {s : Site} {S : Sto} {w r0 : Wd} {tail : List Wd} {Q : Wd → Sto → Prop} {Ex : Xn → Sto → Prop}
def isT : Wd → Bool
  | .tuple _ => true
  | _ => false
end
end WF
namespace DL
open PySem PySem.Spec PyProof.Rows L2
end DL
namespace WF
open PySem PySem.Spec PyProof.Rows L2 DL
end WF
namespace WF
open PySem PySem.Spec PyProof.Rows L2 DL
end WF
namespace WF
open PySem PySem.Spec PyProof.Rows L2 DL
end WF
namespace WF
open PySem PySem.Spec PyProof.Rows L2 DL PL
section
variable {ρ : Ev} {S S1 : Sto} {fs : Ma} {ws : List Wd} {g : Gd} {gx : Xd}
end
structure AtOk (v : Wd) : Prop where
  lay : Lay 1 v
  bd : ∀ n, bndW n v = true
theorem AtOk.int {i : Int} : AtOk (.int i) := ⟨Lay.int, fun _ => rfl⟩
section
variable {S S' : Sto} {ρ : Ev} {fE : Mx} {xE : Xm} {z x0 x1 x : Str} {c : List Int} {a l t : Int} {v : Wd} {n : Nat} {s : Site}
theorem mem_range {m : Nat} {w : Wd} (h : w ∈ rangeD 0 (Int.toNat (m : Int))) : ∃ i : Nat, w = .int i ∧ i < m := by
  unfold rangeD at h
  obtain ⟨i, hi, rfl⟩ := List.mem_map.1 h
  have := List.mem_range.1 hi
  exact ⟨i, by rw [Int.zero_add], by omega⟩
end
end WF
namespace WF
open PySem PySem.Spec PyProof.Rows L2 DL
end WF
namespace WF
open PySem PySem.Spec PyProof.Rows L2 DL PL
section
variable {S S' : Sto} {ρ : Ev} {z x0 x1 x : Str} {c : List Int} {a l t : Int} {v : Wd} {n : Nat} {s : Site}
def isOneL : List Int × Lim → Bool
  | (_, .one _ _) => true
  | _ => false
end
end WF
namespace WF
open PySem PySem.Spec PyProof.Rows L2 DL PL
abbrev big : Nat := 10 ^ 60 - 1
theorem big_log {n : Nat} (h : n ≤ big) : n.log2 < 200 := by
  by_cases h0 : n = 0
  · rw [h0]; decide
  · exact (Nat.log2_lt h0).2 (Nat.lt_of_le_of_lt h (by decide +kernel))
mutual
theorem okB {m : Nat} (hm : m ≤ big) : ∀ (w : Wd), okW m w = true → w.showable = true ∧ w.leavesShort 61 = true ∧ w.weight + 1 ≤ 202 * nodes w
  | .none, _ => ⟨rfl, rfl, by simp [PyData.weight, nodes]⟩
  | .bool b, _ => ⟨rfl, rfl, by simp [PyData.weight, nodes]⟩
  | .int i, h => by
    have h1 : i.natAbs ≤ big := Nat.le_trans (of_decide_eq_true (show decide (i.natAbs ≤ m) = true from h)) hm
    have h2 := big_log h1
    refine ⟨?_, ?_, ?_⟩
    · simp only [PyData.showable, decide_eq_true_eq]
      omega
    · simp only [PyData.leavesShort, decide_eq_true_eq]
      have e := int_text_length_le10 (k := 60) (by decide) (a := i) (Nat.lt_of_le_of_lt h1 (by decide +kernel))
      show (Str.ofString (toString i)).length ≤ 61
      rw [PySem.ofString_length]
      exact e
    · simp only [PyData.weight, nodes]
      split <;> omega
  | .str x, h => by
    obtain ⟨h1, h2⟩ := Bool.and_eq_true_iff.mp (show (PyData.strOk x && decide (x.cps.size ≤ 8)) = true from h)
    have h2 := of_decide_eq_true h2
    have s := Sz.str h1 h2
    refine ⟨s.sh, ?_, by have := s.wt; simp only [nodes]; omega⟩
    simp only [PyData.leavesShort, List.all_eq_true, decide_eq_true_eq]
    intro c hc
    simp only [PyData.strOk, Array.all_eq_true', decide_eq_true_eq] at h1
    have := h1 c (by simpa using hc)
    omega
  | .list xs, h => by
    obtain ⟨a, c, d⟩ := okBs hm xs h
    exact ⟨by simp [PyData.showable, a], by simp [PyData.leavesShort, c], by simp only [PyData.weight, nodes]; omega⟩
  | .tuple xs, h => by
    obtain ⟨a, c, d⟩ := okBs hm xs h
    exact ⟨by simp [PyData.showable, a], by simp [PyData.leavesShort, c], by simp only [PyData.weight, nodes]; omega⟩
  | .dict xs, h => by cases h
theorem okBs {m : Nat} (hm : m ≤ big) : ∀ (xs : List Wd), okWs m xs = true → PyData.showableAll xs = true ∧ PyData.leavesShortAll 61 xs = true ∧ PyData.weightAll xs ≤ 202 * nodesL xs
  | [], _ => by simp [PyData.showableAll, PyData.leavesShortAll, PyData.weightAll]
  | x :: xs, h => by
    obtain ⟨h1, h2⟩ := Bool.and_eq_true_iff.mp (show (okW m x && okWs m xs) = true from h)
    obtain ⟨a, c, d⟩ := okB hm x h1
    obtain ⟨a', c', d'⟩ := okBs hm xs h2
    exact ⟨by simp [PyData.showableAll, a, a'], by simp [PyData.leavesShortAll, c, c'], by simp only [PyData.weightAll, nodesL]; omega⟩
end
def Shows (w : Wd) : Prop := gRepr [w] = some (.str w.shown)
theorem Gw.shows {n k : Nat} {w : Wd} (h : Gw big n k w) (hn : n ≤ 1200) (hk : k ≤ 60) : Shows w := by
  obtain ⟨a, b, c⟩ := okB (Nat.le_refl _) w h.ok
  have h1 := h.nd
  have h2 := h.dp
  have h3 := PyData.shown_le 61 (by decide) w b
  have hz := sizeLine_eq
  unfold Shows
  simp only [gRepr]
  rw [if_pos ⟨a, Lay.sh (k := 60) ⟨okW_cl w h.ok, by omega⟩ (by decide), by omega⟩]
theorem Shows.same {w : Wd} : gNe (.str w.shown) (.str w.shown) = some (.bool false) := by
  have e : gNe (.str w.shown) (.str w.shown) = some (.bool (!decide (w.shown = w.shown))) := rfl
  rw [e, decide_eq_true rfl]
  rfl
structure Ro (c k : Nat) (w : Wd) : Prop where
  ok : okW big w = true
  nd : nodes w ≤ c
  dp : w.depth ≤ k
theorem Ro.mono {c k c' k' : Nat} {w : Wd} (h : Ro c k w) (h1 : c ≤ c') (h2 : k ≤ k') : Ro c' k' w := ⟨h.ok, Nat.le_trans h.nd h1, Nat.le_trans h.dp h2⟩
structure GL (n k : Nat) (xs : List Wd) : Prop where
  ok : ∀ x ∈ xs, okW big x = true
  nd : nodesL xs ≤ n
  dp : ∀ x ∈ xs, x.depth ≤ k
section
variable {n n' k k' c i : Nat} {xs ys : List Wd} {w : Wd}
theorem GL.mono (h : GL n k xs) (h1 : n ≤ n') (h2 : k ≤ k') : GL n' k' xs := ⟨h.ok, Nat.le_trans h.nd h1, fun x hx => Nat.le_trans (h.dp x hx) h2⟩
theorem GL.nil : GL 0 k [] := ⟨fun _ h => (by cases h), Nat.le_refl _, fun _ h => (by cases h)⟩
theorem GL.cons (h : Ro c k w) (g : GL n k xs) : GL (c + n) k (w :: xs) := by
  refine ⟨fun x hx => ?_, ?_, fun x hx => ?_⟩
  · rcases List.mem_cons.1 hx with rfl | hx
    · exact h.ok
    · exact g.ok x hx
  · simp only [nodesL]
    have := h.nd
    have := g.nd
    omega
  · rcases List.mem_cons.1 hx with rfl | hx
    · exact h.dp
    · exact g.dp x hx
theorem GL.app (h : GL n k xs) (g : GL n' k ys) : GL (n + n') k (xs ++ ys) := by
  refine ⟨fun x hx => ?_, ?_, fun x hx => ?_⟩
  · rcases List.mem_append.1 hx with hx | hx
    · exact h.ok x hx
    · exact g.ok x hx
  · rw [nodesL_app]
    have := h.nd
    have := g.nd
    omega
  · rcases List.mem_append.1 hx with hx | hx
    · exact h.dp x hx
    · exact g.dp x hx
theorem nodesL_sub {xs ys : List Wd} (h : xs.Sublist ys) : nodesL xs ≤ nodesL ys := by
  induction h with
  | slnil => exact Nat.le_refl _
  | cons a _ ih => simp only [nodesL]; omega
  | cons_cons a _ ih => simp only [nodesL]; omega
theorem GL.sub (g : GL n k ys) (h : xs.Sublist ys) : GL n k xs := ⟨fun x hx => g.ok x (h.subset hx), Nat.le_trans (nodesL_sub h) g.nd, fun x hx => g.dp x (h.subset hx)⟩
theorem GL.mid (g : GL n k ys) (h : Ro c k w) {j : Nat} : GL (n + c + n) k (ys.take i ++ w :: ys.drop j) := ((g.sub (List.take_sublist ..)).app (.cons h (g.sub (List.drop_sublist ..)))).mono (by omega) (Nat.le_refl _)
theorem nodesL_set : ∀ {xs : List Wd} {i : Nat} {w : Wd}, nodesL (xs.set i w) ≤ nodesL xs + nodes w
  | [], _, _ => by simp [nodesL]
  | x :: xs, 0, w => by simp only [List.set_cons_zero, nodesL]; omega
  | x :: xs, i + 1, w => by
    have := nodesL_set (xs := xs) (i := i) (w := w)
    simp only [List.set_cons_succ, nodesL]
    omega
theorem GL.set (g : GL n k xs) (h : Ro c k w) : GL (n + c) k (xs.set i w) := by
  refine ⟨fun x hx => ?_, ?_, fun x hx => ?_⟩
  · rcases List.mem_or_eq_of_mem_set hx with hx | rfl
    · exact g.ok x hx
    · exact h.ok
  · have := nodesL_set (xs := xs) (i := i) (w := w)
    have := g.nd
    have := h.nd
    omega
  · rcases List.mem_or_eq_of_mem_set hx with hx | rfl
    · exact g.dp x hx
    · exact h.dp
theorem GL.tup (g : GL n k xs) : Ro (n + 1) (k + 1) (.tuple xs) := ⟨by simp only [okW]; exact okWs_iff.2 g.ok, by simp only [nodes]; have := g.nd; omega, by simp only [PyData.depth]; have := depthAll_iff.2 g.dp; omega⟩
theorem GL.map {α : Type} {f : α → Wd} {l : List α} (h : ∀ x ∈ l, Ro c k (f x)) : GL (l.length * c) k (l.map f) := ⟨fun x hx => by obtain ⟨y, hy, rfl⟩ := List.mem_map.1 hx; exact (h y hy).ok, nodesL_map fun x hx => (h x hx).nd, fun x hx => by obtain ⟨y, hy, rfl⟩ := List.mem_map.1 hx; exact (h y hy).dp⟩
theorem Ro.shows (h : Ro n k w) (hn : n ≤ 1200) (hk : k ≤ 60) : Shows w := Gw.shows ⟨h.ok, h.nd, h.dp⟩ hn hk
theorem Ro.int {i : Int} (h : i.natAbs ≤ big) : Ro 1 k (.int i) := ⟨decide_eq_true h, by simp [nodes], by simp [PyData.depth]⟩
theorem Ro.str {x : Str} (h : PyData.strOk x = true) (l : x.cps.size ≤ 8) : Ro 1 k (.str x) := ⟨by
  show (PyData.strOk x && decide (x.cps.size ≤ 8)) = true
  rw [h, decide_eq_true l]
  rfl, by simp [nodes], by simp [PyData.depth]⟩
theorem Ro.nm {x : Str} (h : Nm x) : Ro 1 k (.str x) := .str h.so h.le
theorem Ro.non : Ro 1 k .none := ⟨rfl, by simp [nodes], by simp [PyData.depth]⟩
end
section
variable {s : Site} {n : Nat} {d : Int}
section
variable (G : Good n s) (sm : SmallS s)
include G sm
end
end
end WF
namespace WF
open PySem PySem.Spec PyProof.Rows L2 DL
end WF
namespace WF
open PySem PySem.Spec PyProof.Rows L2 DL
end WF
namespace WF
open PySem PySem.Spec PyProof.Rows L2 DL
end WF
namespace WF
open PySem PySem.Spec PyProof.Rows L2 DL
end WF
namespace WF
open PySem PySem.Spec PyProof.Rows L2 DL
end WF
namespace WF
open PySem PySem.Spec PyProof.Rows L2 DL PL
mutual
def depL : Lim → Nat
  | .one _ _ => 0
  | .join _ ls => depLs ls + 1
def depLs : List Lim → Nat
  | [] => 0
  | l :: ls => max (depL l) (depLs ls)
end
theorem dep_mem : ∀ {ls : List Lim} {l : Lim}, l ∈ ls → depL l ≤ depLs ls
  | x :: ls, l, h => by
    simp only [depLs]
    rcases List.mem_cons.1 h with rfl | h
    · omega
    · have := dep_mem h
      omega
theorem dep_join {b : Bool} {ls : List Lim} : depL (.join b ls) = depLs ls + 1 := by simp only [depL]
theorem sz_join {b : Bool} {ls : List Lim} : szL (.join b ls) = 1 + szLs ls := by simp only [szL]
section
variable {S : Sto}
theorem word_ix {l : Lim} : gIx S (encL l) (.int 0) = some (.str (wordL l)) := by cases l <;> rfl
theorem shapedB3 {α : Type} (f : α → Bool) (xs : List α) : SeqAt.shaped (.list (xs.map fun x => PyData.bool (f x))) = true := by
  have h1 : PyData.canLayAll0 (xs.map fun x => PyData.bool (f x)) = true := by
    induction xs with
    | nil => rfl
    | cons a q ih => simp only [List.map_cons, PyData.canLayAll0, ih, Bool.and_true]; rfl
  have h2 : PyData.depthAll (xs.map fun x => PyData.bool (f x)) ≤ 0 := by
    clear h1
    induction xs with
    | nil => exact Nat.le_refl _
    | cons a q ih => simp only [List.map_cons, PyData.depthAll, PyData.depth]; omega
  simp only [SeqAt.shaped, PyData.canLay0, h1, PyData.depth]
  simp; omega
theorem in_true {α : Type} (f : α → Bool) (xs : List α) : gIn (.bool true) (.list (xs.map fun x => PyData.bool (f x))) = some (.bool (xs.any f)) := by
  simp only [gIn]
  rw [if_pos ⟨rfl, shapedB3 f xs⟩, List.any_map]
  congr 3
  funext x
  simp only [Function.comp]
  cases f x <;> rfl
theorem notin_false {α : Type} (f : α → Bool) (xs : List α) : gNotIn (.bool false) (.list (xs.map fun x => PyData.bool (f x))) = some (.bool (xs.all f)) := by
  have e : gIn (.bool false) (.list (xs.map fun x => PyData.bool (f x))) = some (.bool (xs.any fun x => !f x)) := by
    simp only [gIn]
    rw [if_pos ⟨rfl, shapedB3 f xs⟩, List.any_map]
    congr 3
    funext x
    simp only [Function.comp]
    cases f x <;> rfl
  simp only [gNotIn, e]
  congr 2
  rw [List.all_eq_not_any_not]
def putR : Lim → List Int → List Lim → Lim
  | .join b ls, [k], os => .join b (ls.take k.toNat ++ os ++ ls.drop (k.toNat + 1))
  | .join b ls, k :: j :: q, os => match ls[k.toNat]? with
    | some x => setAt (.join b ls) k (putR x (j :: q) os)
    | none => .join b ls
  | l, _, _ => l
theorem put_fold {l y o : Lim} {q : List Int} (h : At l q y) (hq : q ≠ []) : putR l q [o] = (((along l q).dropLast).zip q).foldr (fun q y => setAt q.1 q.2 y) o := by
  induction h with
  | nil l => exact absurd rfl hq
  | @cons b ls k x y q hk ht ih =>
    have al := along_len ht
    rw [along_cons hk]
    cases q with
    | nil =>
      have e1 : along x [] = [x] := by cases x <;> rfl
      rw [e1]
      simp only [putR, setAt, List.append_assoc]
      rfl
    | cons j q =>
      simp only [putR, Int.toNat_natCast, hk]
      rw [ih (by simp)]
      cases e : along x (j :: q) with
      | nil => rw [e] at al; simp at al
      | cons z zs =>
        rfl
end
end WF
namespace WF
open PySem PySem.Spec PyProof.Rows L2 DL
end WF
namespace WF
open PySem PySem.Spec PyProof.Rows L2 DL
end WF
namespace WF
open PySem PySem.Spec PyProof.Rows L2 DL
end WF
namespace WF
open PySem PySem.Spec PyProof.Rows L2 DL
end WF
namespace WF
open PySem PySem.Spec PyProof.Rows L2 DL PL
section
variable {S : Sto} {l y : Lim} {q : List Int} {tail : List Wd} {Q : Wd → Sto → Prop} {Ex : Xn → Sto → Prop}
theorem with_part_eq {o : Lim} {hi : Int} {k : Nat} (h : At l q y) (hz : szL l ≤ 90) (ho : LimOk hi k o) :
    g_with_part [encL l, .tuple (q.map .int), encL o] S = .ok (encL (if q = [] then o else putR l q [o])) S := by
  have hs : 2000 ≤ sizeLine := by decide
  have hql := at_len h
  obtain ⟨fs, e1, n1⟩ := along_last h
  refine wpR_ok (w_def rfl ?_)
  unfold m_with_part
  (repeat (first | with_reducible refine zq15 ?_ | (with_reducible first | refine zq14 ?_ | refine zq11 ?_ | refine zq10 ?_ | refine zq3 ?_ | refine zq4 ?_ | refine zq5 ?_ | refine zq0 ?_ | refine zq8 ?_ | refine zq6 ?_ | refine zq1 ?_ | refine zq13 ?_ | refine zq12 ?_ | refine zq7 ?_ | refine zq2 ?_ | refine zq9 ?_)))
  refine w_eq (limits_along_eq h (by omega) (by omega)) ?_
  rw [e1, List.map_append]
  (repeat (first | with_reducible refine zq15 ?_ | (with_reducible first | refine zq14 ?_ | refine zq11 ?_ | refine zq10 ?_ | refine zq3 ?_ | refine zq4 ?_ | refine zq5 ?_ | refine zq0 ?_ | refine zq8 ?_ | refine zq6 ?_ | refine zq1 ?_ | refine zq13 ?_ | refine zq12 ?_ | refine zq7 ?_ | refine zq2 ?_ | refine zq9 ?_)))
  refine w_eq (is_limit_eq ho) ?_
  (repeat (first | with_reducible refine zq15 ?_ | (with_reducible first | refine zq14 ?_ | refine zq11 ?_ | refine zq10 ?_ | refine zq3 ?_ | refine zq4 ?_ | refine zq5 ?_ | refine zq0 ?_ | refine zq8 ?_ | refine zq6 ?_ | refine zq1 ?_ | refine zq13 ?_ | refine zq12 ?_ | refine zq7 ?_ | refine zq2 ?_ | refine zq9 ?_)))
  refine w_eq require_eq ?_
  (repeat (first | with_reducible refine zq15 ?_ | (with_reducible first | refine zq14 ?_ | refine zq11 ?_ | refine zq10 ?_ | refine zq3 ?_ | refine zq4 ?_ | refine zq5 ?_ | refine zq0 ?_ | refine zq8 ?_ | refine zq6 ?_ | refine zq1 ?_ | refine zq13 ?_ | refine zq12 ?_ | refine zq7 ?_ | refine zq2 ?_ | refine zq9 ?_)))
  rw [show DL.cutD (fs.map encL ++ [y].map encL) none (some (-1)) = fs.map encL from cut_init]
  have hc := chain_at h
  rw [e1, List.dropLast_concat] at hc
  refine w_eq (put_along_eq n1 (by omega) fun q hq => ?_) ⟨?_, rfl⟩
  · obtain ⟨b', ls', k', e4, e5, e6⟩ := hc q hq
    refine ⟨b', ls', k', e4, e5, ?_⟩
    have := len_szLs ls'
    rw [sz_join] at e6
    omega
  · congr 1
    by_cases c : q = []
    · rw [if_pos c, c]
      rw [c] at n1
      have : fs = [] := List.length_eq_zero_iff.1 n1
      rw [this]
      rfl
    · rw [if_neg c, put_fold h c, e1, List.dropLast_concat]
def TriD (Z : Wd) (z : Cn) : Prop := Z.canLay0 = true ∧ ∀ (w : CW) S, g_number_for [.str w.str, Z] S = .ok (.int (tri z w)) S
theorem tri_list (z : Cn) : TriD (.list [.int z.1, .int z.2.1, .int z.2.2]) z := ⟨rfl, fun w S => by
  refine wpR_ok (w_def rfl ?_)
  unfold m_number_for
  cases w <;> ((repeat (first | with_reducible refine zq15 ?_ | (with_reducible first | refine zq14 ?_ | refine zq11 ?_ | refine zq10 ?_ | refine zq3 ?_ | refine zq4 ?_ | refine zq5 ?_ | refine zq0 ?_ | refine zq8 ?_ | refine zq6 ?_ | refine zq1 ?_ | refine zq13 ?_ | refine zq12 ?_ | refine zq7 ?_ | refine zq2 ?_ | refine zq9 ?_))); exact ⟨rfl, rfl⟩)⟩
theorem passes_lessZ {c z : Cn} {Z : Wd} (hZ : TriD Z z) (h : szL l ≤ 400) : g_passes_less [encL l, encSl c, Z] S = .ok (.bool (passes l (low c z))) S := by
  have hz : 2000 ≤ sizeLine := by decide
  suffices hw : ∃ S', runDef 10 3 m_passes_less [encL l, encSl c, Z] [] = .ok (.bool (passes l (low c z))) S' by
    obtain ⟨S', e⟩ := hw
    refine pureG_eq e ?_ (bnd_lay _ rfl)
    simp only [bndAll, bnd_lay _ (canLay_encL l), bnd_lay _ (encSl_lay c), bnd_lay _ hZ.1]
    rfl
  suffices hw : wpE (runDef 10 3 m_passes_less [encL l, encSl c, Z] []) fun w _ => w = .bool (passes l (low c z)) by
    obtain ⟨w, S', e, rfl⟩ := wpE_ex.1 hw
    exact ⟨S', e⟩
  refine w_def rfl ?_
  unfold m_passes_less
  refine zq15 ?_
  (repeat (with_reducible first | refine zq14 ?_ | refine zq11 ?_ | refine zq10 ?_ | refine zq3 ?_ | refine zq4 ?_ | refine zq5 ?_ | refine zq0 ?_ | refine zq8 ?_ | refine zq6 ?_ | refine zq1 ?_ | refine zq13 ?_ | refine zq12 ?_ | refine zq7 ?_ | refine zq2 ?_ | refine zq9 ?_))
  refine w_seqJ (fun ρ S => ∃ M x4 x5 x6 x7 x8, S = [.tdc M] ∧ lookT [] M = some (.bool (passes l (low c z))) ∧ ρ = [some (.val (encL l)), some (.val (encSl c)), some (.val Z), some (.val (oW 0)), x4, x5, x6, x7, x8, none]) ?_ ?_
  · (repeat (with_reducible first | refine zq14 ?_ | refine zq11 ?_ | refine zq10 ?_ | refine zq3 ?_ | refine zq4 ?_ | refine zq5 ?_ | refine zq0 ?_ | refine zq8 ?_ | refine zq6 ?_ | refine zq1 ?_ | refine zq13 ?_ | refine zq12 ?_ | refine zq7 ?_ | refine zq2 ?_ | refine zq9 ?_))
    refine w_eq (all_pairs_eq (by omega)) ?_
    (repeat (with_reducible first | refine zq14 ?_ | refine zq11 ?_ | refine zq10 ?_ | refine zq3 ?_ | refine zq4 ?_ | refine zq5 ?_ | refine zq0 ?_ | refine zq8 ?_ | refine zq6 ?_ | refine zq1 ?_ | refine zq13 ?_ | refine zq12 ?_ | refine zq7 ?_ | refine zq2 ?_ | refine zq9 ?_))
    rw [← List.map_reverse]
    refine wpF_for _ _ _ (tree_one (val := fun x => .bool (passes x (low c z))) (I := fun M ρ S => S = [.tdc M] ∧ ∃ x4 x5 x6 x7 x8, ρ = [some (.val (encL l)), some (.val (encSl c)), some (.val Z), some (.val (oW 0)), x4, x5, x6, x7, x8, none]) ?_ ?_ l [] [] _ _ _ (by simp; omega) (by simp; omega) ⟨rfl, none, none, none, none, none, rfl⟩ ?_)
    · rintro q w n M ρ S hM ⟨rfl, x4, x5, x6, x7, x8, rfl⟩
      refine ⟨_, rfl, ?_⟩
      (repeat (first | with_reducible refine zq15 ?_ | (with_reducible first | refine zq14 ?_ | refine zq11 ?_ | refine zq10 ?_ | refine zq3 ?_ | refine zq4 ?_ | refine zq5 ?_ | refine zq0 ?_ | refine zq8 ?_ | refine zq6 ?_ | refine zq1 ?_ | refine zq13 ?_ | refine zq12 ?_ | refine zq7 ?_ | refine zq2 ?_ | refine zq9 ?_)))
      refine w_bt (by cases w <;> rfl) ?_
      (repeat (first | with_reducible refine zq15 ?_ | (with_reducible first | refine zq14 ?_ | refine zq11 ?_ | refine zq10 ?_ | refine zq3 ?_ | refine zq4 ?_ | refine zq5 ?_ | refine zq0 ?_ | refine zq8 ?_ | refine zq6 ?_ | refine zq1 ?_ | refine zq13 ?_ | refine zq12 ?_ | refine zq7 ?_ | refine zq2 ?_ | refine zq9 ?_)))
      refine w_eq number_for_eq ?_
      (repeat (first | with_reducible refine zq15 ?_ | (with_reducible first | refine zq14 ?_ | refine zq11 ?_ | refine zq10 ?_ | refine zq3 ?_ | refine zq4 ?_ | refine zq5 ?_ | refine zq0 ?_ | refine zq8 ?_ | refine zq6 ?_ | refine zq1 ?_ | refine zq13 ?_ | refine zq12 ?_ | refine zq7 ?_ | refine zq2 ?_ | refine zq9 ?_)))
      refine w_eq (hZ.2 _ _) ?_
      (repeat (first | with_reducible refine zq15 ?_ | (with_reducible first | refine zq14 ?_ | refine zq11 ?_ | refine zq10 ?_ | refine zq3 ?_ | refine zq4 ?_ | refine zq5 ?_ | refine zq0 ?_ | refine zq8 ?_ | refine zq6 ?_ | refine zq1 ?_ | refine zq13 ?_ | refine zq12 ?_ | refine zq7 ?_ | refine zq2 ?_ | refine zq9 ?_)))
      refine wpO_rfl (putT0 (by omega)) ?_
      refine ⟨?_, some (.val (.tuple (q.map .int))), some (.val (encL (.one w n))), some (.val (.str w.str)), some (.val (.int n)), x8, rfl⟩
      have : passes (.one w n) (low c z) = decide (n - tri z w < tri c w) := by
        simp only [passes, low]
        refine decide_eq_decide.2 ⟨fun h => by omega, fun h => by omega⟩
      rw [this]
    · rintro q b ls M ρ S hM hl hq ⟨rfl, x4, x5, x6, x7, x8, rfl⟩ hk
      refine ⟨[some (.val (encL l)), some (.val (encSl c)), some (.val Z), some (.val (oW 0)), some (.val (.tuple (q.map .int))), some (.val (.tuple [.str (jw b), .tuple (ls.map encL)])), x6, x7, x8, none], by rw [← encL_join]; rfl, ?_⟩
      (repeat (first | with_reducible refine zq15 ?_ | (with_reducible first | refine zq14 ?_ | refine zq11 ?_ | refine zq10 ?_ | refine zq3 ?_ | refine zq4 ?_ | refine zq5 ?_ | refine zq0 ?_ | refine zq8 ?_ | refine zq6 ?_ | refine zq1 ?_ | refine zq13 ?_ | refine zq12 ?_ | refine zq7 ?_ | refine zq2 ?_ | refine zq9 ?_)))
      refine w_bf (by cases b <;> rfl) ?_
      (repeat (first | with_reducible refine zq15 ?_ | (with_reducible first | refine zq14 ?_ | refine zq11 ?_ | refine zq10 ?_ | refine zq3 ?_ | refine zq4 ?_ | refine zq5 ?_ | refine zq0 ?_ | refine zq8 ?_ | refine zq6 ?_ | refine zq1 ?_ | refine zq13 ?_ | refine zq12 ?_ | refine zq7 ?_ | refine zq2 ?_ | refine zq9 ?_)))
      simp only [List.length_map]
      refine ⟨by omega, ?_⟩
      refine lc_map (enc := fun i : Nat => .int (0 + (i : Int))) (out := fun i : Nat => .bool (passes (ls.getD i (.one .days 0)) (low c z))) (List.range ((ls.length : Int)).toNat) (by simp; omega) (fun i hi => ⟨_, rfl, wpX_ok ?_⟩) ?_
      · (repeat (with_reducible first | refine zq14 ?_ | refine zq11 ?_ | refine zq10 ?_ | refine zq3 ?_ | refine zq4 ?_ | refine zq5 ?_ | refine zq0 ?_ | refine zq8 ?_ | refine zq6 ?_ | refine zq1 ?_ | refine zq13 ?_ | refine zq12 ?_ | refine zq7 ?_ | refine zq2 ?_ | refine zq9 ?_))
        have hi : i < ls.length := by simpa using hi
        refine wpO_rfl (w := PyData.tuple ((q ++ [(i : Int)]).map .int)) (by simp only [gAdd, List.length_map, List.length_singleton]; rw [if_pos (by omega)]; simp) ?_
        (repeat (with_reducible first | refine zq14 ?_ | refine zq11 ?_ | refine zq10 ?_ | refine zq3 ?_ | refine zq4 ?_ | refine zq5 ?_ | refine zq0 ?_ | refine zq8 ?_ | refine zq6 ?_ | refine zq1 ?_ | refine zq13 ?_ | refine zq12 ?_ | refine zq7 ?_ | refine zq2 ?_ | refine zq9 ?_))
        have := hk i ls[i] (List.getElem?_eq_getElem hi)
        refine wpO_rfl (getT0 this) ?_
        rw [List.getD_eq_getElem?_getD, List.getElem?_eq_getElem hi]
        exact ⟨rfl, rfl⟩
      rw [Int.toNat_natCast, map_range_get (g := fun x => PyData.bool (passes x (low c z))) fun k x hx => by rw [List.getD_eq_getElem?_getD, hx]; rfl]
      (repeat (first | with_reducible refine zq15 ?_ | (with_reducible first | refine zq14 ?_ | refine zq11 ?_ | refine zq10 ?_ | refine zq3 ?_ | refine zq4 ?_ | refine zq5 ?_ | refine zq0 ?_ | refine zq8 ?_ | refine zq6 ?_ | refine zq1 ?_ | refine zq13 ?_ | refine zq12 ?_ | refine zq7 ?_ | refine zq2 ?_ | refine zq9 ?_)))
      cases b
      · refine w_bt rfl ?_
        (repeat (first | with_reducible refine zq15 ?_ | (with_reducible first | refine zq14 ?_ | refine zq11 ?_ | refine zq10 ?_ | refine zq3 ?_ | refine zq4 ?_ | refine zq5 ?_ | refine zq0 ?_ | refine zq8 ?_ | refine zq6 ?_ | refine zq1 ?_ | refine zq13 ?_ | refine zq12 ?_ | refine zq7 ?_ | refine zq2 ?_ | refine zq9 ?_)))
        refine wpO_rfl (gAny_b _ _) ?_
        (repeat (first | with_reducible refine zq15 ?_ | (with_reducible first | refine zq14 ?_ | refine zq11 ?_ | refine zq10 ?_ | refine zq3 ?_ | refine zq4 ?_ | refine zq5 ?_ | refine zq0 ?_ | refine zq8 ?_ | refine zq6 ?_ | refine zq1 ?_ | refine zq13 ?_ | refine zq12 ?_ | refine zq7 ?_ | refine zq2 ?_ | refine zq9 ?_)))
        refine wpO_rfl (putT0 (by omega)) ?_
        refine ⟨?_, _, _, _, _, _, rfl⟩
        rw [passes_join, if_neg Bool.false_ne_true]
      · refine w_bf rfl ?_
        (repeat (first | with_reducible refine zq15 ?_ | (with_reducible first | refine zq14 ?_ | refine zq11 ?_ | refine zq10 ?_ | refine zq3 ?_ | refine zq4 ?_ | refine zq5 ?_ | refine zq0 ?_ | refine zq8 ?_ | refine zq6 ?_ | refine zq1 ?_ | refine zq13 ?_ | refine zq12 ?_ | refine zq7 ?_ | refine zq2 ?_ | refine zq9 ?_)))
        refine wpO_rfl (gAll_b _ _) ?_
        (repeat (first | with_reducible refine zq15 ?_ | (with_reducible first | refine zq14 ?_ | refine zq11 ?_ | refine zq10 ?_ | refine zq3 ?_ | refine zq4 ?_ | refine zq5 ?_ | refine zq0 ?_ | refine zq8 ?_ | refine zq6 ?_ | refine zq1 ?_ | refine zq13 ?_ | refine zq12 ?_ | refine zq7 ?_ | refine zq2 ?_ | refine zq9 ?_)))
        refine wpO_rfl (putT0 (by omega)) ?_
        refine ⟨?_, _, _, _, _, _, rfl⟩
        rw [passes_join, if_pos rfl]
    · rintro M' ρ' S' ⟨rfl, x4, x5, x6, x7, x8, rfl⟩ hk _ _
      exact ⟨M', x4, x5, x6, x7, x8, rfl, hk, rfl⟩
  · rintro ρ S ⟨M, x4, x5, x6, x7, x8, rfl, hk, rfl⟩
    (repeat (with_reducible first | refine zq14 ?_ | refine zq11 ?_ | refine zq10 ?_ | refine zq3 ?_ | refine zq4 ?_ | refine zq5 ?_ | refine zq0 ?_ | refine zq8 ?_ | refine zq6 ?_ | refine zq1 ?_ | refine zq13 ?_ | refine zq12 ?_ | refine zq7 ?_ | refine zq2 ?_ | refine zq9 ?_))
    exact ⟨_, getT0 (k := []) hk, rfl⟩
abbrev up1 (z : Cn) : Cn := (z.1 + 1, z.2.1 + 1, z.2.2 + 1)
theorem is_reached_eq {c z : Cn} (h : szL l ≤ 400) : g_is_reached [encL l, encSl z, encSl c] S = .ok (.bool (passes l (low c (up1 z)))) S := by
  refine wpR_ok (w_def rfl ?_)
  unfold m_is_reached
  have hs : 2000 ≤ sizeLine := by decide
  (repeat (with_reducible first | refine zq14 ?_ | refine zq11 ?_ | refine zq10 ?_ | refine zq3 ?_ | refine zq4 ?_ | refine zq5 ?_ | refine zq0 ?_ | refine zq8 ?_ | refine zq6 ?_ | refine zq1 ?_ | refine zq13 ?_ | refine zq12 ?_ | refine zq7 ?_ | refine zq2 ?_ | refine zq9 ?_))
  refine lc_map (enc := PyData.int) (out := fun i => .int (i + 1)) [z.1, z.2.1, z.2.2] (by show 3 ≤ sizeLine; omega) (fun i _ => ⟨_, rfl, rfl⟩) ?_
  (repeat (with_reducible first | refine zq14 ?_ | refine zq11 ?_ | refine zq10 ?_ | refine zq3 ?_ | refine zq4 ?_ | refine zq5 ?_ | refine zq0 ?_ | refine zq8 ?_ | refine zq6 ?_ | refine zq1 ?_ | refine zq13 ?_ | refine zq12 ?_ | refine zq7 ?_ | refine zq2 ?_ | refine zq9 ?_))
  exact w_eq (passes_lessZ (tri_list (up1 z)) h) ⟨rfl, rfl⟩
end
end WF
namespace DL
open PySem PySem.Spec PyProof.Rows L2
section
variable {N : Ev → Sto → Prop} {Rt : Wd → Sto → Prop} {ρ : Ev} {S S1 : Sto} {i : Nat}
theorem w_words {f : Ev → Sto → R (List Key)} {k : List Key → Ms} {ks : List Key} (e : f ρ S = .ok ks S1) (hi : i < ρ.length) (h : wpS (k ks (ρ.set i none) S1) N Rt) : wpS (sWords i f k ρ S) N Rt := by
  unfold sWords
  rw [e]
  simp only
  rw [if_pos hi]
  exact h
theorem kD_kW (k : Key) : kD (kW k) = some k := by cases k <;> rfl
theorem sc_map {α : Type} {g : Mg} {fe : Mx} {enc : α → Wd} {key : α → Key} : ∀ (xs : List α) (acc : List Key), acc.length + xs.length ≤ 1000 → (∀ x ∈ xs, ∃ ρ1, g (enc x) ρ = some ρ1 ∧ fe ρ1 S = .ok (kW (key x)) S) → scLoop g fe ρ (xs.map enc) acc S = .ok ((xs.map key).reverse ++ acc) S
  | [], acc, _, _ => rfl
  | x :: xs, acc, hl, h => by
    obtain ⟨ρ1, e1, e2⟩ := h x List.mem_cons_self
    simp only [List.length_cons] at hl
    simp only [List.map_cons]
    unfold scLoop
    rw [e1]
    simp only [e2, R.bnd_ok, kD_kW]
    rw [if_pos (by omega), sc_map xs (key x :: acc) (by simp only [List.length_cons]; omega) fun y hy => h y (List.mem_cons_of_mem _ hy)]
    simp
end
theorem strsM : ∀ l : List Str, strsD (l.map PyData.str) = some l
  | [] => rfl
  | x :: l => by simp only [List.map_cons, strsD, strsM l, Option.map_some]
theorem sortS_strs {l : List Str} (h : l.length < 64) : gSortS [.list (l.map PyData.str)] = some (.list ((srtS l).map .str)) := by
  simp only [gSortS, strsM, Option.bind_some]
  rw [if_pos h]
theorem sortA_strs {ns : List Str} (h : ns.length < 1000) (h2 : (uniqS ns).length < 64) : gSortSetA [.list (ns.map PyData.str)] = some (.list ((srtS (uniqS ns)).map .str)) := by
  cases ns with
  | nil => rfl
  | cons x ns =>
    have e : gSortSetW [.list ((x :: ns).map PyData.str)] = none := rfl
    unfold gSortSetA
    rw [e]
    show gSortSetS [.list ((x :: ns).map PyData.str)] = _
    simp only [gSortSetS, strsM, Option.bind_some]
    rw [if_pos ⟨h, h2⟩]
end DL
namespace WF
open PySem PySem.Spec PyProof.Rows L2 DL PL
def cws : List Str := ["hours", "cycles", "days"]
def pws (l : Lim) : List Str := ((apL [] l).filter fun q => isOne q.2).map fun q => wordL q.2
def nmL' (l : Lim) : List Str := srtS (uniqS (pws l))
section
variable {S : Sto} {l : Lim}
theorem memK_iff {ks : List Key} {j : Key} : memK ks j = true ↔ j ∈ ks := by
  unfold memK
  rw [List.any_eq_true]
  exact ⟨fun ⟨k, hk, e⟩ => by rw [of_decide_eq_true e]; exact hk, fun h => ⟨j, h, decide_eq_true rfl⟩⟩
theorem one_word {x : Lim} : isOne x = true ↔ wordL x ∈ cws := by
  cases x with
  | one w n => exact ⟨fun _ => (show w.str ∈ cws from by cases w <;> decide +kernel), fun _ => rfl⟩
  | join b ls => exact ⟨fun h => (by cases h), fun h => absurd (show jw b ∈ cws from h) (by cases b <;> decide +kernel)⟩
theorem pws_mem {x : Str} : x ∈ pws l ↔ x ∈ cws ∧ ∃ q ∈ apL [] l, wordL q.2 = x := by
  unfold pws
  rw [List.mem_map]
  constructor
  · rintro ⟨q, hq, rfl⟩
    obtain ⟨h1, h2⟩ := List.mem_filter.1 hq
    exact ⟨one_word.1 h2, q, h1, rfl⟩
  · rintro ⟨h1, q, hq, rfl⟩
    exact ⟨q, List.mem_filter.2 ⟨hq, one_word.2 h1⟩, rfl⟩
theorem cws_nodup : cws.Nodup := by decide +kernel
theorem uniq_len : (uniqS (pws l)).length ≤ 3 := by
  have := len_of_sub (l := uniqS (pws l)) (m := cws) (uniqS_nodup _) fun x hx => (pws_mem.1 (mem_uniqS.1 hx)).1
  exact this
theorem names_same : srtS (cws.filter fun x => memK ((((apL [] l).map fun q => (Sum.inr (wordL q.2) : Key)).reverse ++ [])) (.inr x)) = nmL' l := by
  have pm : (cws.filter fun x => memK ((((apL [] l).map fun q => (Sum.inr (wordL q.2) : Key)).reverse ++ [])) (.inr x)).Perm (uniqS (pws l)) := by
    refine uniq_perm (cws_nodup.filter _) fun x => ?_
    rw [List.mem_filter, pws_mem, memK_iff, List.append_nil, List.mem_reverse, List.mem_map]
    refine and_congr_right fun _ => ⟨fun ⟨q, hq, e⟩ => ⟨q, hq, Sum.inr.inj e⟩, fun ⟨q, hq, e⟩ => ⟨q, hq, by rw [e]⟩⟩
  exact pwS_uniq (((srtS_perm _).trans pm).trans (srtS_perm _).symm) (srtS_pw _) (srtS_pw _)
theorem names_in_eq (h : szL l ≤ 400) : g_names_in [encL l] S = .ok (.tuple ((nmL' l).map .str)) S := by
  have hs : 2000 ≤ sizeLine := by decide
  refine wpR_ok (w_def rfl ?_)
  unfold m_names_in
  refine w_words (ks := ((apL [] l).map fun q => (Sum.inr (wordL q.2) : Key)).reverse ++ []) (S1 := S) ?_ (show 1 < 5 by decide) ?_
  · unfold mSc
    have e : iSeq (mCall g_all_pairs (aCons (mV 0) aNil)) (startE 5 [encL l]) S = .ok ((apL [] l).map encA) S := by
      unfold iSeq
      rw [to_call (ok_cons rfl ok_nil), all_pairs_eq (by omega)]
      rfl
    rw [e]
    refine sc_map (apL [] l) [] (by rw [apL_len]; simp only [List.length_nil]; omega) fun q hq => ?_
    obtain ⟨p, x⟩ := q
    refine ⟨_, rfl, ?_⟩
    refine wpX_ok ?_
    (repeat (with_reducible first | refine zq14 ?_ | refine zq11 ?_ | refine zq10 ?_ | refine zq3 ?_ | refine zq4 ?_ | refine zq5 ?_ | refine zq0 ?_ | refine zq8 ?_ | refine zq6 ?_ | refine zq1 ?_ | refine zq13 ?_ | refine zq12 ?_ | refine zq7 ?_ | refine zq2 ?_ | refine zq9 ?_))
    exact wpO_rfl word_ix ⟨rfl, rfl⟩
  · (repeat (with_reducible first | refine zq14 ?_ | refine zq11 ?_ | refine zq10 ?_ | refine zq3 ?_ | refine zq4 ?_ | refine zq5 ?_ | refine zq0 ?_ | refine zq8 ?_ | refine zq6 ?_ | refine zq1 ?_ | refine zq13 ?_ | refine zq12 ?_ | refine zq7 ?_ | refine zq2 ?_ | refine zq9 ?_))
    rw [show [PyData.str "hours", PyData.str "cycles", PyData.str "days"] = cws.map PyData.str from rfl]
    rw [lc_pure (enc := PyData.str) (p := fun x => memK ((((apL [] l).map fun q => (Sum.inr (wordL q.2) : Key)).reverse ++ [])) (.inr x)) (out := PyData.str) cws [] (by show 3 ≤ sizeLine; omega) fun x _ => ⟨_, rfl, rfl, fun _ => rfl⟩]
    rw [List.nil_append]
    (repeat (with_reducible first | refine zq14 ?_ | refine zq11 ?_ | refine zq10 ?_ | refine zq3 ?_ | refine zq4 ?_ | refine zq5 ?_ | refine zq0 ?_ | refine zq8 ?_ | refine zq6 ?_ | refine zq1 ?_ | refine zq13 ?_ | refine zq12 ?_ | refine zq7 ?_ | refine zq2 ?_ | refine zq9 ?_))
    refine wpO_rfl (sortS_strs (by have := List.length_filter_le (fun x => memK ((((apL [] l).map fun q => (Sum.inr (wordL q.2) : Key)).reverse ++ [])) (.inr x)) cws; have : cws.length = 3 := rfl; omega)) ?_
    rw [names_same]
    exact ⟨_, rfl, rfl, rfl⟩
end
end WF
namespace WF.TC
open PySem PySem.Spec PyProof.Rows L2 DL PL
scoped instance iw_putC {ρ : Ev} {S : Sto} {N : Ev → Sto → Prop} {Rt : Wd → Sto → Prop} {fo : Mx} {y : Str} {f : Mx} : Stp (DL.wpS (sPut fo y f ρ S) N Rt) (wpE (f ρ S) fun w S1 => wpE (fo ρ S1) fun o S2 => o = oW 2 ∧ wpO (recPut S2 2 y w) fun S3 => N ρ S3) := ⟨w_put⟩
def FedOk (x0 x1 : Str) (S0 S : Sto) : Prop := ∃ c a l t, S = Rec.tab x0 :: Rec.tab x1 :: fedR c a l t :: S0
section
variable {x0 x1 : Str} {c : List Int} {a l t i : Int} {S0 : Sto} {k : Sto → Prop} {K : Wd → Prop}
scoped instance iwd_count : Stp (oW 2 = oW 2 ∧ wpO (recPut (Rec.tab x0 :: Rec.tab x1 :: fedR c a l t :: S0) 2 "count" (.int i)) k) (k (Rec.tab x0 :: Rec.tab x1 :: fedR c a l i :: S0)) := ⟨fun h => ⟨rfl, _, rfl, h⟩⟩
scoped instance iwd_left : Stp (oW 2 = oW 2 ∧ wpO (recPut (Rec.tab x0 :: Rec.tab x1 :: fedR c a l t :: S0) 2 "left" (.int i)) k) (k (Rec.tab x0 :: Rec.tab x1 :: fedR c a i t :: S0)) := ⟨fun h => ⟨rfl, _, rfl, h⟩⟩
scoped instance iwd_at : Stp (oW 2 = oW 2 ∧ wpO (recPut (Rec.tab x0 :: Rec.tab x1 :: fedR c a l t :: S0) 2 "at" (.int i)) k) (k (Rec.tab x0 :: Rec.tab x1 :: fedR c i l t :: S0)) := ⟨fun h => ⟨rfl, _, rfl, h⟩⟩
end
section
variable {x0 x1 : Str} {S S0 : Sto} {Q : Wd → Sto → Prop}
theorem feed_k01_eq {ns : List Int} (h : ns.length ≤ 63) : g_feed_k01 [.list (ns.map PyData.int)] [Rec.tab x0, Rec.tab x1] = .ok (oW 2) [Rec.tab x0, Rec.tab x1, fedR ns 0 0 0] := by
  refine wpR_ok (w_def rfl ?_)
  unfold m_feed_k01
  (repeat (first | with_reducible refine zq15 ?_ | (with_reducible first | refine zq14 ?_ | refine zq11 ?_ | refine zq10 ?_ | refine zq3 ?_ | refine zq4 ?_ | refine zq5 ?_ | refine zq0 ?_ | refine zq8 ?_ | refine zq6 ?_ | refine zq1 ?_ | refine zq13 ?_ | refine zq12 ?_ | refine zq7 ?_ | refine zq2 ?_ | refine zq9 ?_)))
  have e : DL.cutD (ns.map PyData.int) none (some 63) = ns.map PyData.int := by
    refine cut_whole ⟨rfl, ?_⟩
    show min 63 (ns.map PyData.int).length = _
    rw [List.length_map]
    omega
  rw [e]
  exact ⟨rfl, rfl⟩
theorem draw_k01_wp {m : Int} (hS : FedOk x0 x1 S0 S) (h0 : 0 < m) (h1 : m < 1073741824) (q : ∀ d S', 0 ≤ d → d < m → FedOk x0 x1 S0 S' → Q (.int d) S') : wpE (g_draw_k01 [oW 2, .int m] S) Q := by
  obtain ⟨c, a, l, t, rfl⟩ := hS
  have fin : ∀ (i : Int) (S' : Sto), FedOk x0 x1 S0 S' → Q (.int (i % m)) S' := fun i S' h => q _ S' (Int.emod_nonneg _ (by omega)) (Int.emod_lt_of_pos _ h0) h
  have ok : ∀ c a l t, FedOk x0 x1 S0 (Rec.tab x0 :: Rec.tab x1 :: fedR c a l t :: S0) := fun c a l t => ⟨c, a, l, t, rfl⟩
  refine w_def rfl ?_
  unfold m_draw_k01
  refine zq15 ?_
  (repeat (with_reducible first | refine zq14 ?_ | refine zq11 ?_ | refine zq10 ?_ | refine zq3 ?_ | refine zq4 ?_ | refine zq5 ?_ | refine zq0 ?_ | refine zq8 ?_ | refine zq6 ?_ | refine zq1 ?_ | refine zq13 ?_ | refine zq12 ?_ | refine zq7 ?_ | refine zq2 ?_ | refine zq9 ?_))
  refine zq15 ?_
  (repeat (with_reducible first | refine zq14 ?_ | refine zq11 ?_ | refine zq10 ?_ | refine zq3 ?_ | refine zq4 ?_ | refine zq5 ?_ | refine zq0 ?_ | refine zq8 ?_ | refine zq6 ?_ | refine zq1 ?_ | refine zq13 ?_ | refine zq12 ?_ | refine zq7 ?_ | refine zq2 ?_ | refine zq9 ?_))
  refine w_b (fun hl => ?_) (fun hl => ?_)
  · (repeat (first | with_reducible refine zq15 ?_ | (with_reducible first | refine zq14 ?_ | refine zq11 ?_ | refine zq10 ?_ | refine zq3 ?_ | refine zq4 ?_ | refine zq5 ?_ | refine zq0 ?_ | refine zq8 ?_ | refine zq6 ?_ | refine zq1 ?_ | refine zq13 ?_ | refine zq12 ?_ | refine zq7 ?_ | refine zq2 ?_ | refine zq9 ?_)))
    exact fin _ _ (ok _ _ _ _)
  refine zq15 ?_
  (repeat (with_reducible first | refine zq14 ?_ | refine zq11 ?_ | refine zq10 ?_ | refine zq3 ?_ | refine zq4 ?_ | refine zq5 ?_ | refine zq0 ?_ | refine zq8 ?_ | refine zq6 ?_ | refine zq1 ?_ | refine zq13 ?_ | refine zq12 ?_ | refine zq7 ?_ | refine zq2 ?_ | refine zq9 ?_))
  refine zq15 ?_
  (repeat (with_reducible first | refine zq14 ?_ | refine zq11 ?_ | refine zq10 ?_ | refine zq3 ?_ | refine zq4 ?_ | refine zq5 ?_ | refine zq0 ?_ | refine zq8 ?_ | refine zq6 ?_ | refine zq1 ?_ | refine zq13 ?_ | refine zq12 ?_ | refine zq7 ?_ | refine zq2 ?_ | refine zq9 ?_))
  refine w_seqJ (fun ρ S => ∃ z : Int, S = Rec.tab x0 :: Rec.tab x1 :: fedR c (a + 1) l (t + 1) :: S0 ∧ ρ = [some (.val (oW 2)), some (.val (.int m)), none, some (.val (.int a)), some (.val (.int z)), none]) ?_ ?_
  · (repeat (with_reducible first | refine zq14 ?_ | refine zq11 ?_ | refine zq10 ?_ | refine zq3 ?_ | refine zq4 ?_ | refine zq5 ?_ | refine zq0 ?_ | refine zq8 ?_ | refine zq6 ?_ | refine zq1 ?_ | refine zq13 ?_ | refine zq12 ?_ | refine zq7 ?_ | refine zq2 ?_ | refine zq9 ?_))
    refine wpO_rfl gNe_cells ?_
    (repeat (with_reducible first | refine zq14 ?_ | refine zq11 ?_ | refine zq10 ?_ | refine zq3 ?_ | refine zq4 ?_ | refine zq5 ?_ | refine zq0 ?_ | refine zq8 ?_ | refine zq6 ?_ | refine zq1 ?_ | refine zq13 ?_ | refine zq12 ?_ | refine zq7 ?_ | refine zq2 ?_ | refine zq9 ?_))
    refine w_b (fun hc => ?_) (fun hc => ?_)
    · have hc1 : 0 < c.length := by
        cases c with
        | nil => cases hc
        | cons _ _ => exact Nat.succ_pos _
      (repeat (with_reducible first | refine zq14 ?_ | refine zq11 ?_ | refine zq10 ?_ | refine zq3 ?_ | refine zq4 ?_ | refine zq5 ?_ | refine zq0 ?_ | refine zq8 ?_ | refine zq6 ?_ | refine zq1 ?_ | refine zq13 ?_ | refine zq12 ?_ | refine zq7 ?_ | refine zq2 ?_ | refine zq9 ?_))
      refine wo_mod (by simpa using hc1) ?_
      have hx : 0 ≤ a % ((c.map PyData.int).length : Int) := Int.emod_nonneg _ (by rw [List.length_map]; omega)
      have hy : a % ((c.map PyData.int).length : Int) < (c.map PyData.int).length := Int.emod_lt_of_pos _ (by simpa using hc1)
      (repeat (with_reducible first | refine zq14 ?_ | refine zq11 ?_ | refine zq10 ?_ | refine zq3 ?_ | refine zq4 ?_ | refine zq5 ?_ | refine zq0 ?_ | refine zq8 ?_ | refine zq6 ?_ | refine zq1 ?_ | refine zq13 ?_ | refine zq12 ?_ | refine zq7 ?_ | refine zq2 ?_ | refine zq9 ?_))
      refine wpO_rfl (atI_in hx hy) ?_
      rw [List.getElem_map]
      exact ⟨_, rfl, rfl⟩
    · (repeat (with_reducible first | refine zq14 ?_ | refine zq11 ?_ | refine zq10 ?_ | refine zq3 ?_ | refine zq4 ?_ | refine zq5 ?_ | refine zq0 ?_ | refine zq8 ?_ | refine zq6 ?_ | refine zq1 ?_ | refine zq13 ?_ | refine zq12 ?_ | refine zq7 ?_ | refine zq2 ?_ | refine zq9 ?_))
      exact ⟨_, rfl, rfl⟩
  · rintro ρ S ⟨z, rfl, rfl⟩
    refine zq15 ?_
    refine w_ifS ?_
    refine wpE_mono (Q := fun b S1 => S1 = Rec.tab x0 :: Rec.tab x1 :: fedR c (a + 1) l (t + 1) :: S0) ?_ ?_
    · (repeat (with_reducible first | refine zq14 ?_ | refine zq11 ?_ | refine zq10 ?_ | refine zq3 ?_ | refine zq4 ?_ | refine zq5 ?_ | refine zq0 ?_ | refine zq8 ?_ | refine zq6 ?_ | refine zq1 ?_ | refine zq13 ?_ | refine zq12 ?_ | refine zq7 ?_ | refine zq2 ?_ | refine zq9 ?_))
      refine w_b (fun hl => ?_) (fun hl => ?_)
      · (repeat (with_reducible first | refine zq14 ?_ | refine zq11 ?_ | refine zq10 ?_ | refine zq3 ?_ | refine zq4 ?_ | refine zq5 ?_ | refine zq0 ?_ | refine zq8 ?_ | refine zq6 ?_ | refine zq1 ?_ | refine zq13 ?_ | refine zq12 ?_ | refine zq7 ?_ | refine zq2 ?_ | refine zq9 ?_))
        rfl
      · rfl
    rintro b _ rfl
    cases b with
    | true =>
      (repeat (with_reducible first | refine zq14 ?_ | refine zq11 ?_ | refine zq10 ?_ | refine zq3 ?_ | refine zq4 ?_ | refine zq5 ?_ | refine zq0 ?_ | refine zq8 ?_ | refine zq6 ?_ | refine zq1 ?_ | refine zq13 ?_ | refine zq12 ?_ | refine zq7 ?_ | refine zq2 ?_ | refine zq9 ?_))
      refine zq15 ?_
      (repeat (with_reducible first | refine zq14 ?_ | refine zq11 ?_ | refine zq10 ?_ | refine zq3 ?_ | refine zq4 ?_ | refine zq5 ?_ | refine zq0 ?_ | refine zq8 ?_ | refine zq6 ?_ | refine zq1 ?_ | refine zq13 ?_ | refine zq12 ?_ | refine zq7 ?_ | refine zq2 ?_ | refine zq9 ?_))
      exact fin _ _ (ok _ _ _ _)
    | false =>
      (repeat (with_reducible first | refine zq14 ?_ | refine zq11 ?_ | refine zq10 ?_ | refine zq3 ?_ | refine zq4 ?_ | refine zq5 ?_ | refine zq0 ?_ | refine zq8 ?_ | refine zq6 ?_ | refine zq1 ?_ | refine zq13 ?_ | refine zq12 ?_ | refine zq7 ?_ | refine zq2 ?_ | refine zq9 ?_))
      refine zq15 ?_
      (repeat (with_reducible first | refine zq14 ?_ | refine zq11 ?_ | refine zq10 ?_ | refine zq3 ?_ | refine zq4 ?_ | refine zq5 ?_ | refine zq0 ?_ | refine zq8 ?_ | refine zq6 ?_ | refine zq1 ?_ | refine zq13 ?_ | refine zq12 ?_ | refine zq7 ?_ | refine zq2 ?_ | refine zq9 ?_))
      refine zq15 ?_
      generalize hx : (z % 1000000531 + 230017 * (t + 1) + 101) % 2147482951 = x
      have x0 : 0 ≤ x := by rw [← hx]; exact Int.emod_nonneg _ (by decide)
      have x1 : x < 2147482951 := by rw [← hx]; exact Int.emod_lt_of_pos _ (by decide)
      (repeat (with_reducible first | refine zq14 ?_ | refine zq11 ?_ | refine zq10 ?_ | refine zq3 ?_ | refine zq4 ?_ | refine zq5 ?_ | refine zq0 ?_ | refine zq8 ?_ | refine zq6 ?_ | refine zq1 ?_ | refine zq13 ?_ | refine zq12 ?_ | refine zq7 ?_ | refine zq2 ?_ | refine zq9 ?_))
      generalize hy : (x * x + 5100007 * (t + 1) + 59) % 2147482949 = y
      have y0 : 0 ≤ y := by rw [← hy]; exact Int.emod_nonneg _ (by decide)
      have y1 : y < 2147482949 := by rw [← hy]; exact Int.emod_lt_of_pos _ (by decide)
      (repeat (with_reducible first | refine zq14 ?_ | refine zq11 ?_ | refine zq10 ?_ | refine zq3 ?_ | refine zq4 ?_ | refine zq5 ?_ | refine zq0 ?_ | refine zq8 ?_ | refine zq6 ?_ | refine zq1 ?_ | refine zq13 ?_ | refine zq12 ?_ | refine zq7 ?_ | refine zq2 ?_ | refine zq9 ?_))
      exact fin _ _ (ok _ _ _ _)
theorem limit_k01_wp : ∀ (n k : Nat) (S : Sto) (Q : Wd → Sto → Prop), FedOk x0 x1 S0 S → n < k → (∀ l S', LimB 1 99 n l → szL l ≤ zK n → FedOk x0 x1 S0 S' → Q (encL l) S') → wpE (g_limit_k01 k [oW 2, .int n] S) Q := by
  have hz := siz
  intro n
  induction n with
  | zero =>
    intro k S Q hS hk q
    obtain ⟨k, rfl⟩ : ∃ k', k = k' + 1 := ⟨k - 1, by omega⟩
    refine w_def rfl ?_
    unfold m_limit_k01
    refine zq15 ?_
    (repeat (with_reducible first | refine zq14 ?_ | refine zq11 ?_ | refine zq10 ?_ | refine zq3 ?_ | refine zq4 ?_ | refine zq5 ?_ | refine zq0 ?_ | refine zq8 ?_ | refine zq6 ?_ | refine zq1 ?_ | refine zq13 ?_ | refine zq12 ?_ | refine zq7 ?_ | refine zq2 ?_ | refine zq9 ?_))
    refine draw_k01_wp hS (by decide) (by decide) fun d S' hd0 hd1 hS' => ?_
    refine zq15 ?_
    refine w_ifS ?_
    refine wpE_mono (Q := fun b S1 => S1 = S' ∧ b = true) ?_ ?_
    · (repeat (with_reducible first | refine zq14 ?_ | refine zq11 ?_ | refine zq10 ?_ | refine zq3 ?_ | refine zq4 ?_ | refine zq5 ?_ | refine zq0 ?_ | refine zq8 ?_ | refine zq6 ?_ | refine zq1 ?_ | refine zq13 ?_ | refine zq12 ?_ | refine zq7 ?_ | refine zq2 ?_ | refine zq9 ?_))
      refine w_b (fun _ => ⟨rfl, rfl⟩) fun _ => ?_
      (repeat (with_reducible first | refine zq14 ?_ | refine zq11 ?_ | refine zq10 ?_ | refine zq3 ?_ | refine zq4 ?_ | refine zq5 ?_ | refine zq0 ?_ | refine zq8 ?_ | refine zq6 ?_ | refine zq1 ?_ | refine zq13 ?_ | refine zq12 ?_ | refine zq7 ?_ | refine zq2 ?_ | refine zq9 ?_))
      exact ⟨rfl, rfl⟩
    rintro b _ ⟨rfl, rfl⟩
    (repeat (with_reducible first | refine zq14 ?_ | refine zq11 ?_ | refine zq10 ?_ | refine zq3 ?_ | refine zq4 ?_ | refine zq5 ?_ | refine zq0 ?_ | refine zq8 ?_ | refine zq6 ?_ | refine zq1 ?_ | refine zq13 ?_ | refine zq12 ?_ | refine zq7 ?_ | refine zq2 ?_ | refine zq9 ?_))
    refine zq15 ?_
    (repeat (with_reducible first | refine zq14 ?_ | refine zq11 ?_ | refine zq10 ?_ | refine zq3 ?_ | refine zq4 ?_ | refine zq5 ?_ | refine zq0 ?_ | refine zq8 ?_ | refine zq6 ?_ | refine zq1 ?_ | refine zq13 ?_ | refine zq12 ?_ | refine zq7 ?_ | refine zq2 ?_ | refine zq9 ?_))
    refine draw_k01_wp hS' (by decide) (by decide) fun d2 S2 h20 h21 hS2 => ?_
    refine pickK h20 (by simpa using h21) fun y hy => ?_
    obtain ⟨i, rfl, hi⟩ : ∃ i : Int, y = .int i ∧ 1 ≤ i ∧ i ≤ 99 := by
      simp only [List.mem_cons, List.mem_nil_iff, or_false] at hy
      rcases hy with rfl | rfl | rfl | rfl | rfl | rfl <;> exact ⟨_, rfl, by decide, by decide⟩
    (repeat (with_reducible first | refine zq14 ?_ | refine zq11 ?_ | refine zq10 ?_ | refine zq3 ?_ | refine zq4 ?_ | refine zq5 ?_ | refine zq0 ?_ | refine zq8 ?_ | refine zq6 ?_ | refine zq1 ?_ | refine zq13 ?_ | refine zq12 ?_ | refine zq7 ?_ | refine zq2 ?_ | refine zq9 ?_))
    refine pickK (Int.emod_nonneg _ (by decide)) (by have := Int.emod_lt_of_pos d (show (0 : Int) < 3 by decide); simpa using this) fun y hy => ?_
    obtain ⟨w, rfl⟩ : ∃ w : CW, y = .str w.str := by
      simp only [List.mem_cons, List.mem_nil_iff, or_false] at hy
      rcases hy with rfl | rfl | rfl
      · exact ⟨.hours, rfl⟩
      · exact ⟨.cycles, rfl⟩
      · exact ⟨.days, rfl⟩
    (repeat (with_reducible first | refine zq14 ?_ | refine zq11 ?_ | refine zq10 ?_ | refine zq3 ?_ | refine zq4 ?_ | refine zq5 ?_ | refine zq0 ?_ | refine zq8 ?_ | refine zq6 ?_ | refine zq1 ?_ | refine zq13 ?_ | refine zq12 ?_ | refine zq7 ?_ | refine zq2 ?_ | refine zq9 ?_))
    exact q (.one w i) _ (LimB.mk_one hi) (Nat.le_refl _) hS2
  | succ n ih =>
    intro k S Q hS hk q
    obtain ⟨k, rfl⟩ : ∃ k', k = k' + 1 := ⟨k - 1, by omega⟩
    refine w_def rfl ?_
    unfold m_limit_k01
    refine zq15 ?_
    (repeat (with_reducible first | refine zq14 ?_ | refine zq11 ?_ | refine zq10 ?_ | refine zq3 ?_ | refine zq4 ?_ | refine zq5 ?_ | refine zq0 ?_ | refine zq8 ?_ | refine zq6 ?_ | refine zq1 ?_ | refine zq13 ?_ | refine zq12 ?_ | refine zq7 ?_ | refine zq2 ?_ | refine zq9 ?_))
    refine draw_k01_wp hS (by decide) (by decide) fun d S' hd0 hd1 hS' => ?_
    refine zq15 ?_
    refine w_ifS ?_
    refine wpE_mono (Q := fun b S1 => S1 = S') ?_ ?_
    · (repeat (with_reducible first | refine zq14 ?_ | refine zq11 ?_ | refine zq10 ?_ | refine zq3 ?_ | refine zq4 ?_ | refine zq5 ?_ | refine zq0 ?_ | refine zq8 ?_ | refine zq6 ?_ | refine zq1 ?_ | refine zq13 ?_ | refine zq12 ?_ | refine zq7 ?_ | refine zq2 ?_ | refine zq9 ?_))
      refine w_b (fun _ => rfl) fun _ => ?_
      (repeat (with_reducible first | refine zq14 ?_ | refine zq11 ?_ | refine zq10 ?_ | refine zq3 ?_ | refine zq4 ?_ | refine zq5 ?_ | refine zq0 ?_ | refine zq8 ?_ | refine zq6 ?_ | refine zq1 ?_ | refine zq13 ?_ | refine zq12 ?_ | refine zq7 ?_ | refine zq2 ?_ | refine zq9 ?_))
      rfl
    rintro b _ rfl
    cases b with
    | true =>
      (repeat (with_reducible first | refine zq14 ?_ | refine zq11 ?_ | refine zq10 ?_ | refine zq3 ?_ | refine zq4 ?_ | refine zq5 ?_ | refine zq0 ?_ | refine zq8 ?_ | refine zq6 ?_ | refine zq1 ?_ | refine zq13 ?_ | refine zq12 ?_ | refine zq7 ?_ | refine zq2 ?_ | refine zq9 ?_))
      refine zq15 ?_
      (repeat (with_reducible first | refine zq14 ?_ | refine zq11 ?_ | refine zq10 ?_ | refine zq3 ?_ | refine zq4 ?_ | refine zq5 ?_ | refine zq0 ?_ | refine zq8 ?_ | refine zq6 ?_ | refine zq1 ?_ | refine zq13 ?_ | refine zq12 ?_ | refine zq7 ?_ | refine zq2 ?_ | refine zq9 ?_))
      refine draw_k01_wp hS' (by decide) (by decide) fun d2 S2 h20 h21 hS2 => ?_
      refine pickK h20 (by simpa using h21) fun y hy => ?_
      obtain ⟨i, rfl, hi⟩ : ∃ i : Int, y = .int i ∧ 1 ≤ i ∧ i ≤ 99 := by
        simp only [List.mem_cons, List.mem_nil_iff, or_false] at hy
        rcases hy with rfl | rfl | rfl | rfl | rfl | rfl <;> exact ⟨_, rfl, by decide, by decide⟩
      (repeat (with_reducible first | refine zq14 ?_ | refine zq11 ?_ | refine zq10 ?_ | refine zq3 ?_ | refine zq4 ?_ | refine zq5 ?_ | refine zq0 ?_ | refine zq8 ?_ | refine zq6 ?_ | refine zq1 ?_ | refine zq13 ?_ | refine zq12 ?_ | refine zq7 ?_ | refine zq2 ?_ | refine zq9 ?_))
      refine pickK (Int.emod_nonneg _ (by decide)) (by have := Int.emod_lt_of_pos d (show (0 : Int) < 3 by decide); simpa using this) fun y hy => ?_
      obtain ⟨w, rfl⟩ : ∃ w : CW, y = .str w.str := by
        simp only [List.mem_cons, List.mem_nil_iff, or_false] at hy
        rcases hy with rfl | rfl | rfl
        · exact ⟨.hours, rfl⟩
        · exact ⟨.cycles, rfl⟩
        · exact ⟨.days, rfl⟩
      (repeat (with_reducible first | refine zq14 ?_ | refine zq11 ?_ | refine zq10 ?_ | refine zq3 ?_ | refine zq4 ?_ | refine zq5 ?_ | refine zq0 ?_ | refine zq8 ?_ | refine zq6 ?_ | refine zq1 ?_ | refine zq13 ?_ | refine zq12 ?_ | refine zq7 ?_ | refine zq2 ?_ | refine zq9 ?_))
      exact q (.one w i) _ (LimB.mk_one hi) (zK_pos _) hS2
    | false =>
      (repeat (with_reducible first | refine zq14 ?_ | refine zq11 ?_ | refine zq10 ?_ | refine zq3 ?_ | refine zq4 ?_ | refine zq5 ?_ | refine zq0 ?_ | refine zq8 ?_ | refine zq6 ?_ | refine zq1 ?_ | refine zq13 ?_ | refine zq12 ?_ | refine zq7 ?_ | refine zq2 ?_ | refine zq9 ?_))
      refine zq15 ?_
      (repeat (with_reducible first | refine zq14 ?_ | refine zq11 ?_ | refine zq10 ?_ | refine zq3 ?_ | refine zq4 ?_ | refine zq5 ?_ | refine zq0 ?_ | refine zq8 ?_ | refine zq6 ?_ | refine zq1 ?_ | refine zq13 ?_ | refine zq12 ?_ | refine zq7 ?_ | refine zq2 ?_ | refine zq9 ?_))
      refine draw_k01_wp hS' (by decide) (by decide) fun d2 S2 h20 h21 hS2 => ?_
      (repeat (with_reducible first | refine zq14 ?_ | refine zq11 ?_ | refine zq10 ?_ | refine zq3 ?_ | refine zq4 ?_ | refine zq5 ?_ | refine zq0 ?_ | refine zq8 ?_ | refine zq6 ?_ | refine zq1 ?_ | refine zq13 ?_ | refine zq12 ?_ | refine zq7 ?_ | refine zq2 ?_ | refine zq9 ?_))
      refine ⟨by omega, ?_⟩
      refine wp_lc (I := fun r acc S' => FedOk x0 x1 S0 S' ∧ ∃ ls : List Lim, acc = ls.map encL ∧ 0 < ls.length + r.length ∧ ls.length + r.length ≤ 3 ∧ ∀ l ∈ ls, LimB 1 99 n l ∧ szL l ≤ zK n) ?_ ?_ _ _ _ ⟨hS2, [], rfl, by simp [rangeD]; omega, by simp [rangeD]; omega, by simp⟩
      · rintro w r acc S' ⟨hS', ls, rfl, hl0, hl, ha⟩
        refine ⟨_, rfl, ?_⟩
        (repeat (with_reducible first | refine zq14 ?_ | refine zq11 ?_ | refine zq10 ?_ | refine zq3 ?_ | refine zq4 ?_ | refine zq5 ?_ | refine zq0 ?_ | refine zq8 ?_ | refine zq6 ?_ | refine zq1 ?_ | refine zq13 ?_ | refine zq12 ?_ | refine zq7 ?_ | refine zq2 ?_ | refine zq9 ?_))
        have e : ((n + 1 : Nat) : Int) - 1 = (n : Nat) := by omega
        rw [e]
        simp only [List.length_cons] at hl hl0
        refine ih k S' _ hS' (by omega) fun l S' hw hw2 hS' => ⟨by simp; omega, hS', ls ++ [l], by simp, by simp; omega, by simp; omega, ?_⟩
        intro x hx
        rcases List.mem_append.1 hx with hx | hx
        · exact ha x hx
        · rw [List.mem_singleton.1 hx]; exact ⟨hw, hw2⟩
      · rintro acc S' ⟨hS', ls, rfl, hl0, hl, ha⟩
        simp only [List.length_nil, Nat.add_zero] at hl hl0
        (repeat (with_reducible first | refine zq14 ?_ | refine zq11 ?_ | refine zq10 ?_ | refine zq3 ?_ | refine zq4 ?_ | refine zq5 ?_ | refine zq0 ?_ | refine zq8 ?_ | refine zq6 ?_ | refine zq1 ?_ | refine zq13 ?_ | refine zq12 ?_ | refine zq7 ?_ | refine zq2 ?_ | refine zq9 ?_))
        refine pickK (Int.emod_nonneg _ (by decide)) (by have := Int.emod_lt_of_pos d (show (0 : Int) < 2 by decide); simpa using this) fun y hy => ?_
        obtain ⟨b, rfl⟩ : ∃ b, y = .str (jw b) := by
          simp only [List.mem_cons, List.mem_nil_iff, or_false] at hy
          rcases hy with rfl | rfl
          · exact ⟨false, rfl⟩
          · exact ⟨true, rfl⟩
        (repeat (with_reducible first | refine zq14 ?_ | refine zq11 ?_ | refine zq10 ?_ | refine zq3 ?_ | refine zq4 ?_ | refine zq5 ?_ | refine zq0 ?_ | refine zq8 ?_ | refine zq6 ?_ | refine zq1 ?_ | refine zq13 ?_ | refine zq12 ?_ | refine zq7 ?_ | refine zq2 ?_ | refine zq9 ?_))
        have q := q (.join b ls) S'
        rw [encL_join] at q
        refine q (LimB.mk_join (List.length_pos_iff.1 hl0) (by omega) fun l hl => (ha l hl).1) ?_ hS'
        have h2 := szLsK fun l hl => (ha l hl).2
        have h3 := Nat.mul_le_mul_right (zK n) hl
        simp only [szL, zK]
        omega
theorem slack_k01_wp (hS : FedOk x0 x1 S0 S) (q : ∀ (a : Int × Int × Int) S', (0 ≤ a.1 ∧ a.1 ≤ 9) ∧ (0 ≤ a.2.1 ∧ a.2.1 ≤ 9) ∧ (0 ≤ a.2.2 ∧ a.2.2 ≤ 9) → FedOk x0 x1 S0 S' → Q (encSl a) S') : wpE (g_slack_k01 [oW 2] S) Q := by
  have hz := siz
  refine w_def rfl ?_
  unfold m_slack_k01
  (repeat (with_reducible first | refine zq14 ?_ | refine zq11 ?_ | refine zq10 ?_ | refine zq3 ?_ | refine zq4 ?_ | refine zq5 ?_ | refine zq0 ?_ | refine zq8 ?_ | refine zq6 ?_ | refine zq1 ?_ | refine zq13 ?_ | refine zq12 ?_ | refine zq7 ?_ | refine zq2 ?_ | refine zq9 ?_))
  refine ⟨by decide, ?_⟩
  refine wp_lc (I := fun r acc S' => FedOk x0 x1 S0 S' ∧ ∃ ns : List Int, acc = ns.map PyData.int ∧ ns.length + r.length = 3 ∧ ∀ i ∈ ns, 0 ≤ i ∧ i ≤ 9) ?_ ?_ _ _ _ ⟨hS, [], rfl, by decide, by simp⟩
  · rintro w r acc S' ⟨hS', ns, rfl, hl, ha⟩
    refine ⟨_, rfl, ?_⟩
    (repeat (with_reducible first | refine zq14 ?_ | refine zq11 ?_ | refine zq10 ?_ | refine zq3 ?_ | refine zq4 ?_ | refine zq5 ?_ | refine zq0 ?_ | refine zq8 ?_ | refine zq6 ?_ | refine zq1 ?_ | refine zq13 ?_ | refine zq12 ?_ | refine zq7 ?_ | refine zq2 ?_ | refine zq9 ?_))
    simp only [List.length_cons] at hl
    refine draw_k01_wp hS' (by decide) (by decide) fun d S2 hd0 hd1 hS2 => ?_
    refine pickK hd0 (by simpa using hd1) fun y hy => ?_
    obtain ⟨i, rfl, hi⟩ : ∃ i : Int, y = .int i ∧ 0 ≤ i ∧ i ≤ 9 := by
      simp only [List.mem_cons, List.mem_nil_iff, or_false] at hy
      rcases hy with rfl | rfl | rfl | rfl | rfl <;> exact ⟨_, rfl, by decide, by decide⟩
    refine ⟨by simp; omega, hS2, ns ++ [i], by simp, by simp; omega, ?_⟩
    intro x hx
    rcases List.mem_append.1 hx with hx | hx
    · exact ha x hx
    · rw [List.mem_singleton.1 hx]
      exact hi
  rintro acc S' ⟨hS', ns, rfl, hal, ha⟩
  simp only [List.length_nil, Nat.add_zero] at hal
  obtain ⟨i1, i2, i3, rfl⟩ : ∃ a b c, ns = [a, b, c] := by
    match ns, hal with
    | [a, b, c], _ => exact ⟨a, b, c, rfl⟩
  (repeat (with_reducible first | refine zq14 ?_ | refine zq11 ?_ | refine zq10 ?_ | refine zq3 ?_ | refine zq4 ?_ | refine zq5 ?_ | refine zq0 ?_ | refine zq8 ?_ | refine zq6 ?_ | refine zq1 ?_ | refine zq13 ?_ | refine zq12 ?_ | refine zq7 ?_ | refine zq2 ?_ | refine zq9 ?_))
  exact q (i1, i2, i3) _ ⟨ha i1 (by simp), ha i2 (by simp), ha i3 (by simp)⟩ hS'
end
section
variable {x0 x1 : Str} {S S0 : Sto} {Q : Wd → Sto → Prop}
end
end WF.TC
namespace WF
open PySem PySem.Spec PyProof.Rows L2 DL
end WF
namespace WF
open PySem PySem.Spec PyProof.Rows L2 DL
end WF
namespace WF
open PySem PySem.Spec PyProof.Rows L2 DL PL
section
variable {S0 S : Sto} {Q : Wd → Sto → Prop} {l : Lim} {x0 x1 : Str}
structure Itm (l : Lim) : Prop where
  sz : szL l ≤ 61
  dp : depL l ≤ 3
  ok : okW big (encL l) = true
theorem dep_enc : ∀ (k : Nat) (l : Lim), depL l ≤ k → (encL l).depth ≤ 2 * k + 1
  | k, .one w i, _ => by unfold encL; simp [PyData.depth, PyData.depthAll]
  | 0, .join b ls, h => by rw [dep_join] at h; omega
  | k + 1, .join b ls, h => by
    rw [dep_join] at h
    have a : PyData.depthAll (ls.map encL) ≤ 2 * k + 1 := depthAll_iff.2 fun x hx => by
      obtain ⟨y, hy, rfl⟩ := List.mem_map.1 hx
      exact dep_enc k y (by have := dep_mem hy; omega)
    rw [encL_join]
    simp only [PyData.depth, PyData.depthAll]
    omega
theorem sz_shift (a : CW → Int) : ∀ l : Lim, szL (shiftL a l) = szL l := by
  suffices hh : ∀ (k : Nat) (l : Lim), szL l ≤ k → szL (shiftL a l) = szL l from fun l => hh _ l (Nat.le_refl _)
  intro k
  induction k with
  | zero => intro l hl; have := szL_pos l; omega
  | succ k ih =>
    intro l hl
    cases l with
    | one w n => simp only [shiftL, szL]
    | join b ls =>
      rw [sz_join] at hl
      rw [shiftL_join, sz_join, sz_join]
      congr 1
      have : ∀ ms : List Lim, szLs ms ≤ k → szLs (ms.map (shiftL a)) = szLs ms := by
        intro ms
        induction ms with
        | nil => intro _; rfl
        | cons x ms ih2 =>
          intro h
          simp only [szLs] at h
          simp only [List.map_cons, szLs]
          rw [ih x (by omega), ih2 (by omega)]
      exact this ls (by omega)
end
end WF
namespace WF
open PySem PySem.Spec PyProof.Rows L2 DL PL
section
variable {S0 S : Sto} {Q : Wd → Sto → Prop} {l : Lim} {x0 x1 : Str}
theorem Itm.gw (h : Itm l) : Gw big 183 7 (encL l) := ⟨h.ok, by rw [nodes_lim]; have := h.sz; omega, dep_enc 3 l h.dp⟩
theorem Itm.shows (h : Itm l) : Shows (encL l) := WF.Gw.shows h.gw (by decide) (by decide)
end
end WF
namespace WF
open PySem PySem.Spec PyProof.Rows L2 DL
end WF
namespace WF
open PySem PySem.Spec PyProof.Rows L2 DL
end WF
namespace WF
open PySem PySem.Spec PyProof.Rows L2 DL
end WF
namespace WF
open PySem PySem.Spec PyProof.Rows L2 DL PL
section
variable {S S' : Sto} {ρ : Ev} {fE : Mx} {xE : Xm} {z x : Str} {c : List Int} {a l t : Int} {v w : Wd} {N : Ev → Sto → Prop} {Rt : Wd → Sto → Prop}
end
section
theorem depLs_app : ∀ (a b : List Lim), depLs (a ++ b) = max (depLs a) (depLs b)
  | [], b => by simp [depLs]
  | x :: a, b => by simp only [List.cons_append, depLs, depLs_app a b]; omega
theorem okLs {m : Nat} {ls : List Lim} : okWs m (ls.map encL) = true ↔ ∀ x ∈ ls, okW m (encL x) = true := by
  rw [okWs_iff]
  exact ⟨fun h x hx => h _ (List.mem_map_of_mem hx), fun h w hw => by obtain ⟨x, hx, rfl⟩ := List.mem_map.1 hw; exact h x hx⟩
theorem ok_join {m : Nat} {b : Bool} {ls : List Lim} : okW m (encL (.join b ls)) = true ↔ ∀ x ∈ ls, okW m (encL x) = true := by
  rw [encL_join]
  simp only [okW, okWs, Bool.and_eq_true, Bool.and_true]
  rw [okLs]
  refine ⟨fun h => h.2, fun h => ⟨?_, h⟩⟩
  cases b <;> decide +kernel
structure Szs (s d : Nat) (l : Lim) : Prop where
  sz : szL l ≤ s
  dp : depL l ≤ d
  ok : okW big (encL l) = true
theorem Szs.put {l y : Lim} {q : List Int} {os : List Lim} (h : At l q y) (hq : q ≠ []) {s d : Nat} (ho : okW big (encL l) = true) (hos : ∀ o ∈ os, okW big (encL o) = true) (hs : szLs os ≤ s) (hd : depLs os ≤ d) : Szs (szL l + s) (depL l + d) (putR l q os) := by
  induction h with
  | nil l => exact absurd rfl hq
  | @cons b ls k x y q hk ht ih =>
    have cut := cut_eq hk
    have okl := ok_join.1 ho
    have hm := List.mem_of_getElem? hk
    have z1 := congrArg szLs cut
    rw [szLs_app] at z1
    simp only [szLs] at z1
    have d1 := congrArg depLs cut
    rw [depLs_app] at d1
    simp only [depLs] at d1
    have mid : ∀ (zs : List Lim), (∀ o ∈ zs, okW big (encL o) = true) → szLs zs ≤ szL x + s → depLs zs ≤ depL x + d → Szs (szL (.join b ls) + s) (depL (.join b ls) + d) (.join b (ls.take k ++ zs ++ ls.drop (k + 1))) := fun zs h1 h2 h3 => by
      refine ⟨?_, ?_, ok_join.2 fun w hw => ?_⟩
      · rw [sz_join, sz_join, szLs_app, szLs_app]
        omega
      · rw [dep_join, dep_join, depLs_app, depLs_app]
        omega
      · rcases List.mem_append.1 hw with hw | hw
        · rcases List.mem_append.1 hw with hw | hw
          · exact okl w (List.mem_of_mem_take hw)
          · exact h1 w hw
        · exact okl w (List.mem_of_mem_drop hw)
    cases q with
    | nil =>
      simp only [putR, Int.toNat_natCast]
      exact mid os hos (by omega) (by omega)
    | cons j q =>
      have g := ih (by simp) (okl x hm)
      have e : putR (.join b ls) ((k : Int) :: j :: q) os = .join b (ls.take k ++ [putR x (j :: q) os] ++ ls.drop (k + 1)) := by
        simp only [putR, Int.toNat_natCast, hk, setAt, List.append_assoc]
        rfl
      rw [e]
      refine mid _ (fun o hm' => ?_) (by simp only [szLs]; have := g.sz; omega) (by simp only [depLs]; have := g.dp; omega)
      rw [List.mem_singleton.1 hm']
      exact g.ok
end
end WF
namespace WF
open PySem PySem.Spec PyProof.Rows L2 DL PL
section
variable {l y y' : Lim} {q : List Int}
theorem gEq_ints (q r : List Int) : gEq (.tuple (q.map PyData.int)) (.tuple (r.map PyData.int)) = some (.bool (decide (q = r))) := by
  simp only [gEq]
  rw [if_pos ⟨shaped_ints q, shaped_ints r⟩, eqv_ints]
end
end WF
namespace WF
open PySem PySem.Spec PyProof.Rows L2 DL PL
mutual
def cnt : Lim → Nat
  | .one _ _ => 1
  | .join _ ls => cnts ls
def cnts : List Lim → Nat
  | [] => 0
  | l :: ls => cnt l + cnts ls
end
theorem cnts_app : ∀ (a b : List Lim), cnts (a ++ b) = cnts a + cnts b
  | [], b => by simp [cnts]
  | x :: a, b => by simp only [List.cons_append, cnts, cnts_app a b]; omega
def putO (l : Lim) (q : List Int) (o : Lim) : Lim := if q = [] then o else putR l q [o]
theorem setAt_set {b : Bool} {ls : List Lim} {k : Nat} {y : Lim} (h : k < ls.length) : setAt (.join b ls) (k : Int) y = .join b (ls.set k y) := by
  show Lim.join b (ls.take (k : Int).toNat ++ y :: ls.drop ((k : Int).toNat + 1)) = _
  rw [Int.toNat_natCast, List.set_eq_take_append_cons_drop, if_pos h]
theorem putO_nil {l o : Lim} : putO l [] o = o := rfl
theorem putO_cons {b : Bool} {ls : List Lim} {k : Nat} {x o : Lim} {q : List Int} (h : ls[k]? = some x) : putO (.join b ls) ((k : Int) :: q) o = .join b (ls.set k (putO x q o)) := by
  have hk := (List.getElem?_eq_some_iff.1 h).1
  rw [← setAt_set hk]
  unfold putO
  rw [if_neg (by simp)]
  cases q with
  | nil =>
    rw [if_pos rfl]
    simp only [putR, setAt, List.append_assoc]
    rfl
  | cons j q =>
    rw [if_neg (by simp)]
    simp only [putR, Int.toNat_natCast, h]
theorem set_self {ls : List Lim} {k : Nat} {x : Lim} (h : ls[k]? = some x) : ls.set k x = ls := by
  refine List.ext_getElem? fun i => ?_
  by_cases c : k = i
  · subst c
    rw [List.getElem?_set_self (List.getElem?_eq_some_iff.1 h).1, h]
  · rw [List.getElem?_set_ne c]
theorem put_self {l y : Lim} {q : List Int} (h : At l q y) : putO l q y = l := by
  induction h with
  | nil l => rfl
  | cons h t ih => rw [putO_cons h, ih, set_self h]
theorem put_at {l y : Lim} {q : List Int} (o : Lim) (h : At l q y) : At (putO l q o) q o := by
  induction h with
  | nil l => exact .nil _
  | cons h t ih =>
    rw [putO_cons h]
    exact .cons (List.getElem?_set_self (List.getElem?_eq_some_iff.1 h).1) ih
theorem put_put {l y : Lim} {q : List Int} {o o' : Lim} (h : At l q y) : putO (putO l q o) q o' = putO l q o' := by
  induction h with
  | nil l => rfl
  | cons h t ih => rw [putO_cons h, putO_cons (List.getElem?_set_self (List.getElem?_eq_some_iff.1 h).1), putO_cons h, ih, List.set_set]
theorem cnts_set {ls : List Lim} {k : Nat} {x y : Lim} (h : ls[k]? = some x) : cnts (ls.set k y) + cnt x = cnts ls + cnt y := by
  have hk := (List.getElem?_eq_some_iff.1 h).1
  have e2 := congrArg cnts (cut_eq h)
  rw [cnts_app] at e2
  simp only [cnts] at e2
  rw [List.set_eq_take_append_cons_drop, if_pos hk, cnts_app]
  simp only [cnts]
  omega
theorem szLs_set {ls : List Lim} {k : Nat} {x y : Lim} (h : ls[k]? = some x) : szLs (ls.set k y) + szL x = szLs ls + szL y := by
  have hk := (List.getElem?_eq_some_iff.1 h).1
  have e2 := congrArg szLs (cut_eq h)
  rw [szLs_app] at e2
  simp only [szLs] at e2
  rw [List.set_eq_take_append_cons_drop, if_pos hk, szLs_app]
  simp only [szLs]
  omega
theorem put_cnt {l y : Lim} {q : List Int} (o : Lim) (h : At l q y) : cnt (putO l q o) + cnt y = cnt l + cnt o := by
  induction h with
  | nil l => rw [putO_nil]; omega
  | @cons b ls k x y q h t ih =>
    rw [putO_cons h]
    have := cnts_set (y := putO x q o) h
    simp only [cnt]
    omega
theorem put_sz {l y : Lim} {q : List Int} (o : Lim) (h : At l q y) : szL (putO l q o) + szL y = szL l + szL o := by
  induction h with
  | nil l => rw [putO_nil]; omega
  | @cons b ls k x y q h t ih =>
    rw [putO_cons h]
    have := szLs_set (y := putO x q o) h
    simp only [szL]
    omega
theorem put_limB {l y o : Lim} {q : List Int} {lo hi : Int} (h : At l q y) {j : Nat} (ho : LimB lo hi j o) : ∀ {k : Nat}, LimB lo hi k l → LimB lo hi (k + j) (putO l q o) := by
  induction h with
  | nil l => exact fun hl => ho.mono (Int.le_refl _) (Int.le_refl _) (by omega)
  | @cons b ls i x y q h t ih =>
    intro k hl
    obtain ⟨m, rfl, h0, h1, h2⟩ := hl.join_
    rw [putO_cons h, show m + 1 + j = m + j + 1 by omega]
    refine LimB.mk_join (fun e => ?_) (by rw [List.length_set]; exact h1) fun z hz => ?_
    · have := congrArg List.length e
      rw [List.length_set] at this
      exact h0 (List.length_eq_zero_iff.1 this)
    · rcases List.mem_or_eq_of_mem_set hz with hz | rfl
      · exact (h2 z hz).mono (Int.le_refl _) (Int.le_refl _) (by omega)
      · exact ih (h2 x (List.mem_of_getElem? h))
theorem wo_put {l : Lim} {p : List Int} {b : Bool} {ls : List Lim} {k : Nat} (h : At l p (.join b ls)) : woL l (p ++ [(k : Int)]) = putO l p (cutAt (.join b ls) k) := by
  generalize e : Lim.join b ls = z at h
  induction h with
  | nil l => subst e; rfl
  | @cons b' ls' k' x' y q h t ih =>
    have := ih e
    rw [putO_cons h, ← this, ← setAt_set (List.getElem?_eq_some_iff.1 h).1]
    cases q with
    | nil => simp only [List.cons_append, List.nil_append, woL, Int.toNat_natCast, h]
    | cons j q => simp only [List.cons_append, woL, Int.toNat_natCast, h]
theorem cut_eq' {b : Bool} {ls : List Lim} {k : Nat} : cutAt (.join b ls) (k : Int) = .join b (ls.take k ++ ls.drop (k + 1)) := by
  show Lim.join b (ls.take (k : Int).toNat ++ ls.drop ((k : Int).toNat + 1)) = _
  rw [Int.toNat_natCast]
theorem cut_cnt' {b : Bool} {ls : List Lim} {k : Nat} {x : Lim} (h : ls[k]? = some x) : cnt (cutAt (.join b ls) k) + cnt x = cnt (.join b ls) := by
  rw [cut_eq']
  have e2 := congrArg cnts (cut_eq h)
  rw [cnts_app] at e2
  simp only [cnts] at e2
  simp only [cnt, cnts_app]
  omega
theorem set_imp {b : Bool} {ls : List Lim} {k : Nat} {x y : Lim} {c : CW → Int} (h : ls[k]? = some x) (hi : passes y c = true → passes x c = true) : passes (.join b (ls.set k y)) c = true → passes (.join b ls) c = true := by
  have hm := List.mem_of_getElem? h
  rw [passes_join, passes_join]
  cases b with
  | false =>
    rw [if_neg Bool.false_ne_true, if_neg Bool.false_ne_true]
    intro z
    obtain ⟨w, hw, hp⟩ := List.any_eq_true.1 z
    rcases List.mem_or_eq_of_mem_set hw with hw | rfl
    · exact List.any_eq_true.2 ⟨w, hw, hp⟩
    · exact List.any_eq_true.2 ⟨x, hm, hi hp⟩
  | true =>
    rw [if_pos rfl, if_pos rfl]
    intro z
    have z := List.all_eq_true.1 z
    refine List.all_eq_true.2 fun w hw => ?_
    obtain ⟨i, hi', e⟩ := List.getElem_of_mem hw
    by_cases c' : k = i
    · subst c'
      have : x = w := by
        rw [List.getElem?_eq_getElem hi', e] at h
        exact (Option.some.inj h).symm
      subst this
      refine hi (z y ?_)
      exact List.mem_of_getElem? (List.getElem?_set_self hi')
    · refine z w (List.mem_of_getElem? (i := i) ?_)
      rw [List.getElem?_set_ne c', List.getElem?_eq_getElem hi', e]
theorem put_imp {l y o : Lim} {q : List Int} {c : CW → Int} (h : At l q y) (hi : passes o c = true → passes y c = true) : passes (putO l q o) c = true → passes l c = true := by
  induction h with
  | nil l => exact hi
  | cons h t ih =>
    rw [putO_cons h]
    exact set_imp h (ih hi)
theorem put_imp2 {l y o : Lim} {q : List Int} {c : CW → Int} (h : At l q y) (hi : passes y c = true → passes o c = true) : passes l c = true → passes (putO l q o) c = true := by
  have := put_imp (put_at o h) hi
  rw [put_put h, put_self h] at this
  exact this
theorem wo_first {l : Lim} {p : List Int} {ls : List Lim} {k : Nat} {c : CW → Int} (h : At l p (.join false ls)) : passes (woL l (p ++ [(k : Int)])) c = true → passes l c = true := by
  rw [wo_put h, cut_eq']
  refine put_imp h ?_
  rw [passes_join, passes_join, if_neg Bool.false_ne_true, if_neg Bool.false_ne_true]
  intro z
  obtain ⟨w, hw, hp⟩ := List.any_eq_true.1 z
  refine List.any_eq_true.2 ⟨w, ?_, hp⟩
  rcases List.mem_append.1 hw with hw | hw
  · exact List.mem_of_mem_take hw
  · exact List.mem_of_mem_drop hw
theorem wo_later {l : Lim} {p : List Int} {ls : List Lim} {k : Nat} {c : CW → Int} (h : At l p (.join true ls)) : passes l c = true → passes (woL l (p ++ [(k : Int)])) c = true := by
  rw [wo_put h, cut_eq']
  refine put_imp2 h ?_
  rw [passes_join, passes_join, if_pos rfl, if_pos rfl]
  intro z
  have z := List.all_eq_true.1 z
  refine List.all_eq_true.2 fun w hw => z w ?_
  rcases List.mem_append.1 hw with hw | hw
  · exact List.mem_of_mem_take hw
  · exact List.mem_of_mem_drop hw
end WF
namespace WF
open PySem PySem.Spec PyProof.Rows L2 DL PL
theorem lets_val {l : Lim} {hi : Int} {k : Nat} (h : LimOk hi k l) (S : Sto) : g_lets_limit [encL l] S = .ok (.int ((apL [] l).filter isOneL).length) S := by
  have hz : 2000 ≤ sizeLine := by decide
  have hlen := apL_len [] l
  have h500 := h.z
  have key : ∀ (L : List (List Int × Lim)) (acc : List Wd) (S : Sto), acc.length + L.length ≤ 500 → wpE (lcLoop (gtT (gtCons (gtN 3) (gtCons (gtN 4) gtNil))) (mTru (mBin gIn (mIx (mV 4) (mC (.int 0))) (mC (.tuple [(.str "hours"), (.str "cycles"), (.str "days")])))) (mV 3) (wipeE [some (.val (encL l)), some (.val .none), none, none, none] [3, 4]) (L.map encA) acc S) fun ys S' => S' = S ∧ ys.length = acc.length + (L.filter isOneL).length := by
    intro L
    induction L with
    | nil => intro acc S _; exact w_lc0 ⟨rfl, by simp⟩
    | cons q L ih =>
      intro acc S ha
      obtain ⟨p, x⟩ := q
      simp only [List.length_cons] at ha
      cases x with
      | one w n =>
        refine w_lc1 (ρ1 := [some (.val (encL l)), some (.val .none), none, some (.val (.tuple (p.map .int))), some (.val (encL (.one w n)))]) rfl ?_
        have e : (mTru (mBin gIn (mIx (mV 4) (mC (.int 0))) (mC (.tuple [(.str "hours"), (.str "cycles"), (.str "days")])))) [some (.val (encL l)), some (.val .none), none, some (.val (.tuple (p.map .int))), some (.val (encL (.one w n)))] S = .ok true S := by
          cases w <;> rfl
        refine w_eq e ?_
        (repeat (with_reducible first | refine zq14 ?_ | refine zq11 ?_ | refine zq10 ?_ | refine zq3 ?_ | refine zq4 ?_ | refine zq5 ?_ | refine zq0 ?_ | refine zq8 ?_ | refine zq6 ?_ | refine zq1 ?_ | refine zq13 ?_ | refine zq12 ?_ | refine zq7 ?_ | refine zq2 ?_ | refine zq9 ?_))
        refine ⟨by omega, ?_⟩
        refine wpE_mono (ih _ _ (by simp; omega)) fun ys S' ⟨h1, h2⟩ => ⟨h1, ?_⟩
        rw [h2]
        simp [List.filter_cons, isOneL]
        omega
      | join b ls =>
        refine w_lc1 (ρ1 := [some (.val (encL l)), some (.val .none), none, some (.val (.tuple (p.map .int))), some (.val (encL (.join b ls)))]) rfl ?_
        have e : (mTru (mBin gIn (mIx (mV 4) (mC (.int 0))) (mC (.tuple [(.str "hours"), (.str "cycles"), (.str "days")])))) [some (.val (encL l)), some (.val .none), none, some (.val (.tuple (p.map .int))), some (.val (encL (.join b ls)))] S = .ok false S := by
          cases b <;> rfl
        refine w_eq e ?_
        (repeat (with_reducible first | refine zq14 ?_ | refine zq11 ?_ | refine zq10 ?_ | refine zq3 ?_ | refine zq4 ?_ | refine zq5 ?_ | refine zq0 ?_ | refine zq8 ?_ | refine zq6 ?_ | refine zq1 ?_ | refine zq13 ?_ | refine zq12 ?_ | refine zq7 ?_ | refine zq2 ?_ | refine zq9 ?_))
        refine wpE_mono (ih _ _ (by omega)) fun ys S' ⟨h1, h2⟩ => ⟨h1, ?_⟩
        rw [h2]
        simp [List.filter_cons, isOneL]
  refine wpR_ok (w_def rfl ?_)
  unfold m_lets_limit
  refine zq15 ?_
  (repeat (with_reducible first | refine zq14 ?_ | refine zq11 ?_ | refine zq10 ?_ | refine zq3 ?_ | refine zq4 ?_ | refine zq5 ?_ | refine zq0 ?_ | refine zq8 ?_ | refine zq6 ?_ | refine zq1 ?_ | refine zq13 ?_ | refine zq12 ?_ | refine zq7 ?_ | refine zq2 ?_ | refine zq9 ?_))
  refine w_eq (limit_fault_eq h) ?_
  refine zq15 ?_
  (repeat (with_reducible first | refine zq14 ?_ | refine zq11 ?_ | refine zq10 ?_ | refine zq3 ?_ | refine zq4 ?_ | refine zq5 ?_ | refine zq0 ?_ | refine zq8 ?_ | refine zq6 ?_ | refine zq1 ?_ | refine zq13 ?_ | refine zq12 ?_ | refine zq7 ?_ | refine zq2 ?_ | refine zq9 ?_))
  refine w_eq (all_pairs_eq (by omega)) ?_
  (repeat (with_reducible first | refine zq14 ?_ | refine zq11 ?_ | refine zq10 ?_ | refine zq3 ?_ | refine zq4 ?_ | refine zq5 ?_ | refine zq0 ?_ | refine zq8 ?_ | refine zq6 ?_ | refine zq1 ?_ | refine zq13 ?_ | refine zq12 ?_ | refine zq7 ?_ | refine zq2 ?_ | refine zq9 ?_))
  refine wpE_mono (key _ [] S (by simp; omega)) fun ys S' ⟨h1, h2⟩ => ?_
  subst h1
  (repeat (with_reducible first | refine zq14 ?_ | refine zq11 ?_ | refine zq10 ?_ | refine zq3 ?_ | refine zq4 ?_ | refine zq5 ?_ | refine zq0 ?_ | refine zq8 ?_ | refine zq6 ?_ | refine zq1 ?_ | refine zq13 ?_ | refine zq12 ?_ | refine zq7 ?_ | refine zq2 ?_ | refine zq9 ?_))
  simp only [List.length_nil, Nat.zero_add] at h2
  have := List.length_filter_le isOneL (apL [] l)
  exact ⟨by rw [h2], rfl⟩
mutual
theorem one_cnt : ∀ (p : List Int) (l : Lim), ((apL p l).filter isOneL).length = cnt l
  | p, .one w n => rfl
  | p, .join b ls => by
    have e : isOneL (p, Lim.join b ls) = false := rfl
    simp only [apL, cnt, List.filter_cons, e]
    exact ones_cnt p 0 ls
theorem ones_cnt : ∀ (p : List Int) (k : Nat) (ls : List Lim), ((apLs p k ls).filter isOneL).length = cnts ls
  | p, _, [] => rfl
  | p, k, l :: ls => by simp only [apLs, cnts, List.filter_append, List.length_append, one_cnt _ l, ones_cnt p (k + 1) ls]
end
theorem lets_eq {l : Lim} {hi : Int} {k : Nat} (h : LimOk hi k l) (S : Sto) : g_lets_limit [encL l] S = .ok (.int (cnt l)) S := by
  rw [lets_val h, one_cnt]
theorem ltT_app : ∀ (p : List Int) {a b : List Int}, ltT (p ++ a) (p ++ b) = ltT a b
  | [], a, b => rfl
  | x :: p, a, b => by simp [ltT, ltT_app p]
mutual
theorem apL_asc : ∀ (p : List Int) (l : Lim), ((apL p l).map (·.1)).Pairwise fun a b => ltT a b = true
  | p, .one w n => by simp [apL]
  | p, .join b ls => by
    simp only [apL, List.map_cons]
    refine List.pairwise_cons.2 ⟨fun z hz => ?_, apLs_asc p 0 ls⟩
    obtain ⟨q, hq, rfl⟩ := List.mem_map.1 hz
    obtain ⟨k, x, r, h1, h2, h3⟩ := apLs_at p 0 ls q hq
    rw [h2]
    have := ltT_app p (a := []) (b := (((0 + k : Nat) : Int)) :: r)
    rw [List.append_nil] at this
    rw [this]
    rfl
theorem apLs_asc : ∀ (p : List Int) (j : Nat) (ls : List Lim), ((apLs p j ls).map (·.1)).Pairwise fun a b => ltT a b = true
  | p, _, [] => .nil
  | p, j, l :: ls => by
    simp only [apLs, List.map_append]
    refine List.pairwise_append.2 ⟨apL_asc _ l, apLs_asc p (j + 1) ls, fun a ha b hb => ?_⟩
    obtain ⟨q, hq, rfl⟩ := List.mem_map.1 ha
    obtain ⟨q', hq', rfl⟩ := List.mem_map.1 hb
    obtain ⟨r, e1, h1⟩ := apL_at _ l q hq
    obtain ⟨k, x, r', h2, e2, h3⟩ := apLs_at p (j + 1) ls q' hq'
    rw [e1, e2, List.append_assoc, ltT_app]
    have : (j : Int) < ((j + 1 + k : Nat) : Int) := by omega
    simp only [List.cons_append, List.nil_append, ltT, this, decide_true, Bool.true_or]
end
theorem asc_nodup {ks : List (List Int)} (h : ks.Pairwise fun a b => ltT a b = true) : ks.Nodup := h.imp fun {a b} z e => by
  subst e
  rw [ltT_irr] at z
  cases z
theorem srt_asc {ks : List (List Int)} (h : ks.Pairwise fun a b => ltT a b = true) : srtT (uniqT ks) = ks := by
  rw [uniqT_self (asc_nodup h)]
  exact pwT_uniq (srtT_perm ks) (srtT_pw ks) (h.imp fun z => leT_of z)
mutual
theorem apL_shift : ∀ (p q : List Int) (l : Lim), apL (p ++ q) l = (apL q l).map fun z => (p ++ z.1, z.2)
  | p, q, .one w n => rfl
  | p, q, .join b ls => by simp only [apL, List.map_cons, apLs_shift p q 0 ls]
theorem apLs_shift : ∀ (p q : List Int) (k : Nat) (ls : List Lim), apLs (p ++ q) k ls = (apLs q k ls).map fun z => (p ++ z.1, z.2)
  | p, q, _, [] => rfl
  | p, q, k, l :: ls => by
    simp only [apLs, List.map_append, apLs_shift p q (k + 1) ls]
    rw [List.append_assoc, apL_shift p (q ++ [(k : Int)]) l]
end
def pre (q : List Int) (z : List Int × Lim) : Bool := decide (z.1.take q.length = q)
theorem apLs_pre {k : Nat} {q : List Int} : ∀ (j : Nat) (ls : List Lim) (i : Nat) (x : Lim), ls[i]? = some x → (apLs [] j ls).filter (pre (((j + i : Nat) : Int) :: q)) = ((apL [] x).filter (pre q)).map fun z => (((j + i : Nat) : Int) :: z.1, z.2)
  | _, [], _, _, h => by cases h
  | j, l :: ls, 0, x, h => by
    have h : l = x := by simpa using h
    subst h
    have e : apLs [] j (l :: ls) = apL ([] ++ [(j : Int)]) l ++ apLs [] (j + 1) ls := by simp only [apLs]
    rw [e, List.filter_append]
    have e2 : (apLs [] (j + 1) ls).filter (pre (((j + 0 : Nat) : Int) :: q)) = [] := List.filter_eq_nil_iff.2 fun z hz => by
      obtain ⟨k, y, r, h1, h2, h3⟩ := apLs_at [] (j + 1) ls z hz
      unfold pre
      rw [h2]
      simp only [List.nil_append, List.length_cons, List.take_succ_cons, List.cons.injEq, decide_eq_true_eq, not_and]
      intro c
      omega
    rw [e2, List.append_nil, List.nil_append]
    have e3 := apL_shift [(j : Int)] [] l
    rw [List.append_nil] at e3
    rw [e3, List.filter_map]
    congr 1
    refine List.filter_congr fun z hz => ?_
    show pre _ ([(j : Int)] ++ z.1, z.2) = _
    unfold pre
    simp only [List.singleton_append, List.length_cons, List.take_succ_cons, Nat.add_zero, List.cons.injEq, true_and]
  | j, l :: ls, i + 1, x, h => by
    have h : ls[i]? = some x := by simpa using h
    have e : apLs [] j (l :: ls) = apL ([] ++ [(j : Int)]) l ++ apLs [] (j + 1) ls := by simp only [apLs]
    have ih := apLs_pre (k := k) (q := q) (j + 1) ls i x h
    have ej : j + 1 + i = j + (i + 1) := by omega
    rw [ej] at ih
    have e2 : (apL ([] ++ [(j : Int)]) l).filter (pre (((j + (i + 1) : Nat) : Int) :: q)) = [] := List.filter_eq_nil_iff.2 fun z hz => by
      obtain ⟨r, h2, h3⟩ := apL_at _ l z hz
      unfold pre
      rw [h2]
      simp only [List.nil_append, List.singleton_append, List.length_cons, List.take_succ_cons, List.cons.injEq, decide_eq_true_eq, not_and]
      intro c
      omega
    rw [e, List.filter_append, ih, e2, List.nil_append]
theorem apL_pre {l y : Lim} {q : List Int} (h : At l q y) : (apL [] l).filter (pre q) = apL q y := by
  induction h with
  | nil l => exact List.filter_eq_self.2 fun z _ => by simp [pre]
  | @cons b ls k x y q h t ih =>
    have e : apL [] (Lim.join b ls) = ([], .join b ls) :: apLs [] 0 ls := by simp only [apL]
    rw [e, List.filter_cons_of_neg (by simp [pre])]
    have e1 := apLs_pre (k := k) (q := q) 0 ls k x h
    rw [Nat.zero_add] at e1
    rw [e1, ih]
    exact (apL_shift [(k : Int)] q y).symm
theorem apL_drop {y : Lim} (q : List Int) : (apL q y).map (fun z => (z.1.drop q.length, z.2)) = apL [] y := by
  have e := apL_shift q [] y
  rw [List.append_nil] at e
  rw [e, List.map_map]
  refine (List.map_congr_left fun z _ => ?_).trans (List.map_id _)
  simp
mutual
theorem last_one {lo hi : Int} : ∀ (k : Nat) (p : List Int) (l : Lim), LimB lo hi k l → ∃ fs z, apL p l = fs ++ [z] ∧ isOneL z = true
  | k, p, .one w n, _ => ⟨[], _, rfl, rfl⟩
  | k, p, .join b ls, h => by
    obtain ⟨m, rfl, h0, h1, h2⟩ := h.join_
    obtain ⟨fs, z, e, ez⟩ := lasts_one m p 0 ls h0 h2
    exact ⟨(p, .join b ls) :: fs, z, by simp only [apL, e]; rfl, ez⟩
theorem lasts_one {lo hi : Int} : ∀ (k : Nat) (p : List Int) (j : Nat) (ls : List Lim), ls ≠ [] → (∀ l ∈ ls, LimB lo hi k l) → ∃ fs z, apLs p j ls = fs ++ [z] ∧ isOneL z = true
  | _, _, _, [], h, _ => absurd rfl h
  | k, p, j, [l], _, h => by
    obtain ⟨fs, z, e, ez⟩ := last_one k (p ++ [(j : Int)]) l (h l (List.mem_cons_self ..))
    exact ⟨fs, z, by simp only [apLs, e, List.append_nil], ez⟩
  | k, p, j, l :: l2 :: ls, _, h => by
    obtain ⟨fs, z, e, ez⟩ := lasts_one k p (j + 1) (l2 :: ls) (by simp) fun x hx => h x (List.mem_cons_of_mem _ hx)
    exact ⟨apL (p ++ [(j : Int)]) l ++ fs, z, by rw [apLs, e, List.append_assoc], ez⟩
end
end WF
namespace WF
open PySem PySem.Spec PyProof.Rows L2 DL PL
structure It (l : Lim) : Prop where
  b : LimB 1 99 3 l
  z : szL l ≤ 40
theorem It.ok {l : Lim} (h : It l) : LimOk 99 3 l := ⟨h.b, by have := h.z; omega, by decide⟩
section
variable {S : Sto} {l : Lim} {c z m : Cn}
def addC (a b : Cn) : Cn := (a.1 + b.1, a.2.1 + b.2.1, a.2.2 + b.2.2)
def Pos3 (a : Cn) : Prop := 0 ≤ a.1 ∧ 0 ≤ a.2.1 ∧ 0 ≤ a.2.2
theorem tri_add (a b : Cn) (w : CW) : tri (addC a b) w = tri a w + tri b w := by cases w <;> rfl
theorem tri_pos {a : Cn} (h : Pos3 a) (w : CW) : 0 ≤ tri a w := by obtain ⟨h1, h2, h3⟩ := h; cases w <;> assumption
theorem added_eq : g_added_k11 [encSl c, encSl z] S = .ok (encSl (addC c z)) S := by
  obtain ⟨c1, c2, c3⟩ := c
  obtain ⟨z1, z2, z3⟩ := z
  kernel_rfl
theorem low_reach (c z : Cn) : low c (up1 z) = tri (addC (addC c z) (1, 1, 1)) := by
  funext w
  cases w <;> simp [low, tri, up1, addC] <;> omega
theorem low_reach0 (c : Cn) (w : CW) : tri c w ≤ low c (up1 (0, 0, 0)) w := by
  cases w <;> simp [low, tri, up1] <;> omega
theorem szLs_mem' {x : Lim} : ∀ {ls : List Lim}, x ∈ ls → szL x ≤ szLs ls
  | y :: ls, h => by
    simp only [szLs]
    rcases List.mem_cons.1 h with rfl | h
    · omega
    · have := szLs_mem' h
      omega
theorem nb_same (a : Bool) : gNe (.bool a) (.bool a) = some (.bool false) := by cases a <;> rfl
theorem counts_eq (h : It l) (hz : Pos3 z) (hm : Pos3 m) : g_counts_right_k11 [encL l, encSl c, encSl z, encSl m] S = .ok (.bool true) S := by
  have hs : 2000 ≤ sizeLine := by decide
  have hzz := h.z
  have ws : szL (shiftL (tri z) l) = szL l := sz_shift _ l
  have a1 := fun c => is_passed_eq (S := S) (l := l) (c := c) (by omega)
  have a2 := fun c => is_passed_eq (S := S) (l := shiftL (tri z) l) (c := c) (by omega)
  have a3 := fun z => is_reached_eq (S := S) (l := l) (c := c) (z := z) (by omega)
  have k1 : passes l (tri c) = true → passes l (tri (addC c m)) = true := passes_mono (fun w => by rw [tri_add]; have := tri_pos hm w; omega) l
  have k2 : passes (shiftL (tri z) l) (tri c) = true → passes l (tri c) = true := fun e => shift_weaker (tri_pos hz) l _ e
  have k3 : passes (shiftL (tri z) l) (tri (addC c z)) = passes l (tri c) := by
    rw [passes_shift]
    congr 1
    funext w
    rw [tri_add]
    omega
  have k4 : passes l (tri c) = true → passes l (low c (up1 (0, 0, 0))) = true := passes_mono (low_reach0 c) l
  refine wpR_ok (w_def rfl ?_)
  unfold m_counts_right_k11
  refine zq15 ?_
  (repeat (with_reducible first | refine zq14 ?_ | refine zq11 ?_ | refine zq10 ?_ | refine zq3 ?_ | refine zq4 ?_ | refine zq5 ?_ | refine zq0 ?_ | refine zq8 ?_ | refine zq6 ?_ | refine zq1 ?_ | refine zq13 ?_ | refine zq12 ?_ | refine zq7 ?_ | refine zq2 ?_ | refine zq9 ?_))
  refine w_eq (a1 c) ?_
  (repeat (with_reducible first | refine zq14 ?_ | refine zq11 ?_ | refine zq10 ?_ | refine zq3 ?_ | refine zq4 ?_ | refine zq5 ?_ | refine zq0 ?_ | refine zq8 ?_ | refine zq6 ?_ | refine zq1 ?_ | refine zq13 ?_ | refine zq12 ?_ | refine zq7 ?_ | refine zq2 ?_ | refine zq9 ?_))
  refine w_eq (widened_eq (by omega)) ?_
  (repeat (with_reducible first | refine zq14 ?_ | refine zq11 ?_ | refine zq10 ?_ | refine zq3 ?_ | refine zq4 ?_ | refine zq5 ?_ | refine zq0 ?_ | refine zq8 ?_ | refine zq6 ?_ | refine zq1 ?_ | refine zq13 ?_ | refine zq12 ?_ | refine zq7 ?_ | refine zq2 ?_ | refine zq9 ?_))
  refine w_seqJ (fun ρ S' => S = S' ∧ ρ = [some (.val (encL l)), some (.val (encSl c)), some (.val (encSl z)), some (.val (encSl m)), some (.val (.bool (passes l (tri c)))), some (.val (encL (shiftL (tri z) l))), none, none, none, none, none, none, none]) ?_ ?_
  · (repeat (with_reducible first | refine zq14 ?_ | refine zq11 ?_ | refine zq10 ?_ | refine zq3 ?_ | refine zq4 ?_ | refine zq5 ?_ | refine zq0 ?_ | refine zq8 ?_ | refine zq6 ?_ | refine zq1 ?_ | refine zq13 ?_ | refine zq12 ?_ | refine zq7 ?_ | refine zq2 ?_ | refine zq9 ?_))
    refine w_b (fun e => ?_) (fun e => ?_)
    · (repeat (with_reducible first | refine zq14 ?_ | refine zq11 ?_ | refine zq10 ?_ | refine zq3 ?_ | refine zq4 ?_ | refine zq5 ?_ | refine zq0 ?_ | refine zq8 ?_ | refine zq6 ?_ | refine zq1 ?_ | refine zq13 ?_ | refine zq12 ?_ | refine zq7 ?_ | refine zq2 ?_ | refine zq9 ?_))
      refine w_eq added_eq ?_
      (repeat (with_reducible first | refine zq14 ?_ | refine zq11 ?_ | refine zq10 ?_ | refine zq3 ?_ | refine zq4 ?_ | refine zq5 ?_ | refine zq0 ?_ | refine zq8 ?_ | refine zq6 ?_ | refine zq1 ?_ | refine zq13 ?_ | refine zq12 ?_ | refine zq7 ?_ | refine zq2 ?_ | refine zq9 ?_))
      refine w_eq (a1 _) ?_
      rw [k1 e]
      (repeat (with_reducible first | refine zq14 ?_ | refine zq11 ?_ | refine zq10 ?_ | refine zq3 ?_ | refine zq4 ?_ | refine zq5 ?_ | refine zq0 ?_ | refine zq8 ?_ | refine zq6 ?_ | refine zq1 ?_ | refine zq13 ?_ | refine zq12 ?_ | refine zq7 ?_ | refine zq2 ?_ | refine zq9 ?_))
      exact ⟨rfl, rfl⟩
    · (repeat (with_reducible first | refine zq14 ?_ | refine zq11 ?_ | refine zq10 ?_ | refine zq3 ?_ | refine zq4 ?_ | refine zq5 ?_ | refine zq0 ?_ | refine zq8 ?_ | refine zq6 ?_ | refine zq1 ?_ | refine zq13 ?_ | refine zq12 ?_ | refine zq7 ?_ | refine zq2 ?_ | refine zq9 ?_))
      exact ⟨rfl, rfl⟩
  rintro ρ S' ⟨rfl, rfl⟩
  refine w_seqJ (fun ρ S' => S = S' ∧ ρ = [some (.val (encL l)), some (.val (encSl c)), some (.val (encSl z)), some (.val (encSl m)), some (.val (.bool (passes l (tri c)))), some (.val (encL (shiftL (tri z) l))), none, none, none, none, none, none, none]) ?_ ?_
  · (repeat (with_reducible first | refine zq14 ?_ | refine zq11 ?_ | refine zq10 ?_ | refine zq3 ?_ | refine zq4 ?_ | refine zq5 ?_ | refine zq0 ?_ | refine zq8 ?_ | refine zq6 ?_ | refine zq1 ?_ | refine zq13 ?_ | refine zq12 ?_ | refine zq7 ?_ | refine zq2 ?_ | refine zq9 ?_))
    refine w_eq (a2 _) ?_
    (repeat (with_reducible first | refine zq14 ?_ | refine zq11 ?_ | refine zq10 ?_ | refine zq3 ?_ | refine zq4 ?_ | refine zq5 ?_ | refine zq0 ?_ | refine zq8 ?_ | refine zq6 ?_ | refine zq1 ?_ | refine zq13 ?_ | refine zq12 ?_ | refine zq7 ?_ | refine zq2 ?_ | refine zq9 ?_))
    refine w_b (fun e => ?_) (fun e => ?_)
    · (repeat (with_reducible first | refine zq14 ?_ | refine zq11 ?_ | refine zq10 ?_ | refine zq3 ?_ | refine zq4 ?_ | refine zq5 ?_ | refine zq0 ?_ | refine zq8 ?_ | refine zq6 ?_ | refine zq1 ?_ | refine zq13 ?_ | refine zq12 ?_ | refine zq7 ?_ | refine zq2 ?_ | refine zq9 ?_))
      rw [k2 e]
      (repeat (with_reducible first | refine zq14 ?_ | refine zq11 ?_ | refine zq10 ?_ | refine zq3 ?_ | refine zq4 ?_ | refine zq5 ?_ | refine zq0 ?_ | refine zq8 ?_ | refine zq6 ?_ | refine zq1 ?_ | refine zq13 ?_ | refine zq12 ?_ | refine zq7 ?_ | refine zq2 ?_ | refine zq9 ?_))
      exact ⟨rfl, rfl⟩
    · (repeat (with_reducible first | refine zq14 ?_ | refine zq11 ?_ | refine zq10 ?_ | refine zq3 ?_ | refine zq4 ?_ | refine zq5 ?_ | refine zq0 ?_ | refine zq8 ?_ | refine zq6 ?_ | refine zq1 ?_ | refine zq13 ?_ | refine zq12 ?_ | refine zq7 ?_ | refine zq2 ?_ | refine zq9 ?_))
      exact ⟨rfl, rfl⟩
  rintro ρ S' ⟨rfl, rfl⟩
  refine zq15 ?_
  (repeat (with_reducible first | refine zq14 ?_ | refine zq11 ?_ | refine zq10 ?_ | refine zq3 ?_ | refine zq4 ?_ | refine zq5 ?_ | refine zq0 ?_ | refine zq8 ?_ | refine zq6 ?_ | refine zq1 ?_ | refine zq13 ?_ | refine zq12 ?_ | refine zq7 ?_ | refine zq2 ?_ | refine zq9 ?_))
  refine w_eq added_eq ?_
  (repeat (with_reducible first | refine zq14 ?_ | refine zq11 ?_ | refine zq10 ?_ | refine zq3 ?_ | refine zq4 ?_ | refine zq5 ?_ | refine zq0 ?_ | refine zq8 ?_ | refine zq6 ?_ | refine zq1 ?_ | refine zq13 ?_ | refine zq12 ?_ | refine zq7 ?_ | refine zq2 ?_ | refine zq9 ?_))
  refine w_eq (a2 _) ?_
  rw [k3]
  refine wpO_rfl (nb_same _) ?_
  (repeat (with_reducible first | refine zq14 ?_ | refine zq11 ?_ | refine zq10 ?_ | refine zq3 ?_ | refine zq4 ?_ | refine zq5 ?_ | refine zq0 ?_ | refine zq8 ?_ | refine zq6 ?_ | refine zq1 ?_ | refine zq13 ?_ | refine zq12 ?_ | refine zq7 ?_ | refine zq2 ?_ | refine zq9 ?_))
  refine zq15 ?_
  (repeat (with_reducible first | refine zq14 ?_ | refine zq11 ?_ | refine zq10 ?_ | refine zq3 ?_ | refine zq4 ?_ | refine zq5 ?_ | refine zq0 ?_ | refine zq8 ?_ | refine zq6 ?_ | refine zq1 ?_ | refine zq13 ?_ | refine zq12 ?_ | refine zq7 ?_ | refine zq2 ?_ | refine zq9 ?_))
  refine w_eq added_eq ?_
  (repeat (with_reducible first | refine zq14 ?_ | refine zq11 ?_ | refine zq10 ?_ | refine zq3 ?_ | refine zq4 ?_ | refine zq5 ?_ | refine zq0 ?_ | refine zq8 ?_ | refine zq6 ?_ | refine zq1 ?_ | refine zq13 ?_ | refine zq12 ?_ | refine zq7 ?_ | refine zq2 ?_ | refine zq9 ?_))
  refine w_eq (added_eq (z := (1, 1, 1))) ?_
  (repeat (with_reducible first | refine zq14 ?_ | refine zq11 ?_ | refine zq10 ?_ | refine zq3 ?_ | refine zq4 ?_ | refine zq5 ?_ | refine zq0 ?_ | refine zq8 ?_ | refine zq6 ?_ | refine zq1 ?_ | refine zq13 ?_ | refine zq12 ?_ | refine zq7 ?_ | refine zq2 ?_ | refine zq9 ?_))
  refine zq15 ?_
  (repeat (with_reducible first | refine zq14 ?_ | refine zq11 ?_ | refine zq10 ?_ | refine zq3 ?_ | refine zq4 ?_ | refine zq5 ?_ | refine zq0 ?_ | refine zq8 ?_ | refine zq6 ?_ | refine zq1 ?_ | refine zq13 ?_ | refine zq12 ?_ | refine zq7 ?_ | refine zq2 ?_ | refine zq9 ?_))
  refine w_eq (a3 _) ?_
  (repeat (with_reducible first | refine zq14 ?_ | refine zq11 ?_ | refine zq10 ?_ | refine zq3 ?_ | refine zq4 ?_ | refine zq5 ?_ | refine zq0 ?_ | refine zq8 ?_ | refine zq6 ?_ | refine zq1 ?_ | refine zq13 ?_ | refine zq12 ?_ | refine zq7 ?_ | refine zq2 ?_ | refine zq9 ?_))
  refine w_eq (a1 _) ?_
  rw [low_reach]
  refine wpO_rfl (nb_same _) ?_
  (repeat (with_reducible first | refine zq14 ?_ | refine zq11 ?_ | refine zq10 ?_ | refine zq3 ?_ | refine zq4 ?_ | refine zq5 ?_ | refine zq0 ?_ | refine zq8 ?_ | refine zq6 ?_ | refine zq1 ?_ | refine zq13 ?_ | refine zq12 ?_ | refine zq7 ?_ | refine zq2 ?_ | refine zq9 ?_))
  refine w_seqJ (fun ρ S' => S = S' ∧ ρ = [some (.val (encL l)), some (.val (encSl c)), some (.val (encSl z)), some (.val (encSl m)), some (.val (.bool (passes l (tri c)))), some (.val (encL (shiftL (tri z) l))), some (.val (encSl (addC (addC c z) (1, 1, 1)))), none, none, none, none, none, none]) ?_ ?_
  · (repeat (with_reducible first | refine zq14 ?_ | refine zq11 ?_ | refine zq10 ?_ | refine zq3 ?_ | refine zq4 ?_ | refine zq5 ?_ | refine zq0 ?_ | refine zq8 ?_ | refine zq6 ?_ | refine zq1 ?_ | refine zq13 ?_ | refine zq12 ?_ | refine zq7 ?_ | refine zq2 ?_ | refine zq9 ?_))
    refine w_b (fun e => ?_) (fun e => ?_)
    · (repeat (with_reducible first | refine zq14 ?_ | refine zq11 ?_ | refine zq10 ?_ | refine zq3 ?_ | refine zq4 ?_ | refine zq5 ?_ | refine zq0 ?_ | refine zq8 ?_ | refine zq6 ?_ | refine zq1 ?_ | refine zq13 ?_ | refine zq12 ?_ | refine zq7 ?_ | refine zq2 ?_ | refine zq9 ?_))
      refine w_eq (a3 (0, 0, 0)) ?_
      rw [k4 e]
      (repeat (with_reducible first | refine zq14 ?_ | refine zq11 ?_ | refine zq10 ?_ | refine zq3 ?_ | refine zq4 ?_ | refine zq5 ?_ | refine zq0 ?_ | refine zq8 ?_ | refine zq6 ?_ | refine zq1 ?_ | refine zq13 ?_ | refine zq12 ?_ | refine zq7 ?_ | refine zq2 ?_ | refine zq9 ?_))
      exact ⟨rfl, rfl⟩
    · (repeat (with_reducible first | refine zq14 ?_ | refine zq11 ?_ | refine zq10 ?_ | refine zq3 ?_ | refine zq4 ?_ | refine zq5 ?_ | refine zq0 ?_ | refine zq8 ?_ | refine zq6 ?_ | refine zq1 ?_ | refine zq13 ?_ | refine zq12 ?_ | refine zq7 ?_ | refine zq2 ?_ | refine zq9 ?_))
      exact ⟨rfl, rfl⟩
  rintro ρ S' ⟨rfl, rfl⟩
  refine w_seqJ (fun ρ S' => S = S' ∧ ∃ x7 x8 x9 x11, ρ = [some (.val (encL l)), some (.val (encSl c)), some (.val (encSl z)), some (.val (encSl m)), some (.val (.bool (passes l (tri c)))), some (.val (encL (shiftL (tri z) l))), some (.val (encSl (addC (addC c z) (1, 1, 1)))), x7, x8, x9, none, x11, none]) ?_ ?_
  · (repeat (with_reducible first | refine zq14 ?_ | refine zq11 ?_ | refine zq10 ?_ | refine zq3 ?_ | refine zq4 ?_ | refine zq5 ?_ | refine zq0 ?_ | refine zq8 ?_ | refine zq6 ?_ | refine zq1 ?_ | refine zq13 ?_ | refine zq12 ?_ | refine zq7 ?_ | refine zq2 ?_ | refine zq9 ?_))
    refine w_eq (parts_of_eq (by omega)) ?_
    (repeat (with_reducible first | refine zq14 ?_ | refine zq11 ?_ | refine zq10 ?_ | refine zq3 ?_ | refine zq4 ?_ | refine zq5 ?_ | refine zq0 ?_ | refine zq8 ?_ | refine zq6 ?_ | refine zq1 ?_ | refine zq13 ?_ | refine zq12 ?_ | refine zq7 ?_ | refine zq2 ?_ | refine zq9 ?_))
    refine wp_forT encA (apL [] l) (I := fun ρ S' => S = S' ∧ ∃ x7 x8 x9 x11, ρ = [some (.val (encL l)), some (.val (encSl c)), some (.val (encSl z)), some (.val (encSl m)), some (.val (.bool (passes l (tri c)))), some (.val (encL (shiftL (tri z) l))), some (.val (encSl (addC (addC c z) (1, 1, 1)))), x7, x8, x9, none, x11, none]) ?_ (fun ρ S' h => h) _ _ ⟨rfl, _, _, _, _, rfl⟩
    rintro ⟨p, y⟩ hy ρ S' ⟨rfl, x7, x8, x9, x11, rfl⟩
    obtain ⟨r, e1, hat⟩ := apL_at [] l _ hy
    have hyz := at_len hat
    simp only at hyz
    refine ⟨_, rfl, ?_⟩
    cases y with
    | one w n =>
      cases w <;> ((repeat (with_reducible first | refine zq14 ?_ | refine zq11 ?_ | refine zq10 ?_ | refine zq3 ?_ | refine zq4 ?_ | refine zq5 ?_ | refine zq0 ?_ | refine zq8 ?_ | refine zq6 ?_ | refine zq1 ?_ | refine zq13 ?_ | refine zq12 ?_ | refine zq7 ?_ | refine zq2 ?_ | refine zq9 ?_)); exact ⟨rfl, _, _, _, _, rfl⟩)
    | join b ls =>
      have hls : ∀ x ∈ ls, szL x ≤ 400 := fun x hx => by
        have := szLs_mem' hx
        simp only [szL] at hyz
        omega
      have hpas := is_passed_eq (S := S) (l := .join b ls) (c := c) (by omega)
      rw [passes_join] at hpas
      rw [encL_join] at hpas ⊢
      cases b with
      | false =>
        rw [if_neg Bool.false_ne_true] at hpas
        (repeat (with_reducible first | refine zq14 ?_ | refine zq11 ?_ | refine zq10 ?_ | refine zq3 ?_ | refine zq4 ?_ | refine zq5 ?_ | refine zq0 ?_ | refine zq8 ?_ | refine zq6 ?_ | refine zq1 ?_ | refine zq13 ?_ | refine zq12 ?_ | refine zq7 ?_ | refine zq2 ?_ | refine zq9 ?_))
        refine zq15 ?_
        (repeat (with_reducible first | refine zq14 ?_ | refine zq11 ?_ | refine zq10 ?_ | refine zq3 ?_ | refine zq4 ?_ | refine zq5 ?_ | refine zq0 ?_ | refine zq8 ?_ | refine zq6 ?_ | refine zq1 ?_ | refine zq13 ?_ | refine zq12 ?_ | refine zq7 ?_ | refine zq2 ?_ | refine zq9 ?_))
        refine lc_map (enc := encL) (out := fun x => .bool (passes x (tri c))) ls (by have := len_szLs ls; simp only [szL] at hyz; omega) (fun x hx => ⟨_, rfl, wpX_ok (by
          (repeat (with_reducible first | refine zq14 ?_ | refine zq11 ?_ | refine zq10 ?_ | refine zq3 ?_ | refine zq4 ?_ | refine zq5 ?_ | refine zq0 ?_ | refine zq8 ?_ | refine zq6 ?_ | refine zq1 ?_ | refine zq13 ?_ | refine zq12 ?_ | refine zq7 ?_ | refine zq2 ?_ | refine zq9 ?_))
          exact w_eq (is_passed_eq (hls x hx)) ⟨rfl, rfl⟩)⟩) ?_
        (repeat (with_reducible first | refine zq14 ?_ | refine zq11 ?_ | refine zq10 ?_ | refine zq3 ?_ | refine zq4 ?_ | refine zq5 ?_ | refine zq0 ?_ | refine zq8 ?_ | refine zq6 ?_ | refine zq1 ?_ | refine zq13 ?_ | refine zq12 ?_ | refine zq7 ?_ | refine zq2 ?_ | refine zq9 ?_))
        refine w_eq hpas ?_
        (repeat (with_reducible first | refine zq14 ?_ | refine zq11 ?_ | refine zq10 ?_ | refine zq3 ?_ | refine zq4 ?_ | refine zq5 ?_ | refine zq0 ?_ | refine zq8 ?_ | refine zq6 ?_ | refine zq1 ?_ | refine zq13 ?_ | refine zq12 ?_ | refine zq7 ?_ | refine zq2 ?_ | refine zq9 ?_))
        refine wpO_rfl (in_true _ _) ?_
        refine wpO_rfl (nb_same _) ?_
        (repeat (with_reducible first | refine zq14 ?_ | refine zq11 ?_ | refine zq10 ?_ | refine zq3 ?_ | refine zq4 ?_ | refine zq5 ?_ | refine zq0 ?_ | refine zq8 ?_ | refine zq6 ?_ | refine zq1 ?_ | refine zq13 ?_ | refine zq12 ?_ | refine zq7 ?_ | refine zq2 ?_ | refine zq9 ?_))
        exact ⟨rfl, _, _, _, _, rfl⟩
      | true =>
        rw [if_pos rfl] at hpas
        (repeat (with_reducible first | refine zq14 ?_ | refine zq11 ?_ | refine zq10 ?_ | refine zq3 ?_ | refine zq4 ?_ | refine zq5 ?_ | refine zq0 ?_ | refine zq8 ?_ | refine zq6 ?_ | refine zq1 ?_ | refine zq13 ?_ | refine zq12 ?_ | refine zq7 ?_ | refine zq2 ?_ | refine zq9 ?_))
        refine zq15 ?_
        (repeat (with_reducible first | refine zq14 ?_ | refine zq11 ?_ | refine zq10 ?_ | refine zq3 ?_ | refine zq4 ?_ | refine zq5 ?_ | refine zq0 ?_ | refine zq8 ?_ | refine zq6 ?_ | refine zq1 ?_ | refine zq13 ?_ | refine zq12 ?_ | refine zq7 ?_ | refine zq2 ?_ | refine zq9 ?_))
        refine lc_map (enc := encL) (out := fun x => .bool (passes x (tri c))) ls (by have := len_szLs ls; simp only [szL] at hyz; omega) (fun x hx => ⟨_, rfl, wpX_ok (by
          (repeat (with_reducible first | refine zq14 ?_ | refine zq11 ?_ | refine zq10 ?_ | refine zq3 ?_ | refine zq4 ?_ | refine zq5 ?_ | refine zq0 ?_ | refine zq8 ?_ | refine zq6 ?_ | refine zq1 ?_ | refine zq13 ?_ | refine zq12 ?_ | refine zq7 ?_ | refine zq2 ?_ | refine zq9 ?_))
          exact w_eq (is_passed_eq (hls x hx)) ⟨rfl, rfl⟩)⟩) ?_
        (repeat (with_reducible first | refine zq14 ?_ | refine zq11 ?_ | refine zq10 ?_ | refine zq3 ?_ | refine zq4 ?_ | refine zq5 ?_ | refine zq0 ?_ | refine zq8 ?_ | refine zq6 ?_ | refine zq1 ?_ | refine zq13 ?_ | refine zq12 ?_ | refine zq7 ?_ | refine zq2 ?_ | refine zq9 ?_))
        refine w_eq hpas ?_
        (repeat (with_reducible first | refine zq14 ?_ | refine zq11 ?_ | refine zq10 ?_ | refine zq3 ?_ | refine zq4 ?_ | refine zq5 ?_ | refine zq0 ?_ | refine zq8 ?_ | refine zq6 ?_ | refine zq1 ?_ | refine zq13 ?_ | refine zq12 ?_ | refine zq7 ?_ | refine zq2 ?_ | refine zq9 ?_))
        refine wpO_rfl (notin_false _ _) ?_
        refine wpO_rfl (nb_same _) ?_
        (repeat (with_reducible first | refine zq14 ?_ | refine zq11 ?_ | refine zq10 ?_ | refine zq3 ?_ | refine zq4 ?_ | refine zq5 ?_ | refine zq0 ?_ | refine zq8 ?_ | refine zq6 ?_ | refine zq1 ?_ | refine zq13 ?_ | refine zq12 ?_ | refine zq7 ?_ | refine zq2 ?_ | refine zq9 ?_))
        exact ⟨rfl, _, _, _, _, rfl⟩
  rintro ρ S' ⟨rfl, y7, y8, y9, y11, rfl⟩
  have b1 : ∀ b, g_is_passed [.tuple [.str (jw b), .tuple [encL l, encL l]], encSl c] S = .ok (.bool (passes l (tri c))) S := fun b => by
    have := is_passed_eq (S := S) (l := .join b [l, l]) (c := c) (by simp only [szL, szLs]; omega)
    rw [passes_join, encL_join] at this
    have e : (if b = true then [l, l].all (passes · (tri c)) else [l, l].any (passes · (tri c))) = passes l (tri c) := by cases b <;> simp
    rw [e] at this
    exact this
  refine zq15 ?_
  (repeat (with_reducible first | refine zq14 ?_ | refine zq11 ?_ | refine zq10 ?_ | refine zq3 ?_ | refine zq4 ?_ | refine zq5 ?_ | refine zq0 ?_ | refine zq8 ?_ | refine zq6 ?_ | refine zq1 ?_ | refine zq13 ?_ | refine zq12 ?_ | refine zq7 ?_ | refine zq2 ?_ | refine zq9 ?_))
  refine lc_map (enc := fun b : Bool => PyData.str (jw b)) (out := fun _ => .bool (passes l (tri c))) [false, true] (by show 2 ≤ sizeLine; omega) (fun b _ => ⟨_, rfl, wpX_ok (by
    (repeat (with_reducible first | refine zq14 ?_ | refine zq11 ?_ | refine zq10 ?_ | refine zq3 ?_ | refine zq4 ?_ | refine zq5 ?_ | refine zq0 ?_ | refine zq8 ?_ | refine zq6 ?_ | refine zq1 ?_ | refine zq13 ?_ | refine zq12 ?_ | refine zq7 ?_ | refine zq2 ?_ | refine zq9 ?_))
    exact w_eq (b1 b) ⟨rfl, rfl⟩)⟩) ?_
  (repeat (with_reducible first | refine zq14 ?_ | refine zq11 ?_ | refine zq10 ?_ | refine zq3 ?_ | refine zq4 ?_ | refine zq5 ?_ | refine zq0 ?_ | refine zq8 ?_ | refine zq6 ?_ | refine zq1 ?_ | refine zq13 ?_ | refine zq12 ?_ | refine zq7 ?_ | refine zq2 ?_ | refine zq9 ?_))
  exact ⟨by cases passes l (tri c) <;> rfl, rfl⟩
theorem cut_limOk {l : Lim} {hi : Int} {k j : Nat} {b : Bool} {ls : List Lim} {p : List Int} {x : Lim} (h : LimOk hi k l) (ha : At l p (.join b ls)) (hk : ls[j]? = some x) (hn : 1 < ls.length) : LimOk hi k (woL l (p ++ [(j : Int)])) := by
  have hw := wo_less ha hk hn
  exact ⟨hw.b _ _ _ h.b, by have := hw.z; have := h.z; omega, h.d⟩
theorem at_limOk {l y : Lim} {hi : Int} {k : Nat} {q : List Int} (ha : At l q y) : LimOk hi k l → LimOk hi k y := by
  induction ha with
  | nil l => exact id
  | @cons b ls i x y q h t ih =>
    intro hl
    obtain ⟨m, e, h0, h1, h2⟩ := hl.b.join_
    have hm := List.mem_of_getElem? h
    refine ih ⟨(h2 x hm).mono (Int.le_refl _) (Int.le_refl _) (by omega), ?_, hl.d⟩
    have := szLs_mem' hm
    have := hl.z
    simp only [szL] at this
    omega
theorem without_eq (h : It l) : g_without_right_k11 [encL l, encSl c] S = .ok (.bool true) S := by
  have hs : 2000 ≤ sizeLine := by decide
  have hzz := h.z
  refine wpR_ok (w_def rfl ?_)
  unfold m_without_right_k11
  refine w_seqJ (fun ρ S' => S = S') ?_ ?_
  · (repeat (with_reducible first | refine zq14 ?_ | refine zq11 ?_ | refine zq10 ?_ | refine zq3 ?_ | refine zq4 ?_ | refine zq5 ?_ | refine zq0 ?_ | refine zq8 ?_ | refine zq6 ?_ | refine zq1 ?_ | refine zq13 ?_ | refine zq12 ?_ | refine zq7 ?_ | refine zq2 ?_ | refine zq9 ?_))
    refine w_eq (parts_of_eq (by omega)) ?_
    (repeat (with_reducible first | refine zq14 ?_ | refine zq11 ?_ | refine zq10 ?_ | refine zq3 ?_ | refine zq4 ?_ | refine zq5 ?_ | refine zq0 ?_ | refine zq8 ?_ | refine zq6 ?_ | refine zq1 ?_ | refine zq13 ?_ | refine zq12 ?_ | refine zq7 ?_ | refine zq2 ?_ | refine zq9 ?_))
    refine wp_forT encA (apL [] l) (I := fun ρ S' => S = S' ∧ ∃ x2 x3 x4 x5 x6, ρ = [some (.val (encL l)), some (.val (encSl c)), x2, x3, x4, x5, x6]) ?_ (fun ρ S' h => h.1) _ _ ⟨rfl, _, _, _, _, _, rfl⟩
    rintro ⟨q, y⟩ hy ρ S' ⟨rfl, x2, x3, x4, x5, x6, rfl⟩
    obtain ⟨r, e1, hat⟩ := apL_at [] l _ hy
    simp only [List.nil_append] at e1 hat
    rw [← e1] at hat
    clear e1 r
    by_cases hq : q = []
    · subst hq
      refine ⟨_, rfl, ?_⟩
      (repeat (with_reducible first | refine zq14 ?_ | refine zq11 ?_ | refine zq10 ?_ | refine zq3 ?_ | refine zq4 ?_ | refine zq5 ?_ | refine zq0 ?_ | refine zq8 ?_ | refine zq6 ?_ | refine zq1 ?_ | refine zq13 ?_ | refine zq12 ?_ | refine zq7 ?_ | refine zq2 ?_ | refine zq9 ?_))
      exact ⟨rfl, _, _, _, _, _, rfl⟩
    · obtain ⟨p, b, ls, k, rfl, hp, hk⟩ := hat.split hq
      have hpl := at_len hp
      have hyl := at_len hat
      have hll := len_szLs ls
      have hjz : szL (.join b ls) = 1 + szLs ls := by simp only [szL]
      have ce : DL.cutD ((p ++ [(k : Int)]).map PyData.int) none (some (-1)) = p.map PyData.int := by
        rw [List.map_append]
        exact cut_init
      have ea := part_at_eq (S := S) hp (by omega) (by omega)
      rw [encL_join] at ea
      refine ⟨[some (.val (encL l)), some (.val (encSl c)), some (.val (.tuple ((p ++ [(k : Int)]).map .int))), some (.val (encL y)), x4, x5, x6], rfl, ?_⟩
      (repeat (with_reducible first | refine zq14 ?_ | refine zq11 ?_ | refine zq10 ?_ | refine zq3 ?_ | refine zq4 ?_ | refine zq5 ?_ | refine zq0 ?_ | refine zq8 ?_ | refine zq6 ?_ | refine zq1 ?_ | refine zq13 ?_ | refine zq12 ?_ | refine zq7 ?_ | refine zq2 ?_ | refine zq9 ?_))
      refine wpO_rfl (ne_nil _) ?_
      (repeat (with_reducible first | refine zq14 ?_ | refine zq11 ?_ | refine zq10 ?_ | refine zq3 ?_ | refine zq4 ?_ | refine zq5 ?_ | refine zq0 ?_ | refine zq8 ?_ | refine zq6 ?_ | refine zq1 ?_ | refine zq13 ?_ | refine zq12 ?_ | refine zq7 ?_ | refine zq2 ?_ | refine zq9 ?_))
      refine w_bt (decide_eq_true (by simp)) ?_
      (repeat (with_reducible first | refine zq14 ?_ | refine zq11 ?_ | refine zq10 ?_ | refine zq3 ?_ | refine zq4 ?_ | refine zq5 ?_ | refine zq0 ?_ | refine zq8 ?_ | refine zq6 ?_ | refine zq1 ?_ | refine zq13 ?_ | refine zq12 ?_ | refine zq7 ?_ | refine zq2 ?_ | refine zq9 ?_))
      rw [ce]
      refine w_eq ea ?_
      (repeat (with_reducible first | refine zq14 ?_ | refine zq11 ?_ | refine zq10 ?_ | refine zq3 ?_ | refine zq4 ?_ | refine zq5 ?_ | refine zq0 ?_ | refine zq8 ?_ | refine zq6 ?_ | refine zq1 ?_ | refine zq13 ?_ | refine zq12 ?_ | refine zq7 ?_ | refine zq2 ?_ | refine zq9 ?_))
      rw [List.length_map]
      refine w_b (fun hn => ?_) (fun hn => ?_)
      · have hn : 1 < ls.length := by
          have := of_decide_eq_true hn
          omega
        have ew := without_part_eq (S := S) hp hk hn (by omega)
        have hwz := (wo_less hp hk hn).z
        have hput := wo_put (k := k) hp
        have hat2 : At (woL l (p ++ [(k : Int)])) p (.join b (ls.take k ++ ls.drop (k + 1))) := by
          rw [hput, cut_eq']
          exact put_at _ hp
        have ea2 := part_at_eq (S := S) hat2 (by omega) (by omega)
        rw [encL_join] at ea2
        have i1 := is_passed_eq (S := S) (l := l) (c := c) (by omega)
        have i2 := is_passed_eq (S := S) (l := woL l (p ++ [(k : Int)])) (c := c) (by omega)
        have l1 := lets_eq h.ok S
        have l2 := lets_eq (cut_limOk h.ok hp hk hn) S
        have l3 := lets_eq (at_limOk hat h.ok) S
        have hc : (cnt (woL l (p ++ [(k : Int)])) : Int) = cnt l - cnt y := by
          have c1 := put_cnt (cutAt (.join b ls) k) hp
          have c2 := cut_cnt' (b := b) hk
          rw [← hput] at c1
          omega
        have hlen : (ls.take k ++ ls.drop (k + 1)).length = ls.length - 1 := by
          have := (List.getElem?_eq_some_iff.1 hk).1
          rw [List.length_append, List.length_take, List.length_drop]
          omega
        (repeat (with_reducible first | refine zq14 ?_ | refine zq11 ?_ | refine zq10 ?_ | refine zq3 ?_ | refine zq4 ?_ | refine zq5 ?_ | refine zq0 ?_ | refine zq8 ?_ | refine zq6 ?_ | refine zq1 ?_ | refine zq13 ?_ | refine zq12 ?_ | refine zq7 ?_ | refine zq2 ?_ | refine zq9 ?_))
        refine zq15 ?_
        (repeat (with_reducible first | refine zq14 ?_ | refine zq11 ?_ | refine zq10 ?_ | refine zq3 ?_ | refine zq4 ?_ | refine zq5 ?_ | refine zq0 ?_ | refine zq8 ?_ | refine zq6 ?_ | refine zq1 ?_ | refine zq13 ?_ | refine zq12 ?_ | refine zq7 ?_ | refine zq2 ?_ | refine zq9 ?_))
        refine w_eq ew ?_
        (repeat (with_reducible first | refine zq14 ?_ | refine zq11 ?_ | refine zq10 ?_ | refine zq3 ?_ | refine zq4 ?_ | refine zq5 ?_ | refine zq0 ?_ | refine zq8 ?_ | refine zq6 ?_ | refine zq1 ?_ | refine zq13 ?_ | refine zq12 ?_ | refine zq7 ?_ | refine zq2 ?_ | refine zq9 ?_))
        rw [ce]
        refine w_eq ea ?_
        refine zq15 ?_
        (repeat (with_reducible first | refine zq14 ?_ | refine zq11 ?_ | refine zq10 ?_ | refine zq3 ?_ | refine zq4 ?_ | refine zq5 ?_ | refine zq0 ?_ | refine zq8 ?_ | refine zq6 ?_ | refine zq1 ?_ | refine zq13 ?_ | refine zq12 ?_ | refine zq7 ?_ | refine zq2 ?_ | refine zq9 ?_))
        refine w_eq i1 ?_
        (repeat (with_reducible first | refine zq14 ?_ | refine zq11 ?_ | refine zq10 ?_ | refine zq3 ?_ | refine zq4 ?_ | refine zq5 ?_ | refine zq0 ?_ | refine zq8 ?_ | refine zq6 ?_ | refine zq1 ?_ | refine zq13 ?_ | refine zq12 ?_ | refine zq7 ?_ | refine zq2 ?_ | refine zq9 ?_))
        refine w_eq i2 ?_
        (repeat (with_reducible first | refine zq14 ?_ | refine zq11 ?_ | refine zq10 ?_ | refine zq3 ?_ | refine zq4 ?_ | refine zq5 ?_ | refine zq0 ?_ | refine zq8 ?_ | refine zq6 ?_ | refine zq1 ?_ | refine zq13 ?_ | refine zq12 ?_ | refine zq7 ?_ | refine zq2 ?_ | refine zq9 ?_))
        refine w_seqJ (fun ρ S' => S = S' ∧ ∃ x6, ρ = [some (.val (encL l)), some (.val (encSl c)), some (.val (.tuple ((p ++ [(k : Int)]).map .int))), some (.val (encL y)), some (.val (encL (woL l (p ++ [(k : Int)])))), some (.val (.tuple [.str (jw b), .tuple (ls.map encL)])), x6]) ?_ ?_
        · cases b with
          | false =>
            have hi := wo_first (k := k) (c := tri c) hp
            (repeat (with_reducible first | refine zq14 ?_ | refine zq11 ?_ | refine zq10 ?_ | refine zq3 ?_ | refine zq4 ?_ | refine zq5 ?_ | refine zq0 ?_ | refine zq8 ?_ | refine zq6 ?_ | refine zq1 ?_ | refine zq13 ?_ | refine zq12 ?_ | refine zq7 ?_ | refine zq2 ?_ | refine zq9 ?_))
            refine w_bf (by
              revert hi
              cases passes l (tri c) <;> cases passes (woL l (p ++ [(k : Int)])) (tri c) <;> intro hi <;> first | rfl | exact absurd (hi rfl) Bool.false_ne_true) ?_
            (repeat (with_reducible first | refine zq14 ?_ | refine zq11 ?_ | refine zq10 ?_ | refine zq3 ?_ | refine zq4 ?_ | refine zq5 ?_ | refine zq0 ?_ | refine zq8 ?_ | refine zq6 ?_ | refine zq1 ?_ | refine zq13 ?_ | refine zq12 ?_ | refine zq7 ?_ | refine zq2 ?_ | refine zq9 ?_))
            exact ⟨rfl, _, rfl⟩
          | true =>
            have hi := wo_later (k := k) (c := tri c) hp
            (repeat (with_reducible first | refine zq14 ?_ | refine zq11 ?_ | refine zq10 ?_ | refine zq3 ?_ | refine zq4 ?_ | refine zq5 ?_ | refine zq0 ?_ | refine zq8 ?_ | refine zq6 ?_ | refine zq1 ?_ | refine zq13 ?_ | refine zq12 ?_ | refine zq7 ?_ | refine zq2 ?_ | refine zq9 ?_))
            refine w_bf (by
              revert hi
              cases passes l (tri c) <;> cases passes (woL l (p ++ [(k : Int)])) (tri c) <;> intro hi <;> first | rfl | exact absurd (hi rfl) Bool.false_ne_true) ?_
            (repeat (with_reducible first | refine zq14 ?_ | refine zq11 ?_ | refine zq10 ?_ | refine zq3 ?_ | refine zq4 ?_ | refine zq5 ?_ | refine zq0 ?_ | refine zq8 ?_ | refine zq6 ?_ | refine zq1 ?_ | refine zq13 ?_ | refine zq12 ?_ | refine zq7 ?_ | refine zq2 ?_ | refine zq9 ?_))
            exact ⟨rfl, _, rfl⟩
        rintro ρ S' ⟨rfl, y6, rfl⟩
        refine zq15 ?_
        (repeat (with_reducible first | refine zq14 ?_ | refine zq11 ?_ | refine zq10 ?_ | refine zq3 ?_ | refine zq4 ?_ | refine zq5 ?_ | refine zq0 ?_ | refine zq8 ?_ | refine zq6 ?_ | refine zq1 ?_ | refine zq13 ?_ | refine zq12 ?_ | refine zq7 ?_ | refine zq2 ?_ | refine zq9 ?_))
        rw [ce]
        refine w_eq ea2 ?_
        (repeat (with_reducible first | refine zq14 ?_ | refine zq11 ?_ | refine zq10 ?_ | refine zq3 ?_ | refine zq4 ?_ | refine zq5 ?_ | refine zq0 ?_ | refine zq8 ?_ | refine zq6 ?_ | refine zq1 ?_ | refine zq13 ?_ | refine zq12 ?_ | refine zq7 ?_ | refine zq2 ?_ | refine zq9 ?_))
        rw [List.length_map, List.length_map, hlen]
        refine w_bf (by
          have : ((ls.length - 1 : Nat) : Int) = (ls.length : Int) - 1 := by omega
          rw [this]
          simp) ?_
        (repeat (with_reducible first | refine zq14 ?_ | refine zq11 ?_ | refine zq10 ?_ | refine zq3 ?_ | refine zq4 ?_ | refine zq5 ?_ | refine zq0 ?_ | refine zq8 ?_ | refine zq6 ?_ | refine zq1 ?_ | refine zq13 ?_ | refine zq12 ?_ | refine zq7 ?_ | refine zq2 ?_ | refine zq9 ?_))
        refine w_eq l2 ?_
        (repeat (with_reducible first | refine zq14 ?_ | refine zq11 ?_ | refine zq10 ?_ | refine zq3 ?_ | refine zq4 ?_ | refine zq5 ?_ | refine zq0 ?_ | refine zq8 ?_ | refine zq6 ?_ | refine zq1 ?_ | refine zq13 ?_ | refine zq12 ?_ | refine zq7 ?_ | refine zq2 ?_ | refine zq9 ?_))
        refine w_eq l1 ?_
        (repeat (with_reducible first | refine zq14 ?_ | refine zq11 ?_ | refine zq10 ?_ | refine zq3 ?_ | refine zq4 ?_ | refine zq5 ?_ | refine zq0 ?_ | refine zq8 ?_ | refine zq6 ?_ | refine zq1 ?_ | refine zq13 ?_ | refine zq12 ?_ | refine zq7 ?_ | refine zq2 ?_ | refine zq9 ?_))
        refine w_eq l3 ?_
        (repeat (with_reducible first | refine zq14 ?_ | refine zq11 ?_ | refine zq10 ?_ | refine zq3 ?_ | refine zq4 ?_ | refine zq5 ?_ | refine zq0 ?_ | refine zq8 ?_ | refine zq6 ?_ | refine zq1 ?_ | refine zq13 ?_ | refine zq12 ?_ | refine zq7 ?_ | refine zq2 ?_ | refine zq9 ?_))
        rw [hc]
        refine w_bf (by simp) ?_
        (repeat (with_reducible first | refine zq14 ?_ | refine zq11 ?_ | refine zq10 ?_ | refine zq3 ?_ | refine zq4 ?_ | refine zq5 ?_ | refine zq0 ?_ | refine zq8 ?_ | refine zq6 ?_ | refine zq1 ?_ | refine zq13 ?_ | refine zq12 ?_ | refine zq7 ?_ | refine zq2 ?_ | refine zq9 ?_))
        exact ⟨rfl, _, _, _, _, _, rfl⟩
      · (repeat (with_reducible first | refine zq14 ?_ | refine zq11 ?_ | refine zq10 ?_ | refine zq3 ?_ | refine zq4 ?_ | refine zq5 ?_ | refine zq0 ?_ | refine zq8 ?_ | refine zq6 ?_ | refine zq1 ?_ | refine zq13 ?_ | refine zq12 ?_ | refine zq7 ?_ | refine zq2 ?_ | refine zq9 ?_))
        exact ⟨rfl, _, _, _, _, _, rfl⟩
  · rintro ρ S' rfl
    (repeat (with_reducible first | refine zq14 ?_ | refine zq11 ?_ | refine zq10 ?_ | refine zq3 ?_ | refine zq4 ?_ | refine zq5 ?_ | refine zq0 ?_ | refine zq8 ?_ | refine zq6 ?_ | refine zq1 ?_ | refine zq13 ?_ | refine zq12 ?_ | refine zq7 ?_ | refine zq2 ?_ | refine zq9 ?_))
    exact ⟨rfl, rfl⟩
end
end WF
namespace WF
open PySem PySem.Spec PyProof.Rows L2 DL PL
section
variable {S : Sto} {l y : Lim} {q : List Int}
theorem cut_toK {ys : List Wd} {s : Nat} : DL.cutD ys none (some (s : Int)) = ys.take s := by
  unfold DL.cutD
  rw [HT.sIx_none, HT.sIx_nat]
  simp
theorem cut_fromK {ys : List Wd} {s : Nat} : DL.cutD ys (some (s : Int)) none = ys.drop s := by
  unfold DL.cutD
  rw [HT.sIx_none, HT.sIx_nat]
  rw [List.take_of_length_le (by simp)]
  by_cases h : s ≤ ys.length
  · rw [Nat.min_eq_left h]
  · rw [Nat.min_eq_right (by omega), List.drop_length, List.drop_eq_nil_of_le (by omega)]
theorem It.lay (h : LimB 1 99 3 l) : Lay 7 (encL l) := lay_lim l h
theorem ne_limK {k : Nat} {hi : Int} (h : LimB 1 hi k l) (hk : k ≤ 20) : gNe (encL l) (encL l) = some (.bool false) := gNe_same ((lay_lim l h).sh (by omega)) (SeqAt.eqv_refl _ (lay_lim l h).cl)
theorem lay_ints (q : List Int) : Lay 1 (.tuple (q.map .int)) := Lay.tup (k := 0) fun w hw => by
  obtain ⟨i, _, rfl⟩ := List.mem_map.1 hw
  exact Lay.int
theorem tupsM : ∀ ks : List (List Int), tupsD (ks.map tupD) = some ks
  | [] => rfl
  | k :: ks => by
    show (intsD (k.map .int)).bind _ = _
    rw [ints_self]
    simp only [Option.bind_some, tupsM ks, Option.map_some]
theorem sortT_self {ks : List (List Int)} (h : ks.Pairwise fun a b => ltT a b = true) (hl : ks.length < 64) : gSortSetT [.list (ks.map tupD)] = some (.list (ks.map tupD)) := by
  show (tupsD (ks.map tupD)).bind _ = _
  rw [tupsM]
  simp only [Option.bind_some]
  rw [if_pos hl, srt_asc h]
theorem with_part_eqO {o : Lim} {hi : Int} {k : Nat} (h : At l q y) (hz : szL l ≤ 90) (ho : LimOk hi k o) : g_with_part [encL l, .tuple (q.map .int), encL o] S = .ok (encL (putO l q o)) S := with_part_eq h hz ho
theorem parts_right_eq (h : It l) : g_parts_right_k11 [encL l] S = .ok (.bool true) S := by
  have hs : 2000 ≤ sizeLine := by decide
  have hzz := h.z
  have hlen := apL_len [] l
  refine wpR_ok (w_def rfl ?_)
  unfold m_parts_right_k11
  refine zq15 ?_
  (repeat (with_reducible first | refine zq14 ?_ | refine zq11 ?_ | refine zq10 ?_ | refine zq3 ?_ | refine zq4 ?_ | refine zq5 ?_ | refine zq0 ?_ | refine zq8 ?_ | refine zq6 ?_ | refine zq1 ?_ | refine zq13 ?_ | refine zq12 ?_ | refine zq7 ?_ | refine zq2 ?_ | refine zq9 ?_))
  refine w_eq (parts_of_eq (by omega)) ?_
  refine zq15 ?_
  (repeat (with_reducible first | refine zq14 ?_ | refine zq11 ?_ | refine zq10 ?_ | refine zq3 ?_ | refine zq4 ?_ | refine zq5 ?_ | refine zq0 ?_ | refine zq8 ?_ | refine zq6 ?_ | refine zq1 ?_ | refine zq13 ?_ | refine zq12 ?_ | refine zq7 ?_ | refine zq2 ?_ | refine zq9 ?_))
  refine lc_map (enc := encA) (out := fun z => tupD z.1) (apL [] l) (by omega) (fun z _ => ⟨_, rfl, rfl⟩) ?_
  have e1 : (apL [] l).map (fun z => tupD z.1) = ((apL [] l).map (·.1)).map tupD := by rw [List.map_map]; rfl
  rw [e1]
  have sf := sortT_self (apL_asc [] l) (by rw [List.length_map]; omega)
  have ly : Lay 2 (.list (((apL [] l).map (·.1)).map tupD)) := Lay.lst (k := 1) fun w hw => by
    obtain ⟨k, _, rfl⟩ := List.mem_map.1 hw
    exact lay_ints k
  generalize PyData.list (((apL [] l).map (·.1)).map tupD) = wps at *
  refine zq15 ?_
  (repeat (with_reducible first | refine zq14 ?_ | refine zq11 ?_ | refine zq10 ?_ | refine zq3 ?_ | refine zq4 ?_ | refine zq5 ?_ | refine zq0 ?_ | refine zq8 ?_ | refine zq6 ?_ | refine zq1 ?_ | refine zq13 ?_ | refine zq12 ?_ | refine zq7 ?_ | refine zq2 ?_ | refine zq9 ?_))
  refine wpO_rfl sf ?_
  refine wpO_rfl (gNe_same (ly.sh (by decide)) (SeqAt.eqv_refl _ ly.cl)) ?_
  (repeat (with_reducible first | refine zq14 ?_ | refine zq11 ?_ | refine zq10 ?_ | refine zq3 ?_ | refine zq4 ?_ | refine zq5 ?_ | refine zq0 ?_ | refine zq8 ?_ | refine zq6 ?_ | refine zq1 ?_ | refine zq13 ?_ | refine zq12 ?_ | refine zq7 ?_ | refine zq2 ?_ | refine zq9 ?_))
  have hd : gIx S (.tuple ((apL [] l).map encA)) (.int 0) = some (.tuple [.tuple [], encL l]) := by
    have e : apL [] l = ([], l) :: (apL [] l).tail := by cases l <;> simp [apL]
    rw [e, List.map_cons]
    show atI _ 0 = _
    rw [atI_in (by decide) (by simp only [List.length_cons]; omega)]
    rfl
  refine wpO_rfl hd ?_
  (repeat (with_reducible first | refine zq14 ?_ | refine zq11 ?_ | refine zq10 ?_ | refine zq3 ?_ | refine zq4 ?_ | refine zq5 ?_ | refine zq0 ?_ | refine zq8 ?_ | refine zq6 ?_ | refine zq1 ?_ | refine zq13 ?_ | refine zq12 ?_ | refine zq7 ?_ | refine zq2 ?_ | refine zq9 ?_))
  have ly0 : Lay 8 (.tuple [.tuple [], encL l]) := Lay.tup (k := 7) fun w hw => by
    simp only [List.mem_cons, List.mem_nil_iff, or_false] at hw
    rcases hw with rfl | rfl
    · exact (lay_ints []).mono (by decide)
    · exact It.lay h.b
  refine wpO_rfl (gNe_same (ly0.sh (by decide)) (SeqAt.eqv_refl _ ly0.cl)) ?_
  (repeat (with_reducible first | refine zq14 ?_ | refine zq11 ?_ | refine zq10 ?_ | refine zq3 ?_ | refine zq4 ?_ | refine zq5 ?_ | refine zq0 ?_ | refine zq8 ?_ | refine zq6 ?_ | refine zq1 ?_ | refine zq13 ?_ | refine zq12 ?_ | refine zq7 ?_ | refine zq2 ?_ | refine zq9 ?_))
  refine w_seqJ (fun ρ S' => S = S' ∧ ∃ x4 x5 x6 x7 x8 x9, ρ = [some (.val (encL l)), some (.val (.tuple ((apL [] l).map encA))), some (.own (((apL [] l).filter isOneL).map fun z => encL z.2)), some (.val wps), x4, x5, x6, x7, x8, x9]) ?_ ?_
  · (repeat (with_reducible first | refine zq14 ?_ | refine zq11 ?_ | refine zq10 ?_ | refine zq3 ?_ | refine zq4 ?_ | refine zq5 ?_ | refine zq0 ?_ | refine zq8 ?_ | refine zq6 ?_ | refine zq1 ?_ | refine zq13 ?_ | refine zq12 ?_ | refine zq7 ?_ | refine zq2 ?_ | refine zq9 ?_))
    refine wp_for (I := fun r ρ S' => S = S' ∧ ∃ (done rest : List (List Int × Lim)) (x4 x5 x6 x7 x8 x9 : Option Sl), apL [] l = done ++ rest ∧ r = rest.map encA ∧ ρ = [some (.val (encL l)), some (.val (.tuple ((apL [] l).map encA))), some (.own ((done.filter isOneL).map fun z => encL z.2)), some (.val wps), x4, x5, x6, x7, x8, x9]) ?_ ?_ _ _ _ ⟨rfl, [], apL [] l, _, _, _, _, _, _, rfl, rfl, rfl⟩
    · rintro w r ρ S' ⟨rfl, done, rest, x4, x5, x6, x7, x8, x9, ea, er, rfl⟩
      cases rest with
      | nil => cases er
      | cons z rest =>
      obtain ⟨q, y⟩ := z
      rw [List.map_cons] at er
      obtain ⟨rfl, rfl⟩ := List.cons.inj er
      have hy : (q, y) ∈ apL [] l := by rw [ea]; simp
      obtain ⟨q', e2, hat⟩ := apL_at [] l _ hy
      simp only [List.nil_append] at e2 hat
      rw [← e2] at hat
      clear e2 q'
      have hyl := at_len hat
      have hyk := at_limOk hat h.ok
      have ho77 : LimOk 99 0 (.one .cycles 77) := ⟨LimB.mk_one (by decide), by simp [szL], by decide⟩
      have b1 := part_at_eq (S := S) hat (by omega) (by omega)
      have b2 := is_limit_eq (S := S) hyk
      have b3 := with_part_eqO (S := S) hat (by omega) hyk
      rw [put_self hat] at b3
      have b4 := with_part_eqO (S := S) hat (by omega) ho77
      have hat6 := put_at (.one .cycles 77) hat
      have hz6 := put_sz (.one .cycles 77) hat
      simp only [szL] at hz6
      have hy1 := szL_pos y
      have b5 := part_at_eq (S := S) hat6 (by omega) (by omega)
      have b6 := with_part_eqO (S := S) hat6 (by omega) hyk
      rw [put_put hat, put_self hat] at b6
      have b7 := parts_of_eq (S := S) (l := y) (by omega)
      have e77 : encL (.one .cycles 77) = .tuple [.str "cycles", .int 77] := by simp [encL]; rfl
      rw [e77] at b4 b5
      have n1 := ne_limK hyk.b (by decide)
      have n2 := ne_limK h.b (by decide)
      generalize encL (putO l q (.one .cycles 77)) = w6 at *
      refine ⟨_, rfl, ?_⟩
      refine zq15 ?_
      (repeat (with_reducible first | refine zq14 ?_ | refine zq11 ?_ | refine zq10 ?_ | refine zq3 ?_ | refine zq4 ?_ | refine zq5 ?_ | refine zq0 ?_ | refine zq8 ?_ | refine zq6 ?_ | refine zq1 ?_ | refine zq13 ?_ | refine zq12 ?_ | refine zq7 ?_ | refine zq2 ?_ | refine zq9 ?_))
      refine w_eq b1 ?_
      refine wpO_rfl n1 ?_
      (repeat (with_reducible first | refine zq14 ?_ | refine zq11 ?_ | refine zq10 ?_ | refine zq3 ?_ | refine zq4 ?_ | refine zq5 ?_ | refine zq0 ?_ | refine zq8 ?_ | refine zq6 ?_ | refine zq1 ?_ | refine zq13 ?_ | refine zq12 ?_ | refine zq7 ?_ | refine zq2 ?_ | refine zq9 ?_))
      refine w_eq b2 ?_
      (repeat (with_reducible first | refine zq14 ?_ | refine zq11 ?_ | refine zq10 ?_ | refine zq3 ?_ | refine zq4 ?_ | refine zq5 ?_ | refine zq0 ?_ | refine zq8 ?_ | refine zq6 ?_ | refine zq1 ?_ | refine zq13 ?_ | refine zq12 ?_ | refine zq7 ?_ | refine zq2 ?_ | refine zq9 ?_))
      refine w_eq b3 ?_
      refine wpO_rfl n2 ?_
      (repeat (with_reducible first | refine zq14 ?_ | refine zq11 ?_ | refine zq10 ?_ | refine zq3 ?_ | refine zq4 ?_ | refine zq5 ?_ | refine zq0 ?_ | refine zq8 ?_ | refine zq6 ?_ | refine zq1 ?_ | refine zq13 ?_ | refine zq12 ?_ | refine zq7 ?_ | refine zq2 ?_ | refine zq9 ?_))
      refine zq15 ?_
      (repeat (with_reducible first | refine zq14 ?_ | refine zq11 ?_ | refine zq10 ?_ | refine zq3 ?_ | refine zq4 ?_ | refine zq5 ?_ | refine zq0 ?_ | refine zq8 ?_ | refine zq6 ?_ | refine zq1 ?_ | refine zq13 ?_ | refine zq12 ?_ | refine zq7 ?_ | refine zq2 ?_ | refine zq9 ?_))
      refine w_eq b4 ?_
      refine zq15 ?_
      (repeat (with_reducible first | refine zq14 ?_ | refine zq11 ?_ | refine zq10 ?_ | refine zq3 ?_ | refine zq4 ?_ | refine zq5 ?_ | refine zq0 ?_ | refine zq8 ?_ | refine zq6 ?_ | refine zq1 ?_ | refine zq13 ?_ | refine zq12 ?_ | refine zq7 ?_ | refine zq2 ?_ | refine zq9 ?_))
      refine w_eq b5 ?_
      (repeat (with_reducible first | refine zq14 ?_ | refine zq11 ?_ | refine zq10 ?_ | refine zq3 ?_ | refine zq4 ?_ | refine zq5 ?_ | refine zq0 ?_ | refine zq8 ?_ | refine zq6 ?_ | refine zq1 ?_ | refine zq13 ?_ | refine zq12 ?_ | refine zq7 ?_ | refine zq2 ?_ | refine zq9 ?_))
      refine w_eq b6 ?_
      refine wpO_rfl n2 ?_
      (repeat (with_reducible first | refine zq14 ?_ | refine zq11 ?_ | refine zq10 ?_ | refine zq3 ?_ | refine zq4 ?_ | refine zq5 ?_ | refine zq0 ?_ | refine zq8 ?_ | refine zq6 ?_ | refine zq1 ?_ | refine zq13 ?_ | refine zq12 ?_ | refine zq7 ?_ | refine zq2 ?_ | refine zq9 ?_))
      refine zq15 ?_
      (repeat (with_reducible first | refine zq14 ?_ | refine zq11 ?_ | refine zq10 ?_ | refine zq3 ?_ | refine zq4 ?_ | refine zq5 ?_ | refine zq0 ?_ | refine zq8 ?_ | refine zq6 ?_ | refine zq1 ?_ | refine zq13 ?_ | refine zq12 ?_ | refine zq7 ?_ | refine zq2 ?_ | refine zq9 ?_))
      rw [List.length_map]
      refine zq15 ?_
      (repeat (with_reducible first | refine zq14 ?_ | refine zq11 ?_ | refine zq10 ?_ | refine zq3 ?_ | refine zq4 ?_ | refine zq5 ?_ | refine zq0 ?_ | refine zq8 ?_ | refine zq6 ?_ | refine zq1 ?_ | refine zq13 ?_ | refine zq12 ?_ | refine zq7 ?_ | refine zq2 ?_ | refine zq9 ?_))
      refine w_eq b7 ?_
      (repeat (with_reducible first | refine zq14 ?_ | refine zq11 ?_ | refine zq10 ?_ | refine zq3 ?_ | refine zq4 ?_ | refine zq5 ?_ | refine zq0 ?_ | refine zq8 ?_ | refine zq6 ?_ | refine zq1 ?_ | refine zq13 ?_ | refine zq12 ?_ | refine zq7 ?_ | refine zq2 ?_ | refine zq9 ?_))
      rw [lc_pure (enc := encA) (p := pre q) (out := fun z => encA (z.1.drop q.length, z.2)) (apL [] l) [] (by simp only [List.length_nil]; omega) fun z hz => ?_]
      rotate_left
      · obtain ⟨zp, zy⟩ := z
        refine ⟨_, rfl, wpX_ok ?_, fun _ => wpX_ok ?_⟩
        · (repeat (with_reducible first | refine zq14 ?_ | refine zq11 ?_ | refine zq10 ?_ | refine zq3 ?_ | refine zq4 ?_ | refine zq5 ?_ | refine zq0 ?_ | refine zq8 ?_ | refine zq6 ?_ | refine zq1 ?_ | refine zq13 ?_ | refine zq12 ?_ | refine zq7 ?_ | refine zq2 ?_ | refine zq9 ?_))
          rw [cut_toK, ← List.map_take]
          refine wpO_rfl (gEq_ints _ _) ?_
          (repeat (with_reducible first | refine zq14 ?_ | refine zq11 ?_ | refine zq10 ?_ | refine zq3 ?_ | refine zq4 ?_ | refine zq5 ?_ | refine zq0 ?_ | refine zq8 ?_ | refine zq6 ?_ | refine zq1 ?_ | refine zq13 ?_ | refine zq12 ?_ | refine zq7 ?_ | refine zq2 ?_ | refine zq9 ?_))
          exact ⟨rfl, rfl⟩
        · (repeat (with_reducible first | refine zq14 ?_ | refine zq11 ?_ | refine zq10 ?_ | refine zq3 ?_ | refine zq4 ?_ | refine zq5 ?_ | refine zq0 ?_ | refine zq8 ?_ | refine zq6 ?_ | refine zq1 ?_ | refine zq13 ?_ | refine zq12 ?_ | refine zq7 ?_ | refine zq2 ?_ | refine zq9 ?_))
          rw [cut_fromK, ← List.map_drop]
          exact ⟨rfl, rfl⟩
      rw [List.nil_append, apL_pre hat]
      have e8 : (apL q y).map (fun z => encA (z.1.drop q.length, z.2)) = (apL [] y).map encA := by
        rw [← apL_drop (y := y) q, List.map_map]
        rfl
      rw [e8]
      (repeat (with_reducible first | refine zq14 ?_ | refine zq11 ?_ | refine zq10 ?_ | refine zq3 ?_ | refine zq4 ?_ | refine zq5 ?_ | refine zq0 ?_ | refine zq8 ?_ | refine zq6 ?_ | refine zq1 ?_ | refine zq13 ?_ | refine zq12 ?_ | refine zq7 ?_ | refine zq2 ?_ | refine zq9 ?_))
      have lyp : Lay 9 (.tuple ((apL [] y).map encA)) := Lay.tup (k := 8) fun w hw => by
        obtain ⟨z, hz, rfl⟩ := List.mem_map.1 hw
        obtain ⟨q2, e3, hat3⟩ := apL_at [] y z hz
        refine Lay.tup (k := 7) fun w hw => ?_
        simp only [List.mem_cons, List.mem_nil_iff, or_false] at hw
        rcases hw with rfl | rfl
        · exact (lay_ints _).mono (by decide)
        · exact It.lay (at_limOk hat3 hyk).b
      refine wpO_rfl (gNe_same (lyp.sh (by decide)) (SeqAt.eqv_refl _ lyp.cl)) ?_
      (repeat (with_reducible first | refine zq14 ?_ | refine zq11 ?_ | refine zq10 ?_ | refine zq3 ?_ | refine zq4 ?_ | refine zq5 ?_ | refine zq0 ?_ | refine zq8 ?_ | refine zq6 ?_ | refine zq1 ?_ | refine zq13 ?_ | refine zq12 ?_ | refine zq7 ?_ | refine zq2 ?_ | refine zq9 ?_))
      cases y with
      | one w n =>
        have ap : ((done ++ [(q, Lim.one w n)]).filter isOneL).map (fun z => encL z.2) = ((done.filter isOneL).map fun z => encL z.2) ++ [encL (.one w n)] := by
          rw [List.filter_append, List.map_append]
          rfl
        cases w <;> ((repeat (with_reducible first | refine zq14 ?_ | refine zq11 ?_ | refine zq10 ?_ | refine zq3 ?_ | refine zq4 ?_ | refine zq5 ?_ | refine zq0 ?_ | refine zq8 ?_ | refine zq6 ?_ | refine zq1 ?_ | refine zq13 ?_ | refine zq12 ?_ | refine zq7 ?_ | refine zq2 ?_ | refine zq9 ?_)); refine ⟨by have h1 := List.length_filter_le isOneL done; have h2 := congrArg List.length ea; rw [List.length_append] at h2; rw [List.length_map]; omega, rfl, done ++ [_], rest, ?_, ?_, ?_, ?_, ?_, ?_, by rw [ea, List.append_assoc]; rfl, rfl, ?_⟩; rotate_left 6; rw [ap]; rfl)
      | join b ls =>
        have ap : ((done ++ [(q, Lim.join b ls)]).filter isOneL).map (fun z => encL z.2) = ((done.filter isOneL).map fun z => encL z.2) := by
          rw [List.filter_append, List.map_append]
          exact List.append_nil _
        cases b <;> ((repeat (with_reducible first | refine zq14 ?_ | refine zq11 ?_ | refine zq10 ?_ | refine zq3 ?_ | refine zq4 ?_ | refine zq5 ?_ | refine zq0 ?_ | refine zq8 ?_ | refine zq6 ?_ | refine zq1 ?_ | refine zq13 ?_ | refine zq12 ?_ | refine zq7 ?_ | refine zq2 ?_ | refine zq9 ?_)); refine ⟨rfl, done ++ [_], rest, ?_, ?_, ?_, ?_, ?_, ?_, by rw [ea, List.append_assoc]; rfl, rfl, ?_⟩; rotate_left 6; rw [ap]; rfl)
    · rintro ρ S' ⟨rfl, done, rest, x4, x5, x6, x7, x8, x9, ea, er, rfl⟩
      cases rest with
      | cons _ _ => cases er
      | nil =>
        rw [List.append_nil] at ea
        rw [← ea]
        exact ⟨rfl, _, _, _, _, _, _, rfl⟩
  rintro ρ S' ⟨rfl, y4, y5, y6, y7, y8, y9, rfl⟩
  have c1 := lets_eq h.ok S
  have c2 := names_in_eq (S := S) (l := l) (by omega)
  have c3 : ((apL [] l).filter isOneL).length = cnt l := one_cnt [] l
  obtain ⟨fs, z, e9, ez⟩ := last_one 3 [] l h.b
  obtain ⟨q, y⟩ := z
  obtain ⟨q', e2, hat⟩ := apL_at [] l (q, y) (by rw [e9]; simp)
  simp only [List.nil_append] at e2 hat
  rw [← e2] at hat
  clear e2 q'
  have cy : cnt y = 1 := by cases y with | one w n => rfl | join b ls => cases ez
  have c4 := with_part_eqO (S := S) hat (by omega) h.ok
  have c5 := put_cnt l hat
  have c6 := put_sz l hat
  have hy1 := szL_pos y
  have c7 := lets_eq (l := putO l q l) (hi := 99) (k := 6) ⟨put_limB (k := 3) (j := 3) hat h.b h.b, by omega, by decide⟩ S
  have hlast : gIx S (.tuple ((apL [] l).map encA)) (.int (-1)) = some (encA (q, y)) := by
    show atI _ _ = _
    refine atI_end ?_
    rw [e9, List.map_append]
    exact List.getLast?_concat
  have hw : ((apL [] l).filter isOneL).map (fun z => wordL z.2) = pws l := by
    unfold pws
    congr 1
    refine List.filter_congr fun z _ => ?_
    obtain ⟨p, x⟩ := z
    cases x <;> rfl
  (repeat (with_reducible first | refine zq14 ?_ | refine zq11 ?_ | refine zq10 ?_ | refine zq3 ?_ | refine zq4 ?_ | refine zq5 ?_ | refine zq0 ?_ | refine zq8 ?_ | refine zq6 ?_ | refine zq1 ?_ | refine zq13 ?_ | refine zq12 ?_ | refine zq7 ?_ | refine zq2 ?_ | refine zq9 ?_))
  refine zq15 ?_
  (repeat (with_reducible first | refine zq14 ?_ | refine zq11 ?_ | refine zq10 ?_ | refine zq3 ?_ | refine zq4 ?_ | refine zq5 ?_ | refine zq0 ?_ | refine zq8 ?_ | refine zq6 ?_ | refine zq1 ?_ | refine zq13 ?_ | refine zq12 ?_ | refine zq7 ?_ | refine zq2 ?_ | refine zq9 ?_))
  refine w_eq c1 ?_
  (repeat (with_reducible first | refine zq14 ?_ | refine zq11 ?_ | refine zq10 ?_ | refine zq3 ?_ | refine zq4 ?_ | refine zq5 ?_ | refine zq0 ?_ | refine zq8 ?_ | refine zq6 ?_ | refine zq1 ?_ | refine zq13 ?_ | refine zq12 ?_ | refine zq7 ?_ | refine zq2 ?_ | refine zq9 ?_))
  rw [List.length_map, c3]
  refine w_bf (by simp) ?_
  (repeat (with_reducible first | refine zq14 ?_ | refine zq11 ?_ | refine zq10 ?_ | refine zq3 ?_ | refine zq4 ?_ | refine zq5 ?_ | refine zq0 ?_ | refine zq8 ?_ | refine zq6 ?_ | refine zq1 ?_ | refine zq13 ?_ | refine zq12 ?_ | refine zq7 ?_ | refine zq2 ?_ | refine zq9 ?_))
  refine w_eq c2 ?_
  (repeat (with_reducible first | refine zq14 ?_ | refine zq11 ?_ | refine zq10 ?_ | refine zq3 ?_ | refine zq4 ?_ | refine zq5 ?_ | refine zq0 ?_ | refine zq8 ?_ | refine zq6 ?_ | refine zq1 ?_ | refine zq13 ?_ | refine zq12 ?_ | refine zq7 ?_ | refine zq2 ?_ | refine zq9 ?_))
  refine lc_map (enc := fun z : List Int × Lim => encL z.2) (out := fun z => .str (wordL z.2)) ((apL [] l).filter isOneL) (by have := List.length_filter_le isOneL (apL [] l); omega) (fun z _ => ⟨_, rfl, wpX_ok (by
    (repeat (with_reducible first | refine zq14 ?_ | refine zq11 ?_ | refine zq10 ?_ | refine zq3 ?_ | refine zq4 ?_ | refine zq5 ?_ | refine zq0 ?_ | refine zq8 ?_ | refine zq6 ?_ | refine zq1 ?_ | refine zq13 ?_ | refine zq12 ?_ | refine zq7 ?_ | refine zq2 ?_ | refine zq9 ?_))
    refine wpO_rfl word_ix ?_
    exact ⟨rfl, rfl⟩)⟩) ?_
  have hw2 : ((apL [] l).filter isOneL).map (fun z => PyData.str (wordL z.2)) = (pws l).map .str := by
    rw [← hw, List.map_map]
    rfl
  rw [hw2]
  (repeat (with_reducible first | refine zq14 ?_ | refine zq11 ?_ | refine zq10 ?_ | refine zq3 ?_ | refine zq4 ?_ | refine zq5 ?_ | refine zq0 ?_ | refine zq8 ?_ | refine zq6 ?_ | refine zq1 ?_ | refine zq13 ?_ | refine zq12 ?_ | refine zq7 ?_ | refine zq2 ?_ | refine zq9 ?_))
  have hpl : (pws l).length < 1000 := by rw [← hw, List.length_map]; have := List.length_filter_le isOneL (apL [] l); omega
  refine wpO_rfl (sortA_strs hpl (by have := uniq_len (l := l); omega)) ?_
  have lyn : Lay 1 (.list ((nmL' l).map .str)) := Lay.lst (k := 0) fun w hw => by
    obtain ⟨x, hx, rfl⟩ := List.mem_map.1 hw
    refine Lay.str ?_
    have hx : x ∈ pws l := by
      have := (srtS_perm (uniqS (pws l))).mem_iff.1 hx
      exact mem_uniqS.1 this
    have := (pws_mem.1 hx).1
    simp only [cws, List.mem_cons, List.mem_nil_iff, or_false] at this
    rcases this with rfl | rfl | rfl <;> decide +kernel
  refine wpO_rfl (gNe_same (lyn.sh (by decide)) (SeqAt.eqv_refl _ lyn.cl)) ?_
  (repeat (with_reducible first | refine zq14 ?_ | refine zq11 ?_ | refine zq10 ?_ | refine zq3 ?_ | refine zq4 ?_ | refine zq5 ?_ | refine zq0 ?_ | refine zq8 ?_ | refine zq6 ?_ | refine zq1 ?_ | refine zq13 ?_ | refine zq12 ?_ | refine zq7 ?_ | refine zq2 ?_ | refine zq9 ?_))
  refine wpO_rfl hlast ?_
  (repeat (with_reducible first | refine zq14 ?_ | refine zq11 ?_ | refine zq10 ?_ | refine zq3 ?_ | refine zq4 ?_ | refine zq5 ?_ | refine zq0 ?_ | refine zq8 ?_ | refine zq6 ?_ | refine zq1 ?_ | refine zq13 ?_ | refine zq12 ?_ | refine zq7 ?_ | refine zq2 ?_ | refine zq9 ?_))
  refine w_eq c4 ?_
  (repeat (with_reducible first | refine zq14 ?_ | refine zq11 ?_ | refine zq10 ?_ | refine zq3 ?_ | refine zq4 ?_ | refine zq5 ?_ | refine zq0 ?_ | refine zq8 ?_ | refine zq6 ?_ | refine zq1 ?_ | refine zq13 ?_ | refine zq12 ?_ | refine zq7 ?_ | refine zq2 ?_ | refine zq9 ?_))
  refine w_eq c7 ?_
  (repeat (with_reducible first | refine zq14 ?_ | refine zq11 ?_ | refine zq10 ?_ | refine zq3 ?_ | refine zq4 ?_ | refine zq5 ?_ | refine zq0 ?_ | refine zq8 ?_ | refine zq6 ?_ | refine zq1 ?_ | refine zq13 ?_ | refine zq12 ?_ | refine zq7 ?_ | refine zq2 ?_ | refine zq9 ?_))
  rw [List.length_map, c3]
  refine ⟨congrArg PyData.bool (decide_eq_true ?_), rfl⟩
  omega
end
end WF
namespace WF
open PySem PySem.Spec PyProof.Rows L2 DL PL
theorem dep_limK {lo hi : Int} : ∀ (k : Nat) (l : Lim), LimB lo hi k l → depL l ≤ k
  | k, .one v n, _ => by simp only [depL]; omega
  | k, .join b ls, h => by
    obtain ⟨k', rfl, h0, h1, h2⟩ := h.join_
    have : ∀ ms : List Lim, (∀ x ∈ ms, LimB lo hi k' x) → depLs ms ≤ k' := by
      intro ms
      induction ms with
      | nil => intro _; simp only [depLs]; omega
      | cons x ms ih =>
        intro h
        have h1 := dep_limK k' x (h x (List.mem_cons_self ..))
        have h2 := ih fun y hy => h y (List.mem_cons_of_mem _ hy)
        simp only [depLs]
        omega
    have := this ls h2
    rw [dep_join]
    omega
theorem It.itm {l : Lim} (h : It l) : Itm l := ⟨by have := h.z; omega, dep_limK 3 l h.b, okW_mono (by decide +kernel) _ (ok_lim 3 l h.b)⟩
mutual
theorem shift_id {a : CW → Int} (h : ∀ w, a w = 0) : ∀ l : Lim, shiftL a l = l
  | .one w n => by simp [shiftL, h w]
  | .join b ls => by rw [shiftL, shift_ids h ls]
theorem shift_ids {a : CW → Int} (h : ∀ w, a w = 0) : ∀ ls : List Lim, shiftLs a ls = ls
  | [] => by simp [shiftLs]
  | l :: ls => by rw [shiftLs, shift_id h l, shift_ids h ls]
end
mutual
theorem shift_two {a b c : CW → Int} (h : ∀ w, c w = b w + a w) : ∀ l : Lim, shiftL a (shiftL b l) = shiftL c l
  | .one w n => by simp only [shiftL, h w, Int.add_assoc]
  | .join k ls => by rw [shiftL, shiftL, shiftL, shift_twos h ls]
theorem shift_twos {a b c : CW → Int} (h : ∀ w, c w = b w + a w) : ∀ ls : List Lim, shiftLs a (shiftLs b ls) = shiftLs c ls
  | [] => by simp [shiftLs]
  | l :: ls => by rw [shiftLs, shiftLs, shiftLs, shift_two h l, shift_twos h ls]
end
mutual
theorem word_shift {a : CW → Int} : ∀ (p : List Int) (l : Lim), ((apL p (shiftL a l)).filter fun q => isOne q.2).map (fun q => wordL q.2) = ((apL p l).filter fun q => isOne q.2).map (fun q => wordL q.2)
  | p, .one w n => by simp only [shiftL, apL]; rfl
  | p, .join b ls => by
    simp only [shiftL, apL]
    rw [List.filter_cons_of_neg (by simp [isOne]), List.filter_cons_of_neg (by simp [isOne])]
    exact words_shift p 0 ls
theorem words_shift {a : CW → Int} : ∀ (p : List Int) (k : Nat) (ls : List Lim), ((apLs p k (shiftLs a ls)).filter fun q => isOne q.2).map (fun q => wordL q.2) = ((apLs p k ls).filter fun q => isOne q.2).map (fun q => wordL q.2)
  | p, k, [] => by simp only [shiftLs]
  | p, k, l :: ls => by
    simp only [shiftLs, apLs, List.filter_append, List.map_append]
    rw [word_shift _ l, words_shift p (k + 1) ls]
end
theorem names_shift {a : CW → Int} (l : Lim) : nmL' (shiftL a l) = nmL' l := by
  unfold nmL' pws
  rw [word_shift]
def deepK : Lim := .join true [.join false [.one .cycles 3, .join true [.one .days 2]], .one .hours 1, .one .cycles 3]
theorem deep_itK : It deepK := ⟨by simp [LimB, deepK], by decide⟩
section
variable {S S0 : Sto}
theorem three_wp {g : Mg} {fe : Mx} {ρ : Ev} {P : Int → Prop} {Q : List Wd → Sto → Prop} (hS : FedOk S0 S)
    (hf : ∀ w S, FedOk S0 S → ∃ ρ1, g w ρ = some ρ1 ∧ wpE (fe ρ1 S) fun y S2 => ∃ n, y = .int n ∧ P n ∧ FedOk S0 S2)
    (q : ∀ (c : Cn) S', P c.1 → P c.2.1 → P c.2.2 → FedOk S0 S' → Q [.int c.1, .int c.2.1, .int c.2.2] S') : wpE (lcLoop g tTrue fe ρ (rangeD 0 3) [] S) Q := by
  have hs := siz
  refine wp_lc (I := fun r acc S => FedOk S0 S ∧ ∃ ns : List Int, acc = ns.map .int ∧ ns.length + r.length = 3 ∧ ∀ n ∈ ns, P n) ?_ ?_ _ _ _ ⟨hS, [], rfl, by simp [rangeD], by simp⟩
  · rintro w r acc S ⟨hS, ns, rfl, hl, hp⟩
    simp only [List.length_cons] at hl
    obtain ⟨ρ1, e1, h1⟩ := hf w S hS
    refine ⟨ρ1, e1, ?_⟩
    (repeat (with_reducible first | refine zq14 ?_ | refine zq11 ?_ | refine zq10 ?_ | refine zq3 ?_ | refine zq4 ?_ | refine zq5 ?_ | refine zq0 ?_ | refine zq8 ?_ | refine zq6 ?_ | refine zq1 ?_ | refine zq13 ?_ | refine zq12 ?_ | refine zq7 ?_ | refine zq2 ?_ | refine zq9 ?_))
    refine wpE_mono h1 fun y S2 ⟨n, e, hn, hS2⟩ => ?_
    subst e
    refine ⟨by rw [List.length_map]; omega, hS2, ns ++ [n], by rw [List.map_append]; rfl, by simp; omega, fun x hx => ?_⟩
    rcases List.mem_append.1 hx with hx | hx
    · exact hp x hx
    · rw [List.mem_singleton.1 hx]
      exact hn
  · rintro acc S ⟨hS, ns, rfl, hl, hp⟩
    match ns, hl with
    | [a, b, c], _ => exact q (a, b, c) S (hp a (by simp)) (hp b (by simp)) (hp c (by simp)) hS
end
theorem law_k11_true (ns : List Int) (h : ns.length ≤ 63) : ∃ S', g_law_k11 [.list (ns.map PyData.int)] [] = .ok (.bool true) S' := by
  suffices hw : wpE (g_law_k11 [.list (ns.map PyData.int)] []) fun w _ => w = .bool true by
    obtain ⟨w, S', e, rfl⟩ := wpE_ex.1 hw
    exact ⟨S', e⟩
  have hz := siz
  have es := feed_k01_eq h
  have hS0 : FedOk [] [fedR ns 0 0 0] := ⟨ns, 0, 0, 0, rfl⟩
  generalize [fedR ns 0 0 0] = Sa at *
  generalize PyData.list (ns.map PyData.int) = wns at *
  refine w_def rfl ?_
  unfold m_law_k11
  refine zq15 ?_
  (repeat (with_reducible first | refine zq14 ?_ | refine zq11 ?_ | refine zq10 ?_ | refine zq3 ?_ | refine zq4 ?_ | refine zq5 ?_ | refine zq0 ?_ | refine zq8 ?_ | refine zq6 ?_ | refine zq1 ?_ | refine zq13 ?_ | refine zq12 ?_ | refine zq7 ?_ | refine zq2 ?_ | refine zq9 ?_))
  refine w_eq es ?_
  refine zq15 ?_
  (repeat (with_reducible first | refine zq14 ?_ | refine zq11 ?_ | refine zq10 ?_ | refine zq3 ?_ | refine zq4 ?_ | refine zq5 ?_ | refine zq0 ?_ | refine zq8 ?_ | refine zq6 ?_ | refine zq1 ?_ | refine zq13 ?_ | refine zq12 ?_ | refine zq7 ?_ | refine zq2 ?_ | refine zq9 ?_))
  refine w_seqJ (fun _ _ => True) ?_ ?_
  · (repeat (with_reducible first | refine zq14 ?_ | refine zq11 ?_ | refine zq10 ?_ | refine zq3 ?_ | refine zq4 ?_ | refine zq5 ?_ | refine zq0 ?_ | refine zq8 ?_ | refine zq6 ?_ | refine zq1 ?_ | refine zq13 ?_ | refine zq12 ?_ | refine zq7 ?_ | refine zq2 ?_ | refine zq9 ?_))
    refine limit_k01_wp 2 12 Sa _ hS0 (by decide) fun l1 S1 hb1 hz1 hS1 => ?_
    have hl1 : It l1 := ⟨hb1.mono (Int.le_refl _) (Int.le_refl _) (by decide), Nat.le_trans hz1 (by decide)⟩
    (repeat (with_reducible first | refine zq14 ?_ | refine zq11 ?_ | refine zq10 ?_ | refine zq3 ?_ | refine zq4 ?_ | refine zq5 ?_ | refine zq0 ?_ | refine zq8 ?_ | refine zq6 ?_ | refine zq1 ?_ | refine zq13 ?_ | refine zq12 ?_ | refine zq7 ?_ | refine zq2 ?_ | refine zq9 ?_))
    refine limit_k01_wp 3 12 S1 _ hS1 (by decide) fun l2 S2 hb2 hz2 hS2 => ?_
    have hl2 : It l2 := ⟨hb2, Nat.le_trans hz2 (by decide)⟩
    (repeat (with_reducible first | refine zq14 ?_ | refine zq11 ?_ | refine zq10 ?_ | refine zq3 ?_ | refine zq4 ?_ | refine zq5 ?_ | refine zq0 ?_ | refine zq8 ?_ | refine zq6 ?_ | refine zq1 ?_ | refine zq13 ?_ | refine zq12 ?_ | refine zq7 ?_ | refine zq2 ?_ | refine zq9 ?_))
    refine w_eq second_eq ?_
    (repeat (with_reducible first | refine zq14 ?_ | refine zq11 ?_ | refine zq10 ?_ | refine zq3 ?_ | refine zq4 ?_ | refine zq5 ?_ | refine zq0 ?_ | refine zq8 ?_ | refine zq6 ?_ | refine zq1 ?_ | refine zq13 ?_ | refine zq12 ?_ | refine zq7 ?_ | refine zq2 ?_ | refine zq9 ?_))
    obtain ⟨pool, hpool⟩ : ∃ pool : List Wd, pool = [PyData.int 0, PyData.int 1, PyData.int 2, PyData.int 4, PyData.int 5, PyData.int 6, PyData.int 7, PyData.int 8, PyData.int 39, PyData.int 40, PyData.int 41, PyData.int 98, PyData.int 99, PyData.int 100, PyData.int 3, PyData.int 9] := ⟨_, rfl⟩
    have hpl : pool.length = 16 := by rw [hpool]; rfl
    have hpi : ∀ y ∈ pool, ∃ i : Int, y = .int i := fun y hy => by
      rw [hpool] at hy
      simp only [List.mem_cons, List.mem_nil_iff, or_false] at hy
      rcases hy with rfl | rfl | rfl | rfl | rfl | rfl | rfl | rfl | rfl | rfl | rfl | rfl | rfl | rfl | rfl | rfl <;> exact ⟨_, rfl⟩
    rw [← hpool]
    refine wp_forT encL [l1, l2, deepK] (I := fun ρ S => FedOk [] S ∧ ∃ x3 x4 x5 x6 x7 x8 x9, ρ = [some (.val wns), some (.val (oW 0)), some (.val (.list pool)), x3, x4, x5, x6, x7, x8, x9]) ?_ (fun _ _ _ => trivial) _ _ ⟨hS2, _, _, _, _, _, _, _, rfl⟩
    rintro l hl ρ S ⟨hS, x3, x4, x5, x6, x7, x8, x9, rfl⟩
    have hI : It l := by
      simp only [List.mem_cons, List.mem_nil_iff, or_false] at hl
      rcases hl with rfl | rfl | rfl
      · exact hl1
      · exact hl2
      · exact deep_itK
    have sh := hI.itm.shows
    have hIz := hI.z
    refine ⟨_, rfl, ?_⟩
    refine zq15 ?_
    (repeat (with_reducible first | refine zq14 ?_ | refine zq11 ?_ | refine zq10 ?_ | refine zq3 ?_ | refine zq4 ?_ | refine zq5 ?_ | refine zq0 ?_ | refine zq8 ?_ | refine zq6 ?_ | refine zq1 ?_ | refine zq13 ?_ | refine zq12 ?_ | refine zq7 ?_ | refine zq2 ?_ | refine zq9 ?_))
    refine wpO_rfl sh ?_
    (repeat (with_reducible first | refine zq14 ?_ | refine zq11 ?_ | refine zq10 ?_ | refine zq3 ?_ | refine zq4 ?_ | refine zq5 ?_ | refine zq0 ?_ | refine zq8 ?_ | refine zq6 ?_ | refine zq1 ?_ | refine zq13 ?_ | refine zq12 ?_ | refine zq7 ?_ | refine zq2 ?_ | refine zq9 ?_))
    refine slack_k01_wp hS fun a S3 ha hS3 => ?_
    have hap : Pos3 a := ⟨ha.1.1, ha.2.1.1, ha.2.2.1⟩
    (repeat (with_reducible first | refine zq14 ?_ | refine zq11 ?_ | refine zq10 ?_ | refine zq3 ?_ | refine zq4 ?_ | refine zq5 ?_ | refine zq0 ?_ | refine zq8 ?_ | refine zq6 ?_ | refine zq1 ?_ | refine zq13 ?_ | refine zq12 ?_ | refine zq7 ?_ | refine zq2 ?_ | refine zq9 ?_))
    refine zq15 ?_
    (repeat (with_reducible first | refine zq14 ?_ | refine zq11 ?_ | refine zq10 ?_ | refine zq3 ?_ | refine zq4 ?_ | refine zq5 ?_ | refine zq0 ?_ | refine zq8 ?_ | refine zq6 ?_ | refine zq1 ?_ | refine zq13 ?_ | refine zq12 ?_ | refine zq7 ?_ | refine zq2 ?_ | refine zq9 ?_))
    refine w_eq (parts_right_eq hI) ?_
    (repeat (with_reducible first | refine zq14 ?_ | refine zq11 ?_ | refine zq10 ?_ | refine zq3 ?_ | refine zq4 ?_ | refine zq5 ?_ | refine zq0 ?_ | refine zq8 ?_ | refine zq6 ?_ | refine zq1 ?_ | refine zq13 ?_ | refine zq12 ?_ | refine zq7 ?_ | refine zq2 ?_ | refine zq9 ?_))
    refine w_seqJ (fun ρ S => FedOk [] S ∧ ∃ x6 x7 x8 x9, ρ = [some (.val wns), some (.val (oW 0)), some (.val (.list pool)), some (.val (encL l)), some (.val (.str (encL l).shown)), some (.val (encSl a)), x6, x7, x8, x9]) ?_ ?_
    · (repeat (with_reducible first | refine zq14 ?_ | refine zq11 ?_ | refine zq10 ?_ | refine zq3 ?_ | refine zq4 ?_ | refine zq5 ?_ | refine zq0 ?_ | refine zq8 ?_ | refine zq6 ?_ | refine zq1 ?_ | refine zq13 ?_ | refine zq12 ?_ | refine zq7 ?_ | refine zq2 ?_ | refine zq9 ?_))
      refine ⟨by decide, ?_⟩
      refine wp_for (I := fun r ρ S => FedOk [] S ∧ ∃ x6 x7 x8 x9, ρ = [some (.val wns), some (.val (oW 0)), some (.val (.list pool)), some (.val (encL l)), some (.val (.str (encL l).shown)), some (.val (encSl a)), x6, x7, x8, x9]) ?_ (fun ρ S h => h) _ _ _ ⟨hS3, _, _, _, _, rfl⟩
      rintro w r ρ S ⟨hS, y6, y7, y8, y9, rfl⟩
      refine ⟨_, rfl, ?_⟩
      refine zq15 ?_
      (repeat (with_reducible first | refine zq14 ?_ | refine zq11 ?_ | refine zq10 ?_ | refine zq3 ?_ | refine zq4 ?_ | refine zq5 ?_ | refine zq0 ?_ | refine zq8 ?_ | refine zq6 ?_ | refine zq1 ?_ | refine zq13 ?_ | refine zq12 ?_ | refine zq7 ?_ | refine zq2 ?_ | refine zq9 ?_))
      refine ⟨by decide, ?_⟩
      refine three_wp (P := fun _ => True) hS (fun w S hS => ⟨_, rfl, ?_⟩) fun c S4 _ _ _ hS4 => ?_
      · (repeat (with_reducible first | refine zq14 ?_ | refine zq11 ?_ | refine zq10 ?_ | refine zq3 ?_ | refine zq4 ?_ | refine zq5 ?_ | refine zq0 ?_ | refine zq8 ?_ | refine zq6 ?_ | refine zq1 ?_ | refine zq13 ?_ | refine zq12 ?_ | refine zq7 ?_ | refine zq2 ?_ | refine zq9 ?_))
        refine draw_k01_wp hS (by decide) (by decide) fun d S' hd0 hd1 hS' => ?_
        (repeat (with_reducible first | refine zq14 ?_ | refine zq11 ?_ | refine zq10 ?_ | refine zq3 ?_ | refine zq4 ?_ | refine zq5 ?_ | refine zq0 ?_ | refine zq8 ?_ | refine zq6 ?_ | refine zq1 ?_ | refine zq13 ?_ | refine zq12 ?_ | refine zq7 ?_ | refine zq2 ?_ | refine zq9 ?_))
        refine pickK hd0 (by rw [hpl]; exact hd1) fun y hy => ?_
        obtain ⟨i, rfl⟩ := hpi y hy
        exact ⟨i, rfl, trivial, hS'⟩
      (repeat (with_reducible first | refine zq14 ?_ | refine zq11 ?_ | refine zq10 ?_ | refine zq3 ?_ | refine zq4 ?_ | refine zq5 ?_ | refine zq0 ?_ | refine zq8 ?_ | refine zq6 ?_ | refine zq1 ?_ | refine zq13 ?_ | refine zq12 ?_ | refine zq7 ?_ | refine zq2 ?_ | refine zq9 ?_))
      refine zq15 ?_
      (repeat (with_reducible first | refine zq14 ?_ | refine zq11 ?_ | refine zq10 ?_ | refine zq3 ?_ | refine zq4 ?_ | refine zq5 ?_ | refine zq0 ?_ | refine zq8 ?_ | refine zq6 ?_ | refine zq1 ?_ | refine zq13 ?_ | refine zq12 ?_ | refine zq7 ?_ | refine zq2 ?_ | refine zq9 ?_))
      refine ⟨by decide, ?_⟩
      refine three_wp (P := fun n => 0 ≤ n) hS4 (fun w S hS => ⟨_, rfl, ?_⟩) fun m S5 m1 m2 m3 hS5 => ?_
      · (repeat (with_reducible first | refine zq14 ?_ | refine zq11 ?_ | refine zq10 ?_ | refine zq3 ?_ | refine zq4 ?_ | refine zq5 ?_ | refine zq0 ?_ | refine zq8 ?_ | refine zq6 ?_ | refine zq1 ?_ | refine zq13 ?_ | refine zq12 ?_ | refine zq7 ?_ | refine zq2 ?_ | refine zq9 ?_))
        refine draw_k01_wp hS (by decide) (by decide) fun d S' hd0 hd1 hS' => ?_
        exact ⟨d, rfl, hd0, hS'⟩
      (repeat (with_reducible first | refine zq14 ?_ | refine zq11 ?_ | refine zq10 ?_ | refine zq3 ?_ | refine zq4 ?_ | refine zq5 ?_ | refine zq0 ?_ | refine zq8 ?_ | refine zq6 ?_ | refine zq1 ?_ | refine zq13 ?_ | refine zq12 ?_ | refine zq7 ?_ | refine zq2 ?_ | refine zq9 ?_))
      refine w_eq (counts_eq (c := c) (m := m) hI hap ⟨m1, m2, m3⟩) ?_
      (repeat (with_reducible first | refine zq14 ?_ | refine zq11 ?_ | refine zq10 ?_ | refine zq3 ?_ | refine zq4 ?_ | refine zq5 ?_ | refine zq0 ?_ | refine zq8 ?_ | refine zq6 ?_ | refine zq1 ?_ | refine zq13 ?_ | refine zq12 ?_ | refine zq7 ?_ | refine zq2 ?_ | refine zq9 ?_))
      refine w_eq (without_eq (c := c) hI) ?_
      (repeat (with_reducible first | refine zq14 ?_ | refine zq11 ?_ | refine zq10 ?_ | refine zq3 ?_ | refine zq4 ?_ | refine zq5 ?_ | refine zq0 ?_ | refine zq8 ?_ | refine zq6 ?_ | refine zq1 ?_ | refine zq13 ?_ | refine zq12 ?_ | refine zq7 ?_ | refine zq2 ?_ | refine zq9 ?_))
      exact ⟨hS5, _, _, _, _, rfl⟩
    rintro ρ S6 ⟨hS6, y6, y7, y8, y9, rfl⟩
    refine zq15 ?_
    (repeat (with_reducible first | refine zq14 ?_ | refine zq11 ?_ | refine zq10 ?_ | refine zq3 ?_ | refine zq4 ?_ | refine zq5 ?_ | refine zq0 ?_ | refine zq8 ?_ | refine zq6 ?_ | refine zq1 ?_ | refine zq13 ?_ | refine zq12 ?_ | refine zq7 ?_ | refine zq2 ?_ | refine zq9 ?_))
    refine w_eq (widened_eq (by omega)) ?_
    refine zq15 ?_
    (repeat (with_reducible first | refine zq14 ?_ | refine zq11 ?_ | refine zq10 ?_ | refine zq3 ?_ | refine zq4 ?_ | refine zq5 ?_ | refine zq0 ?_ | refine zq8 ?_ | refine zq6 ?_ | refine zq1 ?_ | refine zq13 ?_ | refine zq12 ?_ | refine zq7 ?_ | refine zq2 ?_ | refine zq9 ?_))
    refine w_eq (widened_eq (a := (0, 0, 0)) (by omega)) ?_
    rw [shift_id (a := tri (0, 0, 0)) (fun w => by cases w <;> rfl) l]
    refine wpO_rfl (ne_limK hI.b (by decide)) ?_
    (repeat (with_reducible first | refine zq14 ?_ | refine zq11 ?_ | refine zq10 ?_ | refine zq3 ?_ | refine zq4 ?_ | refine zq5 ?_ | refine zq0 ?_ | refine zq8 ?_ | refine zq6 ?_ | refine zq1 ?_ | refine zq13 ?_ | refine zq12 ?_ | refine zq7 ?_ | refine zq2 ?_ | refine zq9 ?_))
    refine zq15 ?_
    (repeat (with_reducible first | refine zq14 ?_ | refine zq11 ?_ | refine zq10 ?_ | refine zq3 ?_ | refine zq4 ?_ | refine zq5 ?_ | refine zq0 ?_ | refine zq8 ?_ | refine zq6 ?_ | refine zq1 ?_ | refine zq13 ?_ | refine zq12 ?_ | refine zq7 ?_ | refine zq2 ?_ | refine zq9 ?_))
    refine w_eq (widened_eq (a := (1, 2, 3)) (by rw [szL_shift]; omega)) ?_
    (repeat (with_reducible first | refine zq14 ?_ | refine zq11 ?_ | refine zq10 ?_ | refine zq3 ?_ | refine zq4 ?_ | refine zq5 ?_ | refine zq0 ?_ | refine zq8 ?_ | refine zq6 ?_ | refine zq1 ?_ | refine zq13 ?_ | refine zq12 ?_ | refine zq7 ?_ | refine zq2 ?_ | refine zq9 ?_))
    refine w_eq (added_eq (c := a) (z := (1, 2, 3))) ?_
    (repeat (with_reducible first | refine zq14 ?_ | refine zq11 ?_ | refine zq10 ?_ | refine zq3 ?_ | refine zq4 ?_ | refine zq5 ?_ | refine zq0 ?_ | refine zq8 ?_ | refine zq6 ?_ | refine zq1 ?_ | refine zq13 ?_ | refine zq12 ?_ | refine zq7 ?_ | refine zq2 ?_ | refine zq9 ?_))
    refine w_eq (widened_eq (by omega)) ?_
    rw [shift_two (a := tri (1, 2, 3)) (b := tri a) (c := tri (addC a (1, 2, 3))) (tri_add _ _) l]
    have hb : LimB 1 200 3 (shiftL (tri (addC a (1, 2, 3))) l) := LimB.shift (lo := 1) (hi := 99) (fun w => by
      obtain ⟨a1, a2, a3⟩ := a
      simp only at ha
      cases w <;> simp only [tri, addC] <;> omega) hI.b
    refine wpO_rfl (ne_limK hb (by decide)) ?_
    (repeat (with_reducible first | refine zq14 ?_ | refine zq11 ?_ | refine zq10 ?_ | refine zq3 ?_ | refine zq4 ?_ | refine zq5 ?_ | refine zq0 ?_ | refine zq8 ?_ | refine zq6 ?_ | refine zq1 ?_ | refine zq13 ?_ | refine zq12 ?_ | refine zq7 ?_ | refine zq2 ?_ | refine zq9 ?_))
    refine w_eq (names_in_eq (by rw [szL_shift]; omega)) ?_
    (repeat (with_reducible first | refine zq14 ?_ | refine zq11 ?_ | refine zq10 ?_ | refine zq3 ?_ | refine zq4 ?_ | refine zq5 ?_ | refine zq0 ?_ | refine zq8 ?_ | refine zq6 ?_ | refine zq1 ?_ | refine zq13 ?_ | refine zq12 ?_ | refine zq7 ?_ | refine zq2 ?_ | refine zq9 ?_))
    refine w_eq (names_in_eq (by omega)) ?_
    rw [names_shift]
    have lyn : Lay 1 (.tuple ((nmL' l).map .str)) := Lay.tup (k := 0) fun w hw => by
      obtain ⟨x, hx, rfl⟩ := List.mem_map.1 hw
      refine Lay.str ?_
      have hx : x ∈ pws l := by
        have := (srtS_perm (uniqS (pws l))).mem_iff.1 hx
        exact mem_uniqS.1 this
      have := (pws_mem.1 hx).1
      simp only [cws, List.mem_cons, List.mem_nil_iff, or_false] at this
      rcases this with rfl | rfl | rfl <;> decide +kernel
    refine wpO_rfl (gNe_same (lyn.sh (by decide)) (SeqAt.eqv_refl _ lyn.cl)) ?_
    (repeat (with_reducible first | refine zq14 ?_ | refine zq11 ?_ | refine zq10 ?_ | refine zq3 ?_ | refine zq4 ?_ | refine zq5 ?_ | refine zq0 ?_ | refine zq8 ?_ | refine zq6 ?_ | refine zq1 ?_ | refine zq13 ?_ | refine zq12 ?_ | refine zq7 ?_ | refine zq2 ?_ | refine zq9 ?_))
    refine wpO_rfl sh ?_
    (repeat (with_reducible first | refine zq14 ?_ | refine zq11 ?_ | refine zq10 ?_ | refine zq3 ?_ | refine zq4 ?_ | refine zq5 ?_ | refine zq0 ?_ | refine zq8 ?_ | refine zq6 ?_ | refine zq1 ?_ | refine zq13 ?_ | refine zq12 ?_ | refine zq7 ?_ | refine zq2 ?_ | refine zq9 ?_))
    refine w_bf (by simp) ?_
    (repeat (with_reducible first | refine zq14 ?_ | refine zq11 ?_ | refine zq10 ?_ | refine zq3 ?_ | refine zq4 ?_ | refine zq5 ?_ | refine zq0 ?_ | refine zq8 ?_ | refine zq6 ?_ | refine zq1 ?_ | refine zq13 ?_ | refine zq12 ?_ | refine zq7 ?_ | refine zq2 ?_ | refine zq9 ?_))
    exact ⟨hS6, _, _, _, _, _, _, _, rfl⟩
  · rintro ρ S' _
    (repeat (with_reducible first | refine zq14 ?_ | refine zq11 ?_ | refine zq10 ?_ | refine zq3 ?_ | refine zq4 ?_ | refine zq5 ?_ | refine zq0 ?_ | refine zq8 ?_ | refine zq6 ?_ | refine zq1 ?_ | refine zq13 ?_ | refine zq12 ?_ | refine zq7 ?_ | refine zq2 ?_ | refine zq9 ?_))
    rfl
end WF
namespace K11
open PySem PySem.Spec PyProof.Rows L2 DL
theorem hfacts {P : Program} {w : World} {K : Fg} {h : Heap} {mg : Str → Option Value} (X : K.In h) (G : h.Ns mainGlobals mg) (c : He.SaysX hfa hfn [] [] hex_ w h K) :
    ∃ fd, FunD K "law" "law" (defArgs (top 44)) (defBody (top 44)) (defScope (top 44)) [] [] (He.ga K "law") fd ∧ mg "law" = some (.ref (He.ga K "law")) ∧ ∀ base : Heap, Cal true P w K mg base 14 "law" (top 44) ["_law_script"] WF.g_law_k11 := by
  have cd := c.t.d
  have m0 := c.more
  obtain ⟨ex_COUNT_WORDS, m1⟩ := Bool.and_eq_true_iff.mp (show (knB "COUNT_WORDS" c_COUNT_WORDS K && (knB "JOINING_WORDS" c_JOINING_WORDS K && (knB "NO_NUMBERS" c_NO_NUMBERS K && true))) = true from m0)
  obtain ⟨ex_JOINING_WORDS, m2⟩ := Bool.and_eq_true_iff.mp (show (knB "JOINING_WORDS" c_JOINING_WORDS K && (knB "NO_NUMBERS" c_NO_NUMBERS K && true)) = true from m1)
  obtain ⟨ex_NO_NUMBERS, m3⟩ := Bool.and_eq_true_iff.mp (show (knB "NO_NUMBERS" c_NO_NUMBERS K && true) = true from m2)
  have B : Bl P K mg := { b_all := He.free_ok X G (cd.fact 32 (f := .free "all") rfl), b_any := He.free_ok X G (cd.fact 33 (f := .free "any") rfl), b_bool := He.free_ok X G (cd.fact 34 (f := .free "bool") rfl), b_enumerate := He.free_ok X G (cd.fact 35 (f := .free "enumerate") rfl), b_int := He.free_ok X G (cd.fact 36 (f := .free "int") rfl), b_isinstance := He.free_ok X G (cd.fact 37 (f := .free "isinstance") rfl), b_len := He.free_ok X G (cd.fact 38 (f := .free "len") rfl), b_list := He.free_ok X G (cd.fact 39 (f := .free "list") rfl), b_range := He.free_ok X G (cd.fact 40 (f := .free "range") rfl), b_repr := He.free_ok X G (cd.fact 41 (f := .free "repr") rfl), b_set := He.free_ok X G (cd.fact 42 (f := .free "set") rfl), b_sorted := He.free_ok X G (cd.fact 43 (f := .free "sorted") rfl), b_str := He.free_ok X G (cd.fact 44 (f := .free "str") rfl), b_tuple := He.free_ok X G (cd.fact 45 (f := .free "tuple") rfl), b_zip := He.free_ok X G (cd.fact 46 (f := .free "zip") rfl), c_COUNT_WORDS := knB_ok X G ex_COUNT_WORDS, c_JOINING_WORDS := knB_ok X G ex_JOINING_WORDS, c_NO_NUMBERS := knB_ok X G ex_NO_NUMBERS }
  have D__law_feed : Dfn K mg "_law_feed" (top 35) := by
    obtain ⟨fd, F⟩ := cd.def_ 0 (d := d__law_feed) rfl
    exact ⟨_, fd, He.glo_ok X G (cd.fact 0 (f := .glo "_law_feed") rfl), F⟩
  have D__law_draw : Dfn K mg "_law_draw" (top 36) := by
    obtain ⟨fd, F⟩ := cd.def_ 1 (d := d__law_draw) rfl
    exact ⟨_, fd, He.glo_ok X G (cd.fact 1 (f := .glo "_law_draw") rfl), F⟩
  have D__law_limit : Dfn K mg "_law_limit" (top 37) := by
    obtain ⟨fd, F⟩ := cd.def_ 2 (d := d__law_limit) rfl
    exact ⟨_, fd, He.glo_ok X G (cd.fact 2 (f := .glo "_law_limit") rfl), F⟩
  have D_inner_pairs : Dfn K mg "inner_pairs" (top 13) := by
    obtain ⟨fd, F⟩ := cd.def_ 3 (d := d_inner_pairs) rfl
    exact ⟨_, fd, He.glo_ok X G (cd.fact 3 (f := .glo "inner_pairs") rfl), F⟩
  have D_all_pairs : Dfn K mg "all_pairs" (top 19) := by
    obtain ⟨fd, F⟩ := cd.def_ 4 (d := d_all_pairs) rfl
    exact ⟨_, fd, He.glo_ok X G (cd.fact 4 (f := .glo "all_pairs") rfl), F⟩
  have D_number_for : Dfn K mg "number_for" (top 20) := by
    obtain ⟨fd, F⟩ := cd.def_ 5 (d := d_number_for) rfl
    exact ⟨_, fd, He.glo_ok X G (cd.fact 5 (f := .glo "number_for") rfl), F⟩
  have D_widened : Dfn K mg "widened" (top 24) := by
    obtain ⟨fd, F⟩ := cd.def_ 6 (d := d_widened) rfl
    exact ⟨_, fd, He.glo_ok X G (cd.fact 6 (f := .glo "widened") rfl), F⟩
  have D__law_slack : Dfn K mg "_law_slack" (top 38) := by
    obtain ⟨fd, F⟩ := cd.def_ 7 (d := d__law_slack) rfl
    exact ⟨_, fd, He.glo_ok X G (cd.fact 7 (f := .glo "_law_slack") rfl), F⟩
  have D_parts_of : Dfn K mg "parts_of" (top 26) := by
    obtain ⟨fd, F⟩ := cd.def_ 8 (d := d_parts_of) rfl
    exact ⟨_, fd, He.glo_ok X G (cd.fact 8 (f := .glo "parts_of") rfl), F⟩
  have D_require_usable : Dfn K mg "require_usable" (top 18) := by
    obtain ⟨fd, F⟩ := cd.def_ 9 (d := d_require_usable) rfl
    exact ⟨_, fd, He.glo_ok X G (cd.fact 9 (f := .glo "require_usable") rfl), F⟩
  have D_is_integer : Dfn K mg "is_integer" (top 9) := by
    obtain ⟨fd, F⟩ := cd.def_ 10 (d := d_is_integer) rfl
    exact ⟨_, fd, He.glo_ok X G (cd.fact 10 (f := .glo "is_integer") rfl), F⟩
  have D_is_number : Dfn K mg "is_number" (top 10) := by
    obtain ⟨fd, F⟩ := cd.def_ 11 (d := d_is_number) rfl
    exact ⟨_, fd, He.glo_ok X G (cd.fact 11 (f := .glo "is_number") rfl), F⟩
  have D_limits_along : Dfn K mg "limits_along" (top 27) := by
    obtain ⟨fd, F⟩ := cd.def_ 12 (d := d_limits_along) rfl
    exact ⟨_, fd, He.glo_ok X G (cd.fact 12 (f := .glo "limits_along") rfl), F⟩
  have D_put_along : Dfn K mg "put_along" (top 28) := by
    obtain ⟨fd, F⟩ := cd.def_ 13 (d := d_put_along) rfl
    exact ⟨_, fd, He.glo_ok X G (cd.fact 13 (f := .glo "put_along") rfl), F⟩
  have D_limit_word : Dfn K mg "limit_word" (top 12) := by
    obtain ⟨fd, F⟩ := cd.def_ 14 (d := d_limit_word) rfl
    exact ⟨_, fd, He.glo_ok X G (cd.fact 14 (f := .glo "limit_word") rfl), F⟩
  have D_is_amount : Dfn K mg "is_amount" (top 11) := by
    obtain ⟨fd, F⟩ := cd.def_ 15 (d := d_is_amount) rfl
    exact ⟨_, fd, He.glo_ok X G (cd.fact 15 (f := .glo "is_amount") rfl), F⟩
  have D_limit_fault : Dfn K mg "limit_fault" (top 14) := by
    obtain ⟨fd, F⟩ := cd.def_ 16 (d := d_limit_fault) rfl
    exact ⟨_, fd, He.glo_ok X G (cd.fact 16 (f := .glo "limit_fault") rfl), F⟩
  have D_is_limit : Dfn K mg "is_limit" (top 15) := by
    obtain ⟨fd, F⟩ := cd.def_ 17 (d := d_is_limit) rfl
    exact ⟨_, fd, He.glo_ok X G (cd.fact 17 (f := .glo "is_limit") rfl), F⟩
  have D_with_part : Dfn K mg "with_part" (top 30) := by
    obtain ⟨fd, F⟩ := cd.def_ 18 (d := d_with_part) rfl
    exact ⟨_, fd, He.glo_ok X G (cd.fact 18 (f := .glo "with_part") rfl), F⟩
  have D_lets_limit : Dfn K mg "lets_limit" (top 33) := by
    obtain ⟨fd, F⟩ := cd.def_ 19 (d := d_lets_limit) rfl
    exact ⟨_, fd, He.glo_ok X G (cd.fact 19 (f := .glo "lets_limit") rfl), F⟩
  have D_part_at : Dfn K mg "part_at" (top 29) := by
    obtain ⟨fd, F⟩ := cd.def_ 20 (d := d_part_at) rfl
    exact ⟨_, fd, He.glo_ok X G (cd.fact 20 (f := .glo "part_at") rfl), F⟩
  have D_names_in : Dfn K mg "names_in" (top 25) := by
    obtain ⟨fd, F⟩ := cd.def_ 21 (d := d_names_in) rfl
    exact ⟨_, fd, He.glo_ok X G (cd.fact 21 (f := .glo "names_in") rfl), F⟩
  have D__law_parts_right : Dfn K mg "_law_parts_right" (top 41) := by
    obtain ⟨fd, F⟩ := cd.def_ 22 (d := d__law_parts_right) rfl
    exact ⟨_, fd, He.glo_ok X G (cd.fact 22 (f := .glo "_law_parts_right") rfl), F⟩
  have D__law_added : Dfn K mg "_law_added" (top 40) := by
    obtain ⟨fd, F⟩ := cd.def_ 23 (d := d__law_added) rfl
    exact ⟨_, fd, He.glo_ok X G (cd.fact 23 (f := .glo "_law_added") rfl), F⟩
  have D_passes_less : Dfn K mg "passes_less" (top 21) := by
    obtain ⟨fd, F⟩ := cd.def_ 24 (d := d_passes_less) rfl
    exact ⟨_, fd, He.glo_ok X G (cd.fact 24 (f := .glo "passes_less") rfl), F⟩
  have D_is_passed : Dfn K mg "is_passed" (top 22) := by
    obtain ⟨fd, F⟩ := cd.def_ 25 (d := d_is_passed) rfl
    exact ⟨_, fd, He.glo_ok X G (cd.fact 25 (f := .glo "is_passed") rfl), F⟩
  have D_is_reached : Dfn K mg "is_reached" (top 23) := by
    obtain ⟨fd, F⟩ := cd.def_ 26 (d := d_is_reached) rfl
    exact ⟨_, fd, He.glo_ok X G (cd.fact 26 (f := .glo "is_reached") rfl), F⟩
  have D__law_counts_right : Dfn K mg "_law_counts_right" (top 42) := by
    obtain ⟨fd, F⟩ := cd.def_ 27 (d := d__law_counts_right) rfl
    exact ⟨_, fd, He.glo_ok X G (cd.fact 27 (f := .glo "_law_counts_right") rfl), F⟩
  have D_without_part : Dfn K mg "without_part" (top 31) := by
    obtain ⟨fd, F⟩ := cd.def_ 28 (d := d_without_part) rfl
    exact ⟨_, fd, He.glo_ok X G (cd.fact 28 (f := .glo "without_part") rfl), F⟩
  have D__law_without_right : Dfn K mg "_law_without_right" (top 43) := by
    obtain ⟨fd, F⟩ := cd.def_ 29 (d := d__law_without_right) rfl
    exact ⟨_, fd, He.glo_ok X G (cd.fact 29 (f := .glo "_law_without_right") rfl), F⟩
  have D__law_second_site : Dfn K mg "_law_second_site" (top 39) := by
    obtain ⟨fd, F⟩ := cd.def_ 30 (d := d__law_second_site) rfl
    exact ⟨_, fd, He.glo_ok X G (cd.fact 30 (f := .glo "_law_second_site") rfl), F⟩
  have D_law : Dfn K mg "law" (top 44) := by
    obtain ⟨fd, F⟩ := cd.def_ 31 (d := d_law) rfl
    exact ⟨_, fd, He.glo_ok X G (cd.fact 31 (f := .glo "law") rfl), F⟩
  obtain ⟨fd, F⟩ := cd.def_ 31 (d := d_law) rfl
  refine ⟨fd, F, He.glo_ok X G (cd.fact 31 (f := .glo "law") rfl), fun base => ?_⟩
  have C__law_feed := c__law_feed (P := P) (w := w) (base := base) B D__law_feed 
  have C__law_draw := c__law_draw (P := P) (w := w) (base := base) B D__law_draw 
  have C__law_limit := c__law_limit (P := P) (w := w) (base := base) B D__law_limit C__law_draw 12
  have C_inner_pairs := c_inner_pairs (P := P) (w := w) (base := base) B D_inner_pairs 
  have C_all_pairs := c_all_pairs (P := P) (w := w) (base := base) B D_all_pairs C_inner_pairs
  have C_number_for := c_number_for (P := P) (w := w) (base := base) B D_number_for 
  have C_widened := c_widened (P := P) (w := w) (base := base) B D_widened C_all_pairs C_number_for
  have C__law_slack := c__law_slack (P := P) (w := w) (base := base) B D__law_slack C__law_draw
  have C_parts_of := c_parts_of (P := P) (w := w) (base := base) B D_parts_of C_all_pairs
  have C_require_usable := c_require_usable (P := P) (w := w) (base := base) B D_require_usable 
  have C_is_integer := c_is_integer (P := P) (w := w) (base := base) B D_is_integer 
  have C_is_number := c_is_number (P := P) (w := w) (base := base) B D_is_number C_is_integer
  have C_limits_along := c_limits_along (P := P) (w := w) (base := base) B D_limits_along C_require_usable C_is_number
  have C_put_along := c_put_along (P := P) (w := w) (base := base) B D_put_along 
  have C_limit_word := c_limit_word (P := P) (w := w) (base := base) B D_limit_word 
  have C_is_amount := c_is_amount (P := P) (w := w) (base := base) B D_is_amount C_is_integer
  have C_limit_fault := c_limit_fault (P := P) (w := w) (base := base) B D_limit_fault C_limit_word C_is_amount C_inner_pairs
  have C_is_limit := c_is_limit (P := P) (w := w) (base := base) B D_is_limit C_limit_fault
  have C_with_part := c_with_part (P := P) (w := w) (base := base) B D_with_part C_limits_along C_require_usable C_is_limit C_put_along
  have C_lets_limit := c_lets_limit (P := P) (w := w) (base := base) B D_lets_limit C_limit_fault C_all_pairs
  have C_part_at := c_part_at (P := P) (w := w) (base := base) B D_part_at C_limits_along
  have C_names_in := c_names_in (P := P) (w := w) (base := base) B D_names_in C_all_pairs
  have C__law_parts_right := c__law_parts_right (P := P) (w := w) (base := base) B D__law_parts_right C_parts_of C_part_at C_is_limit C_with_part C_lets_limit C_names_in
  have C__law_added := c__law_added (P := P) (w := w) (base := base) B D__law_added 
  have C_passes_less := c_passes_less (P := P) (w := w) (base := base) B D_passes_less C_all_pairs C_number_for
  have C_is_passed := c_is_passed (P := P) (w := w) (base := base) B D_is_passed C_passes_less
  have C_is_reached := c_is_reached (P := P) (w := w) (base := base) B D_is_reached C_passes_less
  have C__law_counts_right := c__law_counts_right (P := P) (w := w) (base := base) B D__law_counts_right C_is_passed C_widened C__law_added C_is_reached C_parts_of
  have C_without_part := c_without_part (P := P) (w := w) (base := base) B D_without_part C_limits_along C_require_usable C_put_along
  have C__law_without_right := c__law_without_right (P := P) (w := w) (base := base) B D__law_without_right C_parts_of C_part_at C_without_part C_is_passed C_lets_limit
  have C__law_second_site := c__law_second_site (P := P) (w := w) (base := base) B D__law_second_site 
  have C_law := c_law (P := P) (w := w) (base := base) B D_law C__law_feed C__law_limit C__law_second_site C__law_slack C__law_parts_right C__law_draw C__law_counts_right C__law_without_right C_widened C__law_added C_names_in
  exact C_law
end K11
open PySem PySem.W PySem.Calls PyProof.Rows
theorem PySem.Challenge.cw_whichfirst_k11_whole_limits_holds : PySem.Challenge.rw_whichfirst_k11_whole_limits.Holds := by
  w_on; o_law
  refine HandSHeadRun.head_any (r := OpenLaw.row PySem.Challenge.rw_whichfirst_k11_whole_limits) (q := view (OpenLaw.row PySem.Challenge.rw_whichfirst_k11_whole_limits).prog [44]) (H := K11.hhk) (ob := K11.hob) (M := 4000) (loose := K11.hnames) (d := HandSHeadRun.topDef (OpenLaw.row PySem.Challenge.rw_whichfirst_k11_whole_limits).prog 44) (kwd := []) K11.hob_eq
    (by kernel_rfl) (fun s => by kernel_rfl) K11.hrun (by kernel_rfl) (by kernel_rfl) (by kernel_rfl) (by rfl) (by first | assumption | decide +kernel) (by decide +kernel) ⟨rfl, rfl, rfl, rfl, rfl, by decide +kernel⟩ ?hw ?hc
  case hw => w_witness2
  case hc =>
    refine DL.walk_D (G := true) (l := PySem.Challenge.rw_whichfirst_k11_whole_limits) (n := 63) (k := 14) (x := "_law_script") (g := WF.g_law_k11) rfl (by decide) (by kernel_rfl) ⟨rfl, by decide, by decide⟩ ?F WF.law_k11_true
    intro w mg fa h Y G hmg0
    obtain ⟨K, KX, c⟩ := Y
    have hmg : mg ("law" : PySem.Str) = some (.ref fa) := by
      have e : (HandSHeadRun.topDef (OpenLaw.row PySem.Challenge.rw_whichfirst_k11_whole_limits).prog 44).name = ("law" : PySem.Str) := by kernel_rfl
      rw [← e]
      exact hmg0
    obtain ⟨fd, F, hm, C⟩ := K11.hfacts (P := (PySem.Challenge.rw_whichfirst_k11_whole_limits).prog) (w := w) KX G c
    have ef := hm.symm.trans hmg
    cases ef
    have b := L2.FunD.bindsA (ps := ["_law_script"]) F fun _ _ _ _ _ _ us hl => match us, hl with | [_], _ => rfl
    exact ⟨K, fd, KX, fun s v => b s [v] rfl, fun base _ _ => (C base).fnD hm F⟩
