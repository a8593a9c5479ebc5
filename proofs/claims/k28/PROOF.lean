import PyProof.Rows.All
import HandS.ForMost
import HandS.Flow
import HandS.IsInst
import HandS.Zip
import HandS.Conv
import HandS.Defaults
import HandS.Lambda
import HandS.HeadHook4
import HandS.Deep
import HandS.TupAny
import HandS.RaiseMore
import HandS.SortInts
import KE.KDictPairs
import HandS.Ends
import HandS.HeadEnd
import KE.KDictZip
import KE.GoesMore
import HandS.Keys
import KE.GoesEnum
import HandS.Head0
import HandS.Head1
import HandS.Head2
import KE.KStateDown
import PyProof.ReprLen
import HandS.Style
import HandS.Star
import HandS.Strs
import HandS.DictComp
import HandS.TupMul
import HandS.SetFor
import HandS.TryOnly
import HandS.ExcInit
import HandS.HeadWalk
import KE.KExcSuper
import HandS.CallSlots
import KE.KIsAll
import KE.KSuper
import KE.KExcIs
import HandS.ExcField
import HandS.HotCalls
import HandS.EndTab
import HandS.NestedK
import KE.DataFind
import HandS.TryMany
import HandS.GenList
import HandS.CallLocal
import PyProof.MaxThree
import PySem.Challenge.RW_whichfirst_k28_whole_days
set_option Elab.async false
set_option linter.all false
set_option maxRecDepth 100000
set_option maxHeartbeats 4000000
set_option autoImplicit false
namespace DL
open PySem PySem.Spec PyProof.Rows L2
abbrev Wd := PyData
abbrev Sg := L2.St
abbrev Fg := PySem.W.Frag
inductive Rec where
  | dct (fs : List (Str × Wd))
  | tdc (kvs : List (List Int × Wd))
  | tab (x : Str)
  | exn (c : Str) (fs : List (Str × Wd))
abbrev Sto := List Rec
abbrev oW (l : Nat) : Wd := .dict [(.none, .int l)]
def kW : Key → Wd
  | .inl i => .int i
  | .inr x => .str x
theorem kW_ne {k : Key} : kW k ≠ .none := by cases k <;> intro h <;> cases h
def KnL (K : Fg) (a : Addr) (xs : List V) : Prop := ∃ (its : List Value) (n : Nat), K.lookup a = some { cls := .type "list", data := .seq its.toArray n } ∧ Vals xs its ∧ xs.length ≤ sizeLine
def LsR (K : Fg) (mu : List Addr) (T : Addr → Prop) (H : Hp) (a : Addr) (xs : List V) : Prop := (Rd H a (.lst xs) ∧ a ∉ mu ∧ ¬ T a) ∨ KnL K a xs
def TpR (K : Fg) (mu : List Addr) (T : Addr → Prop) (H : Hp) (a : Addr) (xs : List V) : Prop := ((∃ o : Obj, o.dict = none ∧ H a = some (.frz o (.tup xs))) ∧ a ∉ mu ∧ ¬ T a) ∨ ((∀ H' : Hp, SqT K H' a xs) ∧ ∃ o : Obj, K.lookup a = some o ∧ o.dict = none)
def DcR (mu : List Addr) (T : Addr → Prop) (H : Hp) (a : Addr) (kvs : List (Key × V)) : Prop := H a = some (.dK kvs) ∧ a ∉ mu ∧ ¬ T a
theorem LsR.sq {K : Fg} {mu T H a xs} (h : LsR K mu T H a xs) : SqL K H a xs := by
  rcases h with ⟨h, _⟩ | ⟨its, n, h, r, z⟩
  · exact .inl h
  · exact .inr ⟨_, its.toArray, n, h, rfl, rfl, rfl, by rw [List.size_toArray, ← r.length]; exact z, r⟩
theorem TpR.sq {K : Fg} {mu T H a xs} (h : TpR K mu T H a xs) : SqT K H a xs := by
  rcases h with ⟨⟨o, _, h⟩, _⟩ | h
  · exact .inl (.inr ⟨o, h⟩)
  · exact h.1 H
mutual
inductive Rp (K : Fg) (mu : List Addr) (T : Addr → Prop) (H : Hp) : V → Wd → Prop
  | non : Rp K mu T H .non .none
  | bl (b : Bool) : Rp K mu T H (.bl b) (.bool b)
  | int (i : Int) : Rp K mu T H (.int i) (.int i)
  | str (x : Str) : Rp K mu T H (.str x) (.str x)
  | lst {a : Addr} {xs : List V} {ds : List Wd} : LsR K mu T H a xs → RpAll K mu T H xs ds → Rp K mu T H (.ref a) (.list ds)
  | tup {a : Addr} {xs : List V} {ds : List Wd} : TpR K mu T H a xs → RpAll K mu T H xs ds → Rp K mu T H (.ref a) (.tuple ds)
  | dct {a : Addr} {kvs : List (Key × V)} {ds : List (Wd × Wd)} : DcR mu T H a kvs → RpKv K mu T H kvs ds → Rp K mu T H (.ref a) (.dict ds)
  | obj {a : Addr} {l : Nat} : mu[l]? = some a → Rp K mu T H (.ref a) (oW l)
inductive RpAll (K : Fg) (mu : List Addr) (T : Addr → Prop) (H : Hp) : List V → List Wd → Prop
  | nil : RpAll K mu T H [] []
  | cons {v : V} {vs : List V} {d : Wd} {ds : List Wd} : Rp K mu T H v d → RpAll K mu T H vs ds → RpAll K mu T H (v :: vs) (d :: ds)
inductive RpKv (K : Fg) (mu : List Addr) (T : Addr → Prop) (H : Hp) : List (Key × V) → List (Wd × Wd) → Prop
  | nil : RpKv K mu T H [] []
  | cons {k : Key} {v : V} {r : List (Key × V)} {d : Wd} {ds : List (Wd × Wd)} : Rp K mu T H v d → RpKv K mu T H r ds → RpKv K mu T H ((k, v) :: r) ((kW k, d) :: ds)
end
section
variable {K : Fg} {mu mu' : List Addr} {T T' : Addr → Prop} {H H' : Hp}
mutual
theorem Rp.map (hL : ∀ a xs, LsR K mu T H a xs → LsR K mu' T' H' a xs) (hT : ∀ a xs, TpR K mu T H a xs → TpR K mu' T' H' a xs) (hD : ∀ a xs, DcR mu T H a xs → DcR mu' T' H' a xs)
    (hO : ∀ (l : Nat) (a : Addr), mu[l]? = some a → mu'[l]? = some a) : ∀ (w : Wd) (v : V), Rp K mu T H v w → Rp K mu' T' H' v w
  | .none, _, h => by cases h; exact .non
  | .bool b, _, h => by cases h; exact .bl b
  | .int i, _, h => by cases h; exact .int i
  | .str x, _, h => by cases h; exact .str x
  | .list ds, _, h => by
    cases h with
    | lst a b => exact .lst (hL _ _ a) (RpAll.map hL hT hD hO ds _ b)
  | .tuple ds, _, h => by
    cases h with
    | tup a b => exact .tup (hT _ _ a) (RpAll.map hL hT hD hO ds _ b)
  | .dict ds, _, h => by
    cases h with
    | dct a b => exact .dct (hD _ _ a) (RpKv.map hL hT hD hO ds _ b)
    | obj e => exact .obj (hO _ _ e)
theorem RpAll.map (hL : ∀ a xs, LsR K mu T H a xs → LsR K mu' T' H' a xs) (hT : ∀ a xs, TpR K mu T H a xs → TpR K mu' T' H' a xs) (hD : ∀ a xs, DcR mu T H a xs → DcR mu' T' H' a xs)
    (hO : ∀ (l : Nat) (a : Addr), mu[l]? = some a → mu'[l]? = some a) : ∀ (ws : List Wd) (vs : List V), RpAll K mu T H vs ws → RpAll K mu' T' H' vs ws
  | [], _, h => by cases h; exact .nil
  | d :: ds, _, h => by
    cases h with
    | cons a b => exact .cons (Rp.map hL hT hD hO d _ a) (RpAll.map hL hT hD hO ds _ b)
theorem RpKv.map (hL : ∀ a xs, LsR K mu T H a xs → LsR K mu' T' H' a xs) (hT : ∀ a xs, TpR K mu T H a xs → TpR K mu' T' H' a xs) (hD : ∀ a xs, DcR mu T H a xs → DcR mu' T' H' a xs)
    (hO : ∀ (l : Nat) (a : Addr), mu[l]? = some a → mu'[l]? = some a) : ∀ (ws : List (Wd × Wd)) (vs : List (Key × V)), RpKv K mu T H vs ws → RpKv K mu' T' H' vs ws
  | [], _, h => by cases h; exact .nil
  | (_, d) :: ds, _, h => by
    cases h with
    | cons a b => exact .cons (Rp.map hL hT hD hO d _ a) (RpKv.map hL hT hD hO ds _ b)
end
end
structure Ext (mu mu' : List Addr) (H H' : Hp) : Prop where
  pre : ∀ (l : Nat) (a : Addr), mu[l]? = some a → mu'[l]? = some a
  keep : ∀ a o, H a = some o → a ∉ mu → H' a = some o
  new : ∀ a, a ∈ mu' → a ∉ mu → H a = none
theorem Ext.refl (mu : List Addr) (H : Hp) : Ext mu mu H H := ⟨fun _ _ h => h, fun _ _ h _ => h, fun _ h n => absurd h n⟩
theorem Ext.same {mu : List Addr} {H H' : Hp} (h : Same H H') : Ext mu mu H H' := ⟨fun _ _ h => h, fun a o e _ => h a o e, fun _ h n => absurd h n⟩
theorem Ext.notin {mu mu' : List Addr} {H H' : Hp} (e : Ext mu mu' H H') {a : Addr} {o : HO} (h : H a = some o) (n : a ∉ mu) : a ∉ mu' := fun q => by
  have z := e.new a q n
  rw [h] at z
  cases z
theorem Ext.sub {mu mu' : List Addr} {H H' : Hp} (e : Ext mu mu' H H') {a : Addr} (h : a ∈ mu) : a ∈ mu' := by
  obtain ⟨l, hl, q⟩ := List.getElem_of_mem h
  have := e.pre l a (by rw [List.getElem?_eq_getElem hl, q])
  exact List.mem_of_getElem? this
theorem Ext.trans {m m1 m2 : List Addr} {H H1 H2 : Hp} (a : Ext m m1 H H1) (b : Ext m1 m2 H1 H2) : Ext m m2 H H2 :=
  ⟨fun l x h => b.pre l x (a.pre l x h), fun x o h n => b.keep x o (a.keep x o h n) (a.notin h n), fun x h n => by
    by_cases q : x ∈ m1
    · exact a.new x q n
    · have z := b.new x h q
      cases e : H x with
      | none => rfl
      | some o =>
        rw [a.keep x o e n] at z
        cases z⟩
section
variable {K : Fg} {mu mu' : List Addr} {T T' : Addr → Prop} {H H' : Hp} {v : V} {w : Wd} {vs : List V} {ws : List Wd} {kvs : List (Key × V)} {kws : List (Wd × Wd)}
theorem Rd.keep {a : Addr} {u : HO} (h : Rd H a u) (n : a ∉ mu) (e : Ext mu mu' H H') : Rd H' a u ∧ a ∉ mu' := by
  rcases h with h | ⟨o, h⟩
  · exact ⟨.inl (e.keep _ _ h n), e.notin h n⟩
  · exact ⟨.inr ⟨o, e.keep _ _ h n⟩, e.notin h n⟩
theorem LsR.ext {a : Addr} {xs : List V} (h : LsR K mu T H a xs) (e : Ext mu mu' H H') : LsR K mu' T H' a xs := h.imp (fun h => ⟨(Rd.keep h.1 h.2.1 e).1, (Rd.keep h.1 h.2.1 e).2, h.2.2⟩) id
theorem TpR.ext {a : Addr} {xs : List V} (h : TpR K mu T H a xs) (e : Ext mu mu' H H') : TpR K mu' T H' a xs := by
  rcases h with ⟨⟨o, d, h⟩, n, t⟩ | h
  · exact .inl ⟨⟨o, d, e.keep _ _ h n⟩, e.notin h n, t⟩
  · exact .inr h
theorem DcR.ext {a : Addr} {xs : List (Key × V)} (h : DcR mu T H a xs) (e : Ext mu mu' H H') : DcR mu' T H' a xs := ⟨e.keep _ _ h.1 h.2.1, e.notin h.1 h.2.1, h.2.2⟩
theorem Rp.ext (h : Rp K mu T H v w) (e : Ext mu mu' H H') : Rp K mu' T H' v w := Rp.map (fun _ _ q => q.ext e) (fun _ _ q => q.ext e) (fun _ _ q => q.ext e) e.pre _ _ h
theorem RpAll.ext (h : RpAll K mu T H vs ws) (e : Ext mu mu' H H') : RpAll K mu' T H' vs ws := RpAll.map (fun _ _ q => q.ext e) (fun _ _ q => q.ext e) (fun _ _ q => q.ext e) e.pre _ _ h
theorem RpKv.ext (h : RpKv K mu T H kvs kws) (e : Ext mu mu' H H') : RpKv K mu' T H' kvs kws := RpKv.map (fun _ _ q => q.ext e) (fun _ _ q => q.ext e) (fun _ _ q => q.ext e) e.pre _ _ h
theorem Rp.same (h : Rp K mu T H v w) (e : Same H H') : Rp K mu T H' v w := h.ext (.same e)
theorem RpAll.same (h : RpAll K mu T H vs ws) (e : Same H H') : RpAll K mu T H' vs ws := h.ext (.same e)
theorem RpKv.same (h : RpKv K mu T H kvs kws) (e : Same H H') : RpKv K mu T H' kvs kws := h.ext (.same e)
theorem Rp.weak (h : Rp K mu T H v w) (t : ∀ a, T' a → T a) : Rp K mu T' H v w :=
  Rp.map (fun _ _ q => q.imp (fun ⟨x, y, z⟩ => ⟨x, y, fun p => z (t _ p)⟩) id) (fun _ _ q => q.imp (fun ⟨x, y, z⟩ => ⟨x, y, fun p => z (t _ p)⟩) id) (fun _ _ q => ⟨q.1, q.2.1, fun p => q.2.2 (t _ p)⟩) (fun _ _ q => q) _ _ h
theorem RpAll.weak (h : RpAll K mu T H vs ws) (t : ∀ a, T' a → T a) : RpAll K mu T' H vs ws :=
  RpAll.map (fun _ _ q => q.imp (fun ⟨x, y, z⟩ => ⟨x, y, fun p => z (t _ p)⟩) id) (fun _ _ q => q.imp (fun ⟨x, y, z⟩ => ⟨x, y, fun p => z (t _ p)⟩) id) (fun _ _ q => ⟨q.1, q.2.1, fun p => q.2.2 (t _ p)⟩) (fun _ _ q => q) _ _ h
theorem Rp.banT (h : Rp K mu T H v w) (t : ∀ a, T' a → T a ∨ ∃ ps, H a = some (.tbl ps)) : Rp K mu T' H v w :=
  Rp.map (fun a _ q => q.imp (fun ⟨x, y, z⟩ => ⟨x, y, fun p => (t _ p).elim z fun ⟨ps, e⟩ => by rcases x with x | ⟨_, x⟩ <;> rw [e] at x <;> cases x⟩) id) (fun a _ q => q.imp (fun ⟨x, y, z⟩ => ⟨x, y, fun p => (t _ p).elim z fun ⟨ps, e⟩ => by obtain ⟨_, _, x⟩ := x; rw [e] at x; cases x⟩) id)
    (fun a _ q => ⟨q.1, q.2.1, fun p => (t _ p).elim q.2.2 fun ⟨ps, e⟩ => by have x := q.1; rw [e] at x; cases x⟩) (fun _ _ q => q) _ _ h
theorem Rd.some_of {a : Addr} {u : HO} (h : Rd H a u) : H a ≠ none := by
  rcases h with h | ⟨o, h⟩ <;> rw [h] <;> exact fun z => nomatch z
theorem Rp.ban {p : Addr} (h : Rp K mu T H v w) (n : H p = none) : Rp K mu (fun a => T a ∨ a = p) H v w :=
  Rp.map (fun _ _ q => q.imp (fun ⟨x, y, z⟩ => ⟨x, y, fun r => r.elim z fun e => Rd.some_of x (e ▸ n)⟩) id) (fun _ _ q => q.imp (fun ⟨x, y, z⟩ => ⟨x, y, fun r => r.elim z fun e => by obtain ⟨_, _, x⟩ := x; subst e; rw [x] at n; cases n⟩) id)
    (fun _ _ q => ⟨q.1, q.2.1, fun r => r.elim q.2.2 fun e => by subst e; rw [q.1] at n; cases n⟩) (fun _ _ q => q) _ _ h
theorem RpAll.ban {p : Addr} (h : RpAll K mu T H vs ws) (n : H p = none) : RpAll K mu (fun a => T a ∨ a = p) H vs ws :=
  RpAll.map (fun _ _ q => q.imp (fun ⟨x, y, z⟩ => ⟨x, y, fun r => r.elim z fun e => Rd.some_of x (e ▸ n)⟩) id) (fun _ _ q => q.imp (fun ⟨x, y, z⟩ => ⟨x, y, fun r => r.elim z fun e => by obtain ⟨_, _, x⟩ := x; subst e; rw [x] at n; cases n⟩) id)
    (fun _ _ q => ⟨q.1, q.2.1, fun r => r.elim q.2.2 fun e => by subst e; rw [q.1] at n; cases n⟩) (fun _ _ q => q) _ _ h
theorem Rp.at_ban {p : Addr} {o : HO} (h : Rp K mu T H v w) (b : T p) : Rp K mu T (upd H p o) v w := by
  have rd : ∀ {a : Addr} {u : HO}, Rd H a u → ¬ T a → Rd (upd H p o) a u := fun {a u} r t => by
    have ne : a ≠ p := fun e => t (e ▸ b)
    rcases r with r | ⟨q, r⟩
    · exact .inl (by rw [upd_ne ne]; exact r)
    · exact .inr ⟨q, by rw [upd_ne ne]; exact r⟩
  exact Rp.map (fun _ _ q => q.imp (fun ⟨x, y, z⟩ => ⟨rd x z, y, z⟩) id) (fun a _ q => q.imp (fun ⟨⟨o', d, x⟩, y, z⟩ => ⟨⟨o', d, by rw [upd_ne (show a ≠ p from fun e => z (e ▸ b))]; exact x⟩, y, z⟩) id)
    (fun a _ q => ⟨by rw [upd_ne (show a ≠ p from fun e => q.2.2 (e ▸ b))]; exact q.1, q.2.1, q.2.2⟩) (fun _ _ q => q) _ _ h
theorem RpAll.at_ban {p : Addr} {o : HO} (h : RpAll K mu T H vs ws) (b : T p) : RpAll K mu T (upd H p o) vs ws := by
  have rd : ∀ {a : Addr} {u : HO}, Rd H a u → ¬ T a → Rd (upd H p o) a u := fun {a u} r t => by
    have ne : a ≠ p := fun e => t (e ▸ b)
    rcases r with r | ⟨q, r⟩
    · exact .inl (by rw [upd_ne ne]; exact r)
    · exact .inr ⟨q, by rw [upd_ne ne]; exact r⟩
  exact RpAll.map (fun _ _ q => q.imp (fun ⟨x, y, z⟩ => ⟨rd x z, y, z⟩) id) (fun a _ q => q.imp (fun ⟨⟨o', d, x⟩, y, z⟩ => ⟨⟨o', d, by rw [upd_ne (show a ≠ p from fun e => z (e ▸ b))]; exact x⟩, y, z⟩) id)
    (fun a _ q => ⟨by rw [upd_ne (show a ≠ p from fun e => q.2.2 (e ▸ b))]; exact q.1, q.2.1, q.2.2⟩) (fun _ _ q => q) _ _ h
theorem RpAll.length : ∀ {vs : List V} {ws : List Wd}, RpAll K mu T H vs ws → vs.length = ws.length
  | [], [], _ => rfl
  | _ :: vs, _ :: ws, h => by
    cases h with
    | cons a b => rw [List.length_cons, List.length_cons, RpAll.length b]
theorem RpAll.get : ∀ {vs : List V} {ws : List Wd} {i : Nat} {x : Wd}, RpAll K mu T H vs ws → ws[i]? = some x → ∃ v, vs[i]? = some v ∧ Rp K mu T H v x
  | [], [], i, x, _, e => by simp at e
  | v :: vs, w :: ws, 0, x, h, e => by
    cases h with
    | cons a b =>
      rw [List.getElem?_cons_zero] at e
      cases e
      exact ⟨v, rfl, a⟩
  | v :: vs, w :: ws, i + 1, x, h, e => by
    cases h with
    | cons a b =>
      rw [List.getElem?_cons_succ] at e
      rw [List.getElem?_cons_succ]
      exact RpAll.get b e
theorem RpAll.append : ∀ {vs us : List V} {ws xs : List Wd}, RpAll K mu T H vs ws → RpAll K mu T H us xs → RpAll K mu T H (vs ++ us) (ws ++ xs)
  | [], _, [], _, _, h => h
  | v :: vs, _, w :: ws, _, h, h2 => by
    cases h with
    | cons a b => exact .cons a (RpAll.append b h2)
theorem RpAll.take : ∀ (n : Nat) {vs : List V} {ws : List Wd}, RpAll K mu T H vs ws → RpAll K mu T H (vs.take n) (ws.take n)
  | 0, _, _, _ => by rw [List.take_zero, List.take_zero]; exact .nil
  | n + 1, [], [], _ => .nil
  | n + 1, v :: vs, w :: ws, h => by
    cases h with
    | cons a b => exact .cons a (RpAll.take n b)
theorem RpAll.drop : ∀ (n : Nat) {vs : List V} {ws : List Wd}, RpAll K mu T H vs ws → RpAll K mu T H (vs.drop n) (ws.drop n)
  | 0, _, _, h => h
  | n + 1, [], [], _ => .nil
  | n + 1, v :: vs, w :: ws, h => by
    cases h with
    | cons a b => exact RpAll.drop n b
end
def FsR (K : Fg) (mu : List Addr) (T : Addr → Prop) (H : Hp) : List (Key × V) → List (Str × Wd) → Prop
  | [], [] => True
  | (k, v) :: r, (x, d) :: ds => k = Sum.inr x ∧ Rp K mu T H v d ∧ FsR K mu T H r ds
  | _, _ => False
def mdO (a : Addr) (ents : List (List Int × Addr × Value)) : HO := .ext fun h => (a == sysModules) = false ∧ ents.length ≤ sizeLine ∧ (ents.map (·.1)).Nodup ∧
  ∃ o es ep, h.get? a = some o ∧ o.ExactDict ∧ o.data = .dict es ep ∧ ∀ (P : Program) (w : World), es.toList = ents.map fun x => entryOfKey (tupleKind (mixKind P w)) (x.1.map Sum.inl, x.2)
def TdR (K : Fg) (mu : List Addr) (T : Addr → Prop) (H : Hp) : List (List Int × Wd) → List (List Int × Addr × Value) → Prop
  | [], [] => True
  | (k, d) :: r, (k', b, u) :: es => k = k' ∧ Rp K mu T H (.ref b) (.tuple (k.map .int)) ∧ (∃ v, RelV v u ∧ Rp K mu T H v d) ∧ TdR K mu T H r es
  | _, _ => False
def TabR (K : Fg) (mu : List Addr) (H : Hp) (a : Addr) (x : Str) : Prop := a = He.tabOf K (He.codeOf K (x, none)) ∧ ∃ ps : Array Value, H a = some (.tbl ps) ∧ TriplesOk ps.toList ∧
  ∀ (pos : Pos) (cv : Value), codeAmong pos ps.toList = some cv → ∃ c, cv = .ref c ∧ H c = some (LamX.CodeO c (x ++ ".<locals>." ++ "<lambda>")) ∧ c ∉ mu
def ExnR (K : Fg) (mu : List Addr) (T : Addr → Prop) (H : Hp) (a : Addr) (c : Str) (fs : List (Str × Wd)) : Prop := ∃ oe dx vs fv, H a = some (.frz oe (.ext fun _ => True)) ∧ oe.cls = .ref (He.ga K c) ∧ oe.dict = some dx ∧ oe.data = .fields vs ∧ H dx = some (.xd fv) ∧ dx ∉ mu ∧
  ∀ f w, fs.lookup f = some w → ∃ v, fv.lookup f = some v ∧ Rp K mu T H v w
def RecOk (K : Fg) (mu : List Addr) (T : Addr → Prop) (H : Hp) (a : Addr) : Rec → Prop
  | .dct fs => ∃ kvs, H a = some (.dK kvs) ∧ FsR K mu T H kvs fs
  | .tdc kvs => ∃ ents, H a = some (mdO a ents) ∧ TdR K mu T H kvs ents
  | .tab x => TabR K mu H a x
  | .exn c fs => ExnR K mu T H a c fs
structure StOk (K : Fg) (mu : List Addr) (T : Addr → Prop) (H : Hp) (S : Sto) : Prop where
  len : mu.length = S.length
  nd : mu.Nodup
  ok : ∀ (l : Nat) (a : Addr) (r : Rec), mu[l]? = some a → S[l]? = some r → RecOk K mu T H a r
def Fixd (o : HO) : Prop := (∃ c q, o = LamX.CodeO c q) ∨ ∃ fs, o = .xd fs
def PlH0 (o : Option HO) : Prop := o ≠ none ∧ ∀ u, Fixd u → o ≠ some u
theorem PlH0.of {o : HO} (h1 : ∀ c q, o ≠ LamX.CodeO c q) (h2 : ∀ fs, o ≠ .xd fs) : PlH0 (some o) := ⟨fun z => (nomatch z), fun u f z => by
  cases z
  rcases f with ⟨c, q, e⟩ | ⟨fs, e⟩
  · exact h1 c q e
  · exact h2 fs e⟩
theorem PlH0.lst {xs : List V} : PlH0 (some (.lst xs)) := .of (fun _ _ z => (nomatch z)) (fun _ z => (nomatch z))
theorem PlH0.dK {kvs : List (Key × V)} : PlH0 (some (.dK kvs)) := .of (fun _ _ z => (nomatch z)) (fun _ z => (nomatch z))
theorem PlH0.tbl {ps : Array Value} : PlH0 (some (.tbl ps)) := .of (fun _ _ z => (nomatch z)) (fun _ z => (nomatch z))
theorem PlH0.frz {o : Obj} {u : HO} : PlH0 (some (.frz o u)) := .of (fun _ _ z => (nomatch z)) (fun _ z => (nomatch z))
def PlH (o : Option HO) : Prop := PlH0 o ∧ ∀ ps, o ≠ some (.tbl ps)
theorem PlH.lst {xs : List V} : PlH (some (.lst xs)) := ⟨.lst, fun _ z => (nomatch z)⟩
theorem PlH.dK {kvs : List (Key × V)} : PlH (some (.dK kvs)) := ⟨.dK, fun _ z => (nomatch z)⟩
def manyH (o : Obj) : Nat → Heap
  | 0 => ⟨#[], {}⟩
  | n + 1 => (manyH o n).push o
theorem manyH_size (o : Obj) : ∀ n, (manyH o n).objs.size = n
  | 0 => rfl
  | n + 1 => by
    show ((manyH o n).push o).objs.size = n + 1
    rw [Heap.size_push, manyH_size o n]
theorem manyH_all {o : Obj} (z : o.isFreed = false) : ∀ {n : Nat} {b : Addr} {u : Obj}, (manyH o n).get? b = some u → u = o
  | 0, b, u, h => by
    have := Heap.lt_size h
    rw [manyH_size] at this
    exact absurd this (Nat.not_lt_zero _)
  | n + 1, b, u, h => by
    have h : ((manyH o n).push o).get? b = some u := h
    by_cases c : b = (manyH o n).objs.size
    · subst c
      rw [Heap.get?_push_size _ z] at h
      exact (Option.some.inj h).symm
    · rw [Heap.get?_push_ne _ _ _ c] at h
      exact manyH_all z h
theorem manyH_get {o : Obj} (z : o.isFreed = false) (n : Nat) : (manyH o (n + 1)).get? n = some o := by
  have := Heap.get?_push_size (manyH o n) z
  rw [manyH_size] at this
  exact this
theorem mdO_ne {a : Addr} {ents : List (List Int × Addr × Value)} (c : Addr) (q : Str) : mdO a ents ≠ LamX.CodeO c q := fun z => by
  unfold mdO LamX.CodeO at z
  have e := HO.ext.inj z
  have h := congrFun e (manyH { cls := .none, data := .fields #[.none, .str q 0] } (c + 1))
  have r : ∃ (oc : Obj) (vs : Array Value) (t : Tok), (manyH { cls := .none, data := .fields #[.none, .str q 0] } (c + 1)).get? c = some oc ∧ oc.data = .fields vs ∧ vs[1]? = some (.str q t) := ⟨_, _, _, manyH_get rfl c, rfl, rfl⟩
  rw [← h] at r
  obtain ⟨_, _, _, o, es, ep, h1, _, h2, _⟩ := r
  rw [manyH_all rfl h1] at h2
  cases h2
theorem PlH0.mdo {a : Addr} {ents : List (List Int × Addr × Value)} : PlH0 (some (mdO a ents)) := .of (fun c q => mdO_ne c q) (fun _ z => by unfold mdO at z; cases z)
def Bn (mu : List Addr) (T : Addr → Prop) (H : Hp) : Prop := ∀ a, T a → PlH (H a) ∧ a ∉ mu
section
variable {K : Fg} {mu mu' : List Addr} {T T' : Addr → Prop} {H H' : Hp} {S S' : Sto}
theorem StOk.tracked (h : StOk K mu T H S) {a : Addr} (q : a ∈ mu) : ∃ o, H a = some o := by
  obtain ⟨l, hl, e⟩ := List.getElem_of_mem q
  have h2 : l < S.length := by rw [← h.len]; exact hl
  have z := h.ok l a S[l] (by rw [List.getElem?_eq_getElem hl, e]) (List.getElem?_eq_getElem h2)
  cases r : S[l] with
  | dct fs =>
    rw [r] at z
    obtain ⟨kvs, z, _⟩ := z
    exact ⟨_, z⟩
  | tdc kvs =>
    rw [r] at z
    obtain ⟨ents, z, _⟩ := z
    exact ⟨_, z⟩
  | tab x =>
    rw [r] at z
    obtain ⟨_, ps, z, _⟩ := z
    exact ⟨_, z⟩
  | exn c fs =>
    rw [r] at z
    obtain ⟨_, _, _, _, z, _⟩ := z
    exact ⟨_, z⟩
theorem StOk.pl (h : StOk K mu T H S) {a : Addr} (q : a ∈ mu) : PlH0 (H a) := by
  obtain ⟨l, hl, e⟩ := List.getElem_of_mem q
  have h2 : l < S.length := by rw [← h.len]; exact hl
  have z := h.ok l a S[l] (by rw [List.getElem?_eq_getElem hl, e]) (List.getElem?_eq_getElem h2)
  cases r : S[l] with
  | dct fs =>
    rw [r] at z
    obtain ⟨kvs, z, _⟩ := z
    rw [z]
    exact .dK
  | tdc kvs =>
    rw [r] at z
    obtain ⟨ents, z, _⟩ := z
    rw [z]
    exact .mdo
  | tab x =>
    rw [r] at z
    obtain ⟨_, ps, z, _⟩ := z
    rw [z]
    exact .tbl
  | exn c fs =>
    rw [r] at z
    obtain ⟨_, _, _, _, z, _⟩ := z
    rw [z]
    exact .frz
theorem StOk.fresh (h : StOk K mu T H S) {p : Addr} (n : H p = none) : p ∉ mu := fun q => by
  obtain ⟨kvs, e⟩ := h.tracked q
  rw [e] at n
  cases n
theorem Bn.fresh (h : Bn mu T H) {p : Addr} (n : H p = none) : ¬ T p := fun q => (h p q).1.1.1 n
theorem Bn.ext (h : Bn mu T H) (e : Ext mu mu' H H') : Bn mu' T H' := fun a t => by
  obtain ⟨h1, h2⟩ := h a t
  cases q : H a with
  | none => exact absurd q h1.1.1
  | some o =>
    refine ⟨?_, e.notin q h2⟩
    rw [e.keep a o q h2, ← q]
    exact h1
theorem FsR.map (f : ∀ v w, Rp K mu T H v w → Rp K mu' T' H' v w) : ∀ {kvs : List (Key × V)} {fs : List (Str × Wd)}, FsR K mu T H kvs fs → FsR K mu' T' H' kvs fs
  | [], [], _ => trivial
  | (k, v) :: r, (x, d) :: ds, h => ⟨h.1, f _ _ h.2.1, FsR.map f h.2.2⟩
  | [], _ :: _, h => h.elim
  | _ :: _, [], h => h.elim
theorem TdR.map (f : ∀ v w, Rp K mu T H v w → Rp K mu' T' H' v w) : ∀ {kvs : List (List Int × Wd)} {es : List (List Int × Addr × Value)}, TdR K mu T H kvs es → TdR K mu' T' H' kvs es
  | [], [], _ => trivial
  | (k, d) :: r, (k', b, u) :: es, h => ⟨h.1, f _ _ h.2.1, let ⟨v, a, b⟩ := h.2.2.1; ⟨v, a, f _ _ b⟩, TdR.map f h.2.2.2⟩
  | [], _ :: _, h => h.elim
  | _ :: _, [], h => h.elim
theorem RecOk.map {a : Addr} (e : ∀ o, H a = some o → H' a = some o) (f : ∀ v w, Rp K mu T H v w → Rp K mu' T' H' v w) (g : ∀ b o, Fixd o → H b = some o → b ∉ mu → H' b = some o ∧ b ∉ mu') : ∀ {r : Rec}, RecOk K mu T H a r → RecOk K mu' T' H' a r
  | .tab x, ⟨h0, ps, h, q, z⟩ => ⟨h0, ps, e _ h, q, fun pos cv hc => let ⟨c, h1, h2, h3⟩ := z pos cv hc; ⟨c, h1, (g c _ (.inl ⟨_, _, rfl⟩) h2 h3).1, (g c _ (.inl ⟨_, _, rfl⟩) h2 h3).2⟩⟩
  | .exn c fs, ⟨oe, dx, vs, fv, h1, h2, h3, h4, h5, h6, q⟩ => ⟨oe, dx, vs, fv, e _ h1, h2, h3, h4, (g dx _ (.inr ⟨_, rfl⟩) h5 h6).1, (g dx _ (.inr ⟨_, rfl⟩) h5 h6).2, fun y w z => let ⟨v, p1, p2⟩ := q y w z; ⟨v, p1, f _ _ p2⟩⟩
  | .dct fs, ⟨kvs, h, q⟩ => ⟨kvs, e _ h, FsR.map f q⟩
  | .tdc fs, ⟨es, h, q⟩ => ⟨es, e _ h, TdR.map f q⟩
theorem StOk.same (h : StOk K mu T H S) (e : Same H H') : StOk K mu T H' S := ⟨h.len, h.nd, fun l a r q1 q2 => RecOk.map (fun _ z => e _ _ z) (fun _ _ z => z.same e) (fun c _ _ z n => ⟨e _ _ z, n⟩) (h.ok l a r q1 q2)⟩
theorem StOk.weak (h : StOk K mu T H S) (t : ∀ a, T' a → T a) : StOk K mu T' H S := ⟨h.len, h.nd, fun l a r q1 q2 => RecOk.map (fun _ z => z) (fun _ _ z => z.weak t) (fun _ _ _ z n => ⟨z, n⟩) (h.ok l a r q1 q2)⟩
theorem StOk.ban {p : Addr} (h : StOk K mu T H S) (n : H p = none) : StOk K mu (fun a => T a ∨ a = p) H S := ⟨h.len, h.nd, fun l a r q1 q2 => RecOk.map (fun _ z => z) (fun _ _ z => z.ban n) (fun _ _ _ z n => ⟨z, n⟩) (h.ok l a r q1 q2)⟩
theorem StOk.at_ban {p : Addr} {o : HO} (h : StOk K mu T H S) (bn : Bn mu T H) (b : T p) : StOk K mu T (upd H p o) S :=
  ⟨h.len, h.nd, fun l a r q1 q2 => RecOk.map (fun _ z => by rw [upd_ne (show a ≠ p from fun e => (bn p b).2 (e ▸ List.mem_of_getElem? q1))]; exact z) (fun _ _ z => z.at_ban b) (fun c o f z n => ⟨by rw [upd_ne (show c ≠ p from fun e => (bn p b).1.1.2 o f (e ▸ z))]; exact z, n⟩) (h.ok l a r q1 q2)⟩
end
theorem same_upd {H : Hp} {p : Addr} {o : HO} (h : H p = none) : Same H (upd H p o) := fun b x e => by
  rw [upd_ne (ne_of_none e h)]
  exact e
inductive Sl where
  | val (w : Wd)
  | own (ws : List Wd)
abbrev Ev := List (Option Sl)
structure Rel (K : Fg) (mu : List Addr) (B O : Addr → Prop) (H : Hp) (σ : Sg) (ρ : Ev) (S : Sto) : Prop where
  len : σ.length = ρ.length
  val : ∀ (i : Nat) (w : Wd), ρ[i]? = some (some (.val w)) → ∃ v, σ[i]? = some (some v) ∧ Rp K mu (fun a => B a ∨ O a) H v w
  own : ∀ (i : Nat) (ws : List Wd), ρ[i]? = some (some (.own ws)) → ∃ a xs, σ[i]? = some (some (V.ref a)) ∧ O a ∧ ¬ B a ∧ H a = some (.lst xs) ∧ RpAll K mu (fun a => B a ∨ O a) H xs ws
  dif : ∀ (i j : Nat) (ws ws' : List Wd) (a : Addr), ρ[i]? = some (some (.own ws)) → ρ[j]? = some (some (.own ws')) → σ[i]? = some (some (V.ref a)) → σ[j]? = some (some (V.ref a)) → i = j
  sto : StOk K mu (fun a => B a ∨ O a) H S
  bn : Bn mu (fun a => B a ∨ O a) H
theorem Rel.ext {K : Fg} {mu mu' : List Addr} {B O : Addr → Prop} {H H' : Hp} {σ : Sg} {ρ : Ev} {S S' : Sto} (h : Rel K mu B O H σ ρ S) (e : Ext mu mu' H H') (s : StOk K mu' (fun a => B a ∨ O a) H' S') : Rel K mu' B O H' σ ρ S' :=
  ⟨h.len, fun i w q => let ⟨v, a, b⟩ := h.val i w q; ⟨v, a, b.ext e⟩, fun i ws q => let ⟨a, xs, h1, h2, h3, h4, h5⟩ := h.own i ws q; ⟨a, xs, h1, h2, h3, e.keep _ _ h4 (h.bn a (.inr h2)).2, h5.ext e⟩, h.dif, s, h.bn.ext e⟩
inductive R (α : Type) where
  | ok (a : α) (S : Sto)
  | bad
def R.bnd {α β : Type} (x : R α) (k : α → Sto → R β) : R β := match x with
  | .ok a S => k a S
  | .bad => .bad
@[simp] theorem R.bnd_ok {α β : Type} (a : α) (S : Sto) (k : α → Sto → R β) : (R.ok a S).bnd k = k a S := rfl
@[simp] theorem R.bnd_bad {α β : Type} (k : α → Sto → R β) : (R.bad : R α).bnd k = .bad := rfl
theorem R.bnd_inv {α β : Type} {x : R α} {k : α → Sto → R β} {b : β} {S' : Sto} (h : x.bnd k = .ok b S') : ∃ a S, x = .ok a S ∧ k a S = .ok b S' := by
  cases x with
  | ok a S => exact ⟨a, S, rfl, h⟩
  | bad => cases h
def R.of {α : Type} (o : Option α) (S : Sto) : R α := match o with
  | some a => .ok a S
  | none => .bad
@[simp] theorem R.of_some {α : Type} (a : α) (S : Sto) : R.of (some a) S = .ok a S := rfl
@[simp] theorem R.of_none {α : Type} (S : Sto) : R.of (none : Option α) S = .bad := rfl
theorem R.of_inv {α : Type} {o : Option α} {S S' : Sto} {a : α} (h : R.of o S = .ok a S') : o = some a ∧ S = S' := by
  cases o with
  | some b => cases h; exact ⟨rfl, rfl⟩
  | none => cases h
abbrev Mx := Ev → Sto → R Wd
abbrev Mt := Ev → Sto → R Bool
abbrev Ma := Ev → Sto → R (List Wd)
def tD (K : Fg) (f : Mx) : TE := fun σ H Q => ∃ ρ S mu B O, Rel K mu B O H σ ρ S ∧ ∃ w S', f ρ S = .ok w S' ∧ ∀ v H' mu', Ext mu mu' H H' → StOk K mu' (fun a => B a ∨ O a) H' S' → Rp K mu' (fun a => B a ∨ O a) H' v w → Q v H'
def tDt (K : Fg) (f : Mt) : TT := fun σ H Q => ∃ ρ S mu B O, Rel K mu B O H σ ρ S ∧ ∃ w S', f ρ S = .ok w S' ∧ ∀ H' mu', Ext mu mu' H H' → StOk K mu' (fun a => B a ∨ O a) H' S' → Q w H'
def tDa (K : Fg) (f : Ma) : TA := fun σ H Q => ∃ ρ S mu B O, Rel K mu B O H σ ρ S ∧ ∃ ws S', f ρ S = .ok ws S' ∧ ∀ vs H' mu', Ext mu mu' H H' → StOk K mu' (fun a => B a ∨ O a) H' S' → RpAll K mu' (fun a => B a ∨ O a) H' vs ws → Q vs H'
def De (X : Cx) (e : Expr) (f : Mx) : Prop := PE X e (tD X.K f)
def Dt (X : Cx) (e : Expr) (f : Mt) : Prop := PT X e (tDt X.K f)
def Da (X : Cx) (es : List Expr) (f : Ma) : Prop := PA X es (tDa X.K f)
theorem PE.weak {X : Cx} {e : Expr} {t t' : TE} (h : PE X e t) (w : ∀ σ H Q, t' σ H Q → t σ H Q) : PE X e t' := ⟨fun pins s σ H Q I q => h.run pins s σ H Q I (w _ _ _ q)⟩
theorem PT.weak {X : Cx} {e : Expr} {t t' : TT} (h : PT X e t) (w : ∀ σ H Q, t' σ H Q → t σ H Q) : PT X e t' := ⟨fun pins s σ H Q I q => h.run pins s σ H Q I (w _ _ _ q)⟩
theorem PA.weak {X : Cx} {e : List Expr} {t t' : TA} (h : PA X e t) (w : ∀ σ H Q, t' σ H Q → t σ H Q) : PA X e t' := ⟨fun pos pins s σ H Q I q => h.run pos pins s σ H Q I (w _ _ _ q)⟩
def mC (w : Wd) : Mx := fun _ S => .ok w S
def mV (i : Nat) : Mx := fun ρ S => match ρ[i]? with
  | some (some (.val w)) => .ok w S
  | _ => .bad
section
variable {X : Cx}
theorem de_var {i : Nat} {x : Str} {pos : Pos} (hN : X.N[i]? = some x) (hv : Vis X.env.scope x) (hd : (x == ("__debug__" : Str)) = false := by decide) (hcd : (x == ("__classdict__" : Str)) = false := by decide) : De X (.Name x pos) (mV i) := by
  refine PE.weak (pe_var hN hv hd hcd) fun σ H Q ⟨ρ, S, mu, B, O, r, w, S', e, q⟩ => ?_
  unfold mV at e
  split at e
  · rename_i w' h
    cases e
    obtain ⟨v, h1, h2⟩ := r.val i w h
    exact ⟨v, h1, q v H mu (.refl _ _) r.sto h2⟩
  · cases e
theorem de_c {e : Expr} {v : V} {w : Wd} (h : PE X e (tC v)) (r : ∀ mu T H, Rp X.K mu T H v w) : De X e (mC w) :=
  PE.weak h fun σ H Q ⟨ρ, S, mu, B, O, rl, w', S', e, q⟩ => by
    cases e
    exact q v H mu (.refl _ _) rl.sto (r _ _ _)
theorem de_int {i j pos} : De X (.Constant (.int i) j pos) (mC (.int i)) := de_c pe_int fun _ _ _ => .int i
theorem de_str {i j pos} : De X (.Constant (.str i) j pos) (mC (.str i)) := de_c pe_str fun _ _ _ => .str i
theorem de_bl {i j pos} : De X (.Constant (.bool i) j pos) (mC (.bool i)) := de_c pe_bl fun _ _ _ => .bl i
theorem de_non {j pos} : De X (.Constant .none j pos) (mC .none) := de_c pe_non fun _ _ _ => .non
end
def OpD (X : Cx) (f : Value → Value → Sem Value) (g : Wd → Wd → Option Wd) : Prop :=
  ∀ (pins : List (Addr × Obj)) (s : Shared) (σ : Sg) (H : Hp) (x y : V) (v u : Value) (Q : VK) (mu : List Addr) (T : Addr → Prop) (S : Sto) (dx dy w : Wd), Inv X pins σ H s → RelV x v → RelV y u →
    StOk X.K mu T H S → Bn mu T H → Rp X.K mu T H x dx → Rp X.K mu T H y dy → g dx dy = some w → (∀ v H', Same H H' → Rp X.K mu T H' v w → Q v H') →
    wpAny (model X.prog X.w) X.A (f v u) (EP X pins σ Q) X.xe s
theorem OpD.of {X : Cx} {f : Value → Value → Sem Value} {r : R2} {g : Wd → Wd → Option Wd} (h : OpR X f r)
    (k : ∀ (H : Hp) (x y : V) (Q : VK) (mu : List Addr) (T : Addr → Prop) (S : Sto) (dx dy w : Wd), StOk X.K mu T H S → Bn mu T H → Rp X.K mu T H x dx → Rp X.K mu T H y dy → g dx dy = some w → (∀ v H', Same H H' → Rp X.K mu T H' v w → Q v H') → r x y H Q) : OpD X f g :=
  fun pins s σ H x y v u Q mu T S dx dy w I rx ry st bn r1 r2 e q => h pins s σ H x y v u Q I rx ry (k H x y Q mu T S dx dy w st bn r1 r2 e q)
def mBin (g : Wd → Wd → Option Wd) (fa fb : Mx) : Mx := fun ρ S => (fa ρ S).bnd fun x S1 => (fb ρ S1).bnd fun y S2 => R.of (g x y) S2
section
variable {X : Cx} {a b : Expr} {fa fb : Mx} {g : Wd → Wd → Option Wd} {pos : Pos}
theorem bin_run (ha : De X a fa) (hb : De X b fb) {f : Value → Value → Sem Value} (ho : OpD X f g) {pins : List (Addr × Obj)} {s : Shared} {σ : Sg} {H : Hp} {Q : VK} (I : Inv X pins σ H s) (h : tD X.K (mBin g fa fb) σ H Q) :
    wpAny (model X.prog X.w) X.A (eval a X.env) (fun v s₁ => wpAny (model X.prog X.w) X.A (eval b X.env) (fun u s₂ => wpAny (model X.prog X.w) X.A (f v u) (EP X pins σ Q) X.xe s₂) X.xe s₁) X.xe s := by
  obtain ⟨ρ, S, mu, B, O, rl, w, S', e, q⟩ := h
  obtain ⟨x, S1, e1, e⟩ := R.bnd_inv e
  obtain ⟨y, S2, e2, e⟩ := R.bnd_inv e
  obtain ⟨e3, rfl⟩ := R.of_inv e
  refine thn (ha.run pins s σ H (fun x' H1 => ∃ mu1, Ext mu mu1 H H1 ∧ StOk X.K mu1 (fun a => B a ∨ O a) H1 S1 ∧ Rp X.K mu1 (fun a => B a ∨ O a) H1 x' x) I ⟨ρ, S, mu, B, O, rl, x, S1, e1, fun v H' mu' h1 h2 h3 => ⟨mu', h1, h2, h3⟩⟩) fun v s1 ⟨x', H1, I1, r1, mu1, E1, st1, p1⟩ => ?_
  have rl1 := rl.ext E1 st1
  refine thn (hb.run pins s1 σ H1 (fun y' H2 => ∃ mu2, Ext mu1 mu2 H1 H2 ∧ StOk X.K mu2 (fun a => B a ∨ O a) H2 S2 ∧ Rp X.K mu2 (fun a => B a ∨ O a) H2 y' y) I1 ⟨ρ, S1, mu1, B, O, rl1, y, S2, e2, fun v H' mu' h1 h2 h3 => ⟨mu', h1, h2, h3⟩⟩) fun u s2 ⟨y', H2, I2, r2, mu2, E2, st2, p2⟩ => ?_
  refine ho pins s2 σ H2 x' y' v u Q mu2 _ S2 x y w I2 r1 r2 st2 ((rl1.bn).ext E2) (p1.ext E2) p2 e3 fun z H3 sm rz => ?_
  exact q z H3 mu2 ((E1.trans E2).trans (.same sm)) (st2.same sm) rz
theorem de_op {op : Operator} (ho : OpD X (binaryOp op) g) (ha : De X a fa) (hb : De X b fb) : De X (.BinOp a op b pos) (mBin g fa fb) := ⟨fun pins s σ H Q I h => wpAny_BinOp (bin_run ha hb ho I h)⟩
theorem de_cmp {op : CmpOp} (ho : OpD X (compareOp op) g) (ha : De X a fa) (hb : De X b fb) (hm : behindInMarks op b = false) : De X (.Compare a [op] [b] pos) (mBin g fa fb) := ⟨fun pins s σ H Q I h => wpAny_Compare1 (bin_run ha hb ho I h) hm⟩
end
end DL
namespace DL
open PySem PySem.Spec PyProof.Rows L2
section
variable {K : Fg} {mu : List Addr} {T : Addr → Prop} {H : Hp} {S : Sto} {xs : List V} {ws : List Wd} {p : Addr} {kvs : List (Key × V)} {kws : List (Wd × Wd)}
theorem new_lst (st : StOk K mu T H S) (bn : Bn mu T H) (r : RpAll K mu T H xs ws) (n : H p = none) : Rp K mu T (upd H p (.lst xs)) (.ref p) (.list ws) :=
  .lst (.inl ⟨.inl upd_same, st.fresh n, bn.fresh n⟩) (r.same (same_upd n))
theorem new_tup {o : Obj} (st : StOk K mu T H S) (bn : Bn mu T H) (r : RpAll K mu T H xs ws) (n : H p = none) (d : o.dict = none) : Rp K mu T (upd H p (.frz o (.tup xs))) (.ref p) (.tuple ws) :=
  .tup (.inl ⟨⟨o, d, upd_same⟩, st.fresh n, bn.fresh n⟩) (r.same (same_upd n))
theorem new_dct (st : StOk K mu T H S) (bn : Bn mu T H) (r : RpKv K mu T H kvs kws) (n : H p = none) : Rp K mu T (upd H p (.dK kvs)) (.ref p) (.dict kws) :=
  .dct ⟨upd_same, st.fresh n, bn.fresh n⟩ (r.same (same_upd n))
mutual
theorem Rp.dp : ∀ (w : Wd) (v : V), Rp K mu T H v w → w.canLay0 = true → Dp K H v w
  | .none, _, h, _ => by cases h; exact .non
  | .bool b, _, h, _ => by cases h; exact .bl b
  | .int i, _, h, _ => by cases h; exact .int i
  | .str x, _, h, _ => by cases h; exact .str x
  | .list ds, _, h, c => by
    cases h with
    | lst a b => exact .lst a.sq (RpAll.dp ds _ b c)
  | .tuple ds, _, h, c => by
    cases h with
    | tup a b => exact .tup a.sq (RpAll.dp ds _ b c)
  | .dict ds, _, h, c => by cases c
theorem RpAll.dp : ∀ (ws : List Wd) (vs : List V), RpAll K mu T H vs ws → PyData.canLayAll0 ws = true → DpAll K H vs ws
  | [], _, h, _ => by cases h; exact .nil
  | d :: ds, _, h, c => by
    cases h with
    | cons a b =>
      have c' : (PyData.canLay0 d && PyData.canLayAll0 ds) = true := c
      obtain ⟨c1, c2⟩ := Bool.and_eq_true_iff.mp c'
      exact .cons (Rp.dp d _ a c1) (RpAll.dp ds _ b c2)
end
end
def gAdd : Wd → Wd → Option Wd
  | .int i, .int j => some (.int (i + j))
  | .str a, .str b => if a.length + b.length ≤ sizeLine then some (.str (a ++ b)) else none
  | .list a, .list b => if a.length + b.length ≤ sizeLine then some (.list (a ++ b)) else none
  | .tuple a, .tuple b => if a.length + b.length ≤ sizeLine then some (.tuple (a ++ b)) else none
  | _, _ => none
def gSub : Wd → Wd → Option Wd
  | .int i, .int j => some (.int (i - j))
  | _, _ => none
def gMul : Wd → Wd → Option Wd
  | .int i, .int j => if (-(2 ^ 64) < i ∧ i < 2 ^ 64) ∨ (-(2 ^ 64) < j ∧ j < 2 ^ 64) then some (.int (i * j)) else none
  | _, _ => none
def gDiv : Wd → Wd → Option Wd
  | .int i, .int j => if 0 < j ∧ j < 1073741824 then some (.int (i / j)) else none
  | _, _ => none
def gMod : Wd → Wd → Option Wd
  | .int i, .int j => if 0 < j then some (.int (i % j)) else none
  | _, _ => none
def gPow : Wd → Wd → Option Wd
  | .int i, .int j => if 0 ≤ j ∧ j ≤ 1000000 ∧ i.natAbs < 2 ^ 64 then some (.int (i ^ j.toNat)) else none
  | _, _ => none
theorem ite_inv {α : Type} {c : Prop} [Decidable c] {a b : α} (h : (if c then some a else none) = some b) : c ∧ a = b := by
  by_cases q : c
  · rw [if_pos q] at h
    exact ⟨q, Option.some.inj h⟩
  · rw [if_neg q] at h
    cases h
section
variable {X : Cx}
theorem lst_at {pins : List (Addr × Obj)} {s : Shared} {σ : Sg} {H : Hp} {a : Addr} {xs : List V} {mu : List Addr} {T : Addr → Prop} (I : Inv X pins σ H s) (h : LsR X.K mu T H a xs) : ∃ (its : List Value) (n : Nat), Vals xs its ∧ xs.length ≤ sizeLine ∧ s.heap.get? a = some { cls := .type "list", data := .seq its.toArray n } := by
  rcases h with ⟨h, _⟩ | ⟨its, n, h, r, z⟩
  · obtain ⟨z, its, n, r, e⟩ := Rd.ok h I.hok
    exact ⟨its, n, r, z, e⟩
  · exact ⟨its, n, r, z, I.kIn _ _ h⟩
theorem op_catW : OpR X (binaryOp .Add) (fun x y H Q => ∃ l b xs zs, x = .ref l ∧ y = .ref b ∧ (∃ mu T, LsR X.K mu T H l xs) ∧ (∃ mu T, LsR X.K mu T H b zs) ∧ xs.length + zs.length ≤ sizeLine ∧ ∀ p, H p = none → Q (.ref p) (upd H p (.lst (xs ++ zs)))) := by
  intro pins s σ H x y v u Q I rx ry h
  obtain ⟨l, b, xs, zs, rfl, rfl, ⟨_, _, h1⟩, ⟨_, _, h2⟩, hz, q⟩ := h
  cases rx
  cases ry
  obtain ⟨i1, n1, r1, z1, e1⟩ := lst_at I h1
  obtain ⟨i2, n2, r2, z2, e2⟩ := lst_at I h2
  have l1 := r1.length
  have l2 := r2.length
  refine PySem.P.add_list e1 e2 ?_ (by rw [List.size_toArray, List.size_toArray]; omega)
  have ea : i1.toArray ++ i2.toArray = (i1 ++ i2).toArray := by simp
  rw [ea]
  exact ⟨.ref _, _, I.lnew (t' := s.toks) (r1.append r2) (by rw [List.length_append]; omega), rfl, q _ I.fresh⟩
theorem Inv.ftup {pins : List (Addr × Obj)} {s : Shared} {σ : Sg} {H : Hp} {xs : List V} {us : List Value} {t' : Nat} (I : Inv X pins σ H s) (r : Vals xs us) (hz : xs.length ≤ sizeLine) :
    Inv X pins σ (upd H s.heap.objs.size (.frz { cls := .type "tuple", data := .seq us.toArray } (.tup xs))) { s with heap := s.heap.push { cls := .type "tuple", data := .seq us.toArray }, toks := t' } := by
  refine I.laid (fun b o e => Heap.get?_push_of_some _ e) (Nat.le_refl _) ?_
  exact ⟨Heap.get?_push_size _ rfl, hz, us, r, IsTup.new _ _⟩
theorem op_catF : OpR X (binaryOp .Add) (fun x y H Q => ∃ a b xs ys, x = .ref a ∧ y = .ref b ∧ SqT X.K H a xs ∧ SqT X.K H b ys ∧ xs.length + ys.length ≤ sizeLine ∧
    (xs = [] → Q (.ref b) H) ∧ (xs ≠ [] → ys = [] → Q (.ref a) H) ∧ (xs ≠ [] → ys ≠ [] → ∀ (p : Addr) (o : Obj), H p = none → o.dict = none → Q (.ref p) (upd H p (.frz o (.tup (xs ++ ys)))))) := by
  intro pins s σ H x y v u Q I rx ry h
  obtain ⟨a, b, xs, ys, rfl, rfl, ha, hb, hz, q0, q1, q2⟩ := h
  cases rx
  cases ry
  obtain ⟨i1, r1, p1, _⟩ := I.tuple ha
  obtain ⟨i2, r2, p2, _⟩ := I.tuple hb
  by_cases hx : xs = []
  · subst hx
    cases r1
    exact cat_tup0 p1 p2 ⟨.ref b, H, I, rfl, q0 rfl⟩
  · refine HT.cat_tup p1 p2 (fun z => hx (r1.nil_iff.mp z)) (fun z => ⟨.ref a, H, I, rfl, q1 hx (r2.nil_iff.mp z)⟩) (fun z => ?_) (by rw [← r1.length, ← r2.length]; exact hz)
    have I2 := Inv.ftup (t' := s.toks) I (r1.append r2) (by rw [List.length_append]; exact hz)
    exact ⟨.ref s.heap.objs.size, _, I2, rfl, q2 hx (fun w => z (r2.nil_iff.mpr w)) _ _ (I.hok.fresh (Nat.le_refl _)) rfl⟩
theorem od_add : OpD X (binaryOp .Add) gAdd := by
  intro pins s σ H x y v u Q mu T S dx dy w I rx ry st bn r1 r2 e q
  unfold gAdd at e
  split at e
  · cases e; cases r1; cases r2
    exact op_add pins s σ H _ _ v u Q I rx ry ⟨_, _, rfl, rfl, q _ H (Same.refl H) (.int _)⟩
  · obtain ⟨hz, rfl⟩ := ite_inv e
    cases r1; cases r2
    exact op_add_str pins s σ H _ _ v u Q I rx ry ⟨_, _, rfl, rfl, hz, q _ H (Same.refl H) (.str _)⟩
  · obtain ⟨hz, rfl⟩ := ite_inv e
    cases r1 with
    | lst a1 b1 => cases r2 with
      | lst a2 b2 =>
        refine op_catW pins s σ H _ _ v u Q I rx ry ⟨_, _, _, _, rfl, rfl, ⟨_, _, a1⟩, ⟨_, _, a2⟩, by rw [b1.length, b2.length]; exact hz, fun p hp => q _ _ (same_upd hp) (new_lst st bn (b1.append b2) hp)⟩
  · obtain ⟨hz, rfl⟩ := ite_inv e
    cases r1 with
    | tup a1 b1 => cases r2 with
      | tup a2 b2 =>
        refine op_catF pins s σ H _ _ v u Q I rx ry ⟨_, _, _, _, rfl, rfl, a1.sq, a2.sq, by rw [b1.length, b2.length]; exact hz, fun e => ?_, fun _ e => ?_, fun _ _ p o hp d => q _ _ (same_upd hp) (new_tup st bn (b1.append b2) hp d)⟩
        · subst e
          cases b1
          exact q _ H (Same.refl H) (.tup a2 b2)
        · subst e
          cases b2
          rw [List.append_nil] at q
          exact q _ H (Same.refl H) (.tup a1 b1)
  · cases e
theorem od_sub : OpD X (binaryOp .Sub) gSub := by
  intro pins s σ H x y v u Q mu T S dx dy w I rx ry st bn r1 r2 e q
  unfold gSub at e
  split at e
  · cases e; cases r1; cases r2
    exact op_sub pins s σ H _ _ v u Q I rx ry ⟨_, _, rfl, rfl, q _ H (Same.refl H) (.int _)⟩
  · cases e
theorem od_mul : OpD X (binaryOp .Mult) gMul := by
  intro pins s σ H x y v u Q mu T S dx dy w I rx ry st bn r1 r2 e q
  unfold gMul at e
  split at e
  · obtain ⟨hz, rfl⟩ := ite_inv e
    cases r1; cases r2
    exact op_mul pins s σ H _ _ v u Q I rx ry ⟨_, _, rfl, rfl, hz, q _ H (Same.refl H) (.int _)⟩
  · cases e
theorem od_div : OpD X (binaryOp .FloorDiv) gDiv := by
  intro pins s σ H x y v u Q mu T S dx dy w I rx ry st bn r1 r2 e q
  unfold gDiv at e
  split at e
  · obtain ⟨hz, rfl⟩ := ite_inv e
    cases r1; cases r2
    exact op_fdiv pins s σ H _ _ v u Q I rx ry ⟨_, _, rfl, rfl, hz, q _ H (Same.refl H) (.int _)⟩
  · cases e
theorem od_mod : OpD X (binaryOp .Mod) gMod := by
  intro pins s σ H x y v u Q mu T S dx dy w I rx ry st bn r1 r2 e q
  unfold gMod at e
  split at e
  · obtain ⟨hz, rfl⟩ := ite_inv e
    cases r1; cases r2
    exact op_mod pins s σ H _ _ v u Q I rx ry ⟨_, _, rfl, rfl, hz, q _ H (Same.refl H) (.int _)⟩
  · cases e
theorem od_pow : OpD X (binaryOp .Pow) gPow := by
  intro pins s σ H x y v u Q mu T S dx dy w I rx ry st bn r1 r2 e q
  unfold gPow at e
  split at e
  · obtain ⟨hz, rfl⟩ := ite_inv e
    cases r1; cases r2
    exact op_pow pins s σ H _ _ v u Q I rx ry ⟨_, _, rfl, rfl, hz, q _ H (Same.refl H) (.int _)⟩
  · cases e
end
def gEq : Wd → Wd → Option Wd
  | .str a, .str b => some (.bool (decide (a = b)))
  | x, y => if SeqAt.shaped x = true ∧ SeqAt.shaped y = true then some (.bool (PyData.eqv x y)) else none
def gNe : Wd → Wd → Option Wd
  | .str a, .str b => some (.bool (!decide (a = b)))
  | x, y => if SeqAt.shaped x = true ∧ SeqAt.shaped y = true then some (.bool (!PyData.eqv x y)) else none
def gCmp (p : Int → Int → Bool) (q : List Nat → List Nat → Bool) : Wd → Wd → Option Wd
  | .int i, .int j => some (.bool (p i j))
  | .str a, .str b => some (.bool (q a.cps.toList b.cps.toList))
  | _, _ => none
abbrev gLt := gCmp (fun i j => decide (i < j)) (fun a b => decide (a < b))
abbrev gLe := gCmp (fun i j => decide (i ≤ j)) (fun a b => !decide (b < a))
abbrev gGt := gCmp (fun i j => decide (j < i)) (fun a b => decide (b < a))
abbrev gGe := gCmp (fun i j => decide (j ≤ i)) (fun a b => !decide (a < b))
def noneD : Wd → Bool
  | .none => true
  | _ => false
def gIsN : Wd → Wd → Option Wd
  | x, .none => some (.bool (noneD x))
  | _, _ => none
def gNotN : Wd → Wd → Option Wd
  | x, .none => some (.bool (!noneD x))
  | _, _ => none
section
variable {X : Cx}
theorem od_eq (hu : X.A.units + 64 < cLine) : OpD X (compareOp .Eq) gEq := by
  intro pins s σ H x y v u Q mu T S dx dy w I rx ry st bn r1 r2 e q
  unfold gEq at e
  split at e
  · rename_i a b
    cases e; cases r1; cases r2
    refine op_eq pins s σ H _ _ v u Q I rx ry ⟨rfl, ?_⟩
    have e2 : decide (V.str a = V.str b) = decide (a = b) := decide_eq_decide.mpr ⟨fun h => by cases h; rfl, fun h => by rw [h]⟩
    rw [e2]
    exact q _ H (Same.refl H) (.bl _)
  · obtain ⟨⟨h1, h2⟩, rfl⟩ := ite_inv e
    exact op_eqD hu pins s σ H _ _ v u Q I rx ry ⟨dx, dy, Rp.dp _ _ r1 (SeqAt.canLay_of_shaped h1), Rp.dp _ _ r2 (SeqAt.canLay_of_shaped h2), h1, h2, q _ H (Same.refl H) (.bl _)⟩
theorem od_ne (hu : X.A.units + 64 < cLine) : OpD X (compareOp .NotEq) gNe := by
  intro pins s σ H x y v u Q mu T S dx dy w I rx ry st bn r1 r2 e q
  unfold gNe at e
  split at e
  · rename_i a b
    cases e; cases r1; cases r2
    refine op_ne pins s σ H _ _ v u Q I rx ry ⟨rfl, ?_⟩
    have e2 : decide (V.str a = V.str b) = decide (a = b) := decide_eq_decide.mpr ⟨fun h => by cases h; rfl, fun h => by rw [h]⟩
    rw [e2]
    exact q _ H (Same.refl H) (.bl _)
  · obtain ⟨⟨h1, h2⟩, rfl⟩ := ite_inv e
    exact op_neD hu pins s σ H _ _ v u Q I rx ry ⟨dx, dy, Rp.dp _ _ r1 (SeqAt.canLay_of_shaped h1), Rp.dp _ _ r2 (SeqAt.canLay_of_shaped h2), h1, h2, q _ H (Same.refl H) (.bl _)⟩
theorem od_cmp {op : CmpOp} {p : Int → Int → Bool} {q : List Nat → List Nat → Bool} (hi : OpR X (compareOp op) (rI0 fun i j => .bl (p i j)))
    (hs : OpR X (compareOp op) (fun x y H Q => ∃ i j, x = .str i ∧ y = .str j ∧ Q (.bl (q i.cps.toList j.cps.toList)) H)) : OpD X (compareOp op) (gCmp p q) := by
  intro pins s σ H x y v u Q mu T S dx dy w I rx ry st bn r1 r2 e k
  unfold gCmp at e
  split at e
  · cases e; cases r1; cases r2
    exact hi pins s σ H _ _ v u Q I rx ry ⟨_, _, rfl, rfl, k _ H (Same.refl H) (.bl _)⟩
  · cases e; cases r1; cases r2
    exact hs pins s σ H _ _ v u Q I rx ry ⟨_, _, rfl, rfl, k _ H (Same.refl H) (.bl _)⟩
  · cases e
theorem od_lt : OpD X (compareOp .Lt) gLt := od_cmp op_lt op_lt_str
theorem od_le : OpD X (compareOp .LtE) gLe := od_cmp op_le op_le_str
theorem od_gt : OpD X (compareOp .Gt) gGt := od_cmp op_gt op_gt_str
theorem od_ge : OpD X (compareOp .GtE) gGe := od_cmp op_ge op_ge_str
theorem Rp.nonB {K : Fg} {mu : List Addr} {T : Addr → Prop} {H : Hp} {v : V} {w : Wd} (h : Rp K mu T H v w) : decide (v = V.non) = noneD w := by
  cases h <;> rfl
theorem od_is : OpD X (compareOp .Is) gIsN := by
  intro pins s σ H x y v u Q mu T S dx dy w I rx ry st bn r1 r2 e q
  unfold gIsN at e
  split at e
  · cases e
    cases r2
    exact op_isN pins s σ H _ _ v u Q I rx ry ⟨rfl, q _ H (Same.refl H) (by rw [r1.nonB]; exact .bl _)⟩
  · cases e
theorem od_isnot : OpD X (compareOp .IsNot) gNotN := by
  intro pins s σ H x y v u Q mu T S dx dy w I rx ry st bn r1 r2 e q
  unfold gNotN at e
  split at e
  · cases e
    cases r2
    exact op_notN pins s σ H _ _ v u Q I rx ry ⟨rfl, q _ H (Same.refl H) (by rw [r1.nonB]; exact .bl _)⟩
  · cases e
end
def flatD : Wd → Bool
  | .none => true
  | .bool _ => true
  | .int _ => true
  | .str _ => true
  | _ => false
def lookD : List (Wd × Wd) → Wd → Option Wd
  | [], _ => none
  | (k, v) :: r, x => if PyData.eqv k x = true then some v else lookD r x
def gIn : Wd → Wd → Option Wd
  | x, .list ys => if SeqAt.shaped x = true ∧ SeqAt.shaped (.list ys) = true then some (.bool (ys.any fun z => PyData.eqv z x)) else none
  | x, .tuple ys => if flatD x = true ∧ ys.all flatD = true then some (.bool (ys.any fun z => PyData.eqv z x)) else none
  | .str a, .str b => some (.bool (!(Builtin.Str.occurrences b a 0 b.length 1).isEmpty))
  | _, _ => none
section
variable {K : Fg} {mu : List Addr} {T : Addr → Prop} {H : Hp}
theorem flat_of {v : V} {w : Wd} (h : Rp K mu T H v w) (f : flatD w = true) : flatV v = true := by cases h <;> first | rfl | cases f
theorem flat_all : ∀ {vs : List V} {ws : List Wd}, RpAll K mu T H vs ws → ws.all flatD = true → vs.all flatV = true
  | [], [], _, _ => rfl
  | v :: vs, w :: ws, h, f => by
    cases h with
    | cons a b =>
      rw [List.all_cons] at f ⊢
      obtain ⟨f1, f2⟩ := Bool.and_eq_true_iff.mp f
      rw [flat_of a f1, flat_all b f2]
      rfl
theorem eq_flat {v v' : V} {w w' : Wd} (h : Rp K mu T H v w) (h' : Rp K mu T H v' w') (f : flatD w = true) (f' : flatD w' = true) : eqV v v' = PyData.eqv w w' := by
  cases h <;> first | (cases f; done) | (cases h' <;> first | (cases f'; done) | (simp only [eqV, PyData.eqv]; done) | (simp [eqV, PyData.eqv]; done))
theorem in_flat {v : V} {w : Wd} (h : Rp K mu T H v w) (f : flatD w = true) : ∀ {vs : List V} {ws : List Wd}, RpAll K mu T H vs ws → ws.all flatD = true → inV v vs = ws.any fun z => PyData.eqv z w
  | [], [], _, _ => rfl
  | v' :: vs, w' :: ws, h', f' => by
    cases h' with
    | cons a b =>
      rw [List.all_cons] at f'
      obtain ⟨f1, f2⟩ := Bool.and_eq_true_iff.mp f'
      have ih := in_flat h f b f2
      unfold inV at ih ⊢
      rw [List.any_cons, List.any_cons, ih, eq_flat a h f1 f]
end
section
variable {X : Cx}
theorem od_in (hu : X.A.units + 65 < cLine) : OpD X (compareOp .In) gIn := by
  intro pins s σ H x y v u Q mu T S dx dy w I rx ry st bn r1 r2 e q
  unfold gIn at e
  split at e
  · obtain ⟨⟨h1, h2⟩, rfl⟩ := ite_inv e
    exact op_inD hu pins s σ H _ _ v u Q I rx ry ⟨_, _, Rp.dp _ _ r1 (SeqAt.canLay_of_shaped h1), Rp.dp _ _ r2 (SeqAt.canLay_of_shaped h2), h1, h2, q _ H (Same.refl H) (.bl _)⟩
  · obtain ⟨⟨h1, h2⟩, rfl⟩ := ite_inv e
    cases r2 with
    | tup a b =>
      refine op_in_seq pins s σ H _ _ v u Q I rx ry ⟨_, _, rfl, .inr a.sq, flat_of r1 h1, flat_all b h2, q _ H (Same.refl H) ?_⟩
      rw [if_neg Bool.false_ne_true, in_flat r1 h1 b h2]
      exact .bl _
  · cases e; cases r1; cases r2
    exact op_in_str pins s σ H _ _ v u Q I rx ry ⟨_, _, rfl, rfl, q _ H (Same.refl H) (.bl _)⟩
  · cases e
end
end DL
namespace DL
open PySem PySem.Spec PyProof.Rows L2
section
variable {K : Fg} {ρ : Ev} {S S1 : Sto} {mu : List Addr} {B O : Addr → Prop} {σ : Sg} {H : Hp}
theorem tD.mk {f : Mx} {w : Wd} {Q : VK} (rl : Rel K mu B O H σ ρ S) (e : f ρ S = .ok w S1)
    (q : ∀ v H1 mu1, Ext mu mu1 H H1 → Rel K mu1 B O H1 σ ρ S1 → Rp K mu1 (fun a => B a ∨ O a) H1 v w → Q v H1) : tD K f σ H Q :=
  ⟨ρ, S, mu, B, O, rl, w, S1, e, fun v H1 mu1 x st r => q v H1 mu1 x (rl.ext x st) r⟩
theorem tDt.mk {f : Mt} {w : Bool} {Q : Bool → Hp → Prop} (rl : Rel K mu B O H σ ρ S) (e : f ρ S = .ok w S1) (q : ∀ H1 mu1, Ext mu mu1 H H1 → Rel K mu1 B O H1 σ ρ S1 → Q w H1) : tDt K f σ H Q :=
  ⟨ρ, S, mu, B, O, rl, w, S1, e, fun H1 mu1 x st => q H1 mu1 x (rl.ext x st)⟩
theorem tDa.mk {f : Ma} {ws : List Wd} {Q : List V → Hp → Prop} (rl : Rel K mu B O H σ ρ S) (e : f ρ S = .ok ws S1)
    (q : ∀ vs H1 mu1, Ext mu mu1 H H1 → Rel K mu1 B O H1 σ ρ S1 → RpAll K mu1 (fun a => B a ∨ O a) H1 vs ws → Q vs H1) : tDa K f σ H Q :=
  ⟨ρ, S, mu, B, O, rl, ws, S1, e, fun vs H1 mu1 x st r => q vs H1 mu1 x (rl.ext x st) r⟩
end
def truD : Wd → Option Bool
  | .none => some false
  | .bool b => some b
  | .int i => some (i != 0)
  | .str y => if y.length ≤ sizeLine then some ((y.length : Int) != 0) else none
  | .list ys => some (!ys.isEmpty)
  | .tuple ys => some (!ys.isEmpty)
  | .dict ((.none, _) :: _) => none
  | .dict ys => some (!ys.isEmpty)
theorem tru_of {K : Fg} {mu : List Addr} {T : Addr → Prop} {H : Hp} {v : V} {w : Wd} {k : Bool} (h : Rp K mu T H v w) (e : truD w = some k) : TruV K v H k := by
  cases h with
  | non => cases e; rfl
  | bl b => cases e; rfl
  | int i => cases e; rfl
  | str x =>
    obtain ⟨h1, rfl⟩ := ite_inv e
    exact ⟨h1, rfl⟩
  | @lst a xs ds a1 b1 =>
    cases e
    refine .inl ⟨_, a1.sq, ?_⟩
    cases b1 <;> rfl
  | @tup a xs ds a1 b1 =>
    cases e
    refine .inr (.inl ⟨_, a1.sq, ?_⟩)
    cases b1 <;> rfl
  | @dct a kvs ds a1 b1 =>
    refine .inr (.inr ⟨_, a1.1, ?_⟩)
    cases b1 with
    | nil => cases e; rfl
    | @cons k _ _ _ _ _ _ => cases k <;> (cases e; rfl)
  | obj e' => cases e
def mTru (f : Mx) : Mt := fun ρ S => (f ρ S).bnd fun w S1 => R.of (truD w) S1
section
variable {X : Cx} {e a b : Expr} {f fa fb : Mx} {pos : Pos} {t tb : Mt}
theorem dt_truth (h : De X e f) (he : ∀ whole, isTrue e X.env whole = (do let v ← whole; standAt e.pos; holding [v] (truthy v)) := by intro _; rfl) : Dt X e (mTru f) := by
  refine PT.weak (pt_truth h he) fun σ H Q ⟨ρ, S, mu, B, O, rl, w, S', e1, q⟩ => ?_
  obtain ⟨x, S1, e2, e1⟩ := R.bnd_inv e1
  obtain ⟨e3, rfl⟩ := R.of_inv e1
  exact tD.mk rl e2 fun v H1 mu1 E r p => ⟨w, tru_of p e3, q H1 mu1 E r.sto⟩
theorem dt_cmp {op : CmpOp} {g : Wd → Wd → Option Wd} (ho : OpD X (compareOp op) g) (ha : De X a fa) (hb : De X b fb) (hm : behindInMarks op b = false) : Dt X (.Compare a [op] [b] pos) (mTru (mBin g fa fb)) := by
  refine ⟨fun pins s σ H Q I ⟨ρ, S, mu, B, O, rl, w, S', e1, q⟩ => ?_⟩
  obtain ⟨x, S1, e2, e1⟩ := R.bnd_inv e1
  obtain ⟨e3, rfl⟩ := R.of_inv e1
  refine wpAny_isTrue_Compare1 (thn (bin_run (Q := fun v H1 => ∃ mu1, Ext mu mu1 H H1 ∧ StOk X.K mu1 (fun a => B a ∨ O a) H1 S1 ∧ Rp X.K mu1 (fun a => B a ∨ O a) H1 v x) ha hb ho I ⟨ρ, S, mu, B, O, rl, x, S1, e2, fun v H1 mu1 h1 h2 h3 => ⟨mu1, h1, h2, h3⟩⟩) fun v s1 h1 => thn h1 fun u s2 h2 => thn h2 fun c s3 ⟨y, H1, I1, r1, mu1, E1, st1, p1⟩ => ?_) hm
  exact tru_ok pins s3 σ H1 y c Q I1 r1 ⟨w, tru_of p1 e3, q H1 mu1 E1 st1⟩
def mAndT (t u : Mt) : Mt := fun ρ S => (t ρ S).bnd fun b S1 => if b = true then u ρ S1 else .ok false S1
def mOrT (t u : Mt) : Mt := fun ρ S => (t ρ S).bnd fun b S1 => if b = true then .ok true S1 else u ρ S1
def mNotT (t : Mt) : Mt := fun ρ S => (t ρ S).bnd fun b S1 => .ok (!b) S1
def Dw (X : Cx) (e : Expr) (f : Mt) : Prop := PW X e (tDt X.K f)
theorem PW.weak {X : Cx} {e : Expr} {t t' : TT} (h : PW X e t) (w : ∀ σ H Q, t' σ H Q → t σ H Q) : PW X e t' := ⟨fun wh pins s σ H Q I q => h.run wh pins s σ H Q I (w _ _ _ q)⟩
theorem dw_and1 (ha : Dt X a t) : Dw X (.BoolOp .And [a] pos) t := pw_and1 ha
theorem dw_or1 (ha : Dt X a t) : Dw X (.BoolOp .Or [a] pos) t := pw_or1 ha
theorem dw_and {rest : List Expr} (ha : Dt X a t) (hb : Dw X (.BoolOp .And (b :: rest) pos) tb) : Dw X (.BoolOp .And (a :: b :: rest) pos) (mAndT t tb) :=
  PW.weak (pw_and ha hb) fun σ H Q ⟨ρ, S, mu, B, O, rl, w, S', e1, q⟩ => by
    obtain ⟨x, S1, e2, e1⟩ := R.bnd_inv e1
    refine tDt.mk rl e2 fun H1 mu1 E r => ?_
    cases x with
    | true =>
      rw [if_pos rfl] at e1 ⊢
      exact tDt.mk r e1 fun H2 mu2 E2 r2 => q H2 mu2 (E.trans E2) r2.sto
    | false =>
      rw [if_neg Bool.false_ne_true] at e1 ⊢
      cases e1
      exact q H1 mu1 E r.sto
theorem dw_or {rest : List Expr} (ha : Dt X a t) (hb : Dw X (.BoolOp .Or (b :: rest) pos) tb) : Dw X (.BoolOp .Or (a :: b :: rest) pos) (mOrT t tb) :=
  PW.weak (pw_or ha hb) fun σ H Q ⟨ρ, S, mu, B, O, rl, w, S', e1, q⟩ => by
    obtain ⟨x, S1, e2, e1⟩ := R.bnd_inv e1
    refine tDt.mk rl e2 fun H1 mu1 E r => ?_
    cases x with
    | true =>
      rw [if_pos rfl] at e1 ⊢
      cases e1
      exact q H1 mu1 E r.sto
    | false =>
      rw [if_neg Bool.false_ne_true] at e1 ⊢
      exact tDt.mk r e1 fun H2 mu2 E2 r2 => q H2 mu2 (E.trans E2) r2.sto
theorem Dw.dt {e : Expr} {f : Mt} (h : Dw X e f) : Dt X e f := PW.pt h
theorem dt_not (ha : Dt X a t) : Dt X (.UnaryOp .Not a pos) (mNotT t) :=
  PT.weak (pt_not ha) fun σ H Q ⟨ρ, S, mu, B, O, rl, w, S', e1, q⟩ => by
    obtain ⟨x, S1, e2, e1⟩ := R.bnd_inv e1
    cases e1
    exact tDt.mk rl e2 fun H1 mu1 E r => q H1 mu1 E r.sto
def mAnd (fa fb : Mx) : Mx := fun ρ S => (fa ρ S).bnd fun x S1 => match truD x with
  | some true => fb ρ S1
  | some false => .ok x S1
  | none => .bad
def mNot (fa : Mx) : Mx := fun ρ S => (fa ρ S).bnd fun x S1 => R.of ((truD x).map fun b => .bool (!b)) S1
def mIf (t : Mt) (fa fb : Mx) : Mx := fun ρ S => (t ρ S).bnd fun b S1 => if b = true then fa ρ S1 else fb ρ S1
theorem de_and1 {op : BoolOp} (ha : De X a fa) : De X (.BoolOp op [a] pos) fa := pe_one ha
theorem de_and {rest : List Expr} (ha : De X a fa) (hb : De X (.BoolOp .And (b :: rest) pos) fb) : De X (.BoolOp .And (a :: b :: rest) pos) (mAnd fa fb) :=
  PE.weak (pe_andT ha hb) fun σ H Q ⟨ρ, S, mu, B, O, rl, w, S', e1, q⟩ => by
    obtain ⟨x, S1, e2, e1⟩ := R.bnd_inv e1
    refine tD.mk rl e2 fun v H1 mu1 E r p => ?_
    split at e1
    · rename_i h
      exact ⟨true, tru_of p h, iteT (tD.mk r e1 fun v2 H2 mu2 E2 r2 p2 => q v2 H2 mu2 (E.trans E2) r2.sto p2)⟩
    · rename_i h
      cases e1
      exact ⟨false, tru_of p h, iteF (q v H1 mu1 E r.sto p)⟩
    · cases e1
theorem de_not (ha : De X a fa) : De X (.UnaryOp .Not a pos) (mNot fa) :=
  PE.weak (pe_notT ha) fun σ H Q ⟨ρ, S, mu, B, O, rl, w, S', e1, q⟩ => by
    obtain ⟨x, S1, e2, e1⟩ := R.bnd_inv e1
    obtain ⟨e3, rfl⟩ := R.of_inv e1
    obtain ⟨k, e4, rfl⟩ := Option.map_eq_some_iff.mp e3
    exact tD.mk rl e2 fun v H1 mu1 E r p => ⟨k, tru_of p e4, q _ H1 mu1 E r.sto (.bl _)⟩
theorem de_if {c : Expr} (hc : Dt X c t) (ha : De X a fa) (hb : De X b fb) : De X (.IfExp c a b pos) (mIf t fa fb) :=
  PE.weak (pe_ifExp hc ha hb) fun σ H Q ⟨ρ, S, mu, B, O, rl, w, S', e1, q⟩ => by
    obtain ⟨x, S1, e2, e1⟩ := R.bnd_inv e1
    refine tDt.mk rl e2 fun H1 mu1 E r => ?_
    cases x with
    | true =>
      rw [if_pos rfl] at e1 ⊢
      exact tD.mk r e1 fun v2 H2 mu2 E2 r2 p2 => q v2 H2 mu2 (E.trans E2) r2.sto p2
    | false =>
      rw [if_neg Bool.false_ne_true] at e1 ⊢
      exact tD.mk r e1 fun v2 H2 mu2 E2 r2 p2 => q v2 H2 mu2 (E.trans E2) r2.sto p2
def gNeg : Wd → Option Wd
  | .int i => some (.int (-i))
  | _ => none
def mUn (g : Wd → Option Wd) (fa : Mx) : Mx := fun ρ S => (fa ρ S).bnd fun x S1 => R.of (g x) S1
theorem de_neg (ha : De X a fa) : De X (.UnaryOp .USub a pos) (mUn gNeg fa) :=
  PE.weak (pe_un un_neg ha) fun σ H Q ⟨ρ, S, mu, B, O, rl, w, S', e1, q⟩ => by
    obtain ⟨x, S1, e2, e1⟩ := R.bnd_inv e1
    obtain ⟨e3, rfl⟩ := R.of_inv e1
    refine tD.mk rl e2 fun v H1 mu1 E r p => ?_
    cases p with
    | int i =>
      cases e3
      exact ⟨i, rfl, q _ H1 mu1 E r.sto (.int _)⟩
    | _ => cases e3
def mChain (g g' : Wd → Wd → Option Wd) (fa fb fc : Mx) : Mx := fun ρ S => (fa ρ S).bnd fun x S1 => (fb ρ S1).bnd fun y S2 => match g x y with
  | some (.bool true) => (fc ρ S2).bnd fun z S3 => R.of (g' y z) S3
  | some (.bool false) => .ok (.bool false) S2
  | _ => .bad
end
section
variable {X : Cx} {e : Expr} {es : List Expr} {f : Mx} {fs : Ma} {pos p : Pos}
def aNil : Ma := fun _ S => .ok [] S
def aCons (f : Mx) (fs : Ma) : Ma := fun ρ S => (f ρ S).bnd fun x S1 => (fs ρ S1).bnd fun xs S2 => .ok (x :: xs) S2
theorem da_nil : Da X [] aNil := PA.weak pa_nil fun σ H Q ⟨ρ, S, mu, B, O, rl, w, S', e1, q⟩ => by
  cases e1
  exact q [] H mu (.refl _ _) rl.sto .nil
theorem da_cons (ha : De X e f) (hr : Da X es fs) (hs : starEach (e :: es) X.env = (false, eval e X.env) :: starEach es X.env := by rfl) : Da X (e :: es) (aCons f fs) :=
  PA.weak (pa_cons ha hr hs) fun σ H Q ⟨ρ, S, mu, B, O, rl, w, S', e1, q⟩ => by
    obtain ⟨x, S1, e2, e1⟩ := R.bnd_inv e1
    obtain ⟨xs, S2, e3, e1⟩ := R.bnd_inv e1
    cases e1
    refine tD.mk rl e2 fun v H1 mu1 E r p1 => ?_
    exact tDa.mk r e3 fun vs H2 mu2 E2 r2 p2 => q _ H2 mu2 (E.trans E2) r2.sto (.cons (p1.ext E2) p2)
def CallD (X : Cx) (f : Value) (g : List Wd → Option Wd) : Prop :=
  ∀ (pins : List (Addr × Obj)) (s : Shared) (σ : Sg) (H : Hp) (xs : List V) (us : List Value) (Q : VK) (mu : List Addr) (T : Addr → Prop) (S : Sto) (ws : List Wd) (w : Wd), Inv X pins σ H s → Vals xs us →
    StOk X.K mu T H S → Bn mu T H → RpAll X.K mu T H xs ws → g ws = some w → (∀ v H', Same H H' → Rp X.K mu T H' v w → Q v H') → wpAny (model X.prog X.w) X.A (call f us) (EP X pins σ Q) X.xe s
def rCD (K : Fg) (g : List Wd → Option Wd) : List V → Hp → VK → Prop := fun xs H Q => ∃ mu T S ws w, StOk K mu T H S ∧ Bn mu T H ∧ RpAll K mu T H xs ws ∧ g ws = some w ∧ ∀ v H', Same H H' → Rp K mu T H' v w → Q v H'
theorem CallD.r {f : Value} {g : List Wd → Option Wd} (h : CallD X f g) : CallR X f (rCD X.K g) := fun pins s σ H xs us Q I r ⟨mu, T, S, ws, w, h1, h2, h3, h4, h5⟩ => h pins s σ H xs us Q mu T S ws w I r h1 h2 h3 h4 h5
def mCB (g : List Wd → Option Wd) (fs : Ma) : Mx := fun ρ S => (fs ρ S).bnd fun xs S1 => R.of (g xs) S1
theorem cb_weak {g : List Wd → Option Wd} {fs : Ma} (K : Fg) : ∀ σ H Q, tD K (mCB g fs) σ H Q → tCB (rCD K g) (tDa K fs) σ H Q := fun σ H Q ⟨ρ, S, mu, B, O, rl, w, S', e1, q⟩ => by
  obtain ⟨xs, S1, e2, e1⟩ := R.bnd_inv e1
  obtain ⟨e3, rfl⟩ := R.of_inv e1
  exact tDa.mk rl e2 fun vs H1 mu1 E r p1 => ⟨mu1, _, S1, xs, w, r.sto, r.bn, p1, e3, fun v H2 sm pv => q v H2 mu1 (E.trans (.same sm)) (r.sto.same sm) pv⟩
theorem de_callB {id : String} {x : Str} {g : List Wd → Option Wd} (hc : CallD X (.builtin id) g) (hg : Gl X x) (hm : X.mg x = none) (hv : bootBuiltins x = some (.builtin id)) (ha : Da X (e :: es) fs) (hn : x ≠ "__name__" := by decide) (hdb : (x == ("__debug__" : Str)) = false := by decide)
    (he : starEach (e :: es) X.env = (false, eval e X.env) :: starEach es X.env := by rfl) (hpl : (backTo pos (starEach es X.env)).any (·.1) = false := by rfl) : De X (.Call (.Name x p) (e :: es) [] pos) (mCB g fs) :=
  PE.weak (pe_callB hc.r hg hm hv ha hn hdb he hpl) (cb_weak X.K)
theorem de_callTy {T : String} {x : Str} {g : List Wd → Option Wd} (hc : CallD X (.type T) g) (hg : Gl X x) (hm : X.mg x = none) (hv : bootBuiltins x = some (.type T)) (ha : Da X (e :: es) fs) (hn : x ≠ "__name__" := by decide) (hdb : (x == ("__debug__" : Str)) = false := by decide)
    (he : starEach (e :: es) X.env = (false, eval e X.env) :: starEach es X.env := by rfl) (hp : (backTo pos (starEach es X.env)).any (·.1) = false := by rfl) : De X (.Call (.Name x p) (e :: es) [] pos) (mCB g fs) :=
  PE.weak (pe_callTy hc.r hg hm hv ha hn hdb he hp) (cb_weak X.K)
end
end DL
namespace DL
open PySem PySem.Spec PyProof.Rows L2
section
variable {X : Cx}
def rOD (K : Fg) (g : Wd → Wd → Option Wd) : R2 := fun x y H Q => ∃ mu T S dx dy w, StOk K mu T H S ∧ Bn mu T H ∧ Rp K mu T H x dx ∧ Rp K mu T H y dy ∧ g dx dy = some w ∧ ∀ v H', Same H H' → Rp K mu T H' v w → Q v H'
theorem OpD.r {f : Value → Value → Sem Value} {g : Wd → Wd → Option Wd} (h : OpD X f g) : OpR X f (rOD X.K g) := fun pins s σ H x y v u Q I rx ry ⟨mu, T, S, dx, dy, w, h1, h2, h3, h4, h5, h6⟩ => h pins s σ H x y v u Q mu T S dx dy w I rx ry h1 h2 h3 h4 h5 h6
theorem dt_chain {op op' : CmpOp} {g g' : Wd → Wd → Option Wd} {a b c : Expr} {fa fb fc : Mx} {pos : Pos} (ho : OpD X (compareOp op) g) (ho' : OpD X (compareOp op') g') (ha : De X a fa) (hb : De X b fb) (hc : De X c fc)
    (hg' : ∀ y z w, g' y z = some w → ∃ k, w = .bool k) (hm : lastMarks [op, op'] [b, c] = false := by with_unfolding_all rfl) : Dt X (.Compare a [op, op'] [b, c] pos) (mTru (mChain g g' fa fb fc)) :=
  PT.weak (pt_chain ho.r ho'.r ha hb hc hm) fun σ H Q ⟨ρ, S, mu, B, O, rl, k0, S', e1, q⟩ => by
    obtain ⟨w, S0, e0, e1⟩ := R.bnd_inv e1
    obtain ⟨et, rfl⟩ := R.of_inv e1
    obtain ⟨x, S1, e2, e0⟩ := R.bnd_inv e0
    obtain ⟨y, S2, e3, e0⟩ := R.bnd_inv e0
    refine tD.mk rl e2 fun v H1 mu1 E1 r1 p1 => tD.mk r1 e3 fun u H2 mu2 E2 r2 p2 => ?_
    split at e0
    · rename_i hg
      obtain ⟨z, S3, e4, e0⟩ := R.bnd_inv e0
      obtain ⟨e5, rfl⟩ := R.of_inv e0
      refine ⟨mu2, _, S2, x, y, _, r2.sto, r2.bn, p1.ext E2, p2, hg, fun k H3 sm pk => ?_⟩
      cases pk
      refine ⟨true, rfl, ?_⟩
      rw [if_pos rfl]
      have r3 := r2.ext (.same sm) (r2.sto.same sm)
      refine tD.mk r3 e4 fun t H4 mu4 E4 r4 p4 => ⟨mu4, _, S3, y, z, w, r4.sto, r4.bn, (p2.same sm).ext E4, p4, e5, fun v' H5 sm' p5 => ?_⟩
      obtain ⟨k1, rfl⟩ := hg' y z w e5
      cases p5
      cases et
      exact ⟨_, rfl, q H5 mu4 ((((E1.trans E2).trans (.same sm)).trans E4).trans (.same sm')) (r4.sto.same sm')⟩
    · rename_i hg
      cases e0
      cases et
      refine ⟨mu2, _, _, x, y, _, r2.sto, r2.bn, p1.ext E2, p2, hg, fun k H3 sm pk => ?_⟩
      cases pk
      refine ⟨false, rfl, ?_⟩
      rw [if_neg Bool.false_ne_true]
      exact ⟨false, rfl, q H3 mu2 ((E1.trans E2).trans (.same sm)) (r2.sto.same sm)⟩
    · cases e0
theorem cmp_bool {p : Int → Int → Bool} {q : List Nat → List Nat → Bool} : ∀ y z w, gCmp p q y z = some w → ∃ k, w = .bool k := fun y z w h => by
  unfold gCmp at h
  split at h <;> first | (cases h; exact ⟨_, rfl⟩) | cases h
def gLen : List Wd → Option Wd
  | [.str y] => if y.length ≤ sizeLine then some (.int y.length) else none
  | [.list ys] => some (.int ys.length)
  | [.tuple ys] => some (.int ys.length)
  | _ => none
theorem cd_len : CallD X (.builtin "len") gLen := by
  intro pins s σ H xs us Q mu T S ws w I r st bn p e q
  unfold gLen at e
  split at e
  · obtain ⟨hz, rfl⟩ := ite_inv e
    cases p with
    | cons p1 p2 =>
      cases p1; cases p2
      exact call_len pins s σ H _ us Q I r ⟨_, _, rfl, ⟨hz, rfl⟩, q _ H (Same.refl H) (.int _)⟩
  · cases e
    cases p with
    | cons p1 p2 =>
      cases p2
      cases p1 with
      | lst a b => exact call_len pins s σ H _ us Q I r ⟨_, _, rfl, .inl ⟨_, a.sq, rfl⟩, q _ H (Same.refl H) (by rw [b.length]; exact .int _)⟩
  · cases e
    cases p with
    | cons p1 p2 =>
      cases p2
      cases p1 with
      | tup a b => exact call_len pins s σ H _ us Q I r ⟨_, _, rfl, .inr ⟨_, a.sq, rfl⟩, q _ H (Same.refl H) (by rw [b.length]; exact .int _)⟩
  · cases e
def intsD : List Wd → Option (List Int)
  | [] => some []
  | .int i :: r => (intsD r).map (i :: ·)
  | _ => none
def boolsD : List Wd → Option (List Bool)
  | [] => some []
  | .bool i :: r => (boolsD r).map (i :: ·)
  | _ => none
theorem ints_of {K : Fg} {mu : List Addr} {T : Addr → Prop} {H : Hp} : ∀ {vs : List V} {ws : List Wd} {ns : List Int}, RpAll K mu T H vs ws → intsD ws = some ns → vs = ns.map V.int
  | [], [], _, _, e => by cases e; rfl
  | v :: vs, w :: ws, ns, h, e => by
    cases h with
    | cons a b =>
      cases a with
      | int i =>
        obtain ⟨m, e1, rfl⟩ := Option.map_eq_some_iff.mp (show (intsD ws).map (i :: ·) = some ns from e)
        rw [ints_of b e1]
        rfl
      | _ => cases e
theorem bools_of {K : Fg} {mu : List Addr} {T : Addr → Prop} {H : Hp} : ∀ {vs : List V} {ws : List Wd} {ns : List Bool}, RpAll K mu T H vs ws → boolsD ws = some ns → vs = ns.map V.bl
  | [], [], _, _, e => by cases e; rfl
  | v :: vs, w :: ws, ns, h, e => by
    cases h with
    | cons a b =>
      cases a with
      | bl i =>
        obtain ⟨m, e1, rfl⟩ := Option.map_eq_some_iff.mp (show (boolsD ws).map (i :: ·) = some ns from e)
        rw [bools_of b e1]
        rfl
      | _ => cases e
def gAll : List Wd → Option Wd
  | [.list ys] => (boolsD ys).map fun ns => .bool (ns.all id)
  | _ => none
theorem cd_all (hc : X.calm = true) : CallD X (.builtin "all") gAll := by
  intro pins s σ H xs us Q mu T S ws w I r st bn p e q
  unfold gAll at e
  split at e
  · obtain ⟨ns, e1, rfl⟩ := Option.map_eq_some_iff.mp e
    cases p with
    | cons p1 p2 =>
      cases p2
      cases p1 with
      | lst a b =>
        have z := bools_of b e1
        subst z
        exact cr_all hc pins s σ H _ us Q I r ⟨_, _, rfl, a.sq, q _ H (Same.refl H) (.bl _)⟩
  · cases e
def minL : List Int → Option Int
  | [] => none
  | [x] => some x
  | x :: r => (minL r).map fun y => if y < x then y else x
def maxL : List Int → Option Int
  | [] => none
  | [x] => some x
  | x :: r => (maxL r).map fun y => if x < y then y else x
theorem minL_mem : ∀ (l : List Int) (m : Int), minL l = some m → m ∈ l ∧ ∀ y ∈ l, m ≤ y
  | [], m, h => by cases h
  | [x], m, h => by cases h; simp
  | x :: y :: r, m, h => by
    obtain ⟨k, e, rfl⟩ := Option.map_eq_some_iff.mp (show (minL (y :: r)).map _ = some m from h)
    obtain ⟨h1, h2⟩ := minL_mem (y :: r) k e
    by_cases c : k < x
    · simp only [c, if_true]
      refine ⟨List.mem_cons_of_mem _ h1, fun z hz => ?_⟩
      rcases List.mem_cons.mp hz with rfl | hz
      · omega
      · exact h2 z hz
    · simp only [c, if_false]
      refine ⟨List.mem_cons_self, fun z hz => ?_⟩
      rcases List.mem_cons.mp hz with rfl | hz
      · omega
      · have := h2 z hz
        omega
theorem maxL_mem : ∀ (l : List Int) (m : Int), maxL l = some m → m ∈ l ∧ ∀ y ∈ l, y ≤ m
  | [], m, h => by cases h
  | [x], m, h => by cases h; simp
  | x :: y :: r, m, h => by
    obtain ⟨k, e, rfl⟩ := Option.map_eq_some_iff.mp (show (maxL (y :: r)).map _ = some m from h)
    obtain ⟨h1, h2⟩ := maxL_mem (y :: r) k e
    by_cases c : x < k
    · simp only [c, if_true]
      refine ⟨List.mem_cons_of_mem _ h1, fun z hz => ?_⟩
      rcases List.mem_cons.mp hz with rfl | hz
      · omega
      · exact h2 z hz
    · simp only [c, if_false]
      refine ⟨List.mem_cons_self, fun z hz => ?_⟩
      rcases List.mem_cons.mp hz with rfl | hz
      · omega
      · have := h2 z hz
        omega
def gMin : List Wd → Option Wd
  | [.int i, .int j] => some (.int (if j < i then j else i))
  | [.list ys] => (intsD ys).bind fun ns => (minL ns).map .int
  | _ => none
def gMax : List Wd → Option Wd
  | [.int i, .int j] => some (.int (if j > i then j else i))
  | [.list ys] => (intsD ys).bind fun ns => (maxL ns).map .int
  | _ => none
theorem cd_min (hc : X.calm = true) : CallD X (.builtin "min") gMin := by
  intro pins s σ H xs us Q mu T S ws w I r st bn p e q
  unfold gMin at e
  split at e
  · cases e
    cases p with
    | cons p1 p2 =>
      cases p2 with
      | cons p2 p3 =>
        cases p1; cases p2; cases p3
        exact call_min2 hc pins s σ H _ us Q I r ⟨_, _, rfl, q _ H (Same.refl H) (.int _)⟩
  · obtain ⟨ns, e1, e2⟩ := Option.bind_eq_some_iff.mp e
    obtain ⟨m, e3, rfl⟩ := Option.map_eq_some_iff.mp e2
    obtain ⟨h1, h2⟩ := minL_mem ns m e3
    cases p with
    | cons p1 p2 =>
      cases p2
      cases p1 with
      | lst a b =>
        have z := ints_of b e1
        subst z
        refine cr_min hc pins s σ H _ us Q I r ⟨_, _, rfl, a.sq, List.length_pos_of_mem h1, fun k hk hle => ?_⟩
        have ek : k = m := Int.le_antisymm (hle m h1) (h2 k hk)
        subst ek
        exact q _ H (Same.refl H) (.int _)
  · cases e
theorem cd_max (hc : X.calm = true) : CallD X (.builtin "max") gMax := by
  intro pins s σ H xs us Q mu T S ws w I r st bn p e q
  unfold gMax at e
  split at e
  · cases e
    cases p with
    | cons p1 p2 =>
      cases p2 with
      | cons p2 p3 =>
        cases p1; cases p2; cases p3
        exact call_max2 hc pins s σ H _ us Q I r ⟨_, _, rfl, q _ H (Same.refl H) (.int _)⟩
  · obtain ⟨ns, e1, e2⟩ := Option.bind_eq_some_iff.mp e
    obtain ⟨m, e3, rfl⟩ := Option.map_eq_some_iff.mp e2
    obtain ⟨h1, h2⟩ := maxL_mem ns m e3
    cases p with
    | cons p1 p2 =>
      cases p2
      cases p1 with
      | lst a b =>
        have z := ints_of b e1
        subst z
        refine cr_max hc pins s σ H _ us Q I r ⟨_, _, rfl, a.sq, List.length_pos_of_mem h1, fun k hk hle => ?_⟩
        have ek : k = m := Int.le_antisymm (h2 k hk) (hle m h1)
        subst ek
        exact q _ H (Same.refl H) (.int _)
  · cases e
def gInt : List Wd → Option Wd
  | [.int i] => some (.int i)
  | [.bool k] => some (.int (if k then 1 else 0))
  | _ => none
theorem cd_int : CallD X (.type "int") gInt := by
  intro pins s σ H xs us Q mu T S ws w I r st bn p e q
  unfold gInt at e
  split at e
  · cases e
    cases p with
    | cons p1 p2 =>
      cases p1; cases p2
      exact call_int1 pins s σ H _ us Q I r (.inl ⟨_, rfl, q _ H (Same.refl H) (.int _)⟩)
  · cases e
    cases p with
    | cons p1 p2 =>
      cases p1; cases p2
      exact call_int1 pins s σ H _ us Q I r (.inr ⟨_, rfl, q _ H (Same.refl H) (.int _)⟩)
  · cases e
def gList : List Wd → Option Wd
  | [.list ys] => some (.list ys)
  | [.tuple ys] => some (.list ys)
  | _ => none
theorem cd_list : CallD X (.type "list") gList := by
  intro pins s σ H xs us Q mu T S ws w I r st bn p e q
  unfold gList at e
  split at e
  · cases e
    cases p with
    | cons p1 p2 =>
      cases p2
      cases p1 with
      | lst a b => exact call_list_of pins s σ H _ us Q I r ⟨_, _, rfl, .inl a.sq, fun l hl => q _ _ (same_upd hl) (new_lst st bn b hl)⟩
  · cases e
    cases p with
    | cons p1 p2 =>
      cases p2
      cases p1 with
      | tup a b => exact call_list_of pins s σ H _ us Q I r ⟨_, _, rfl, .inr a.sq, fun l hl => q _ _ (same_upd hl) (new_lst st bn b hl)⟩
  · cases e
def gTuple : List Wd → Option Wd
  | [.list ys] => some (.tuple ys)
  | [.tuple ys] => some (.tuple ys)
  | _ => none
theorem cd_tuple : CallD X (.type "tuple") gTuple := by
  intro pins s σ H xs us Q mu T S ws w I r st bn p e q
  unfold gTuple at e
  split at e
  · cases e
    cases p with
    | cons p1 p2 =>
      cases p2
      obtain ⟨u, rfl, rx⟩ := vals1 r
      cases p1 with
      | lst a b =>
        cases rx
        obtain ⟨its, r', pl, hz⟩ := I.list a.sq
        have hlen := r'.length
        refine call_tuple_list pl.isList (fun h' kp => ?_) (by simp only [List.size_toArray] <;> omega)
        have I1 : Inv X pins σ H { s with heap := h' } := I.kept (t' := s.toks) kp
        have I2 := Inv.ftup (t' := s.toks) I1 r' hz
        have n1 : H h'.objs.size = none := I1.hok.fresh (Nat.le_refl _)
        exact ⟨.ref h'.objs.size, _, I2, rfl, q _ _ (same_upd n1) (new_tup st bn b n1 rfl)⟩
  · cases e
    cases p with
    | cons p1 p2 =>
      cases p2
      cases p1 with
      | tup a b => exact call_tupleT pins s σ H _ us Q I r ⟨_, _, rfl, a.sq, q _ H (Same.refl H) (.tup a b)⟩
  · cases e
end
end DL
namespace DL
open PySem PySem.Spec PyProof.Rows L2
section
variable {X : Cx} {es : List Expr} {fs : Ma} {pos : Pos}
def mLst (fs : Ma) : Mx := fun ρ S => (fs ρ S).bnd fun ws S1 => if ws.length ≤ sizeLine then .ok (.list ws) S1 else .bad
def mTup (fs : Ma) : Mx := fun ρ S => (fs ρ S).bnd fun ws S1 => if ws.length ≤ sizeLine then .ok (.tuple ws) S1 else .bad
theorem okIte {α : Type} {c : Prop} [Decidable c] {a b : α} {S S' : Sto} (h : (if c then R.ok a S else R.bad) = R.ok b S') : c ∧ a = b ∧ S = S' := by
  by_cases q : c
  · rw [if_pos q] at h
    cases h
    exact ⟨q, rfl, rfl⟩
  · rw [if_neg q] at h
    cases h
theorem de_lst (h : Da X es fs) : De X (.List es pos) (mLst fs) :=
  PE.weak (pe_lst h) fun σ H Q ⟨ρ, S, mu, B, O, rl, w, S', e1, q⟩ => by
    obtain ⟨ws, S1, e2, e1⟩ := R.bnd_inv e1
    obtain ⟨hz, rfl, rfl⟩ := okIte e1
    exact tDa.mk rl e2 fun vs H1 mu1 E r p => ⟨by rw [p.length]; exact hz, fun l hl => q _ _ mu1 (E.trans (.same (same_upd hl))) (r.sto.same (same_upd hl)) (new_lst r.sto r.bn p hl)⟩
theorem de_tup {k : Nat} (h : Da X es fs) : De X (.Tuple es k pos) (mTup fs) := by
  refine ⟨fun pins s σ H Q I ⟨ρ, S, mu, B, O, rl, w, S', e1, q⟩ => ?_⟩
  obtain ⟨ws, S1, e2, e1⟩ := R.bnd_inv e1
  obtain ⟨hz, rfl, rfl⟩ := okIte e1
  refine wpAny_Tuple_spliced (thn (h.run pos pins s σ H (fun vs H1 => ∃ mu1, Ext mu mu1 H H1 ∧ Rel X.K mu1 B O H1 σ ρ S1 ∧ RpAll X.K mu1 (fun a => B a ∨ O a) H1 vs ws) I (tDa.mk rl e2 fun vs H1 mu1 E r p => ⟨mu1, E, r, p⟩)) fun us s1 ⟨xs, H1, I1, r, mu1, E, rl1, p⟩ => ?_)
  have hl : xs.length ≤ sizeLine := by rw [p.length]; exact hz
  refine ⟨by rw [← r.length]; exact hl, ?_⟩
  have nf : H1 s1.heap.objs.size = none := I1.hok.fresh (Nat.le_refl _)
  exact ⟨.ref s1.heap.objs.size, _, Inv.ftup (t' := s1.toks) I1 r hl, rfl, q _ _ mu1 (E.trans (.same (same_upd nf))) (rl1.sto.same (same_upd nf)) (new_tup rl1.sto rl1.bn p nf rfl)⟩
end
def recGet (S : Sto) (l : Nat) (x : Str) : Option Wd := match S[l]? with
  | some (.dct fs) => fs.lookup x
  | _ => none
def putS (x : Str) (w : Wd) (fs : List (Str × Wd)) : List (Str × Wd) := if (fs.any fun q => decide (q.1 = x)) = true then fs.map (fun q => if q.1 = x then (q.1, w) else q) else fs ++ [(x, w)]
def recPut (S : Sto) (l : Nat) (x : Str) (w : Wd) : Option Sto := match S[l]? with
  | some (.dct fs) => if fs.length < sizeLine then some (S.set l (.dct (putS x w fs))) else none
  | _ => none
section
variable {K : Fg} {mu : List Addr} {T : Addr → Prop} {H : Hp} {S : Sto}
theorem FsR.look : ∀ {kvs : List (Key × V)} {fs : List (Str × Wd)} {x : Str} {w : Wd}, FsR K mu T H kvs fs → fs.lookup x = some w → ∃ v, valV kvs (Sum.inr x) = some v ∧ Rp K mu T H v w
  | [], [], _, _, _, e => by cases e
  | (k, v) :: r, (y, d) :: ds, x, w, h, e => by
    obtain ⟨rfl, h1, h2⟩ := h
    rw [List.lookup_cons] at e
    by_cases c : x = y
    · subst c
      rw [beq_self_eq_true] at e
      cases e
      exact ⟨v, valV_pos rfl, h1⟩
    · rw [beq_eq_false_iff_ne.mpr c] at e
      obtain ⟨v', e1, e2⟩ := FsR.look h2 e
      exact ⟨v', by rw [valV_neg (fun z => c (Sum.inr.inj z).symm)]; exact e1, e2⟩
  | [], _ :: _, _, _, h, _ => h.elim
  | _ :: _, [], _, _, h, _ => h.elim
theorem FsR.length : ∀ {kvs : List (Key × V)} {fs : List (Str × Wd)}, FsR K mu T H kvs fs → kvs.length = fs.length
  | [], [], _ => rfl
  | _ :: _, _ :: _, h => by rw [List.length_cons, List.length_cons, FsR.length h.2.2]
  | [], _ :: _, h => h.elim
  | _ :: _, [], h => h.elim
theorem FsR.any : ∀ {kvs : List (Key × V)} {fs : List (Str × Wd)} (x : Str), FsR K mu T H kvs fs → (kvs.any fun q => decide (q.1 = Sum.inr x)) = fs.any fun q => decide (q.1 = x)
  | [], [], _, _ => rfl
  | (k, v) :: r, (y, d) :: ds, x, h => by
    obtain ⟨rfl, h1, h2⟩ := h
    rw [List.any_cons, List.any_cons, FsR.any x h2]
    congr 1
    by_cases c : y = x
    · subst c
      simp
    · rw [decide_eq_false c, decide_eq_false (fun z => c (Sum.inr.inj z))]
  | [], _ :: _, _, h => h.elim
  | _ :: _, [], _, h => h.elim
theorem FsR.mapPut {v : V} {w : Wd} (x : Str) (p : Rp K mu T H v w) : ∀ {kvs : List (Key × V)} {fs : List (Str × Wd)}, FsR K mu T H kvs fs →
    FsR K mu T H (kvs.map fun q => if q.1 = Sum.inr x then (q.1, v) else q) (fs.map fun q => if q.1 = x then (q.1, w) else q)
  | [], [], _ => trivial
  | (k, v') :: r, (y, d) :: ds, h => by
    obtain ⟨rfl, h1, h2⟩ := h
    have ih := FsR.mapPut x p h2
    rw [List.map_cons, List.map_cons]
    by_cases c : y = x
    · subst c
      rw [if_pos rfl, if_pos rfl]
      exact ⟨rfl, p, ih⟩
    · rw [if_neg c, if_neg (fun z => c (Sum.inr.inj z))]
      exact ⟨rfl, h1, ih⟩
  | [], _ :: _, h => h.elim
  | _ :: _, [], h => h.elim
theorem FsR.snoc {v : V} {w : Wd} (x : Str) (p : Rp K mu T H v w) : ∀ {kvs : List (Key × V)} {fs : List (Str × Wd)}, FsR K mu T H kvs fs → FsR K mu T H (kvs ++ [(Sum.inr x, v)]) (fs ++ [(x, w)])
  | [], [], _ => ⟨rfl, p, trivial⟩
  | (k, v') :: r, (y, d) :: ds, h => ⟨h.1, h.2.1, FsR.snoc x p h.2.2⟩
  | [], _ :: _, h => h.elim
  | _ :: _, [], h => h.elim
theorem FsR.put {v : V} {w : Wd} (x : Str) (p : Rp K mu T H v w) {kvs : List (Key × V)} {fs : List (Str × Wd)} (h : FsR K mu T H kvs fs) : FsR K mu T H (putK kvs (Sum.inr x) v) (putS x w fs) := by
  unfold putK putS
  rw [FsR.any x h]
  split
  · exact FsR.mapPut x p h
  · exact FsR.snoc x p h
theorem Ext.at_mu {a : Addr} {o : HO} (h : a ∈ mu) : Ext mu mu H (upd H a o) := ⟨fun _ _ q => q, fun b x e n => by rw [upd_ne (show b ≠ a from fun z => n (z ▸ h))]; exact e, fun _ q n => absurd q n⟩
theorem nodup_ad {N : List Addr} (hN : N.Nodup) {i j : Nat} {x : Addr} (p : N[i]? = some x) (q : N[j]? = some x) : i = j := by
  obtain ⟨h1, e1⟩ := List.getElem?_eq_some_iff.mp p
  obtain ⟨h2, e2⟩ := List.getElem?_eq_some_iff.mp q
  exact (List.getElem_inj hN).mp (e1.trans e2.symm)
theorem StOk.put (st : StOk K mu T H S) {l : Nat} {a : Addr} {fs : List (Str × Wd)} {kvs : List (Key × V)} {x : Str} {v : V} {w : Wd} (hl : mu[l]? = some a) (hs : S[l]? = some (.dct fs)) (hH : H a = some (.dK kvs)) (hf : FsR K mu T H kvs fs) (p : Rp K mu T H v w) :
    StOk K mu T (upd H a (.dK (putK kvs (Sum.inr x) v))) (S.set l (.dct (putS x w fs))) := by
  have hm : a ∈ mu := List.mem_of_getElem? hl
  have ex : Ext mu mu H (upd H a (.dK (putK kvs (Sum.inr x) v))) := .at_mu hm
  refine ⟨by rw [List.length_set]; exact st.len, st.nd, fun j b r h1 h2 => ?_⟩
  by_cases c : j = l
  · subst c
    rw [hl] at h1
    cases h1
    have hj : j < S.length := (List.getElem?_eq_some_iff.mp hs).1
    rw [List.getElem?_set_self hj] at h2
    cases h2
    exact ⟨_, upd_same, FsR.map (fun _ _ z => z.ext ex) (hf.put x p)⟩
  · rw [List.getElem?_set_ne (Ne.symm c)] at h2
    have nb : b ≠ a := fun z => c (nodup_ad st.nd h1 (z ▸ hl))
    exact RecOk.map (fun _ z => by rw [upd_ne nb]; exact z) (fun _ _ z => z.ext ex) (fun c _ _ z n => ⟨ex.keep _ _ z n, n⟩) (st.ok j b r h1 h2)
theorem StOk.newRec (st : StOk K mu T H S) {p : Addr} {kvs0 kvs : List (Key × V)} {fs : List (Str × Wd)} (hp : H p = some (.dK kvs0)) (np : p ∉ mu) (tp : T p) (bn : Bn mu T H) (hf : FsR K mu T H kvs fs) :
    StOk K (mu ++ [p]) T (upd H p (.dK kvs)) (S ++ [.dct fs]) := by
  have up : ∀ v w, Rp K mu T H v w → Rp K (mu ++ [p]) T (upd H p (.dK kvs)) v w := fun v w h => by
    have h1 : Rp K mu T (upd H p (.dK kvs)) v w := h.at_ban tp
    refine Rp.map (fun a xs z => z.imp (fun z => ⟨z.1, fun m => ?_, z.2.2⟩) id) (fun a xs z => z.imp (fun z => ⟨z.1, fun m => ?_, z.2.2⟩) id) (fun a xs z => ⟨z.1, fun m => ?_, z.2.2⟩) (fun l a z => ?_) _ _ h1
    · rcases List.mem_append.mp m with m | m
      · exact z.2.1 m
      · rw [List.mem_singleton] at m
        exact z.2.2 (m ▸ tp)
    · rcases List.mem_append.mp m with m | m
      · exact z.2.1 m
      · rw [List.mem_singleton] at m
        exact z.2.2 (m ▸ tp)
    · rcases List.mem_append.mp m with m | m
      · exact z.2.1 m
      · rw [List.mem_singleton] at m
        exact z.2.2 (m ▸ tp)
    · rw [List.getElem?_append_left (List.getElem?_eq_some_iff.mp z).1]
      exact z
  refine ⟨by rw [List.length_append, List.length_append, st.len]; rfl, ?_, fun l a r h1 h2 => ?_⟩
  · rw [List.nodup_append]
    refine ⟨st.nd, by simp, fun x hx y hy => ?_⟩
    rw [List.mem_singleton] at hy
    subst hy
    exact fun e => np (e ▸ hx)
  · by_cases c : l < S.length
    · rw [List.getElem?_append_left c] at h2
      rw [List.getElem?_append_left (by rw [st.len]; exact c)] at h1
      have na : a ≠ p := fun e => np (e ▸ List.mem_of_getElem? h1)
      exact RecOk.map (fun _ z => by rw [upd_ne na]; exact z) up (fun c o f z n => have ne : c ≠ p := fun e => by rw [e, hp] at z; cases z; rcases f with ⟨_, _, f⟩ | ⟨_, f⟩ <;> exact (nomatch f)
        ⟨by rw [upd_ne ne]; exact z, fun m => (List.mem_append.mp m).elim n fun m => ne (List.mem_singleton.mp m)⟩) (st.ok l a r h1 h2)
    · rw [List.getElem?_append_right (by omega)] at h2
      rw [List.getElem?_append_right (by rw [st.len]; omega)] at h1
      have hl : l - S.length = 0 := by
        have := (List.getElem?_eq_some_iff.mp h2).1
        simp at this
        omega
      rw [st.len, hl] at h1
      rw [hl] at h2
      cases h1
      cases h2
      exact ⟨kvs, upd_same, FsR.map up hf⟩
end
def keyD : Wd → Bool
  | .int _ => true
  | .str _ => true
  | _ => false
def gIx (S : Sto) : Wd → Wd → Option Wd
  | .list ys, .int i => atI ys i
  | .tuple ys, .int i => atI ys i
  | .str z, .int i => if z.length ≤ sizeLine then (atI z.cps.toList i).map fun c => .str ⟨#[c]⟩ else none
  | .dict [(.none, .int (.ofNat l))], .str x => recGet S l x
  | .dict ys, k => if keyD k = true then lookD ys k else none
  | _, _ => none
def mIx (fa fb : Mx) : Mx := fun ρ S => (fa ρ S).bnd fun x S1 => (fb ρ S1).bnd fun y S2 => R.of (gIx S2 x y) S2
section
variable {K : Fg} {mu : List Addr} {T : Addr → Prop} {H : Hp} {S : Sto}
theorem atI_rp {vs : List V} {ws : List Wd} {i : Int} {w : Wd} (h : RpAll K mu T H vs ws) (e : atI ws i = some w) : ∃ v, atI vs i = some v ∧ Rp K mu T H v w := by
  unfold atI at e ⊢
  rw [h.length]
  cases z : ixN ws.length i with
  | none =>
    rw [z] at e
    cases e
  | some j =>
    rw [z] at e
    obtain ⟨v, e1, e2⟩ := h.get (show ws[j]? = some w from e)
    exact ⟨v, e1, e2⟩
theorem eqv_key (k k' : Key) : PyData.eqv (kW k) (kW k') = decide (k = k') := by
  cases k with
  | inl i => cases k' with
    | inl j => rw [key_ll]; rfl
    | inr y => rw [key_lr]; rfl
  | inr x => cases k' with
    | inl j => rw [key_rl]; rfl
    | inr y =>
      rw [key_rr]
      show (x == y) = decide (x = y)
      by_cases c : x = y
      · subst c
        simp
      · rw [decide_eq_false c]
        exact beq_eq_false_iff_ne.mpr c
theorem kv_keys : ∀ {kvs : List (Key × V)} {ds : List (Wd × Wd)}, RpKv K mu T H kvs ds → ∀ q ∈ ds, q.1 ≠ .none
  | [], [], _, q, hq => by cases hq
  | (k, v) :: r, (_, d) :: ds, h, q, hq => by
    cases h with
    | cons a b =>
      rcases List.mem_cons.mp hq with rfl | hq
      · exact kW_ne
      · exact kv_keys b q hq
theorem kv_none {kvs : List (Key × V)} {d : Wd} {ds : List (Wd × Wd)} (h : RpKv K mu T H kvs ((.none, d) :: ds)) : False := kv_keys h (.none, d) List.mem_cons_self rfl
theorem look_kv (k : Key) : ∀ {kvs : List (Key × V)} {ds : List (Wd × Wd)} {w : Wd}, RpKv K mu T H kvs ds → lookD ds (kW k) = some w → ∃ v, valV kvs k = some v ∧ Rp K mu T H v w
  | [], [], _, _, e => by cases e
  | (k', v) :: r, (_, d) :: ds, w, h, e => by
    cases h with
    | cons a b =>
      unfold lookD at e
      rw [eqv_key] at e
      by_cases c : k' = k
      · rw [decide_eq_true c, if_pos rfl] at e
        cases e
        exact ⟨v, valV_pos c, a⟩
      · rw [decide_eq_false c, if_neg Bool.false_ne_true] at e
        obtain ⟨v', e1, e2⟩ := look_kv k b e
        exact ⟨v', by rw [valV_neg c]; exact e1, e2⟩
end
section
variable {X : Cx} {a b : Expr} {fa fb : Mx} {pos : Pos}
theorem tail_of {prog : Program} {w : World} {A : Around} {E : Value → Shared → Prop} {s : Shared} {value slice : Expr} {o i : Value} {Tn id : String} {Q : Value → Shared → Prop} (hT : s.TypeIs o Tn) (hl : typeLookup (.type Tn) "__getitem__" = pure (some (.builtin id)))
    (hs : subscripted slice false o i = operate [o, i] (getItem o i)) (h : wpAny (model prog w) A (getItem o i) Q E s) : wpAny (model prog w) A (subscriptTail value slice o i) Q E s := by
  have go : wpAny (model prog w) A (subscripted slice false o i) (fun r s₃ => wpAny (model prog w) A (letTemporaryGo value o r >>= fun _ => pure r) Q E s₃) E s := by
    rw [hs]
    exact wpAny_operating (thn h fun r s₃ h₃ => wpAny_bind (wpAny_letTemporaryGo (wpAny_pure h₃)))
  unfold subscriptTail
  refine wpAny_bind ?_
  rw [getitemInPython_of_ne hT.not_modules]
  refine wpAny_bind (wpAny_specialOf hT hl ?_)
  first
    | exact wpAny_pure (wpAny_bind go)
    | exact wpAny_bind (wpAny_pure (wpAny_bind go))
    | exact wpAny_bind go
theorem de_ix (hu : X.A.units + 1 < cLine) (ha : De X a fa) (hb : De X b fb) (hs : PlainIx b) : De X (.Subscript a b pos) (mIx fa fb) := by
  refine ⟨fun pins s σ H Q I ⟨ρ, S, mu, B, O, rl, w, S', e, q⟩ => ?_⟩
  obtain ⟨x, S1, e1, e⟩ := R.bnd_inv e
  obtain ⟨y, S2, e2, e⟩ := R.bnd_inv e
  obtain ⟨e3, rfl⟩ := R.of_inv e
  refine Subscript_ (thn (ha.run pins s σ H (fun x' H1 => ∃ mu1, Ext mu mu1 H H1 ∧ Rel X.K mu1 B O H1 σ ρ S1 ∧ Rp X.K mu1 (fun a => B a ∨ O a) H1 x' x) I (tD.mk rl e1 fun v H1 mu1 h1 h2 h3 => ⟨mu1, h1, h2, h3⟩)) fun v s1 ⟨x', H1, I1, r1, mu1, E1, rl1, p1⟩ => ?_)
  refine thn (hb.run pins s1 σ H1 (fun y' H2 => ∃ mu2, Ext mu1 mu2 H1 H2 ∧ Rel X.K mu2 B O H2 σ ρ S2 ∧ Rp X.K mu2 (fun a => B a ∨ O a) H2 y' y) I1 (tD.mk rl1 e2 fun v H1 mu1 h1 h2 h3 => ⟨mu1, h1, h2, h3⟩)) fun u s2 ⟨y', H2, I2, r2, mu2, E2, rl2, p2⟩ => ?_
  have p1 := p1.ext E2
  have fin : ∀ {z : V}, Rp X.K mu2 (fun a => B a ∨ O a) H2 z w → Q z H2 := fun {z} p => q z H2 mu2 (E1.trans E2) rl2.sto p
  have dict : ∀ {ad : Addr} {z : V}, x' = .ref ad → DGet H2 ad y' (some z) → Q z H2 → wpAny (model X.prog X.w) X.A (subscriptTail a b v u) (EP X pins σ Q) X.xe s2 := fun {ad z} ex g qz => by
    subst ex
    cases r1
    exact tail_of (dict_typeIs I2 g) PySem.F.slot_dict_getitem.lookup (hs _ _) (d_getItem hu I2 g r2 fun w' s3 I3 rw' => ⟨z, H2, I3, rw', qz⟩)
  unfold gIx at e3
  split at e3
  · cases p1 with
    | lst h1 h2 =>
      cases p2
      obtain ⟨z, z1, z2⟩ := atI_rp h2 e3
      exact ix_list a b pins s2 σ H2 _ _ v u Q I2 r1 r2 ⟨_, _, _, z, rfl, rfl, h1.sq, z1, fin z2⟩ (hs _ _)
  · cases p1 with
    | tup h1 h2 =>
      cases p2
      obtain ⟨z, z1, z2⟩ := atI_rp h2 e3
      exact ix_tup a b pins s2 σ H2 _ _ v u Q I2 r1 r2 ⟨_, _, _, z, rfl, rfl, h1.sq, z1, fin z2⟩ (hs _ _)
  · split at e3
    · rename_i hz
      obtain ⟨c, c1, rfl⟩ := Option.map_eq_some_iff.mp e3
      cases p1; cases p2
      exact ix_str a b pins s2 σ H2 _ _ v u Q I2 r1 r2 ⟨_, _, c, rfl, rfl, hz, c1, fin (.str _)⟩ (hs _ _)
    · cases e3
  · rename_i l nm
    cases p2
    cases p1 with
    | obj hl =>
      unfold recGet at e3
      split at e3
      · rename_i fs hS
        obtain ⟨kvs, h1, h2⟩ := rl2.sto.ok _ _ _ hl hS
        obtain ⟨z, z1, z2⟩ := h2.look e3
        refine dict (z := z) rfl ?_ (fin z2)
        rw [← z1]
        exact DGet.k (k := Sum.inr _) h1
      · cases e3
    | dct h1 h2 => exact (kv_none h2).elim
  · rename_i ys k hne
    split at e3
    · rename_i hk
      cases p1 with
      | dct h1 h2 =>
        cases p2 with
        | int i =>
          obtain ⟨z, z1, z2⟩ := look_kv (Sum.inl i) h2 e3
          refine dict (z := z) rfl ?_ (fin z2)
          rw [← z1]
          exact DGet.k (k := Sum.inl i) h1.1
        | str i =>
          obtain ⟨z, z1, z2⟩ := look_kv (Sum.inr i) h2 e3
          refine dict (z := z) rfl ?_ (fin z2)
          rw [← z1]
          exact DGet.k (k := Sum.inr i) h1.1
        | _ => cases hk
      | obj hl =>
        cases p2 with
        | int i => cases e3
        | str i => cases e3
        | _ => cases hk
    · cases e3
  · cases e3
def cutD (xs : List Wd) (lo hi : Option Int) : List Wd := (xs.drop (HT.sIx xs.length 0 lo)).take (HT.sIx xs.length xs.length hi - HT.sIx xs.length 0 lo)
def gSl (lo hi : Option Int) : Wd → Option Wd
  | .list ys => some (.list (cutD ys lo hi))
  | .tuple ys => some (.tuple (cutD ys lo hi))
  | .str z => if z.length ≤ sizeLine then some (.str (cutS z lo hi)) else none
  | _ => none
abbrev Mo := Ev → Sto → R (Option Int)
def oNone : Mo := fun _ S => .ok none S
def oSome (f : Mx) : Mo := fun ρ S => (f ρ S).bnd fun w S1 => match w with
  | .int i => .ok (some i) S1
  | _ => .bad
def mSl (f : Mx) (lo hi : Mo) : Mx := fun ρ S => (f ρ S).bnd fun x S1 => (lo ρ S1).bnd fun l S2 => (hi ρ S2).bnd fun h S3 => R.of (gSl l h x) S3
def tDo (K : Fg) (f : Mo) : TO := fun σ H Q => ∃ ρ S mu B O, Rel K mu B O H σ ρ S ∧ ∃ w S', f ρ S = .ok w S' ∧ ∀ H' mu', Ext mu mu' H H' → StOk K mu' (fun a => B a ∨ O a) H' S' → Q w H'
def Dso (X : Cx) (e : Option Expr) (f : Mo) : Prop := PO X e (tDo X.K f)
theorem tDo.mk {K : Fg} {ρ : Ev} {S S1 : Sto} {mu : List Addr} {B O : Addr → Prop} {σ : Sg} {H : Hp} {f : Mo} {w : Option Int} {Q : Option Int → Hp → Prop} (rl : Rel K mu B O H σ ρ S) (e : f ρ S = .ok w S1) (q : ∀ H1 mu1, Ext mu mu1 H H1 → Rel K mu1 B O H1 σ ρ S1 → Q w H1) : tDo K f σ H Q :=
  ⟨ρ, S, mu, B, O, rl, w, S1, e, fun H1 mu1 x st => q H1 mu1 x (rl.ext x st)⟩
theorem do_none : Dso X none oNone := ⟨fun pins s σ H Q I ⟨ρ, S, mu, B, O, rl, w, S', e, q⟩ => by
  cases e
  exact po_none.run pins s σ H Q I (q H mu (.refl _ _) rl.sto)⟩
theorem do_some (h : De X a fa) : Dso X (some a) (oSome fa) := ⟨fun pins s σ H Q I ⟨ρ, S, mu, B, O, rl, w, S', e, q⟩ => by
  obtain ⟨x, S1, e1, e⟩ := R.bnd_inv e
  refine (po_some h).run pins s σ H Q I (tD.mk rl e1 fun v H1 mu1 E r p => ?_)
  split at e
  · cases e
    cases p
    exact ⟨_, rfl, q H1 mu1 E r.sto⟩
  · cases e⟩
theorem sl_tupF : SlR X (fun x lo hi H Q => ∃ a xs, x = .ref a ∧ SqT X.K H a xs ∧ (HT.sIx xs.length 0 lo = 0 ∧ HT.sIx xs.length xs.length hi = xs.length → Q (.ref a) H) ∧
    (¬ (HT.sIx xs.length 0 lo = 0 ∧ HT.sIx xs.length xs.length hi = xs.length) → ∀ (p : Addr) (o : Obj), H p = none → o.dict = none → Q (.ref p) (upd H p (.frz o (.tup (cutV xs lo hi)))))) := by
  intro pins s σ H x v vl vu lo hi sl Q I rx hs pl pu h
  obtain ⟨ad, xs, rfl, hx, q1, q2⟩ := h
  cases rx
  obtain ⟨its, r, ht, hz⟩ := I.tuple hx
  have hlen : its.toArray.size = xs.length := by rw [List.size_toArray]; exact r.length.symm
  refine ⟨"tuple", _, PyProof.Rows.slot_tuple_getitem.lookup, ht.typeIs, ?_⟩
  by_cases hw : HT.sIx xs.length 0 lo = 0 ∧ HT.sIx xs.length xs.length hi = xs.length
  · exact getItem_tuple_whole ht hs pl pu (by rw [hlen]; exact hw) ⟨.ref ad, H, I, rfl, q1 hw⟩
  · refine HT.getItem_tuple_cut ht hs pl pu (by rw [hlen]; exact hw) ?_ (by rw [hlen]; exact hz)
    rw [hlen]
    have I2 := Inv.ftup (t' := s.toks) I ((r.drop (HT.sIx xs.length 0 lo)).take (HT.sIx xs.length xs.length hi - HT.sIx xs.length 0 lo)) (Nat.le_trans (cutV_length xs lo hi) hz)
    exact ⟨.ref s.heap.objs.size, _, I2, rfl, q2 hw _ _ (I.hok.fresh (Nat.le_refl _)) rfl⟩
theorem cut_rp {K : Fg} {mu : List Addr} {T : Addr → Prop} {H : Hp} {vs : List V} {ws : List Wd} (lo hi : Option Int) (h : RpAll K mu T H vs ws) : RpAll K mu T H (cutV vs lo hi) (cutD ws lo hi) := by
  unfold cutV cutD
  rw [h.length]
  exact (h.drop _).take _
theorem cut_whole {ws : List Wd} {lo hi : Option Int} (h : HT.sIx ws.length 0 lo = 0 ∧ HT.sIx ws.length ws.length hi = ws.length) : cutD ws lo hi = ws := by
  unfold cutD
  rw [h.1, h.2, Nat.sub_zero]
  exact List.take_length
def rSD (K : Fg) : V → Option Int → Option Int → Hp → VK → Prop := fun x lo hi H Q => ∃ mu T S dx w, StOk K mu T H S ∧ Bn mu T H ∧ Rp K mu T H x dx ∧ gSl lo hi dx = some w ∧ ∀ v H', Same H H' → Rp K mu T H' v w → Q v H'
theorem sl_D : SlR X (rSD X.K) := by
  intro pins s σ H x v vl vu lo hi sl Q I rx hs pl pu ⟨mu, T, S, dx, w, st, bn, p, e, q⟩
  unfold gSl at e
  split at e
  · cases e
    cases p with
    | lst h1 h2 => exact sl_list pins s σ H _ v vl vu lo hi sl Q I rx hs pl pu ⟨_, _, rfl, h1.sq, fun p hp => q _ _ (same_upd hp) (new_lst st bn (cut_rp lo hi h2) hp)⟩
  · cases e
    cases p with
    | tup h1 h2 =>
      refine sl_tupF pins s σ H _ v vl vu lo hi sl Q I rx hs pl pu ⟨_, _, rfl, h1.sq, fun z => ?_, fun _ p o hp d => q _ _ (same_upd hp) (new_tup st bn (cut_rp lo hi h2) hp d)⟩
      rw [h2.length] at z
      rw [cut_whole z] at q
      exact q _ H (Same.refl H) (.tup h1 h2)
  · obtain ⟨hz, rfl⟩ := ite_inv e
    cases p
    exact sl_str pins s σ H _ v vl vu lo hi sl Q I rx hs pl pu ⟨_, rfl, hz, q _ H (Same.refl H) (.str _)⟩
  · cases e
theorem de_slice {lo hi : Option Expr} {fl fh : Mo} {p2 : Pos} (he : De X a fa) (hl : Dso X lo fl) (hh : Dso X hi fh) : De X (.Subscript a (.Slice lo hi none p2) pos) (mSl fa fl fh) :=
  PE.weak (pe_slice sl_D he hl hh) fun σ H Q ⟨ρ, S, mu, B, O, rl, w, S', e, q⟩ => by
    obtain ⟨x, S1, e1, e⟩ := R.bnd_inv e
    obtain ⟨l, S2, e2, e⟩ := R.bnd_inv e
    obtain ⟨h, S3, e3, e⟩ := R.bnd_inv e
    obtain ⟨e4, rfl⟩ := R.of_inv e
    exact tD.mk rl e1 fun v H1 mu1 E1 r1 p1 => tDo.mk r1 e2 fun H2 mu2 E2 r2 => tDo.mk r2 e3 fun H3 mu3 E3 r3 =>
      ⟨mu3, _, S3, x, w, r3.sto, r3.bn, (p1.ext E2).ext E3, e4, fun v H4 sm p4 => q v H4 mu3 (((E1.trans E2).trans E3).trans (.same sm)) (r3.sto.same sm) p4⟩
end
end DL
namespace DL
open PySem PySem.Spec PyProof.Rows L2
inductive Out where
  | nx (ρ : Ev) (S : Sto)
  | rt (w : Wd) (S : Sto)
  | bk (ρ : Ev) (S : Sto)
  | ct (ρ : Ev) (S : Sto)
  | bad
abbrev Ms := Ev → Sto → Out
structure ExtS (mu mu' : List Addr) (O O' : Addr → Prop) (H H' : Hp) : Prop where
  pre : ∀ (l : Nat) (a : Addr), mu[l]? = some a → mu'[l]? = some a
  keep : ∀ a o, H a = some o → a ∉ mu → ¬ O a → H' a = some o
  new : ∀ a, a ∈ mu' → a ∉ mu → H a = none
  own : ∀ a, O' a → O a ∨ H a = none
  tr : ∀ a, H a ≠ none → H' a ≠ none
section
variable {K : Fg} {mu m1 m2 : List Addr} {B O O1 O2 : Addr → Prop} {H H1 H2 : Hp} {S S1 : Sto}
theorem ExtS.refl (mu : List Addr) (O : Addr → Prop) (H : Hp) : ExtS mu mu O O H H := ⟨fun _ _ h => h, fun _ _ h _ _ => h, fun _ h n => absurd h n, fun _ h => .inl h, fun _ h => h⟩
theorem ExtS.notin (e : ExtS mu m1 O O1 H H1) {a : Addr} {o : HO} (h : H a = some o) (n : a ∉ mu) : a ∉ m1 := fun q => by
  have z := e.new a q n
  rw [h] at z
  cases z
theorem ExtS.trans (a : ExtS mu m1 O O1 H H1) (b : ExtS m1 m2 O1 O2 H1 H2) : ExtS mu m2 O O2 H H2 := by
  have back : ∀ x, H1 x = none → H x = none := fun x z => by
    cases e : H x with
    | none => rfl
    | some o => exact absurd z (a.tr x (by rw [e]; exact fun z => nomatch z))
  refine ⟨fun l x h => b.pre l x (a.pre l x h), fun x o h n no => b.keep x o (a.keep x o h n no) (a.notin h n) fun q => ?_, fun x h n => ?_, fun x h => ?_, fun x h => b.tr x (a.tr x h)⟩
  · rcases a.own x q with q | q
    · exact no q
    · rw [h] at q
      cases q
  · by_cases q : x ∈ m1
    · exact a.new x q n
    · exact back x (b.new x h q)
  · rcases b.own x h with q | q
    · exact a.own x q
    · exact .inr (back x q)
theorem Ext.toS (e : Ext mu m1 H H1) (st : StOk K m1 (fun a => B a ∨ O a) H1 S1) : ExtS mu m1 O O H H1 :=
  ⟨e.pre, fun a o h n _ => e.keep a o h n, e.new, fun _ h => .inl h, fun a h => by
    by_cases q : a ∈ mu
    · obtain ⟨kvs, z⟩ := st.tracked (e.sub q)
      rw [z]
      exact fun z => nomatch z
    · cases z : H a with
      | none => exact absurd z h
      | some o =>
        rw [e.keep a o z q]
        exact fun z => nomatch z⟩
theorem Rp.extS {v : V} {w : Wd} (h : Rp K mu (fun a => B a ∨ O a) H v w) (e : ExtS mu m1 O O1 H H1) : Rp K m1 (fun a => B a ∨ O1 a) H1 v w := by
  have no : ∀ {a : Addr} {o : HO}, H a = some o → ¬ (B a ∨ O a) → ¬ (B a ∨ O1 a) := fun {a o} h1 h2 h3 => by
    rcases h3 with h3 | h3
    · exact h2 (.inl h3)
    · rcases e.own a h3 with z | z
      · exact h2 (.inr z)
      · rw [h1] at z
        cases z
  refine Rp.map (fun a xs z => z.imp (fun z => ?_) id) (fun a xs z => z.imp (fun z => ?_) id) (fun a xs z => ?_) e.pre _ _ h
  · obtain ⟨z1, z2, z3⟩ := z
    rcases z1 with z1 | ⟨o, z1⟩
    · exact ⟨.inl (e.keep _ _ z1 z2 fun q => z3 (.inr q)), e.notin z1 z2, no z1 z3⟩
    · exact ⟨.inr ⟨o, e.keep _ _ z1 z2 fun q => z3 (.inr q)⟩, e.notin z1 z2, no z1 z3⟩
  · obtain ⟨⟨o, d, z1⟩, z2, z3⟩ := z
    exact ⟨⟨o, d, e.keep _ _ z1 z2 fun q => z3 (.inr q)⟩, e.notin z1 z2, no z1 z3⟩
  · obtain ⟨z1, z2, z3⟩ := z
    exact ⟨e.keep _ _ z1 z2 fun q => z3 (.inr q), e.notin z1 z2, no z1 z3⟩
theorem RpAll.extS {v : List V} {w : List Wd} (h : RpAll K mu (fun a => B a ∨ O a) H v w) (e : ExtS mu m1 O O1 H H1) : RpAll K m1 (fun a => B a ∨ O1 a) H1 v w := by
  have no : ∀ {a : Addr} {o : HO}, H a = some o → ¬ (B a ∨ O a) → ¬ (B a ∨ O1 a) := fun {a o} h1 h2 h3 => by
    rcases h3 with h3 | h3
    · exact h2 (.inl h3)
    · rcases e.own a h3 with z | z
      · exact h2 (.inr z)
      · rw [h1] at z
        cases z
  refine RpAll.map (fun a xs z => z.imp (fun z => ?_) id) (fun a xs z => z.imp (fun z => ?_) id) (fun a xs z => ?_) e.pre _ _ h
  · obtain ⟨z1, z2, z3⟩ := z
    rcases z1 with z1 | ⟨o, z1⟩
    · exact ⟨.inl (e.keep _ _ z1 z2 fun q => z3 (.inr q)), e.notin z1 z2, no z1 z3⟩
    · exact ⟨.inr ⟨o, e.keep _ _ z1 z2 fun q => z3 (.inr q)⟩, e.notin z1 z2, no z1 z3⟩
  · obtain ⟨⟨o, d, z1⟩, z2, z3⟩ := z
    exact ⟨⟨o, d, e.keep _ _ z1 z2 fun q => z3 (.inr q)⟩, e.notin z1 z2, no z1 z3⟩
  · obtain ⟨z1, z2, z3⟩ := z
    exact ⟨e.keep _ _ z1 z2 fun q => z3 (.inr q), e.notin z1 z2, no z1 z3⟩
end
def postS (K : Fg) (D : Ends) (mu : List Addr) (B O : Addr → Prop) (H : Hp) : Out → Prop
  | .nx ρ S => ∀ σ' H' mu' O', ExtS mu mu' O O' H H' → Rel K mu' B O' H' σ' ρ S → D.nx σ' H'
  | .rt w S => ∀ v H' mu' O', ExtS mu mu' O O' H H' → StOk K mu' (fun a => B a ∨ O' a) H' S → Rp K mu' (fun a => B a ∨ O' a) H' v w → D.rt v H'
  | .bk ρ S => ∀ σ' H' mu' O', ExtS mu mu' O O' H H' → Rel K mu' B O' H' σ' ρ S → D.bk σ' H'
  | .ct ρ S => ∀ σ' H' mu' O', ExtS mu mu' O O' H H' → Rel K mu' B O' H' σ' ρ S → D.ct σ' H'
  | .bad => False
def tDs (K : Fg) (m : Ms) : TS := fun D σ H => ∃ ρ S mu B O, Rel K mu B O H σ ρ S ∧ postS K D mu B O H (m ρ S)
def Ds (X : Cx) (st : Stmt) (m : Ms) : Prop := PS X st (tDs X.K m)
def Dss (X : Cx) (st : List Stmt) (m : Ms) : Prop := PSs X st (tDs X.K m)
theorem PS.weak {X : Cx} {st : Stmt} {t t' : TS} (h : PS X st t) (w : ∀ D σ H, t' D σ H → t D σ H) : PS X st t' := ⟨fun pins s σ H D I q => h.run pins s σ H D I (w _ _ _ q)⟩
theorem PSs.weak {X : Cx} {st : List Stmt} {t t' : TS} (h : PSs X st t) (w : ∀ D σ H, t' D σ H → t D σ H) : PSs X st t' := ⟨fun pins s σ H D I q => h.run pins s σ H D I (w _ _ _ q)⟩
theorem postS.mono {K : Fg} {D D' : Ends} {mu m1 : List Addr} {B O O1 : Addr → Prop} {H H1 : Hp} {o : Out} (e : ExtS mu m1 O O1 H H1) (h : postS K D mu B O H o) (hn : ∀ σ H, D.nx σ H → D'.nx σ H) (hr : ∀ v H, D.rt v H → D'.rt v H) (hb : ∀ σ H, D.bk σ H → D'.bk σ H) (hc : ∀ σ H, D.ct σ H → D'.ct σ H) :
    postS K D' m1 B O1 H1 o := by
  cases o with
  | nx ρ S => exact fun σ' H' mu' O' x r => hn _ _ (h σ' H' mu' O' (e.trans x) r)
  | rt w S => exact fun v H' mu' O' x s r => hr _ _ (h v H' mu' O' (e.trans x) s r)
  | bk ρ S => exact fun σ' H' mu' O' x r => hb _ _ (h σ' H' mu' O' (e.trans x) r)
  | ct ρ S => exact fun σ' H' mu' O' x r => hc _ _ (h σ' H' mu' O' (e.trans x) r)
  | bad => exact h
theorem postS.ext {K : Fg} {D : Ends} {mu m1 : List Addr} {B O O1 : Addr → Prop} {H H1 : Hp} {o : Out} (e : ExtS mu m1 O O1 H H1) (h : postS K D mu B O H o) : postS K D m1 B O1 H1 o := h.mono e (fun _ _ z => z) (fun _ _ z => z) (fun _ _ z => z) fun _ _ z => z
section
variable {X : Cx} {st : Stmt} {rest : List Stmt} {m m' : Ms} {e : Expr} {f : Mx} {pos : Pos} {t : Mt}
def sNil : Ms := fun ρ S => .nx ρ S
def sSeq (m m' : Ms) : Ms := fun ρ S => match m ρ S with
  | .nx ρ' S' => m' ρ' S'
  | o => o
theorem dss_nil : Dss X [] sNil := PSs.weak pss_nil fun D σ H ⟨ρ, S, mu, B, O, rl, q⟩ => q σ H mu O (.refl _ _ _) rl
theorem seq_weak {K : Fg} : ∀ D σ H, tDs K (sSeq m m') D σ H → tSeq (tDs K m) (tDs K m') D σ H := fun D σ H ⟨ρ, S, mu, B, O, rl, q⟩ => by
  refine ⟨ρ, S, mu, B, O, rl, ?_⟩
  unfold sSeq at q
  cases z : m ρ S with
  | nx ρ' S' =>
    rw [z] at q
    exact fun σ' H' mu' O' x r => ⟨ρ', S', mu', B, O', r, q.ext x⟩
  | rt w S' => rw [z] at q; exact q
  | bk ρ' S' => rw [z] at q; exact q
  | ct ρ' S' => rw [z] at q; exact q
  | bad => rw [z] at q; exact q
theorem dss_cons (h1 : Ds X st m) (h2 : Dss X rest m') : Dss X (st :: rest) (sSeq m m') := PSs.weak (pss_cons h1 h2) seq_weak
theorem dss_one (h : Ds X st m) : Dss X [st] m := pss_one h
def sBad : Ms := fun _ _ => .bad
theorem ds_never : Ds X st sBad := PS.weak ps_never fun D σ H ⟨ρ, S, mu, B, O, rl, q⟩ => q
def sOf (x : R Wd) (k : Wd → Sto → Out) : Out := match x with
  | .ok w S => k w S
  | .bad => .bad
@[simp] theorem sOf_ok (w : Wd) (S : Sto) (k : Wd → Sto → Out) : sOf (.ok w S) k = k w S := rfl
@[simp] theorem sOf_bad (k : Wd → Sto → Out) : sOf .bad k = .bad := rfl
def sTest (x : R Bool) (k : Bool → Sto → Out) : Out := match x with
  | .ok w S => k w S
  | .bad => .bad
@[simp] theorem sTest_ok (w : Bool) (S : Sto) (k : Bool → Sto → Out) : sTest (.ok w S) k = k w S := rfl
@[simp] theorem sTest_bad (k : Bool → Sto → Out) : sTest .bad k = .bad := rfl
def sRet (f : Mx) : Ms := fun ρ S => sOf (f ρ S) fun w S1 => .rt w S1
def sExpr (f : Mx) : Ms := fun ρ S => sOf (f ρ S) fun _ S1 => .nx ρ S1
def sIf (t : Mt) (m m' : Ms) : Ms := fun ρ S => sTest (t ρ S) fun b S1 => if b = true then m ρ S1 else m' ρ S1
theorem ds_ret (h : De X e f) : Ds X (.Return (some e) pos) (sRet f) := PS.weak (ps_ret h) fun D σ H ⟨ρ, S, mu, B, O, rl, q⟩ => by
  unfold sRet at q
  cases z : f ρ S with
  | ok w S1 =>
    rw [z] at q
    exact tD.mk rl z fun v H1 mu1 E r p => q v H1 mu1 O (E.toS r.sto) r.sto p
  | bad => rw [z] at q; exact q.elim
theorem ds_expr (h : De X e f) (hs : swapsWith e none pos.line X.env = pure false := by rfl) : Ds X (.Expr e pos) (sExpr f) := PS.weak (ps_expr h hs) fun D σ H ⟨ρ, S, mu, B, O, rl, q⟩ => by
  unfold sExpr at q
  cases z : f ρ S with
  | ok w S1 =>
    rw [z] at q
    exact tD.mk rl z fun v H1 mu1 E r p => q σ H1 mu1 O (E.toS r.sto) r
  | bad => rw [z] at q; exact q.elim
theorem ds_if {c : Expr} {a b : List Stmt} (hc : Dt X c t) (ha : Dss X a m) (hb : Dss X b m') : Ds X (.If c a b pos) (sIf t m m') := PS.weak (ps_if hc ha hb) fun D σ H ⟨ρ, S, mu, B, O, rl, q⟩ => by
  unfold sIf at q
  cases z : t ρ S with
  | ok w S1 =>
    rw [z] at q
    refine tDt.mk rl z fun H1 mu1 E r => ?_
    cases w with
    | true =>
      rw [if_pos rfl]
      exact ⟨ρ, S1, mu1, B, O, r, postS.ext (E.toS r.sto) q⟩
    | false =>
      rw [if_neg Bool.false_ne_true]
      exact ⟨ρ, S1, mu1, B, O, r, postS.ext (E.toS r.sto) q⟩
  | bad => rw [z] at q; exact q.elim
end
section
variable {K : Fg} {mu : List Addr} {B O : Addr → Prop} {H : Hp} {σ : Sg} {ρ : Ev} {S : Sto}
theorem set_get {α : Type} {l : List α} {i j : Nat} {x y : α} (h : (l.set i x)[j]? = some y) : (i = j ∧ x = y ∧ j < l.length) ∨ (i ≠ j ∧ l[j]? = some y) := by
  by_cases c : i = j
  · subst c
    by_cases hl : i < l.length
    · rw [List.getElem?_set_self hl] at h
      exact .inl ⟨rfl, Option.some.inj h, hl⟩
    · rw [List.getElem?_eq_none (by rw [List.length_set]; omega)] at h
      cases h
  · rw [List.getElem?_set_ne c] at h
    exact .inr ⟨c, h⟩
theorem Rel.set (h : Rel K mu B O H σ ρ S) (i : Nat) {v : V} {w : Wd} (p : Rp K mu (fun a => B a ∨ O a) H v w) : Rel K mu B O H (σ.set i (some v)) (ρ.set i (some (.val w))) S := by
  refine ⟨by rw [List.length_set, List.length_set]; exact h.len, fun j w' e => ?_, fun j ws e => ?_, fun j k ws ws' a e1 e2 e3 e4 => ?_, h.sto, h.bn⟩
  · rcases set_get e with ⟨rfl, e1, hl⟩ | ⟨c, e⟩
    · cases e1
      exact ⟨v, by rw [List.getElem?_set_self (by rw [h.len]; exact hl)], p⟩
    · obtain ⟨u, h1, h2⟩ := h.val j w' e
      exact ⟨u, by rw [List.getElem?_set_ne c]; exact h1, h2⟩
  · rcases set_get e with ⟨rfl, e1, hl⟩ | ⟨c, e⟩
    · cases e1
    · obtain ⟨a, xs, h1, h2⟩ := h.own j ws e
      exact ⟨a, xs, by rw [List.getElem?_set_ne c]; exact h1, h2⟩
  · rcases set_get e1 with ⟨rfl, e1, hl⟩ | ⟨c, e1⟩
    · cases e1
    rcases set_get e2 with ⟨rfl, e2, hl⟩ | ⟨c2, e2⟩
    · cases e2
    rw [List.getElem?_set_ne c] at e3
    rw [List.getElem?_set_ne c2] at e4
    exact h.dif j k ws ws' a e1 e2 e3 e4
end
section
variable {X : Cx} {e : Expr} {f : Mx} {pos : Pos}
def sSet (i : Nat) (f : Mx) : Ms := fun ρ S => sOf (f ρ S) fun w S1 => .nx (ρ.set i (some (.val w))) S1
theorem ds_set {i : Nat} {x : Str} {pos' : Pos} (hN : X.N.Nodup) (hi : X.N[i]? = some x) (hx : Loc X.env.scope x) (he : De X e f) (hs : swapsWith e (some (.Name x pos')) pos.line X.env = pure false := by rfl)
    (hf : X.fn x = true ∨ X.env.scope.names.lookup x = some .local := by first | exact .inl rfl | exact .inr rfl | assumption) : Ds X (.Assign [.Name x pos'] e pos) (sSet i f) :=
  PS.weak (ps_set hN hi hx he hs hf) fun D σ H ⟨ρ, S, mu, B, O, rl, q⟩ => by
    unfold sSet at q
    cases z : f ρ S with
    | ok w S1 =>
      rw [z] at q
      exact tD.mk rl z fun v H1 mu1 E r p => q _ H1 mu1 O (E.toS r.sto) (r.set i p)
    | bad => rw [z] at q; exact q.elim
end
def RpI (K : Fg) (mu : List Addr) (T : Addr → Prop) (H : Hp) (v : V) (w : Wd) : Prop := Rp K mu T H v w ∨ ∃ a xs ds, v = .ref a ∧ w = .tuple ds ∧ SqT K H a xs ∧ RpAll K mu T H xs ds
abbrev Mg := Wd → Ev → Option Ev
abbrev Mgs := List Wd → Ev → Option Ev
def DgF {ι : Type} (F : ι → Cx) (K : Fg) (vs : List Nat) (tg : Expr) (g : Mg) : Prop := ∃ t, (∀ i, PG (F i) tg t) ∧ ∀ (mu : List Addr) (B O : Addr → Prop) (H : Hp) (σ : Sg) (ρ ρ' : Ev) (S : Sto) (v : V) (w : Wd) (Q : Sg → Hp → Prop), Rel K mu B O H σ ρ S → Rp K mu (fun a => B a ∨ O a) H v w → g w ρ = some ρ' →
  (∀ σ', Rel K mu B O H σ' ρ' S → wipe σ' vs = wipe σ vs → Q σ' H) → t v σ H Q
def DgPF {ι : Type} (F : ι → Cx) (K : Fg) (vs : List Nat) (tg : Expr) (g : Mg) : Prop := ∃ t, (∀ i, PG (F i) tg t) ∧ ∀ (mu : List Addr) (B O : Addr → Prop) (H : Hp) (σ : Sg) (ρ ρ' : Ev) (S : Sto) (v : V) (w : Wd) (Q : Sg → Hp → Prop), Rel K mu B O H σ ρ S → RpI K mu (fun a => B a ∨ O a) H v w → g w ρ = some ρ' →
  (∀ σ', Rel K mu B O H σ' ρ' S → wipe σ' vs = wipe σ vs → Q σ' H) → t v σ H Q
def DgsF {ι : Type} (F : ι → Cx) (K : Fg) (vs : List Nat) (ts : List Expr) (g : Mgs) : Prop := ∃ t, (∀ i, PGs (F i) ts t) ∧ (∀ ws ρ ρ', g ws ρ = some ρ' → ws.length = ts.length) ∧ ∀ (mu : List Addr) (B O : Addr → Prop) (H : Hp) (σ : Sg) (ρ ρ' : Ev) (S : Sto) (us : List V) (ws : List Wd) (Q : Sg → Hp → Prop), Rel K mu B O H σ ρ S → RpAll K mu (fun a => B a ∨ O a) H us ws → g ws ρ = some ρ' →
  (∀ σ', Rel K mu B O H σ' ρ' S → wipe σ' vs = wipe σ vs → Q σ' H) → t us σ H Q
theorem wipe_set {σ : Sg} {i : Nat} {x : Option V} : ∀ {vs : List Nat}, i ∈ vs → wipe (σ.set i x) vs = wipe σ vs
  | [], h => by cases h
  | v :: vs, h => by
    unfold wipe
    by_cases c : i ∈ vs
    · rw [wipe_set c]
    · have e : i = v := by
        rcases List.mem_cons.mp h with h | h
        · exact h
        · exact absurd h c
      subst e
      have aux : ∀ (ws : List Nat) (τ : Sg), i ∉ ws → wipe (τ.set i x) ws = (wipe τ ws).set i x := by
        intro ws
        induction ws with
        | nil => intro τ _; rfl
        | cons k ws ih =>
          intro τ hn
          unfold wipe
          rw [ih τ (fun z => hn (List.mem_cons_of_mem _ z)), List.set_comm _ _ (fun z => hn (by rw [z]; exact List.mem_cons_self))]
      rw [aux vs σ c, List.set_set]
def gtN (i : Nat) : Mg := fun w ρ => some (ρ.set i (some (.val w)))
def gtNil : Mgs := fun ws ρ => match ws with
  | [] => some ρ
  | _ => none
def gtCons (g : Mg) (gs : Mgs) : Mgs := fun ws ρ => match ws with
  | w :: r => (g w ρ).bind (gs r)
  | [] => none
def gtT (gs : Mgs) : Mg := fun w ρ => match w with
  | .tuple ds => gs ds ρ
  | _ => none
theorem assignEach_len (env : Env) : ∀ es : List Expr, (assignEach es env).length = es.length := by
  intro es
  induction es with
  | nil => rfl
  | cons e es ih => first | (show (assignEach es env).length + 1 = es.length + 1; rw [ih]) | (cases e <;> first | (show (assignEach es env).length + 1 = es.length + 1; rw [ih]) | skip)
section
variable {ι : Type} {F : ι → Cx} {K : Fg} {vs : List Nat} {pos : Pos}
theorem dg_name {i : Nat} {x : Str} (hN : ∀ k, (F k).N.Nodup) (hi : ∀ k, (F k).N[i]? = some x) (hx : ∀ k, Loc (F k).env.scope x) (hv : i ∈ vs) (hf : ∀ k, (F k).fn x = true ∨ (F k).env.scope.names.lookup x = some .local) : DgF F K vs (.Name x pos) (gtN i) :=
  ⟨_, fun k => pg_name (hN k) (hi k) (hx k) (hf k), fun mu B O H σ ρ ρ' S v w Q rl p e q => by
    cases e
    exact q _ (rl.set i p) (wipe_set hv)⟩
theorem dgs_nil : DgsF F K vs [] gtNil := by
  refine ⟨_, fun _ => pgs_nil, fun ws ρ ρ' e => ?_, fun mu B O H σ ρ ρ' S us ws Q rl p e q => ?_⟩
  · cases ws with
    | nil => rfl
    | cons _ _ => cases e
  · cases p with
    | nil =>
      cases e
      exact ⟨rfl, q σ rl rfl⟩
    | cons _ _ => cases e
theorem dgs_cons {e : Expr} {es : List Expr} {g : Mg} {gs : Mgs} (h1 : DgF F K vs e g) (h2 : DgsF F K vs es gs) (hs : ∀ k, (assignEach (e :: es) (F k).env).map (·.2) = assign e (F k).env :: (assignEach es (F k).env).map (·.2) := by intro _; rfl) : DgsF F K vs (e :: es) (gtCons g gs) := by
  obtain ⟨t1, p1, k1⟩ := h1
  obtain ⟨t2, p2, l2, k2⟩ := h2
  refine ⟨_, fun k => pgs_cons (p1 k) (p2 k) (hs k), fun ws ρ ρ' e => ?_, fun mu B O H σ ρ ρ' S us ws Q rl p e q => ?_⟩
  · cases ws with
    | nil => cases e
    | cons w ws =>
      obtain ⟨ρ1, e1, e2⟩ := Option.bind_eq_some_iff.mp (show (g w ρ).bind (gs ws) = some ρ' from e)
      rw [List.length_cons, List.length_cons, l2 ws ρ1 ρ' e2]
  cases p with
  | nil => cases e
  | @cons v us w ws a b =>
    obtain ⟨ρ1, e1, e2⟩ := Option.bind_eq_some_iff.mp (show (g w ρ).bind (gs ws) = some ρ' from e)
    exact ⟨v, us, rfl, k1 mu B O H σ ρ ρ1 S v w _ rl a e1 fun σ1 r1 w1 => k2 mu B O H σ1 ρ1 ρ' S us ws _ r1 b e2 fun σ2 r2 w2 => q σ2 r2 (w2.trans w1)⟩
theorem pg_tupF {es : List Expr} {k : Nat} {t : TGs} (hc : ∀ i, (F i).calm = true) (hK : ∀ i, (F i).K = K) (p : ∀ i, PGs (F i) es t) (hst : ∀ i, (assignEach es (F i).env).findIdx? (·.1) = none) (i : ι) : PG (F i) (.Tuple es k pos) (gTup K es.length t) := by
  have z := pg_tup (n := es.length) (pos := pos) (k := k) (hc i) (p i) (assignEach_len _ _) (hst i)
  rw [hK i] at z
  exact z
theorem dg_tup {es : List Expr} {k : Nat} {gs : Mgs} (hc : ∀ i, (F i).calm = true) (hK : ∀ i, (F i).K = K) (h : DgsF F K vs es gs) (hst : ∀ i, (assignEach es (F i).env).findIdx? (·.1) = none := by intro _; rfl) : DgF F K vs (.Tuple es k pos) (gtT gs) := by
  obtain ⟨t, p, l, q⟩ := h
  refine ⟨_, pg_tupF hc hK p hst, fun mu B O H σ ρ ρ' S v w Q rl r e z => ?_⟩
  cases r with
  | @tup a xs ds a1 b1 =>
    have e : gs ds ρ = some ρ' := e
    exact ⟨a, xs, rfl, a1.sq, by rw [b1.length]; exact l ds ρ ρ' e, q mu B O H σ ρ ρ' S xs ds Q rl b1 e z⟩
  | _ => cases e
theorem dgp_tup {es : List Expr} {k : Nat} {gs : Mgs} (hc : ∀ i, (F i).calm = true) (hK : ∀ i, (F i).K = K) (h : DgsF F K vs es gs) (hst : ∀ i, (assignEach es (F i).env).findIdx? (·.1) = none := by intro _; rfl) : DgPF F K vs (.Tuple es k pos) (gtT gs) := by
  obtain ⟨t, p, l, q⟩ := h
  refine ⟨_, pg_tupF hc hK p hst, fun mu B O H σ ρ ρ' S v w Q rl r e z => ?_⟩
  rcases r with r | ⟨a, xs, ds, rfl, rfl, r1, r2⟩
  · cases r with
    | @tup a xs ds a1 b1 =>
      have e : gs ds ρ = some ρ' := e
      exact ⟨a, xs, rfl, a1.sq, by rw [b1.length]; exact l ds ρ ρ' e, q mu B O H σ ρ ρ' S xs ds Q rl b1 e z⟩
    | _ => cases e
  · have e : gs ds ρ = some ρ' := e
    exact ⟨a, xs, rfl, r1, by rw [r2.length]; exact l ds ρ ρ' e, q mu B O H σ ρ ρ' S xs ds Q rl r2 e z⟩
end
abbrev Dg (X : Cx) (vs : List Nat) (tg : Expr) (g : Mg) : Prop := DgF (fun _ : Unit => X) X.K vs tg g
abbrev DgP (X : Cx) (vs : List Nat) (tg : Expr) (g : Mg) : Prop := DgPF (fun _ : Unit => X) X.K vs tg g
section
variable {X : Cx} {vs : List Nat} {pos : Pos}
def sAsg (g : Mg) (f : Mx) : Ms := fun ρ S => sOf (f ρ S) fun w S1 => match g w ρ with
  | some ρ' => .nx ρ' S1
  | none => .bad
theorem ds_asg {tg e : Expr} {f : Mx} {g : Mg} (he : De X e f) (hg : Dg X vs tg g) (hs : swapsWithSole [tg] e pos.line X.env = pure false := by rfl) (hw : swappedStores [tg] e X.env = pure none := by rfl)
    (h1 : (assignEach [tg] X.env).map (·.2) = [assign tg X.env] := by rfl) : Ds X (.Assign [tg] e pos) (sAsg g f) := by
  obtain ⟨t, p, k⟩ := hg
  refine PS.weak (ps_asg he (p ()) hs hw h1) fun D σ H ⟨ρ, S, mu, B, O, rl, q⟩ => ?_
  unfold sAsg at q
  cases z : f ρ S with
  | ok w S1 =>
    rw [z, sOf_ok] at q
    refine tD.mk rl z fun v H1 mu1 E r p => ?_
    cases y : g w ρ with
    | none => rw [y] at q; exact q.elim
    | some ρ' =>
      rw [y] at q
      exact k mu1 B O H1 σ ρ ρ' S1 v w _ r p y fun σ' r' _ => q σ' H1 mu1 O (E.toS r'.sto) r'
  | bad => rw [z] at q; exact q.elim
end
end DL
namespace DL
open PySem PySem.Spec PyProof.Rows L2
def ItOk (K : Fg) (J : It) (v : List V) (w : List Wd) (ws : List Wd) : Prop := ∀ (mu : List Addr) (T : Addr → Prop) (H : Hp) (S : Sto), StOk K mu T H S → Bn mu T H → RpAll K mu T H v w →
  (∀ (i : Nat) (d : Wd), ws[i]? = some d → J.go i H ∧ ∀ x H', J.yld i H x H' → Same H H' ∧ Rp K mu T H' x d) ∧ J.stop ws.length H
def ItOkP (K : Fg) (J : It) (v : List V) (w : List Wd) (ws : List Wd) : Prop := ∀ (mu : List Addr) (T : Addr → Prop) (H : Hp) (S : Sto), StOk K mu T H S → Bn mu T H → RpAll K mu T H v w →
  (∀ (i : Nat) (d : Wd), ws[i]? = some d → J.go i H ∧ ∀ x H', J.yld i H x H' → Same H H' ∧ RpI K mu T H' x d) ∧ J.stop ws.length H
theorem ItOk.p {K : Fg} {J : It} {v : List V} {w : List Wd} {ws : List Wd} (h : ItOk K J v w ws) : ItOkP K J v w ws := fun mu T H S st bn r => ⟨fun i d e => ⟨((h mu T H S st bn r).1 i d e).1, fun x H' y => let ⟨a, b⟩ := ((h mu T H S st bn r).1 i d e).2 x H' y; ⟨a, .inl b⟩⟩, (h mu T H S st bn r).2⟩
abbrev Mi := Ev → Sto → R (List Wd)
def tDi (K : Fg) (P : It → List V → List Wd → List Wd → Prop) (f : Mi) : TI := fun σ H R => ∃ ρ S mu B O, Rel K mu B O H σ ρ S ∧ ∃ ws S', f ρ S = .ok ws S' ∧ ∀ J v w H' mu', P J v w ws → Ext mu mu' H H' → StOk K mu' (fun a => B a ∨ O a) H' S' → RpAll K mu' (fun a => B a ∨ O a) H' v w → R J H'
def Di (X : Cx) (tg iter : Expr) (f : Mi) : Prop := PI X tg iter (tDi X.K (ItOk X.K) f)
def DiP (X : Cx) (tg iter : Expr) (f : Mi) : Prop := PI X tg iter (tDi X.K (ItOkP X.K) f)
theorem PI.weak {X : Cx} {tg it : Expr} {t t' : TI} (h : PI X tg it t) (w : ∀ σ H R, t' σ H R → t σ H R) : PI X tg it t' := ⟨fun pins s σ H R I q => h.run pins s σ H R I (w _ _ _ q)⟩
theorem Di.p {X : Cx} {tg it : Expr} {f : Mi} (h : Di X tg it f) : DiP X tg it f := PI.weak h fun σ H R ⟨ρ, S, mu, B, O, rl, ws, S', e, q⟩ => ⟨ρ, S, mu, B, O, rl, ws, S', e, fun J v w H' mu' p => q J v w H' mu' p.p⟩
def itemsD : Wd → Option (List Wd)
  | .list ys => some ys
  | .tuple ys => some ys
  | _ => none
def iSeq (f : Mx) : Mi := fun ρ S => (f ρ S).bnd fun w S1 => R.of (itemsD w) S1
section
variable {X : Cx} {tg l : Expr} {f : Mx}
theorem it_list {K : Fg} {a : Addr} {ws : List Wd} : ItOk K (Itl K a) [.ref a] [.list ws] ws := fun mu T H S st bn r => by
  cases r with
  | cons r _ => cases r with
  | lst h1 h2 =>
    refine ⟨fun i d e => ?_, ⟨_, h1.sq, by rw [h2.length]; exact Nat.le_refl _⟩⟩
    obtain ⟨x, e1, e2⟩ := h2.get e
    refine ⟨⟨_, x, h1.sq, e1⟩, fun y H' hy => ?_⟩
    obtain ⟨rfl, hy⟩ := hy
    have e3 := hy _ h1.sq
    rw [e1] at e3
    cases e3
    exact ⟨Same.refl _, e2⟩
theorem it_tup {K : Fg} {a : Addr} {ws : List Wd} : ItOk K (Itt K a) [.ref a] [.tuple ws] ws := fun mu T H S st bn r => by
  cases r with
  | cons r _ => cases r with
  | tup h1 h2 =>
    refine ⟨fun i d e => ?_, ⟨_, h1.sq, by rw [h2.length]; exact Nat.le_refl _⟩⟩
    obtain ⟨x, e1, e2⟩ := h2.get e
    refine ⟨⟨_, x, h1.sq, e1⟩, fun y H' hy => ?_⟩
    obtain ⟨rfl, hy⟩ := hy
    have e3 := hy _ h1.sq
    rw [e1] at e3
    cases e3
    exact ⟨Same.refl _, e2⟩
theorem di_seq (h : De X l f) : Di X tg l (iSeq f) := by
  refine ⟨fun pins s σ H Rr I ⟨ρ, S, mu, B, O, rl, ws, S', e, q⟩ => ?_⟩
  obtain ⟨w, S1, e1, e⟩ := R.bnd_inv e
  obtain ⟨e2, rfl⟩ := R.of_inv e
  refine thn (h.run pins s σ H (fun v H1 => ∃ mu1, Ext mu mu1 H H1 ∧ Rel X.K mu1 B O H1 σ ρ S1 ∧ Rp X.K mu1 (fun a => B a ∨ O a) H1 v w) I (tD.mk rl e1 fun v H1 mu1 E r p => ⟨mu1, E, r, p⟩)) fun u s1 ⟨v, H1, I1, r1, mu1, E, rl1, p⟩ => ?_
  cases p with
  | @lst a xs ds h1 h2 =>
    cases e2
    cases r1
    obtain ⟨its, rv, pl, hz⟩ := I1.list h1.sq
    refine wpAny_pyIter_list pl.isList ?_
    refine ⟨s1.heap.objs.size, [s1.heap.objs.size], _, _, H1, rfl, I1.kept (t' := s1.toks) fun b o e => Heap.get?_push_of_some _ e, turn_list a _, ⟨_, Heap.get?_push_size _ rfl, rfl, rfl⟩, fun b hb => ?_, q _ _ _ H1 mu1 it_list E rl1.sto (.cons (.lst h1 h2) .nil)⟩
    have e : b = s1.heap.objs.size := by simpa using hb
    subst e
    exact I1.fpOk (Nat.le_refl _) (I1.hok.fresh (Nat.le_refl _))
  | @tup a xs ds h1 h2 =>
    cases e2
    cases r1
    obtain ⟨its, rv, pl, hz⟩ := I1.tuple h1.sq
    refine wpAny_pyIter_tuple (show s1.heap.IsTuple a its.toArray from pl) ?_
    refine ⟨s1.heap.objs.size, [s1.heap.objs.size], _, _, H1, rfl, I1.kept (t' := s1.toks) fun b o e => Heap.get?_push_of_some _ e, turn_tuple a _, ⟨_, Heap.get?_push_size _ rfl, rfl, rfl⟩, fun b hb => ?_, q _ _ _ H1 mu1 it_tup E rl1.sto (.cons (.tup h1 h2) .nil)⟩
    have e : b = s1.heap.objs.size := by simpa using hb
    subst e
    exact I1.fpOk (Nat.le_refl _) (I1.hok.fresh (Nat.le_refl _))
  | _ => cases e2
def rangeD (lo : Int) (n : Nat) : List Wd := (List.range n).map fun (i : Nat) => .int (lo + i)
theorem rangeD_get {lo : Int} {n i : Nat} {d : Wd} (h : (rangeD lo n)[i]? = some d) : i < n ∧ d = .int (lo + i) := by
  unfold rangeD at h
  rw [List.getElem?_map] at h
  by_cases c : i < n
  · rw [List.getElem?_range c] at h
    cases h
    exact ⟨c, rfl⟩
  · rw [List.getElem?_eq_none (by rw [List.length_range]; omega)] at h
    cases h
theorem it_range {K : Fg} {lo : Int} {n : Nat} : ItOk K (Itr lo n) [] [] (rangeD lo n) := fun mu T H S st bn r => by
  refine ⟨fun i d e => ?_, ?_⟩
  · obtain ⟨h1, rfl⟩ := rangeD_get e
    refine ⟨h1, fun x H' hy => ?_⟩
    obtain ⟨rfl, rfl⟩ := hy
    exact ⟨Same.refl _, .int _⟩
  · show n ≤ _
    unfold rangeD
    rw [List.length_map, List.length_range]
    exact Nat.le_refl _
def iRange1 (fs : Ma) : Mi := fun ρ S => (fs ρ S).bnd fun ws S1 => match ws with
  | [.int j] => if -(2 ^ 62) ≤ j ∧ j < 2 ^ 62 then .ok (rangeD 0 j.toNat) S1 else .bad
  | _ => .bad
def iRange2 (fs : Ma) : Mi := fun ρ S => (fs ρ S).bnd fun ws S1 => match ws with
  | [.int i, .int j] => if (-(2 ^ 62) ≤ i ∧ i < 2 ^ 62) ∧ -(2 ^ 62) ≤ j ∧ j < 2 ^ 62 then .ok (rangeD i (j - i).toNat) S1 else .bad
  | _ => .bad
variable {a b : Expr} {fs : Ma} {p pos : Pos}
theorem di_range1 (hg : Gl X "range") (hm : X.mg "range" = none) (ha : Da X [a] fs) (hs : starEach [a] X.env = [(false, eval a X.env)] := by rfl) : Di X tg (.Call (.Name "range" p) [a] [] pos) (iRange1 fs) :=
  PI.weak (pi_range1 hg hm ha hs) fun σ H Rr ⟨ρ, S, mu, B, O, rl, ws, S', e, q⟩ => by
    obtain ⟨us, S1, e1, e⟩ := R.bnd_inv e
    refine tDa.mk rl e1 fun vs H1 mu1 E r p => ?_
    split at e
    · obtain ⟨h1, rfl, rfl⟩ := okIte e
      cases p with
      | cons p1 p2 =>
        cases p1; cases p2
        exact ⟨_, rfl, h1.1, h1.2, q _ [] [] H1 mu1 it_range E r.sto .nil⟩
    · cases e
theorem di_range2 (hg : Gl X "range") (hm : X.mg "range" = none) (ha : Da X [a, b] fs) (hs : starEach [a, b] X.env = [(false, eval a X.env), (false, eval b X.env)] := by rfl) (hs2 : starEach [b] X.env = [(false, eval b X.env)] := by rfl) : Di X tg (.Call (.Name "range" p) [a, b] [] pos) (iRange2 fs) :=
  PI.weak (pi_range2 hg hm ha hs hs2) fun σ H Rr ⟨ρ, S, mu, B, O, rl, ws, S', e, q⟩ => by
    obtain ⟨us, S1, e1, e⟩ := R.bnd_inv e
    refine tDa.mk rl e1 fun vs H1 mu1 E r p => ?_
    split at e
    · obtain ⟨h1, rfl, rfl⟩ := okIte e
      cases p with
      | cons p1 p2 =>
        cases p2 with
        | cons p2 p3 =>
          cases p1; cases p2; cases p3
          exact ⟨_, _, rfl, ⟨h1.1.1, h1.1.2, h1.2.1, h1.2.2⟩, q _ [] [] H1 mu1 it_range E r.sto .nil⟩
    · cases e
def signsD (z : Str) : List Wd := z.cps.toList.map fun c => .str ⟨#[c]⟩
def iStr (f : Mx) : Mi := fun ρ S => (f ρ S).bnd fun w S1 => match w with
  | .str z => .ok (signsD z) S1
  | _ => .bad
end
def forLoop (g : Mg) (body : Ms) : List Wd → Ev → Sto → Out
  | [], ρ, S => .nx ρ S
  | w :: ws, ρ, S => match g w ρ with
    | none => .bad
    | some ρ1 => match body ρ1 S with
      | .nx ρ2 S2 => forLoop g body ws ρ2 S2
      | .ct ρ2 S2 => forLoop g body ws ρ2 S2
      | .bk ρ2 S2 => .nx ρ2 S2
      | .rt w S2 => .rt w S2
      | .bad => .bad
def sFor (fi : Mi) (g : Mg) (body : Ms) : Ms := fun ρ S => match fi ρ S with
  | .ok ws S1 => forLoop g body ws ρ S1
  | .bad => .bad
section
variable {X : Cx} {tg iter : Expr} {fi : Mi} {g : Mg} {m : Ms} {body : List Stmt} {pos : Pos} {vs : List Nat}
theorem for_core {t : TG} {P : It → List V → List Wd → List Wd → Prop}
    (hP : ∀ J v w ws, P J v w ws → ∀ (mu : List Addr) (B O : Addr → Prop) (H : Hp) (S : Sto), StOk X.K mu (fun a => B a ∨ O a) H S → Bn mu (fun a => B a ∨ O a) H → RpAll X.K mu (fun a => B a ∨ O a) H v w →
      (∀ (i : Nat) (d : Wd), ws[i]? = some d → J.go i H ∧ ∀ x H', J.yld i H x H' → Same H H' ∧ ∀ (σ : Sg) (ρ ρ' : Ev) (Q : Sg → Hp → Prop), Rel X.K mu B O H' σ ρ S → g d ρ = some ρ' → (∀ σ', Rel X.K mu B O H' σ' ρ' S → Q σ' H') → t x σ H' Q) ∧ J.stop ws.length H) :
    ∀ D σ H, tDs X.K (sFor fi g m) D σ H → tFor (tDi X.K P fi) t (tDs X.K m) D σ H := fun D σ H ⟨ρ, S, mu, B, O, rl, q⟩ => by
  unfold sFor at q
  cases z : fi ρ S with
  | bad => rw [z] at q; exact q.elim
  | ok ws S1 =>
    rw [z] at q
    refine ⟨ρ, S, mu, B, O, rl, ws, S1, z, fun J v w H1 mu1 hJ E st p => ?_⟩
    have rl1 := rl.ext E st
    have q1 : postS X.K D mu1 B O H1 (forLoop g m ws ρ S1) := postS.ext (E.toS st) q
    refine ⟨fun i k σ2 H2 => k = ws.length - i ∧ i ≤ ws.length ∧ ∃ ρ2 S2 mu2 O2, ExtS mu1 mu2 O O2 H1 H2 ∧ Rel X.K mu2 B O2 H2 σ2 ρ2 S2 ∧ postS X.K D mu2 B O2 H2 (forLoop g m (ws.drop i) ρ2 S2),
      ⟨ws.length, by omega, Nat.zero_le _, ρ, S1, mu1, O, .refl _ _ _, rl1, q1⟩, fun i k σ2 H2 ⟨ek, hi, ρ2, S2, mu2, O2, x2, r2, q2⟩ => ?_⟩
    obtain ⟨hgo, hstop⟩ := hP J v w ws hJ mu2 B O2 H2 S2 r2.sto r2.bn (p.extS x2)
    by_cases c : i < ws.length
    · obtain ⟨go, yld⟩ := hgo i ws[i] (List.getElem?_eq_getElem c)
      rw [List.drop_eq_getElem_cons c] at q2
      unfold forLoop at q2
      cases y : g ws[i] ρ2 with
      | none => rw [y] at q2; exact q2.elim
      | some ρ3 =>
        rw [y] at q2
        simp only at q2
        refine .inr ⟨go, fun σ' H' => ∃ ρ4 S4 mu4 O4, ExtS mu1 mu4 O O4 H1 H' ∧ Rel X.K mu4 B O4 H' σ' ρ4 S4 ∧ postS X.K D mu4 B O4 H' (forLoop g m (ws.drop (i + 1)) ρ4 S4), fun σ' H' ⟨ρ4, S4, mu4, O4, x4, r4, q4⟩ => ⟨ws.length - (i + 1), by omega, rfl, by omega, ρ4, S4, mu4, O4, x4, r4, q4⟩, fun x H' hy => ?_⟩
        obtain ⟨sm, k2⟩ := yld x H' hy
        have r3 := r2.ext (.same sm) (r2.sto.same sm)
        have x3 : ExtS mu1 mu2 O O2 H1 H' := x2.trans ((Ext.same sm).toS r3.sto)
        have xs : ExtS mu2 mu2 O2 O2 H2 H' := (Ext.same sm).toS r3.sto
        refine k2 σ2 ρ2 ρ3 _ r3 y fun σ' r' => ⟨ρ3, S2, mu2, B, O2, r', ?_⟩
        cases u : m ρ3 S2 with
        | nx ρ4 S4 =>
          rw [u] at q2
          exact fun σ5 H5 mu5 O5 x5 r5 => ⟨ρ4, S4, mu5, O5, x3.trans x5, r5, postS.ext (xs.trans x5) q2⟩
        | ct ρ4 S4 =>
          rw [u] at q2
          exact fun σ5 H5 mu5 O5 x5 r5 => ⟨ρ4, S4, mu5, O5, x3.trans x5, r5, postS.ext (xs.trans x5) q2⟩
        | bk ρ4 S4 =>
          rw [u] at q2
          exact fun σ5 H5 mu5 O5 x5 r5 => q2 σ5 H5 mu5 O5 (xs.trans x5) r5
        | rt w' S4 =>
          rw [u] at q2
          exact fun v5 H5 mu5 O5 x5 s5 r5 => q2 v5 H5 mu5 O5 (xs.trans x5) s5 r5
        | bad => rw [u] at q2; exact q2.elim
    · have e : i = ws.length := by omega
      subst e
      rw [List.drop_length] at q2
      exact .inl ⟨hstop, q2 σ2 H2 mu2 O2 (.refl _ _ _) r2⟩
theorem ds_for (hp : PassesOwn (model X.prog X.w) X.A X.env X.xe) (hc : X.calm = true) (hi : Di X tg iter fi) (hg : Dg X vs tg g) (hb : Dss X body m) (hs : ∀ x, foldedSetIterable iter X.env x = pure x := by intro _; rfl) : Ds X (.For tg iter body [] pos) (sFor fi g m) := by
  obtain ⟨t, pt, kt⟩ := hg
  refine PS.weak (ps_for hp hc hi (pt ()) hb hs) (for_core fun J v w ws hJ mu B O H S st bn p => ?_)
  obtain ⟨h1, h2⟩ := hJ mu _ H S st bn p
  exact ⟨fun i d e => ⟨(h1 i d e).1, fun x H' hy => ⟨((h1 i d e).2 x H' hy).1, fun σ ρ ρ' Q r eg k => kt mu B O H' σ ρ ρ' S x d Q r ((h1 i d e).2 x H' hy).2 eg fun σ' r' _ => k σ' r'⟩⟩, h2⟩
theorem ds_forP (hp : PassesOwn (model X.prog X.w) X.A X.env X.xe) (hc : X.calm = true) (hi : DiP X tg iter fi) (hg : DgP X vs tg g) (hb : Dss X body m) (hs : ∀ x, foldedSetIterable iter X.env x = pure x := by intro _; rfl) : Ds X (.For tg iter body [] pos) (sFor fi g m) := by
  obtain ⟨t, pt, kt⟩ := hg
  refine PS.weak (ps_for hp hc hi (pt ()) hb hs) (for_core fun J v w ws hJ mu B O H S st bn p => ?_)
  obtain ⟨h1, h2⟩ := hJ mu _ H S st bn p
  exact ⟨fun i d e => ⟨(h1 i d e).1, fun x H' hy => ⟨((h1 i d e).2 x H' hy).1, fun σ ρ ρ' Q r eg k => kt mu B O H' σ ρ ρ' S x d Q r ((h1 i d e).2 x H' hy).2 eg fun σ' r' _ => k σ' r'⟩⟩, h2⟩
end
end DL
namespace DL
open PySem PySem.Spec PyProof.Rows L2
def wipeE (ρ : Ev) : List Nat → Ev
  | [] => ρ
  | v :: vs => (wipeE ρ vs).set v none
section
variable {K : Fg} {mu : List Addr} {B O : Addr → Prop} {H : Hp} {σ : Sg} {ρ : Ev} {S : Sto}
theorem Rel.setNone (h : Rel K mu B O H σ ρ S) (i : Nat) : Rel K mu B O H (σ.set i none) (ρ.set i none) S := by
  refine ⟨by rw [List.length_set, List.length_set]; exact h.len, fun j w' e => ?_, fun j ws e => ?_, fun j k ws ws' a e1 e2 e3 e4 => ?_, h.sto, h.bn⟩
  · rcases set_get e with ⟨rfl, e1, hl⟩ | ⟨c, e⟩
    · cases e1
    · obtain ⟨u, h1, h2⟩ := h.val j w' e
      exact ⟨u, by rw [List.getElem?_set_ne c]; exact h1, h2⟩
  · rcases set_get e with ⟨rfl, e1, hl⟩ | ⟨c, e⟩
    · cases e1
    · obtain ⟨a, xs, h1, h2⟩ := h.own j ws e
      exact ⟨a, xs, by rw [List.getElem?_set_ne c]; exact h1, h2⟩
  · rcases set_get e1 with ⟨rfl, e1, hl⟩ | ⟨c, e1⟩
    · cases e1
    rcases set_get e2 with ⟨rfl, e2, hl⟩ | ⟨c2, e2⟩
    · cases e2
    rw [List.getElem?_set_ne c] at e3
    rw [List.getElem?_set_ne c2] at e4
    exact h.dif j k ws ws' a e1 e2 e3 e4
theorem Rel.wipe (h : Rel K mu B O H σ ρ S) : ∀ vs : List Nat, Rel K mu B O H (wipe σ vs) (wipeE ρ vs) S
  | [] => h
  | v :: vs => (Rel.wipe h vs).setNone v
theorem Rel.ban (h : Rel K mu B O H σ ρ S) {D : Addr} (n : H D = none) (o : HO) (pl : PlH (some o) := by first | exact PlH.lst | exact PlH.dK) : Rel K mu (fun a => B a ∨ a = D) O (upd H D o) σ ρ S := by
  have tr : ∀ a, ((B a ∨ a = D) ∨ O a) → ((B a ∨ O a) ∨ a = D) := fun a z => z.elim (fun z => z.elim (fun z => .inl (.inl z)) .inr) fun z => .inl (.inr z)
  have up : ∀ {v : V} {w : Wd}, Rp K mu (fun a => B a ∨ O a) H v w → Rp K mu (fun a => (B a ∨ a = D) ∨ O a) (upd H D o) v w := fun p => ((p.ban n).weak tr).same (same_upd n)
  have upA : ∀ {v : List V} {w : List Wd}, RpAll K mu (fun a => B a ∨ O a) H v w → RpAll K mu (fun a => (B a ∨ a = D) ∨ O a) (upd H D o) v w := fun p => ((p.ban n).weak tr).same (same_upd n)
  refine ⟨h.len, fun i w e => let ⟨v, a, b⟩ := h.val i w e; ⟨v, a, up b⟩, fun i ws e => let ⟨a, xs, h1, h2, h3, h4, h5⟩ := h.own i ws e; ⟨a, xs, h1, h2, fun z => z.elim h3 fun z => ne_of_none h4 n z, (upd_ne (ne_of_none h4 n)).trans h4, upA h5⟩, h.dif, ((h.sto.ban n).weak tr).same (same_upd n), fun a t => ?_⟩
  rcases tr a t with t | t
  · obtain ⟨h1, h2⟩ := h.bn a t
    refine ⟨?_, h2⟩
    cases e : H a with
    | none => exact absurd e h1.1.1
    | some u =>
      rw [upd_ne (ne_of_none e n)]
      exact h1
  · subst t
    refine ⟨?_, h.sto.fresh n⟩
    rw [upd_same]
    exact pl
theorem Rel.at_ban (h : Rel K mu B O H σ ρ S) {D : Addr} (b : B D) (o : HO) (pl : PlH (some o) := by first | exact PlH.lst | exact PlH.dK) : Rel K mu B O (upd H D o) σ ρ S := by
  refine ⟨h.len, fun i w e => let ⟨v, a, p⟩ := h.val i w e; ⟨v, a, p.at_ban (.inl b)⟩, fun i ws e => let ⟨a, xs, h1, h2, h3, h4, h5⟩ := h.own i ws e; ⟨a, xs, h1, h2, h3, by rw [upd_ne (show a ≠ D from fun z => h3 (z ▸ b))]; exact h4, h5.at_ban (.inl b)⟩, h.dif, h.sto.at_ban h.bn (.inl b), fun a t => ?_⟩
  obtain ⟨h1, h2⟩ := h.bn a t
  refine ⟨?_, h2⟩
  by_cases c : a = D
  · subst c
    rw [upd_same]
    exact pl
  · rw [upd_ne c]
    exact h1
end
def lcLoop (g : Mg) (t : Mt) (fe : Mx) (ρ : Ev) : List Wd → List Wd → Sto → R (List Wd)
  | [], acc, S => .ok acc S
  | w :: ws, acc, S => match g w ρ with
    | none => .bad
    | some ρ1 => (t ρ1 S).bnd fun b S1 => if b = true then (fe ρ1 S1).bnd fun y S2 => if acc.length < sizeLine then lcLoop g t fe ρ ws (acc ++ [y]) S2 else .bad else lcLoop g t fe ρ ws acc S1
def mLc (vs : List Nat) (fi : Mi) (g : Mg) (t : Mt) (fe : Mx) : Mx := fun ρ S => (fi ρ S).bnd fun ws S1 => (lcLoop g t fe (wipeE ρ vs) ws [] S1).bnd fun acc S2 => .ok (.list acc) S2
def tTrue : Mt := fun _ S => .ok true S
def DTs (X : Cx) (ifs : List Expr) (t : Mt) : Prop := PTs X ifs (tDt X.K t)
theorem dts_nil {X : Cx} : DTs X [] tTrue := ⟨fun pins s σ H Q I ⟨ρ, S, mu, B, O, rl, w, S', e, q⟩ => by
  cases e
  exact pts_nil.run pins s σ H Q I (q H mu (.refl _ _) rl.sto)⟩
theorem dts_one {X : Cx} {c : Expr} {t : Mt} (h : Dt X c t) : DTs X [c] t := pts_one h
theorem Ext.at_new {mu mu' : List Addr} {H H' : Hp} {D : Addr} {o : HO} (e : Ext mu mu' H H') (n : H D = none) : Ext mu mu' H (upd H' D o) :=
  ⟨e.pre, fun a u h q => by rw [upd_ne (ne_of_none h n)]; exact e.keep a u h q, e.new⟩
section
variable {X : Cx} {fi : Mi} {g : Mg} {t : Mt} {fe : Mx} {vs : List Nat}
theorem lc_core' {K : Fg} {tg : TG} {P : It → List V → List Wd → List Wd → Prop}
    (hP : ∀ J v w ws, P J v w ws → ∀ (mu : List Addr) (B O : Addr → Prop) (H : Hp) (S : Sto), StOk K mu (fun a => B a ∨ O a) H S → Bn mu (fun a => B a ∨ O a) H → RpAll K mu (fun a => B a ∨ O a) H v w →
      (∀ (i : Nat) (d : Wd), ws[i]? = some d → J.go i H ∧ ∀ x H', J.yld i H x H' → Same H H' ∧ ∀ (σ : Sg) (ρ ρ' : Ev) (Q : Sg → Hp → Prop), Rel K mu B O H' σ ρ S → g d ρ = some ρ' → (∀ σ', Rel K mu B O H' σ' ρ' S → wipe σ' vs = wipe σ vs → Q σ' H') → tg x σ H' Q) ∧ J.stop ws.length H)
    (hv : ∀ σ : Sg, wipe (wipe σ vs) vs = wipe σ vs) :
    ∀ σ H Q, tD K (mLc vs fi g t fe) σ H Q → tLc (tDi K P fi) tg (tDt K t) (tD K fe) vs σ H Q := fun σ H Q ⟨ρ, S, mu, B, O, rl, w, S', e, q⟩ => by
  obtain ⟨ws, S1, e1, e⟩ := R.bnd_inv e
  obtain ⟨res, S2, e2, e⟩ := R.bnd_inv e
  cases e
  refine ⟨ρ, S, mu, B, O, rl, ws, S1, e1, fun J v u H1 mu1 hJ E st p D nD => ?_⟩
  have rl1 := rl.ext E st
  have nT : ¬ (B D ∨ O D) := rl1.bn.fresh nD
  have rb := (rl1.wipe vs).ban nD (.lst [])
  have pb : RpAll K mu1 (fun a => (B a ∨ a = D) ∨ O a) (upd H1 D (.lst [])) v u := ((p.ban nD).weak fun a z => z.elim (fun z => z.elim (fun z => .inl (.inl z)) .inr) fun z => .inl (.inr z)).same (same_upd nD)
  refine ⟨fun i k H2 => k = ws.length - i ∧ i ≤ ws.length ∧ ∃ av acc S3 mu2, Ext mu1 mu2 H1 H2 ∧ Rel K mu2 (fun a => B a ∨ a = D) O H2 (wipe σ vs) (wipeE ρ vs) S3 ∧ RpAll K mu2 (fun a => (B a ∨ a = D) ∨ O a) H2 v u ∧ H2 D = some (.lst av) ∧ RpAll K mu2 (fun a => (B a ∨ a = D) ∨ O a) H2 av acc ∧
      lcLoop g t fe (wipeE ρ vs) (ws.drop i) acc S3 = .ok res S',
    ⟨ws.length, by omega, Nat.zero_le _, [], [], S1, mu1, (Ext.refl _ _).at_new nD, rb, pb, upd_same, .nil, e2⟩, fun i k H2 ⟨ek, hi, av, acc, S3, mu2, x2, r2, p2, hD, pa, el⟩ => ?_⟩
  obtain ⟨hgo, hstop⟩ := hP J v u ws hJ mu2 (fun a => B a ∨ a = D) O H2 S3 r2.sto r2.bn p2
  by_cases c : i < ws.length
  · obtain ⟨go, yld⟩ := hgo i ws[i] (List.getElem?_eq_getElem c)
    rw [List.drop_eq_getElem_cons c] at el
    unfold lcLoop at el
    cases y : g ws[i] (wipeE ρ vs) with
    | none => rw [y] at el; cases el
    | some ρ3 =>
      rw [y] at el
      simp only at el
      obtain ⟨b, S4, e4, el⟩ := R.bnd_inv el
      refine .inr ⟨go, fun H' => ∃ av acc S3 mu2, Ext mu1 mu2 H1 H' ∧ Rel K mu2 (fun a => B a ∨ a = D) O H' (wipe σ vs) (wipeE ρ vs) S3 ∧ RpAll K mu2 (fun a => (B a ∨ a = D) ∨ O a) H' v u ∧ H' D = some (.lst av) ∧ RpAll K mu2 (fun a => (B a ∨ a = D) ∨ O a) H' av acc ∧
          lcLoop g t fe (wipeE ρ vs) (ws.drop (i + 1)) acc S3 = .ok res S', fun H' ⟨av, acc, S5, mu5, h1, h2, h3, h4, h5, h6⟩ => ⟨ws.length - (i + 1), by omega, rfl, by omega, av, acc, S5, mu5, h1, h2, h3, h4, h5, h6⟩, fun x H' hy => ?_⟩
      obtain ⟨sm, k2⟩ := yld x H' hy
      have r3 := r2.ext (.same sm) (r2.sto.same sm)
      refine k2 (wipe σ vs) (wipeE ρ vs) ρ3 _ r3 y fun σ' r' hw => ⟨hw.trans (hv σ), ?_⟩
      refine tDt.mk r' e4 fun H4 mu4 E4 r4 => ?_
      have D4 : H4 D = some (.lst av) := E4.keep D _ (sm D _ hD) (r2.bn D (.inl (.inr rfl))).2
      have q4 : Ext mu2 mu4 H2 H4 := (Ext.same sm).trans E4
      have r40 : Rel K mu4 (fun a => B a ∨ a = D) O H4 (wipe σ vs) (wipeE ρ vs) S4 := r2.ext q4 r4.sto
      cases b with
      | false =>
        rw [if_neg Bool.false_ne_true] at el ⊢
        exact ⟨av, acc, S4, mu4, x2.trans q4, r40, p2.ext q4, D4, pa.ext q4, el⟩
      | true =>
        rw [if_pos rfl] at el ⊢
        obtain ⟨z, S5, e5, el⟩ := R.bnd_inv el
        by_cases hz : acc.length < sizeLine
        · rw [if_pos hz] at el
          refine tD.mk r4 e5 fun yv H5 mu5 E5 r5 p5 => ?_
          have q5 : Ext mu2 mu5 H2 H5 := q4.trans E5
          have D5 : H5 D = some (.lst av) := E5.keep D _ D4 (r40.bn D (.inl (.inr rfl))).2
          have r50 : Rel K mu5 (fun a => B a ∨ a = D) O H5 (wipe σ vs) (wipeE ρ vs) S5 := r2.ext q5 r5.sto
          have pa5 := pa.ext q5
          refine ⟨av, D5, by rw [pa.length]; exact hz, av ++ [yv], acc ++ [z], S5, mu5, (x2.trans q5).at_new nD, r50.at_ban (.inr rfl) _, (p2.ext q5).at_ban (.inl (.inr rfl)), upd_same, ?_, el⟩
          exact (pa5.append (.cons p5 .nil)).at_ban (.inl (.inr rfl))
        · rw [if_neg hz] at el
          cases el
  · have ei : i = ws.length := by omega
    subst ei
    rw [List.drop_length] at el
    cases el
    refine .inl ⟨hstop, q (.ref D) H2 mu2 (E.trans x2) (r2.sto.weak fun a z => z.imp .inl id) (.lst (.inl ⟨.inl hD, (r2.bn D (.inl (.inr rfl))).2, nT⟩) (pa.weak fun a z => z.imp .inl id))⟩
theorem wipe_idem (σ : Sg) : ∀ vs : List Nat, wipe (wipe σ vs) vs = wipe σ vs := by
  have mem : ∀ (vs ws : List Nat) (τ : Sg), (∀ i ∈ ws, i ∈ vs) → wipe (wipe τ ws) vs = wipe τ vs := by
    intro vs ws
    induction ws with
    | nil => intro τ _; rfl
    | cons k ws ih =>
      intro τ h
      show wipe ((wipe τ ws).set k none) vs = _
      rw [wipe_set (h k List.mem_cons_self), ih τ fun i hi => h i (List.mem_cons_of_mem _ hi)]
  exact fun vs => mem vs vs σ fun i hi => hi
abbrev _root_.L2.Cx.fam (X : Cx) (scope : Scope) (i : Shared × Hp × Addr × List (Str × Addr) × List Addr) : Cx := X.blk i.1 i.2.1 scope (compEnvC scope i.2.2.2.1 i.2.2.1 X.env) i.2.2.2.2
variable {elt tgx iter : Expr} {ifs : List Expr} {scope : Scope} {own : List (Str × Nat)} {pos : Pos}
theorem de_lc (hc : X.calm = true) (hN : X.N.Nodup) (hi : Di X tgx iter fi) (ok : BlkOk X.N X.env.scope scope own)
    (hg : DgF (X.fam scope) X.K (own.map (·.2)) tgx g)
    (ht : ∀ (s : Shared) (H : Hp) (C : Addr) (cl : List (Str × Addr)) (fp : List Addr), DTs (X.blk s H scope (compEnvC scope cl C X.env) fp) ifs t)
    (he : ∀ (s : Shared) (H : Hp) (C : Addr) (cl : List (Str × Addr)) (fp : List Addr), De (X.blk s H scope (compEnvC scope cl C X.env) fp) elt fe) (hs : ∀ x, foldedSetIterable iter X.env x = pure x := by intro _; rfl) :
    De X (.ListComp elt [⟨tgx, iter, ifs, 0⟩] scope pos) (mLc (own.map (·.2)) fi g t fe) := by
  obtain ⟨tg, pg, kg⟩ := hg
  refine PE.weak (pe_lc (tt := tDt X.K t) (te := tD X.K fe) hc hN hi ok (fun s H C cl fp => pg (s, H, C, cl, fp)) ht he hs) (lc_core' (fun J v w ws hJ mu B O H S st bn p => ?_) (fun σ => wipe_idem σ _))
  obtain ⟨h1, h2⟩ := hJ mu _ H S st bn p
  exact ⟨fun i d e => ⟨(h1 i d e).1, fun x H' hy => ⟨((h1 i d e).2 x H' hy).1, fun σ ρ ρ' Q r eg k => kg mu B O H' σ ρ ρ' S x d Q r ((h1 i d e).2 x H' hy).2 eg k⟩⟩, h2⟩
end
end DL
namespace DL
open PySem PySem.Spec PyProof.Rows L2
section
variable {X : Cx} {tg l : Expr} {f : Mx}
theorem it_str {K : Fg} {z : Str} : ItOk K (Its z) [] [] (signsD z) := fun mu T H S st bn r => by
  refine ⟨fun i d e => ?_, ?_⟩
  · unfold signsD at e
    rw [List.getElem?_map] at e
    obtain ⟨c, e1, rfl⟩ := Option.map_eq_some_iff.mp e
    have hi : i < z.cps.size := by
      have := (List.getElem?_eq_some_iff.mp e1).1
      rwa [Array.length_toList] at this
    refine ⟨hi, fun x H' hy => ?_⟩
    obtain ⟨rfl, c', e2, rfl⟩ := hy
    rw [Array.getElem?_toList] at e1
    rw [e1] at e2
    cases e2
    exact ⟨Same.refl _, .str _⟩
  · show z.cps.size ≤ _
    unfold signsD
    rw [List.length_map, Array.length_toList]
    exact Nat.le_refl _
theorem di_str (h : De X l f) : Di X tg l (DL.iStr f) :=
  PI.weak (pi_str h) fun σ H Rr ⟨ρ, S, mu, B, O, rl, ws, S', e, q⟩ => by
    obtain ⟨w, S1, e1, e⟩ := R.bnd_inv e
    refine tD.mk rl e1 fun v H1 mu1 E r p => ?_
    split at e
    · cases e
      cases p
      exact ⟨_, rfl, q _ [] [] H1 mu1 it_str E r.sto .nil⟩
    · cases e
def enumD : Nat → List Wd → List Wd
  | _, [] => []
  | n, w :: ws => .tuple [.int n, w] :: enumD (n + 1) ws
theorem enumD_get : ∀ (ws : List Wd) (n i : Nat) (d : Wd), (enumD n ws)[i]? = some d → ∃ w, ws[i]? = some w ∧ d = .tuple [.int ((n + i : Nat) : Int), w]
  | [], n, i, d, h => by cases h
  | w :: ws, n, 0, d, h => by cases h; exact ⟨w, rfl, rfl⟩
  | w :: ws, n, i + 1, d, h => by
    obtain ⟨u, e1, e2⟩ := enumD_get ws (n + 1) i d h
    exact ⟨u, e1, by rw [e2, show n + 1 + i = n + (i + 1) by omega]⟩
theorem enumD_length : ∀ (ws : List Wd) (n : Nat), (enumD n ws).length = ws.length
  | [], n => rfl
  | w :: ws, n => by
    show (enumD (n + 1) ws).length + 1 = ws.length + 1
    rw [enumD_length ws (n + 1)]
theorem it_enum {K : Fg} {a : Addr} {ws : List Wd} : ItOkP K (Ite K a) [.ref a] [.list ws] (enumD 0 ws) := fun mu T H S st bn r => by
  cases r with
  | cons r _ => cases r with
  | lst h1 h2 =>
    refine ⟨fun i d e => ?_, ⟨_, h1.sq, by rw [h2.length, enumD_length]; exact Nat.le_refl _⟩⟩
    obtain ⟨w, e1, rfl⟩ := enumD_get ws 0 i d e
    obtain ⟨x, e2, e3⟩ := h2.get e1
    refine ⟨⟨_, x, h1.sq, e2⟩, fun y H' hy => ?_⟩
    obtain ⟨Tn, x', rfl, hn, rfl, hx⟩ := hy
    have e4 := hx _ h1.sq
    rw [e2] at e4
    cases e4
    refine ⟨same_upd hn, .inr ⟨Tn, _, _, rfl, rfl, .inl (.inl upd_same), .cons ?_ (.cons (e3.same (same_upd hn)) .nil)⟩⟩
    rw [Nat.zero_add]
    exact .int _
def zipD : List Wd → List Wd → List Wd
  | x :: xs, y :: ys => .tuple [x, y] :: zipD xs ys
  | _, _ => []
theorem zipD_get : ∀ (xs ys : List Wd) (i : Nat) (d : Wd), (zipD xs ys)[i]? = some d → ∃ x y, xs[i]? = some x ∧ ys[i]? = some y ∧ d = .tuple [x, y]
  | [], _, i, d, h => by cases h
  | _ :: _, [], i, d, h => by cases h
  | x :: xs, y :: ys, 0, d, h => by cases h; exact ⟨x, y, rfl, rfl, rfl⟩
  | x :: xs, y :: ys, i + 1, d, h => zipD_get xs ys i d h
theorem zipD_end : ∀ (xs ys : List Wd), xs.length ≤ (zipD xs ys).length ∨ ys.length ≤ (zipD xs ys).length
  | [], _ => .inl (Nat.zero_le _)
  | _ :: _, [] => .inr (Nat.zero_le _)
  | x :: xs, y :: ys => (zipD_end xs ys).imp (fun h => Nat.succ_le_succ h) fun h => Nat.succ_le_succ h
theorem it_zip {K : Fg} {a b : Addr} {xs ys : List Wd} : ItOkP K (Itz K a b) [.ref a, .ref b] [.list xs, .list ys] (zipD xs ys) := fun mu T H S st bn r => by
  cases r with
  | cons r r' => cases r' with
  | cons r' _ => cases r with
  | lst h1 h2 => cases r' with
  | lst k1 k2 =>
    refine ⟨fun i d e => ?_, ⟨_, _, h1.sq, k1.sq, by rw [h2.length, k2.length]; exact zipD_end xs ys⟩⟩
    obtain ⟨x, y, e1, e2, rfl⟩ := zipD_get xs ys i d e
    obtain ⟨u, e3, e4⟩ := h2.get e1
    obtain ⟨v, e5, e6⟩ := k2.get e2
    refine ⟨⟨_, _, u, v, h1.sq, k1.sq, e3, e5⟩, fun z H' hy => ?_⟩
    obtain ⟨Tn, x', y', rfl, hn, rfl, hx, hy⟩ := hy
    have e7 := hx _ h1.sq
    have e8 := hy _ k1.sq
    rw [e3] at e7
    rw [e5] at e8
    cases e7
    cases e8
    exact ⟨same_upd hn, .inr ⟨Tn, _, _, rfl, rfl, .inl (.inl upd_same), .cons (e4.same (same_upd hn)) (.cons (e6.same (same_upd hn)) .nil)⟩⟩
theorem it_zipT {K : Fg} {a b : Addr} {xs ys : List Wd} : ItOkP K (RZ.ItzT K a b) [.ref a, .ref b] [.tuple xs, .tuple ys] (zipD xs ys) := fun mu T H S st bn r => by
  cases r with
  | cons r r' => cases r' with
  | cons r' _ => cases r with
  | tup h1 h2 => cases r' with
  | tup k1 k2 =>
    refine ⟨fun i d e => ?_, ⟨_, _, h1.sq, k1.sq, by rw [h2.length, k2.length]; exact zipD_end xs ys⟩⟩
    obtain ⟨x, y, e1, e2, rfl⟩ := zipD_get xs ys i d e
    obtain ⟨u, e3, e4⟩ := h2.get e1
    obtain ⟨v, e5, e6⟩ := k2.get e2
    refine ⟨⟨_, _, u, v, h1.sq, k1.sq, e3, e5⟩, fun z H' hy => ?_⟩
    obtain ⟨Tn, x', y', rfl, hn, rfl, hx, hy⟩ := hy
    have e7 := hx _ h1.sq
    have e8 := hy _ k1.sq
    rw [e3] at e7
    rw [e5] at e8
    cases e7
    cases e8
    exact ⟨same_upd hn, .inr ⟨Tn, _, _, rfl, rfl, .inl (.inl upd_same), .cons (e4.same (same_upd hn)) (.cons (e6.same (same_upd hn)) .nil)⟩⟩
def iZipD (fs : Ma) : Mi := fun ρ S => (fs ρ S).bnd fun ws S1 => match ws with
  | [.list xs, .list ys] => .ok (zipD xs ys) S1
  | [.tuple xs, .tuple ys] => .ok (zipD xs ys) S1
  | _ => .bad
theorem dip_zip {e e2 : Expr} {fs : Ma} {p pos tpos : Pos} {elts : List Expr} {kk : Nat} (hg : Gl X "zip") (hm : X.mg "zip" = none) (ha : Da X [e, e2] fs)
    (hs : starEach [e, e2] X.env = (false, eval e X.env) :: starEach [e2] X.env := by rfl) (hpl : (backTo pos (starEach [e2] X.env)).any (·.1) = false := by rfl) :
    DiP X (.Tuple elts kk tpos) (.Call (.Name "zip" p) [e, e2] [] pos) (iZipD fs) :=
  PI.weak (RZ.pi_zipA hg hm ha hs hpl) fun σ H Rr ⟨ρ, S, mu, B, O, rl, ws, S', e, q⟩ => by
    obtain ⟨us, S1, e1, e⟩ := R.bnd_inv e
    refine tDa.mk rl e1 fun vs H1 mu1 E r p => ?_
    split at e
    · cases e
      cases p with
      | cons p1 p2 => cases p2 with
      | cons p2 p3 =>
        cases p3
        cases p1 with
        | @lst a xs ds h1 h2 => cases p2 with
        | @lst b ys ds' k1 k2 => exact ⟨a, b, _, _, rfl, .inl ⟨h1.sq, k1.sq, q _ _ _ H1 mu1 it_zip E r.sto (.cons (.lst h1 h2) (.cons (.lst k1 k2) .nil))⟩⟩
    · cases e
      cases p with
      | cons p1 p2 => cases p2 with
      | cons p2 p3 =>
        cases p3
        cases p1 with
        | @tup a xs ds h1 h2 => cases p2 with
        | @tup b ys ds' k1 k2 => exact ⟨a, b, _, _, rfl, .inr ⟨h1.sq, k1.sq, q _ _ _ H1 mu1 it_zipT E r.sto (.cons (.tup h1 h2) (.cons (.tup k1 k2) .nil))⟩⟩
    · cases e
end
def whLoop (t : Mt) (m : Ms) : Nat → Ev → Sto → Out
  | 0, _, _ => .bad
  | n + 1, ρ, S => sTest (t ρ S) fun b S1 => if b = true then (match m ρ S1 with
      | .nx ρ2 S2 => whLoop t m n ρ2 S2
      | .ct ρ2 S2 => whLoop t m n ρ2 S2
      | .bk ρ2 S2 => .nx ρ2 S2
      | .rt w S2 => .rt w S2
      | .bad => .bad) else .nx ρ S1
def sWhile (fuel : Ev → Sto → Nat) (t : Mt) (m : Ms) : Ms := fun ρ S => whLoop t m (fuel ρ S) ρ S
section
variable {X : Cx} {c : Expr} {body : List Stmt} {t : Mt} {m : Ms} {pos : Pos}
theorem ds_while (fuel : Ev → Sto → Nat) (hp : PassesOwn (model X.prog X.w) X.A X.env X.xe) (hc : Dt X c t) (hb : Dss X body m) : Ds X (.While c body [] pos) (sWhile fuel t m) :=
  PS.weak (ps_while hp hc hb) fun D σ H ⟨ρ, S, mu, B, O, rl, q⟩ => by
    refine ⟨fun n σ2 H2 => ∃ ρ2 S2 mu2 O2, Rel X.K mu2 B O2 H2 σ2 ρ2 S2 ∧ postS X.K D mu2 B O2 H2 (whLoop t m n ρ2 S2), ⟨fuel ρ S, ρ, S, mu, O, rl, q⟩, fun n σ2 H2 ⟨ρ2, S2, mu2, O2, r2, q2⟩ => ?_⟩
    cases n with
    | zero => exact q2.elim
    | succ n =>
      unfold whLoop at q2
      cases z : t ρ2 S2 with
      | bad => rw [z] at q2; exact q2.elim
      | ok b S3 =>
        rw [z, sTest_ok] at q2
        refine tDt.mk r2 z fun H3 mu3 E3 r3 => ?_
        have x3 := E3.toS r3.sto
        cases b with
        | false =>
          rw [if_neg Bool.false_ne_true] at q2 ⊢
          exact q2 σ2 H3 mu3 O2 x3 r3
        | true =>
          rw [if_pos rfl] at q2 ⊢
          refine ⟨fun σ' H' => ∃ ρ2 S2 mu2 O2, Rel X.K mu2 B O2 H' σ' ρ2 S2 ∧ postS X.K D mu2 B O2 H' (whLoop t m n ρ2 S2), fun σ' H' h => ⟨n, Nat.lt_succ_self n, h⟩, ρ2, S3, mu3, B, O2, r3, ?_⟩
          cases u : m ρ2 S3 with
          | nx ρ4 S4 =>
            rw [u] at q2
            exact fun σ5 H5 mu5 O5 x5 r5 => ⟨ρ4, S4, mu5, O5, r5, postS.ext (x3.trans x5) q2⟩
          | ct ρ4 S4 =>
            rw [u] at q2
            exact fun σ5 H5 mu5 O5 x5 r5 => ⟨ρ4, S4, mu5, O5, r5, postS.ext (x3.trans x5) q2⟩
          | bk ρ4 S4 =>
            rw [u] at q2
            exact fun σ5 H5 mu5 O5 x5 r5 => q2 σ5 H5 mu5 O5 (x3.trans x5) r5
          | rt w' S4 =>
            rw [u] at q2
            exact fun v5 H5 mu5 O5 x5 s5 r5 => q2 v5 H5 mu5 O5 (x3.trans x5) s5 r5
          | bad => rw [u] at q2; exact q2.elim
end
def kindD : Wd → Option String
  | .none => some "NoneType"
  | .bool _ => some "bool"
  | .int _ => some "int"
  | .str _ => some "str"
  | .list _ => some "list"
  | .tuple _ => some "tuple"
  | .dict ((.none, _) :: _) => none
  | .dict _ => some "dict"
def gIsi (Tn : String) (w : Wd) : Option Wd := (kindD w).bind fun k => (kitB k Tn).map .bool
theorem ty_of {K : Fg} {mu : List Addr} {T : Addr → Prop} {H : Hp} {v : V} {w : Wd} {k : String} (h : Rp K mu T H v w) (e : kindD w = some k) : TyX K H v (.type k) := by
  cases h with
  | non => cases e; exact .base .non
  | bl b => cases e; exact .base (.bl b)
  | int i => cases e; exact .base (.int i)
  | str x => cases e; exact .base (.str x)
  | lst a b =>
    cases e
    rcases a with ⟨z | ⟨o, z⟩, _⟩ | ⟨its, n, z, _⟩
    · exact .base (.lst z)
    · exact .base (.frz z)
    · exact .kList z rfl
  | tup a b =>
    cases e
    rcases a with ⟨⟨o, d, z⟩, _⟩ | ⟨z, o, z1, z2⟩
    · exact .fTuple z
    · rcases z (fun _ => none) with (y | ⟨_, y⟩) | ⟨o', _, _, y1, y2, _⟩
      · cases y
      · cases y
      · exact .kTuple y1 y2
  | dct a b =>
    cases b with
    | nil => cases e; exact .base (.dK a.1)
    | @cons k _ _ _ _ _ _ => cases k <;> (cases e; exact .base (.dK a.1))
  | obj a => cases e
section
variable {X : Cx} {a : Expr} {fa : Mx} {pos p p2 : Pos}
theorem de_isi {x : Str} {Tn : String} (hg : Gl X "isinstance") (hm : X.mg "isinstance" = none) (gx : Gl X x) (mx : X.mg x = none) (bx : bootBuiltins x = some (.type Tn)) (ha : De X a fa) (nx : x ≠ "__name__" := by decide) (dx : (x == ("__debug__" : Str)) = false := by decide)
    (he : starEach [a, .Name x p2] X.env = (false, eval a X.env) :: starEach [.Name x p2] X.env := by rfl) (h2 : starEach [Expr.Name x p2] X.env = [(false, eval (.Name x p2) X.env)] := by rfl) (hpl : (backTo pos (starEach [Expr.Name x p2] X.env)).any (·.1) = false := by rfl) :
    De X (.Call (.Name "isinstance" p) [a, .Name x p2] [] pos) (mUn (gIsi Tn) fa) := by
  have hT : PE X (.Name x p2) (tC (.ty Tn)) := pe_bltn gx mx bx rfl nx dx
  refine PE.weak (pe_callB call_isi hg hm (by decide +kernel) (pa_cons ha (pa_cons hT pa_nil h2) he) (by decide) (by decide) he hpl) fun σ H Q ⟨ρ, S, mu, B, O, rl, w, S', e, q⟩ => ?_
  obtain ⟨d, S1, e1, e⟩ := R.bnd_inv e
  obtain ⟨e2, rfl⟩ := R.of_inv e
  obtain ⟨k, e3, e4⟩ := Option.bind_eq_some_iff.mp e2
  obtain ⟨b, e5, rfl⟩ := Option.map_eq_some_iff.mp e4
  refine tD.mk rl e1 fun v H1 mu1 E r p => ?_
  exact ⟨v, .ty Tn, .type k, .type Tn, b, rfl, .ty Tn, ty_of p e3, kit_ty e5, q _ H1 mu1 E r.sto (.bl b)⟩
def findD (y : Wd) : List Wd → Nat → Option Nat
  | [], _ => none
  | z :: r, n => if PyData.eqv z y = true then some n else findD y r (n + 1)
theorem findD_spec (y : Wd) : ∀ (ds : List Wd) (n j : Nat), findD y ds n = some j → ∃ i z, j = n + i ∧ ds[i]? = some z ∧ PyData.eqv z y = true ∧ ∀ (m : Nat) (z' : Wd), m < i → ds[m]? = some z' → PyData.eqv z' y = false
  | [], n, j, h => by cases h
  | d :: ds, n, j, h => by
    unfold findD at h
    by_cases c : PyData.eqv d y = true
    · rw [if_pos c] at h
      cases h
      exact ⟨0, d, rfl, rfl, c, fun m z' hm => absurd hm (Nat.not_lt_zero m)⟩
    · rw [if_neg c] at h
      obtain ⟨i, z, e1, e2, e3, e4⟩ := findD_spec y ds (n + 1) j h
      refine ⟨i + 1, z, by omega, e2, e3, fun m z' hm hz => ?_⟩
      cases m with
      | zero => cases hz; exact Bool.eq_false_iff.mpr c
      | succ m => exact e4 m z' (by omega) hz
def gIndex : Wd → Wd → Option Wd
  | .list ys, y => if SeqAt.shaped (.list ys) = true ∧ SeqAt.shaped y = true then (findD y ys 0).map fun (j : Nat) => .int (j : Int) else none
  | _, _ => none
theorem de_index {o e : Expr} {fo fe : Mx} {apos cpos : Pos} (hu : X.A.units + 65 < cLine) (ho : De X o fo) (he : De X e fe) (hbase : attributeBase o "index" X.env (eval o X.env) = eval o X.env := by rfl)
    (hfew : ((backTo cpos (starEach [e] X.env)).all (fun x => !x.1) && (backToKw cpos (keywordEach [] X.env)).all (fun x => x.1.isSome) && decide ([e].length + ([] : List Keyword).length + (if ([] : List Keyword).isEmpty then 0 else 1) < 30)) = true := by rfl)
    (hline : (apos.endLine == cpos.line) = true := by rfl) (hs : starEach [e] X.env = [(false, eval e X.env)] := by rfl) : De X (.Call (.Attribute o "index" apos) [e] [] cpos) (mBin gIndex fo fe) :=
  PE.weak (pe_bm PySem.F.plainAttrs_list PySem.F.slot_list_index PySem.F.type_list_index (mt_indexD hu) ho (pa_cons he pa_nil hs) hbase hfew hline hs rfl) fun σ H Q ⟨ρ, S, mu, B, O, rl, w, S', e, q⟩ => by
    obtain ⟨x, S1, e1, e⟩ := R.bnd_inv e
    obtain ⟨y, S2, e2, e⟩ := R.bnd_inv e
    obtain ⟨e3, rfl⟩ := R.of_inv e
    unfold gIndex at e3
    split at e3
    · rename_i ys y'
      by_cases c : SeqAt.shaped (.list ys) = true ∧ SeqAt.shaped y = true
      · rw [if_pos c] at e3
        obtain ⟨j, e4, rfl⟩ := Option.map_eq_some_iff.mp e3
        obtain ⟨i, z, rfl, h1, h2, h3⟩ := findD_spec y ys 0 j e4
        refine tD.mk rl e1 fun v H1 mu1 E1 r1 p1 => ?_
        cases p1 with
        | @lst a xs ds a1 b1 =>
          refine ⟨.inl ⟨rfl, _, a1.sq⟩, tD.mk r1 e2 fun u H2 mu2 E2 r2 p2 => ?_⟩
          have p1 : Rp X.K mu2 (fun a => B a ∨ O a) H2 (.ref a) (.list ys) := Rp.ext (.lst a1 b1) E2
          refine ⟨a, u, y, ys, i, z, rfl, rfl, Rp.dp _ _ p1 (SeqAt.canLay_of_shaped c.1), Rp.dp _ _ p2 (SeqAt.canLay_of_shaped c.2), c.1, c.2, h1, h2, h3, q _ H2 mu2 (E1.trans E2) r2.sto ?_⟩
          rw [Nat.zero_add]
          exact .int _
      · rw [if_neg c] at e3
        cases e3
    · cases e3
end
end DL
namespace DL
open PySem PySem.Spec PyProof.Rows L2
section
variable {K : Fg} {mu : List Addr} {B O : Addr → Prop} {H : Hp} {σ : Sg} {ρ : Ev} {S : Sto}
theorem Rel.newOwn (h : Rel K mu B O H σ ρ S) (i : Nat) {p : Addr} {xs : List V} {ws : List Wd} (n : H p = none) (r : RpAll K mu (fun a => B a ∨ O a) H xs ws) :
    Rel K mu B (fun a => O a ∨ a = p) (upd H p (.lst xs)) (σ.set i (some (.ref p))) (ρ.set i (some (.own ws))) S := by
  have tr : ∀ a, (B a ∨ O a ∨ a = p) → ((B a ∨ O a) ∨ a = p) := fun a z => z.elim (fun z => .inl (.inl z)) fun z => z.elim (fun z => .inl (.inr z)) .inr
  have up : ∀ {v : V} {w : Wd}, Rp K mu (fun a => B a ∨ O a) H v w → Rp K mu (fun a => B a ∨ O a ∨ a = p) (upd H p (.lst xs)) v w := fun q => ((q.ban n).weak tr).same (same_upd n)
  have upA : ∀ {v : List V} {w : List Wd}, RpAll K mu (fun a => B a ∨ O a) H v w → RpAll K mu (fun a => B a ∨ O a ∨ a = p) (upd H p (.lst xs)) v w := fun q => ((q.ban n).weak tr).same (same_upd n)
  have nB : ¬ B p := fun z => (h.bn p (.inl z)).1.1.1 n
  have old : ∀ {j : Nat} {us : List Wd} {b : Addr}, ρ[j]? = some (some (.own us)) → σ[j]? = some (some (V.ref b)) → b ≠ p := fun {j us b} e1 e2 e => by
    obtain ⟨a, ys, h1, h2, h3, h4, h5⟩ := h.own j us e1
    rw [h1] at e2
    cases e2
    rw [e, n] at h4
    cases h4
  refine ⟨by rw [List.length_set, List.length_set]; exact h.len, fun j w e => ?_, fun j us e => ?_, fun j k us us' a e1 e2 e3 e4 => ?_, ((h.sto.ban n).weak tr).same (same_upd n), fun a t => ?_⟩
  · rcases set_get e with ⟨rfl, e1, hl⟩ | ⟨c, e⟩
    · cases e1
    · obtain ⟨u, h1, h2⟩ := h.val j w e
      exact ⟨u, by rw [List.getElem?_set_ne c]; exact h1, up h2⟩
  · rcases set_get e with ⟨rfl, e1, hl⟩ | ⟨c, e⟩
    · cases e1
      exact ⟨p, xs, by rw [List.getElem?_set_self (by rw [h.len]; exact hl)], .inr rfl, nB, upd_same, upA r⟩
    · obtain ⟨a, ys, h1, h2, h3, h4, h5⟩ := h.own j us e
      exact ⟨a, ys, by rw [List.getElem?_set_ne c]; exact h1, .inl h2, h3, (upd_ne (ne_of_none h4 n)).trans h4, upA h5⟩
  · rcases set_get e1 with ⟨rfl, e1, hl⟩ | ⟨c, e1⟩
    · rcases set_get e2 with ⟨rfl, e2, hl2⟩ | ⟨c2, e2⟩
      · rfl
      · rw [List.getElem?_set_self (by rw [h.len]; exact hl)] at e3
        rw [List.getElem?_set_ne c2] at e4
        cases e3
        exact absurd rfl (old e2 e4)
    · rcases set_get e2 with ⟨rfl, e2, hl2⟩ | ⟨c2, e2⟩
      · rw [List.getElem?_set_self (by rw [h.len]; exact hl2)] at e4
        rw [List.getElem?_set_ne c] at e3
        cases e4
        exact absurd rfl (old e1 e3)
      · rw [List.getElem?_set_ne c] at e3
        rw [List.getElem?_set_ne c2] at e4
        exact h.dif j k us us' a e1 e2 e3 e4
  · rcases tr a t with t | t
    · obtain ⟨h1, h2⟩ := h.bn a t
      refine ⟨?_, h2⟩
      cases e : H a with
      | none => exact absurd e h1.1.1
      | some u =>
        rw [upd_ne (ne_of_none e n)]
        exact h1
    · subst t
      refine ⟨?_, h.sto.fresh n⟩
      rw [upd_same]
      exact .lst
theorem ExtS.newOwn {p : Addr} {o : HO} (n : H p = none) : ExtS mu mu O (fun a => O a ∨ a = p) H (upd H p o) :=
  ⟨fun _ _ h => h, fun a u h _ _ => by rw [upd_ne (ne_of_none h n)]; exact h, fun _ h q => absurd h q, fun a h => h.imp id fun (h : a = p) => (congrArg H h).trans n, fun a h => by
    by_cases c : a = p
    · subst c
      rw [upd_same]
      exact fun z => nomatch z
    · rw [upd_ne c]
      exact h⟩
theorem Rel.grow (h : Rel K mu B O H σ ρ S) {i : Nat} {a : Addr} {xs : List V} {ws ws' : List Wd} {ys : List V} (hi : ρ[i]? = some (some (.own ws))) (ha : σ[i]? = some (some (V.ref a))) (hO : O a) (hB : ¬ B a) (r : RpAll K mu (fun a => B a ∨ O a) H ys ws') :
    Rel K mu B O (upd H a (.lst ys)) σ (ρ.set i (some (.own ws'))) S := by
  refine ⟨by rw [List.length_set]; exact h.len, fun j w e => ?_, fun j us e => ?_, fun j k us us' b e1 e2 e3 e4 => ?_, h.sto.at_ban h.bn (.inr hO), fun b t => ?_⟩
  · rcases set_get e with ⟨rfl, e1, hl⟩ | ⟨c, e⟩
    · cases e1
    · obtain ⟨u, h1, h2⟩ := h.val j w e
      exact ⟨u, h1, h2.at_ban (.inr hO)⟩
  · rcases set_get e with ⟨rfl, e1, hl⟩ | ⟨c, e⟩
    · cases e1
      exact ⟨a, ys, ha, hO, hB, upd_same, r.at_ban (.inr hO)⟩
    · obtain ⟨b, zs, h1, h2, h3, h4, h5⟩ := h.own j us e
      have nb : b ≠ a := fun z => c (h.dif i j ws us a hi e ha (z ▸ h1))
      exact ⟨b, zs, h1, h2, h3, (upd_ne nb).trans h4, h5.at_ban (.inr hO)⟩
  · have o1 : ∃ vs, ρ[j]? = some (some (.own vs)) := by
      rcases set_get e1 with ⟨rfl, e1, hl⟩ | ⟨c, e1⟩
      · exact ⟨ws, hi⟩
      · exact ⟨us, e1⟩
    have o2 : ∃ vs, ρ[k]? = some (some (.own vs)) := by
      rcases set_get e2 with ⟨rfl, e2, hl⟩ | ⟨c, e2⟩
      · exact ⟨ws, hi⟩
      · exact ⟨us', e2⟩
    obtain ⟨v1, o1⟩ := o1
    obtain ⟨v2, o2⟩ := o2
    exact h.dif j k v1 v2 b o1 o2 e3 e4
  · obtain ⟨h1, h2⟩ := h.bn b t
    refine ⟨?_, h2⟩
    by_cases c : b = a
    · subst c
      rw [upd_same]
      exact .lst
    · rw [upd_ne c]
      exact h1
theorem ExtS.at_own {a : Addr} {o : HO} (hO : O a) : ExtS mu mu O O H (upd H a o) :=
  ⟨fun _ _ h => h, fun b u h _ no => by rw [upd_ne (show b ≠ a from fun z => no (z ▸ hO))]; exact h, fun _ h q => absurd h q, fun _ h => .inl h, fun b h => by
    by_cases c : b = a
    · subst c
      rw [upd_same]
      exact fun z => nomatch z
    · rw [upd_ne c]
      exact h⟩
theorem Rel.freeze (h : Rel K mu B O H σ ρ S) {i : Nat} {ws : List Wd} (hi : ρ[i]? = some (some (.own ws))) : ∃ O', (∀ a, O' a → O a) ∧ Rel K mu B O' H σ (ρ.set i (some (.val (.list ws)))) S := by
  obtain ⟨a, xs, h1, h2, h3, h4, h5⟩ := h.own i ws hi
  have tr : ∀ b, (B b ∨ O b ∧ b ≠ a) → (B b ∨ O b) := fun b z => z.imp id fun z => z.1
  refine ⟨fun b => O b ∧ b ≠ a, fun b z => z.1, by rw [List.length_set]; exact h.len, fun j w e => ?_, fun j us e => ?_, fun j k us us' b e1 e2 e3 e4 => ?_, h.sto.weak tr, fun b t => h.bn b (tr b t)⟩
  · rcases set_get e with ⟨rfl, e1, hl⟩ | ⟨c, e⟩
    · cases e1
      exact ⟨.ref a, h1, .lst (.inl ⟨.inl h4, (h.bn a (.inr h2)).2, fun z => z.elim h3 fun z => z.2 rfl⟩) (h5.weak tr)⟩
    · obtain ⟨u, e1, e2⟩ := h.val j w e
      exact ⟨u, e1, e2.weak tr⟩
  · rcases set_get e with ⟨rfl, e1, hl⟩ | ⟨c, e⟩
    · cases e1
    · obtain ⟨b, zs, k1, k2, k3, k4, k5⟩ := h.own j us e
      exact ⟨b, zs, k1, ⟨k2, fun z => c (h.dif i j ws us a hi e h1 (z ▸ k1))⟩, k3, k4, k5.weak tr⟩
  · rcases set_get e1 with ⟨rfl, e1, hl⟩ | ⟨c, e1⟩
    · cases e1
    rcases set_get e2 with ⟨rfl, e2, hl⟩ | ⟨c2, e2⟩
    · cases e2
    exact h.dif j k us us' b e1 e2 e3 e4
theorem ExtS.less {O' : Addr → Prop} (h : ∀ a, O' a → O a) : ExtS mu mu O O' H H := ⟨fun _ _ h => h, fun _ _ h _ _ => h, fun _ h q => absurd h q, fun a z => .inl (h a z), fun _ h => h⟩
end
section
variable {X : Cx} {e : Expr} {es : List Expr} {f : Mx} {fs : Ma} {pos : Pos} {m : Ms}
def sOwn (i : Nat) (fs : Ma) : Ms := fun ρ S => match fs ρ S with
  | .ok ws S1 => if ws.length ≤ sizeLine then .nx (ρ.set i (some (.own ws))) S1 else .bad
  | .bad => .bad
theorem ds_own {i : Nat} {x : Str} {pos' lpos : Pos} (hN : X.N.Nodup) (hi : X.N[i]? = some x) (hx : Loc X.env.scope x) (he : Da X es fs) (hs : swapsWith (.List es lpos) (some (.Name x pos')) pos.line X.env = pure false := by rfl)
    (hf : X.fn x = true ∨ X.env.scope.names.lookup x = some .local := by first | exact .inl rfl | exact .inr rfl | assumption) : Ds X (.Assign [.Name x pos'] (.List es lpos) pos) (sOwn i fs) :=
  PS.weak (ps_set hN hi hx (pe_lst he) hs hf) fun D σ H ⟨ρ, S, mu, B, O, rl, q⟩ => by
    unfold sOwn at q
    cases z : fs ρ S with
    | bad => rw [z] at q; exact q.elim
    | ok ws S1 =>
      rw [z] at q
      simp only at q
      by_cases hz : ws.length ≤ sizeLine
      · rw [if_pos hz] at q
        refine tDa.mk rl z fun vs H1 mu1 E r p => ⟨by rw [p.length]; exact hz, fun l hl => ?_⟩
        exact q _ _ mu1 _ ((E.toS r.sto).trans (ExtS.newOwn hl)) (r.newOwn i hl p)
      · rw [if_neg hz] at q
        exact q.elim
def sApp (i : Nat) (f : Mx) : Ms := fun ρ S => match ρ[i]? with
  | some (some (.own ws)) => sOf (f ρ S) fun w S1 => if ws.length < sizeLine then .nx (ρ.set i (some (.own (ws ++ [w])))) S1 else .bad
  | _ => .bad
theorem ds_append {i : Nat} {x : Str} {apos cpos xpos : Pos} (hN : X.N[i]? = some x) (hv : Vis X.env.scope x) (he : De X e f) (hd : (x == ("__debug__" : Str)) = false := by decide) (hcd : (x == ("__classdict__" : Str)) = false := by decide)
    (hbase : attributeBase (.Name x xpos) "append" X.env (eval (.Name x xpos) X.env) = eval (.Name x xpos) X.env := by rfl)
    (hfew : ((backTo cpos (starEach [e] X.env)).all (fun x => !x.1) && (backToKw cpos (keywordEach [] X.env)).all (fun x => x.1.isSome) && decide ([e].length + ([] : List Keyword).length + (if ([] : List Keyword).isEmpty then 0 else 1) < 30)) = true := by rfl)
    (hline : (apos.endLine == cpos.line) = true := by rfl) (hs1 : starEach [e] X.env = [(false, eval e X.env)] := by rfl)
    (hs : swapsWith (.Call (.Attribute (.Name x xpos) "append" apos) [e] [] cpos) none pos.line X.env = pure false := by rfl) : Ds X (.Expr (.Call (.Attribute (.Name x xpos) "append" apos) [e] [] cpos) pos) (sApp i f) :=
  PS.weak (ps_expr (pe_bm PySem.F.plainAttrs_list PySem.F.slot_list_append PySem.F.type_list_append mt_append (pe_var hN hv hd hcd) (pa_cons he pa_nil hs1) hbase hfew hline hs1 rfl) hs) fun D σ H ⟨ρ, S, mu, B, O, rl, q⟩ => by
    unfold sApp at q
    split at q
    · rename_i ws hi
      cases z : f ρ S with
      | bad => rw [z] at q; exact q.elim
      | ok w S1 =>
        rw [z, sOf_ok] at q
        by_cases hz : ws.length < sizeLine
        · rw [if_pos hz] at q
          obtain ⟨a, xs, h1, h2, h3, h4, h5⟩ := rl.own i ws hi
          refine ⟨.ref a, h1, .inl ⟨rfl, xs, .inl (.inl h4)⟩, ?_⟩
          refine tD.mk rl z fun v H1 mu1 E r p => ?_
          have h4' : H1 a = some (.lst xs) := E.keep a _ h4 (rl.bn a (.inr h2)).2
          refine ⟨a, xs, v, rfl, rfl, h4', by rw [h5.length]; exact hz, ?_⟩
          exact q σ _ mu1 O ((E.toS r.sto).trans (ExtS.at_own h2)) (r.grow (xs := xs) hi h1 h2 h3 ((h5.ext E).append (.cons p .nil)))
        · rw [if_neg hz] at q
          exact q.elim
    · exact q.elim
def frzE (i : Nat) (ρ : Ev) : Ev := match ρ[i]? with
  | some (some (.own ws)) => ρ.set i (some (.val (.list ws)))
  | _ => ρ
def sFrz (i : Nat) (m : Ms) : Ms := fun ρ S => m (frzE i ρ) S
theorem frz_weak {K : Fg} (i : Nat) : ∀ D σ H, tDs K (sFrz i m) D σ H → tDs K m D σ H := fun D σ H ⟨ρ, S, mu, B, O, rl, q⟩ => by
  unfold sFrz frzE at q
  split at q
  · rename_i ws hi
    obtain ⟨O', hO, r⟩ := rl.freeze hi
    exact ⟨_, S, mu, B, O', r, postS.ext (ExtS.less hO) q⟩
  · exact ⟨ρ, S, mu, B, O, rl, q⟩
theorem dss_frz {sts : List Stmt} (i : Nat) (h : Dss X sts m) : Dss X sts (sFrz i m) := PSs.weak h (frz_weak i)
def sPar (i j : Nat) (fs : Ma) : Ms := fun ρ S => match fs ρ S with
  | .ok [v, w] S1 => .nx ((ρ.set i (some (.val v))).set j (some (.val w))) S1
  | _ => .bad
theorem ds_par {i j : Nat} {x y : Str} {a b : Expr} {px py pt pt2 : Pos} {kt k2 : Nat} (hc : X.calm = true) (hN : X.N.Nodup) (hi : X.N[i]? = some x) (hj : X.N[j]? = some y) (hij : i ≠ j) (hx : X.env.scope.names.lookup x = some .local) (hy : X.env.scope.names.lookup y = some .local) (ha : Da X [a, b] fs)
    (hw : swappedStores [.Tuple [.Name x px, .Name y py] kt pt] (.Tuple [a, b] k2 pt2) X.env = pure (some [x, y])) (hs : swapsWithSole [.Tuple [.Name x px, .Name y py] kt pt] (.Tuple [a, b] k2 pt2) pos.line X.env = pure false := by rfl) :
    Ds X (.Assign [.Tuple [.Name x px, .Name y py] kt pt] (.Tuple [a, b] k2 pt2) pos) (sPar i j fs) :=
  PS.weak (ps_par hc hN hi hj hij hx hy ha hw hs) fun D σ H ⟨ρ, S, mu, B, O, rl, q⟩ => by
    unfold sPar at q
    split at q
    · rename_i v w S1 z
      refine tDa.mk rl z fun vs H1 mu1 E r p => ?_
      cases p with
      | cons p1 p2 => cases p2 with
      | cons p2 p3 =>
        cases p3
        exact ⟨_, _, rfl, q _ H1 mu1 O (E.toS r.sto) ((r.set i p1).set j p2)⟩
    · exact q.elim
def sParO (i j : Nat) (f : Mx) : Ms := fun ρ S => sOf (f ρ S) fun w S1 => .nx ((ρ.set j (some (.val w))).set i (some (.own []))) S1
theorem ds_parO {i j : Nat} {x y : Str} {b : Expr} {px py pt pt2 lpos : Pos} {kt k2 : Nat} (hc : X.calm = true) (hN : X.N.Nodup) (hi : X.N[i]? = some x) (hj : X.N[j]? = some y) (hij : i ≠ j) (hx : X.env.scope.names.lookup x = some .local) (hy : X.env.scope.names.lookup y = some .local) (hb : De X b f)
    (hw : swappedStores [.Tuple [.Name x px, .Name y py] kt pt] (.Tuple [.List [] lpos, b] k2 pt2) X.env = pure (some [x, y])) (hs : swapsWithSole [.Tuple [.Name x px, .Name y py] kt pt] (.Tuple [.List [] lpos, b] k2 pt2) pos.line X.env = pure false := by rfl)
    (h1 : starEach [.List [] lpos, b] X.env = (false, eval (.List [] lpos) X.env) :: starEach [b] X.env := by rfl) (h2 : starEach [b] X.env = [(false, eval b X.env)] := by rfl) :
    Ds X (.Assign [.Tuple [.Name x px, .Name y py] kt pt] (.Tuple [.List [] lpos, b] k2 pt2) pos) (sParO i j f) :=
  PS.weak (ps_par hc hN hi hj hij hx hy (pa_cons (pe_lst pa_nil) (pa_cons hb pa_nil h2) h1) hw hs) fun D σ H ⟨ρ, S, mu, B, O, rl, q⟩ => by
    unfold sParO at q
    cases z : f ρ S with
    | bad => rw [z] at q; exact q.elim
    | ok w S1 =>
      rw [z, sOf_ok] at q
      refine ⟨Nat.zero_le _, fun l hl => ?_⟩
      have r0 := rl.ban hl (.lst [])
      refine tD.mk r0 z fun v H1 mu1 E r p => ?_
      have el : H1 l = some (.lst []) := E.keep l _ upd_same (r0.bn l (.inl (.inr rfl))).2
      refine ⟨.ref l, v, rfl, ?_⟩
      rw [List.set_comm _ _ hij]
      have tr : ∀ a, (B a ∨ O a ∨ a = l) → ((B a ∨ a = l) ∨ O a) := fun a z => z.elim (fun z => .inl (.inl z)) fun z => z.elim .inr fun z => .inl (.inr z)
      have r1 := r.set j p
      have nB : ¬ B l := fun z => (rl.bn l (.inl z)).1.1.1 hl
      refine q _ H1 mu1 (fun a => O a ∨ a = l) ?_ ⟨by simpa only [List.length_set] using r1.len, fun k u e => ?_, fun k us e => ?_, fun k k' us us' a e1 e2 e3 e4 => ?_, r1.sto.weak tr, fun a t => r1.bn a (tr a t)⟩
      · have x0 : Ext mu mu1 H H1 := ⟨E.pre, fun a o h n => E.keep a o (same_upd hl a o h) n, fun a h n => by
          by_cases c : a = l
          · rw [c]; exact hl
          · have := E.new a h n
            rw [upd_ne c] at this
            exact this⟩
        have x1 := Ext.toS (O := O) x0 (r.sto.weak (T' := fun a => B a ∨ O a) fun a z => z.imp .inl id)
        exact ⟨x1.pre, x1.keep, x1.new, fun a z => z.imp id fun (z : a = l) => (congrArg H z).trans hl, x1.tr⟩
      · rcases set_get e with ⟨rfl, e1, hl'⟩ | ⟨c, e⟩
        · cases e1
        · obtain ⟨u', k1, k2⟩ := r1.val k u e
          exact ⟨u', by rw [List.getElem?_set_ne c]; exact k1, k2.weak tr⟩
      · rcases set_get e with ⟨rfl, e1, hl'⟩ | ⟨c, e⟩
        · cases e1
          exact ⟨l, [], by rw [List.getElem?_set_self (by rw [r1.len]; exact hl')], .inr rfl, nB, el, .nil⟩
        · obtain ⟨b', ys, k1, k2, k3, k4, k5⟩ := r1.own k us e
          exact ⟨b', ys, by rw [List.getElem?_set_ne c]; exact k1, .inl k2, fun z => k3 (.inl z), k4, k5.weak tr⟩
      · have old : ∀ {j' : Nat} {us : List Wd} {b' : Addr}, (ρ.set j (some (.val w)))[j']? = some (some (.own us)) → (σ.set j (some v))[j']? = some (some (V.ref b')) → b' ≠ l := fun {j' us b'} e1 e2 e => by
          obtain ⟨a', ys, k1, k2, k3, k4, k5⟩ := r1.own j' us e1
          rw [k1] at e2
          cases e2
          exact k3 (.inr e)
        rcases set_get e1 with ⟨rfl, e1, hl1⟩ | ⟨c, e1⟩
        · rcases set_get e2 with ⟨rfl, e2, hl2⟩ | ⟨c2, e2⟩
          · rfl
          · rw [List.getElem?_set_self (by rw [r1.len]; exact hl1)] at e3
            rw [List.getElem?_set_ne c2] at e4
            cases e3
            exact absurd rfl (old e2 e4)
        · rcases set_get e2 with ⟨rfl, e2, hl2⟩ | ⟨c2, e2⟩
          · rw [List.getElem?_set_self (by rw [r1.len]; exact hl2)] at e4
            rw [List.getElem?_set_ne c] at e3
            cases e4
            exact absurd rfl (old e1 e3)
          · rw [List.getElem?_set_ne c] at e3
            rw [List.getElem?_set_ne c2] at e4
            exact r1.dif k k' us us' a e1 e2 e3 e4
end
end DL
namespace DL
open PySem PySem.Spec PyProof.Rows L2
def tDps (K : Fg) (names : List Str) (fs : Ma) : Sg → Hp → (List (V × V) → Hp → Prop) → Prop := fun σ H Q => ∃ ρ S mu B O, Rel K mu B O H σ ρ S ∧ ∃ ws S', fs ρ S = .ok ws S' ∧ ∀ vs H' mu', Ext mu mu' H H' → StOk K mu' (fun a => B a ∨ O a) H' S' → RpAll K mu' (fun a => B a ∨ O a) H' vs ws → Q ((names.map V.str).zip vs) H'
def Dps (X : Cx) (pos : Pos) (keys : List (Option Expr)) (values : List Expr) (names : List Str) (fs : Ma) : Prop := ∃ trs, PPs X pos keys values trs ∧ (∀ σ H Q, tDps X.K names fs σ H Q → tPairs trs σ H Q) ∧ (∀ ρ S ws S', fs ρ S = .ok ws S' → ws.length = names.length)
section
variable {X : Cx} {pos : Pos}
theorem dps_nil : Dps X pos [] [] [] aNil := ⟨_, pps_nil, fun σ H Q ⟨ρ, S, mu, B, O, rl, ws, S', e, q⟩ => by
  cases e
  exact q [] H mu (.refl _ _) rl.sto .nil, fun ρ S ws S' e => by cases e; rfl⟩
theorem dps_cons {x : Str} {j : Nat} {kp : Pos} {v : Expr} {f : Mx} {ks : List (Option Expr)} {vs : List Expr} {names : List Str} {fs : Ma} (hv : De X v f) (hr : Dps X pos ks vs names fs) : Dps X pos (some (.Constant (.str x) j kp) :: ks) (v :: vs) (x :: names) (aCons f fs) := by
  obtain ⟨trs, p, k, l⟩ := hr
  refine ⟨_, pps_cons pe_str hv p, fun σ H Q ⟨ρ, S, mu, B, O, rl, ws, S', e, q⟩ => ?_, fun ρ S ws S' e => ?_⟩
  · obtain ⟨w, S1, e1, e⟩ := R.bnd_inv e
    obtain ⟨wr, S2, e2, e⟩ := R.bnd_inv e
    cases e
    show tD X.K f σ H _
    refine tD.mk rl e1 fun v' H1 mu1 E r p1 => k σ H1 _ ⟨ρ, S1, mu1, B, O, r, wr, _, e2, fun vs' H2 mu2 E2 st2 p2 => ?_⟩
    exact q (v' :: vs') H2 mu2 (E.trans E2) st2 (.cons (p1.ext E2) p2)
  · obtain ⟨w, S1, e1, e⟩ := R.bnd_inv e
    obtain ⟨wr, S2, e2, e⟩ := R.bnd_inv e
    cases e
    rw [List.length_cons, List.length_cons, l _ _ _ _ e2]
def mRec (names : List Str) (fs : Ma) : Mx := fun ρ S => (fs ρ S).bnd fun ws S1 => .ok (oW S1.length) (S1 ++ [.dct (names.zip ws)])
theorem merge_nodup : ∀ (kvs acc : List (Key × V)), (kvs.map (·.1)).Nodup → (∀ q ∈ kvs, ∀ r ∈ acc, r.1 ≠ q.1) → mergeK acc kvs = acc ++ kvs
  | [], acc, _, _ => by rw [List.append_nil]; rfl
  | (k, v) :: r, acc, h, d => by
    have h' : k ∉ r.map (·.1) ∧ (r.map (·.1)).Nodup := by rw [List.map_cons, List.nodup_cons] at h; exact h
    have e : putK acc k v = acc ++ [(k, v)] := by
      unfold putK
      rw [if_neg]
      intro z
      obtain ⟨q, h1, h2⟩ := List.any_eq_true.mp z
      exact d (k, v) List.mem_cons_self q h1 (of_decide_eq_true h2)
    show mergeK (putK acc k v) r = _
    rw [e, merge_nodup r (acc ++ [(k, v)]) h'.2 fun q hq s hs => ?_]
    · rw [List.append_assoc]
      rfl
    · rcases List.mem_append.mp hs with hs | hs
      · exact d q (List.mem_cons_of_mem _ hq) s hs
      · rw [List.mem_singleton] at hs
        subst hs
        exact fun z => h'.1 (List.mem_map.mpr ⟨q, hq, z.symm⟩)
theorem fs_zip {K : Fg} {mu : List Addr} {T : Addr → Prop} {H : Hp} : ∀ {names : List Str} {vs : List V} {ws : List Wd}, names.length = vs.length → RpAll K mu T H vs ws → FsR K mu T H (names.map (Sum.inr (α := Int)) |>.zip vs) (names.zip ws)
  | [], [], [], _, _ => trivial
  | x :: names, v :: vs, w :: ws, hl, h => by
    cases h with
    | cons a b => exact ⟨rfl, a, fs_zip (by simpa using hl) b⟩
  | [], _ :: _, _, hl, _ => by simp at hl
  | _ :: _, [], _, hl, _ => by simp at hl
theorem zip_keys : ∀ (names : List Str) (vs : List V), (names.map V.str).zip vs = ((names.map (Sum.inr (α := Int))).zip vs).map fun kv => (kV kv.1, kv.2)
  | [], vs => by simp
  | _ :: _, [] => by simp
  | x :: names, v :: vs => by
    simp only [List.map_cons, List.zip_cons_cons]
    rw [zip_keys names vs]
    rfl
theorem de_rec {keys : List (Option Expr)} {values : List Expr} {names : List Str} {fs : Ma} (h : Dps X pos keys values names fs) (hall : keys.all (·.isSome) = true) (hl : keys.length = values.length) (h0 : keys ≠ []) (h15 : keys.length ≤ 15) (hn : names.length ≤ 15) (hnd : names.Nodup) : De X (.Dict keys values pos) (mRec names fs) := by
  obtain ⟨trs, p, k, l⟩ := h
  refine PE.weak (pe_disp p hall hl h0 h15) fun σ H Q ⟨ρ, S, mu, B, O, rl, w, S', e, q⟩ => ?_
  obtain ⟨ws, S1, e1, e⟩ := R.bnd_inv e
  cases e
  intro p np
  have r0 := rl.ban np (.dK [])
  have nT : ¬ (B p ∨ O p) := rl.bn.fresh np
  refine k σ _ _ ⟨ρ, S, mu, _, O, r0, ws, S1, e1, fun vs H1 mu1 E st pv => ?_⟩
  have lw := l ρ S ws S1 e1
  have lv : names.length = vs.length := by rw [pv.length]; exact lw.symm
  have np1 : p ∉ mu := (r0.bn p (.inl (.inr rfl))).2
  have ep : H1 p = some (.dK []) := E.keep p _ upd_same np1
  have np2 : p ∉ mu1 := E.notin upd_same np1
  refine ⟨ep, (names.map (Sum.inr (α := Int))).zip vs, zip_keys names vs, by rw [List.length_zip, List.length_map]; omega, ?_⟩
  have nk : (((names.map (Sum.inr (α := Int))).zip vs).map (·.1)).Nodup := by
    rw [List.map_fst_zip (by rw [List.length_map]; omega)]
    exact List.pairwise_map.mpr (hnd.imp fun h z => h (Sum.inr.inj z))
  rw [merge_nodup _ [] nk (fun _ _ r hr => by cases hr), List.nil_append]
  have bn1 : Bn mu1 (fun a => (B a ∨ a = p) ∨ O a) H1 := (r0.bn).ext E
  have st2 := StOk.newRec st ep np2 (.inl (.inr rfl)) bn1 (fs_zip lv pv)
  have hlen : mu1.length = S1.length := st.len
  refine q (.ref p) _ (mu1 ++ [p]) ⟨fun l a h => ?_, fun a o h n => ?_, fun a h n => ?_⟩ (st2.weak fun a z => z.imp .inl id) (.obj ?_)
  · have h2 := E.pre l a h
    rw [List.getElem?_append_left (List.getElem?_eq_some_iff.mp h2).1]
    exact h2
  · rw [upd_ne (ne_of_none h np)]
    exact E.keep a o (same_upd np a o h) n
  · rcases List.mem_append.mp h with h | h
    · by_cases c : a = p
      · rw [c]; exact np
      · have := E.new a h n
        rw [upd_ne c] at this
        exact this
    · rw [List.mem_singleton] at h
      rw [h]; exact np
  · rw [← hlen, List.getElem?_append_right (Nat.le_refl _), Nat.sub_self]
    rfl
def sPut (fo : Mx) (x : Str) (f : Mx) : Ms := fun ρ S => sOf (f ρ S) fun w S1 => sOf (fo ρ S1) fun o S2 => match o with
  | .dict [(.none, .int (.ofNat l))] => (match recPut S2 l x w with
    | some S3 => .nx ρ S3
    | none => .bad)
  | _ => .bad
theorem ds_put {o value : Expr} {fo f : Mx} {x : Str} {j : Nat} {kp pos' : Pos} (hu : X.A.units + 1 < cLine) (ho : De X o fo) (hv : De X value f) (hs : swapsWith value (some (.Subscript o (.Constant (.str x) j kp) pos')) pos.line X.env = pure false := by rfl) :
    Ds X (.Assign [.Subscript o (.Constant (.str x) j kp) pos'] value pos) (sPut fo x f) :=
  PS.weak (ps_dput hu ho pe_str hv hs) fun D σ H ⟨ρ, S, mu, B, O, rl, q⟩ => by
    unfold sPut at q
    cases z : f ρ S with
    | bad => rw [z] at q; exact q.elim
    | ok w S1 =>
      rw [z, sOf_ok] at q
      cases y : fo ρ S1 with
      | bad => rw [y] at q; exact q.elim
      | ok od S2 =>
        rw [y, sOf_ok] at q
        refine tD.mk rl z fun v H1 mu1 E1 r1 p1 => tD.mk r1 y fun u H2 mu2 E2 r2 p2 => ?_
        split at q
        · rename_i l
          cases t : recPut S2 l x w with
          | none => rw [t] at q; exact q.elim
          | some S3 =>
            rw [t] at q
            unfold recPut at t
            split at t
            · rename_i fs hS
              obtain ⟨hz, rfl⟩ := ite_inv t
              cases p2 with
              | @obj a _ hl =>
                obtain ⟨kvs, h1, h2⟩ := r2.sto.ok _ _ _ hl hS
                refine ⟨a, _, rfl, DPut.k (k := Sum.inr x) h1 (by rw [h2.length]; exact hz), ?_⟩
                have st := r2.sto.put (x := x) hl hS h1 h2 (p1.ext E2)
                have ex : Ext mu2 mu2 H2 (upd H2 a (.dK (putK kvs (Sum.inr x) v))) := .at_mu (List.mem_of_getElem? hl)
                exact q σ _ mu2 O (((E1.trans E2).trans ex).toS st) (r2.ext ex st)
              | dct a b => exact (kv_none b).elim
            · cases t
        · exact q.elim
end
section
variable {X : Cx} {fi : Mi} {g : Mg} {t : Mt} {fe : Mx} {elt tgx iter : Expr} {ifs : List Expr} {scope : Scope} {own : List (Str × Nat)} {pos spos py : Pos} {i : Nat} {y : Str}
theorem ds_setLc (hc : X.calm = true) (hN : X.N.Nodup) (hy : X.N[i]? = some y) (hyl : X.env.scope.names.lookup y = some .local) (hsw : swapsWith (.ListComp elt [⟨tgx, iter, ifs, 0⟩] scope pos) (some (.Name y py)) spos.line X.env = pure true) (hi : Di X tgx iter fi) (ok : BlkOk X.N X.env.scope scope own)
    (hg : DgF (X.fam scope) X.K (own.map (·.2)) tgx g)
    (ht : ∀ (s : Shared) (H : Hp) (C : Addr) (cl : List (Str × Addr)) (fp : List Addr), DTs (X.blk s H scope (compEnvC scope cl C X.env) fp) ifs t)
    (he : ∀ (s : Shared) (H : Hp) (C : Addr) (cl : List (Str × Addr)) (fp : List Addr), De (X.blk s H scope (compEnvC scope cl C X.env) fp) elt fe) (hs : ∀ x, foldedSetIterable iter X.env x = pure x := by intro _; rfl) :
    Ds X (.Assign [.Name y py] (.ListComp elt [⟨tgx, iter, ifs, 0⟩] scope pos) spos) (sSet i (mLc (own.map (·.2)) fi g t fe)) := by
  obtain ⟨tg, pg, kg⟩ := hg
  refine PS.weak (ps_setLc (tt := tDt X.K t) (te := tD X.K fe) hc hN hy hyl hsw hi ok (fun s H C cl fp => pg (s, H, C, cl, fp)) ht he hs) fun D σ H ⟨ρ, S, mu, B, O, rl, q⟩ => ?_
  unfold sSet at q
  cases z : mLc (own.map (·.2)) fi g t fe ρ S with
  | bad => rw [z] at q; exact q.elim
  | ok w S1 =>
    rw [z, sOf_ok] at q
    refine lc_core' (fun J v w ws hJ mu B O H S st bn p => ?_) (fun σ => wipe_idem σ _) σ H _ (tD.mk rl z fun v H1 mu1 E r p => q _ H1 mu1 O (E.toS r.sto) (r.set i p))
    obtain ⟨h1, h2⟩ := hJ mu _ H S st bn p
    exact ⟨fun i d e => ⟨(h1 i d e).1, fun x H' hy => ⟨((h1 i d e).2 x H' hy).1, fun σ ρ ρ' Q r eg k => kg mu B O H' σ ρ ρ' S x d Q r ((h1 i d e).2 x H' hy).2 eg k⟩⟩, h2⟩
end
abbrev Gd := List Wd → Sto → R Wd
def spD (K : Fg) (g : Gd) (vs : List V) (H : Hp) (Q : VK) : Prop := ∃ ws S mu T, StOk K mu T H S ∧ Bn mu T H ∧ RpAll K mu T H vs ws ∧ ∃ w S', g ws S = .ok w S' ∧ ∀ v H' mu', Ext mu mu' H H' → StOk K mu' T H' S' → Rp K mu' T H' v w → Q v H'
structure FnD (G : Bool) (P : Program) (w : World) (K : Fg) (mg : Str → Option Value) (base : Heap) (k : Nat) (f : Addr) (fd : FuncData) (ps : List Str) (g : Gd) : Prop where
  len : ∀ ws S v S', g ws S = .ok v S' → ws.length = ps.length
  run : ∀ (A : Around) (outer : List Env) (s : Shared) (H : Hp) (args : Args) (us : List Value) (vs : List V) (Q : VK), Room k A → (G = true → A.guards = some []) → Env0 P w K mg base A outer s H → BindsTo s fd args (ps.zip us) → Vals vs us → spD K g vs H Q →
    codeAny (model P w) A (.call (.ref f) args) (CR CX0 outer P w H s Q E0) s
variable {G : Bool}
theorem nog {p : Prop} : (false = true → p) := fun z => by cases z
def startE (n : Nat) (ws : List Wd) : Ev := ws.map (fun w => some (.val w)) ++ List.replicate (n - ws.length) none
def runDef (n p : Nat) (m : Ms) : Gd := fun ws S => if ws.length = p then (match m (startE n ws) S with
  | .nx _ S' => .ok .none S'
  | .rt w S' => .ok w S'
  | _ => .bad) else .bad
theorem FnD.mono {P : Program} {w : World} {K : Fg} {mg : Str → Option Value} {base : Heap} {j k : Nat} {f : Addr} {fd : FuncData} {ps : List Str} {g : Gd} (F : FnD G P w K mg base j f fd ps g) (h : j ≤ k) : FnD G P w K mg base k f fd ps g :=
  ⟨F.len, fun A outer s H args us vs Q hr => F.run A outer s H args us vs Q (hr.mono h)⟩
theorem FnD.imp {P : Program} {w : World} {K : Fg} {mg : Str → Option Value} {base : Heap} {k : Nat} {f : Addr} {fd : FuncData} {ps : List Str} {g g' : Gd} (F : FnD G P w K mg base k f fd ps g) (h : ∀ ws S v S', g' ws S = .ok v S' → g ws S = .ok v S') : FnD G P w K mg base k f fd ps g' :=
  ⟨fun ws S v S' e => F.len ws S v S' (h _ _ _ _ e), fun A outer s H args us vs Q hr hg e0 hb r ⟨ws, S, mu, T, h1, h2, h3, v, S', e, q⟩ => F.run A outer s H args us vs Q hr hg e0 hb r ⟨ws, S, mu, T, h1, h2, h3, v, S', h _ _ _ _ e, q⟩⟩
theorem start_rel {K : Fg} {mu : List Addr} {T : Addr → Prop} {H : Hp} {S : Sto} {N : List Str} {vs : List V} {ws : List Wd} (st : StOk K mu T H S) (bn : Bn mu T H) (r : RpAll K mu T H vs ws) : Rel K mu T (fun _ => False) H (L2.start N vs) (startE N.length ws) S := by
  have tr : ∀ a, (T a ∨ False) → T a := fun a z => z.elim id False.elim
  have hl := r.length
  refine ⟨?_, fun i w e => ?_, fun i us e => ?_, fun i j us us' a e _ _ _ => ?_, st.weak tr, fun a t => bn a (tr a t)⟩
  · unfold L2.start startE
    rw [List.length_append, List.length_append, List.length_map, List.length_map, List.length_replicate, List.length_replicate, hl]
  · unfold startE at e
    by_cases c : i < ws.length
    · rw [List.getElem?_append_left (by rw [List.length_map]; exact c), List.getElem?_map] at e
      obtain ⟨w', e1, e2⟩ := Option.map_eq_some_iff.mp e
      cases e2
      obtain ⟨v, e3, e4⟩ := r.get e1
      refine ⟨v, ?_, e4.weak tr⟩
      unfold L2.start
      rw [List.getElem?_append_left (by rw [List.length_map, hl]; exact c), List.getElem?_map, e3]
      rfl
    · rw [List.getElem?_append_right (by rw [List.length_map]; omega)] at e
      have := List.mem_of_getElem? e
      rw [List.mem_replicate] at this
      cases this.2
  all_goals
    unfold startE at e
    by_cases c : i < ws.length
    · rw [List.getElem?_append_left (by rw [List.length_map]; exact c), List.getElem?_map] at e
      obtain ⟨w', e1, e2⟩ := Option.map_eq_some_iff.mp e
      cases e2
    · rw [List.getElem?_append_right (by rw [List.length_map]; omega)] at e
      have := List.mem_of_getElem? e
      rw [List.mem_replicate] at this
      cases this.2
section
variable {P : Program} {w : World} {K : Fg} {mg : Str → Option Value} {base : Heap} {x qual : Str} {params : Arguments} {body : List Stmt} {scope : Scope} {dvs : List V} {kws : List (Str × V)} {f : Addr} {fd : FuncData}
theorem fnD_of {N ps : List Str} {k n p : Nat} {m : Ms} (F : FunD K x qual params body scope dvs kws f fd) (Sc : FnScope N ps scope) (hn : N.length = n) (hp : ps.length = p)
    (hbody : ∀ (cdv : Value) (A : Around) (outer : List Env) (s : Shared) (H : Hp), Room k (A.deeper (envOfC qual scope s.heap.objs.size f cdv)) → (G = true → (A.deeper (envOfC qual scope s.heap.objs.size f cdv)).guards = some []) → Dss (cxOf CX0 P w K mg base N qual scope f cdv A outer s H E0).nox body m) :
    FnD G P w K mg base (k + 1) f fd ps (runDef n p m) := by
  subst hn hp
  obtain ⟨oc, od, dV, kV, doc, pm, an, cdv, ct, osl, rfl, lk, hcd, _, _⟩ := F.ex
  refine ⟨fun ws S v S' e => ?_, fun A outer s H args us vs Q hr hg e0 hb r h => ?_⟩
  · unfold runDef at e
    by_cases c : ws.length = ps.length
    · exact c
    · rw [if_neg c] at e
      cases e
  obtain ⟨ws, S, mu, T, st, bn, rp, v, S', e, q⟩ := h
  unfold runDef at e
  have c : ws.length = ps.length := by
    by_cases c : ws.length = ps.length
    · exact c
    · rw [if_neg c] at e
      cases e
  rw [if_pos c] at e
  have hlen : vs.length = ps.length := by rw [rp.length]; exact c
  have KX : K.In s.heap := e0.mod.kin.keeps fun b o z => (e0.bs b o z).1
  have lim : s.heap.NoLimit := e0.mod.nolimit.keeps fun b o z => (e0.bs b o z).1
  have hkind : ∀ y ∈ ps.zip us, scope.names.lookup y.1 = some .local ∨ (scope.names.lookup y.1 = some .cell ∧ ((cellsFrom (s.heap.objs.size + 1) scope.names []).lookup y.1).isSome = true) := by
    rintro ⟨nm, val⟩ hy
    rcases Sc.par nm (List.of_mem_zip hy).1 with z | z
    · exact .inl z
    · exact .inr ⟨z, PySem.W.cellsFrom_some _ _ _ (.inl z)⟩
  refine codeAny_call_function hr.depth (KX _ _ lk) rfl Sc.co Sc.gen rfl (PySem.W.codeRec_of KX hcd) (hb _ _ _ _ ?_)
  refine wpAny_newFunctionEnv_cells Sc.kind hkind fun env he s1 ic => ?_
  subst he
  refine ⟨lim.keeps ic.toInCall.keep, codeAny_func ?_⟩
  have I : Inv (cxOf CX0 P w K mg base N qual scope f cdv A outer s H E0) [] (L2.start N vs) H s1 := inv_start Sc hr.hd e0 hlen r ic
  have B := hbody cdv A outer s H (hr.deeper _) hg
  have go : tDs K m { nx := fun _ H' => Q .non H', rt := Q } (L2.start N vs) H := by
    refine ⟨startE N.length ws, S, mu, T, fun _ => False, start_rel st bn rp, ?_⟩
    have toE : ∀ {H' : Hp} {mu' : List Addr} {O' : Addr → Prop}, ExtS mu mu' (fun _ => False) O' H H' → Ext mu mu' H H' := fun y => ⟨y.pre, fun a o h n => y.keep a o h n fun z => z, y.new⟩
    cases z : m (startE N.length ws) S with
    | nx ρ' S2 =>
      rw [z] at e
      cases e
      exact fun σ' H' mu' O' y r' => q _ H' mu' (toE y) (r'.sto.weak fun a t => .inl t) .non
    | rt u S2 =>
      rw [z] at e
      cases e
      exact fun v' H' mu' O' y s' r' => q _ H' mu' (toE y) (s'.weak fun a t => .inl t) (r'.weak fun a t => .inl t)
    | bk ρ' S2 => rw [z] at e; cases e
    | ct ρ' S2 => rw [z] at e; cases e
    | bad => rw [z] at e; cases e
  refine wpAny_mono (B.nox.run [] s1 (L2.start N vs) H _ I go) (fun fl s' hs => ?_) fun e s' hs => hs
  have fin : ∀ {σ' : Sg} {H' : Hp} {v' : V} {u : Value}, Inv (cxOf CX0 P w K mg base N qual scope f cdv A outer s H E0) [] σ' H' s' → RelV v' u → Q v' H' → CE outer P w H s Q u s' :=
    fun {σ' H' v' u} J rv z => ⟨v', H', J.os, J.bare, J.base, J.hok, rv, z⟩
  cases fl with
  | ret u =>
    obtain ⟨v', σ', H', J, rv, z⟩ := hs
    exact fin J rv z
  | next =>
    obtain ⟨σ', H', J, z⟩ := hs
    exact fin (v' := V.non) (u := Value.none) J rfl z
  | brk =>
    obtain ⟨_, _, _, z⟩ := hs
    exact False.elim z
  | cont =>
    obtain ⟨_, _, _, z⟩ := hs
    exact False.elim z
end
def mCall (g : Gd) (fs : Ma) : Mx := fun ρ S => (fs ρ S).bnd fun ws S1 => g ws S1
section
variable {X : Cx} {k : Nat} {f : Addr} {fd : FuncData} {ps : List Str} {g : Gd} {x : Str} {p pos : Pos} {e : Expr} {es : List Expr} {fs : Ma}
theorem run_fnD {pins : List (Addr × Obj)} {σ : Sg} {H : Hp} {s : Shared} {Q : VK} {args : Args} {us : List Value} {vs : List V} (F : FnD G X.prog X.w X.K X.mg X.base k f fd ps g) (hr : Room k X.A) (hg : G = true → X.A.guards = some []) (hb : BindsTo s fd args (ps.zip us))
    (I : Inv X pins σ H s) (r : Vals vs us) (h : spD X.K g vs H Q) : wpAny (model X.prog X.w) X.A (call (.ref f) args.pos args.kw) (EP X pins σ Q) X.xe s := by
  refine wpAny_call (codeAny_mono (F.run X.A X.stack s H args us vs Q hr hg I.env0 hb r h) fun r s' hq => ?_)
  cases r with
  | error e => exact False.elim hq
  | ok fl =>
    cases fl with
    | ret u => exact I.after hq
    | next => exact False.elim hq
    | brk => exact False.elim hq
    | cont => exact False.elim hq
theorem call_sp {ws : List Wd} {S1 : Sto} {v : Wd} {S' : Sto} {K : Fg} {mu mu1 : List Addr} {B O : Addr → Prop} {H H1 : Hp} {vs : List V} {Q : VK} (E : Ext mu mu1 H H1) (st : StOk K mu1 (fun a => B a ∨ O a) H1 S1) (bn : Bn mu1 (fun a => B a ∨ O a) H1) (p : RpAll K mu1 (fun a => B a ∨ O a) H1 vs ws) (e : g ws S1 = .ok v S')
    (q : ∀ v' H' mu', Ext mu mu' H H' → StOk K mu' (fun a => B a ∨ O a) H' S' → Rp K mu' (fun a => B a ∨ O a) H' v' v → Q v' H') : spD K g vs H1 Q :=
  ⟨ws, S1, mu1, _, st, bn, p, v, S', e, fun v' H' mu' x s' r' => q v' H' mu' (E.trans x) s' r'⟩
theorem de_call (F : FnD G X.prog X.w X.K X.mg X.base k f fd ps g) (hr : Room k X.A) (hgd : G = true → X.A.guards = some []) (hg : Gl X x) (hm : X.mg x = some (.ref f)) (hk : PySem.W.keepIn X.K (.ref f) = true) (hb : Binds X.K fd ps []) (ha : Da X (e :: es) fs)
    (hdb : (x == ("__debug__" : Str)) = false := by decide) (he : starEach (e :: es) X.env = (false, eval e X.env) :: starEach es X.env := by rfl) (hpl : (backTo pos (starEach es X.env)).any (·.1) = false := by rfl) : De X (.Call (.Name x p) (e :: es) [] pos) (mCall g fs) := by
  refine ⟨fun pins s σ H Q I ⟨ρ, S, mu, B, O, rl, v, S', e1, q⟩ => ?_⟩
  obtain ⟨ws, S1, e2, e3⟩ := R.bnd_inv e1
  refine wpAny_Call_Name_kw (ld_glob I hg hm ?_ hdb)
  refine PySem.W.callWith_K (h₀ := X.base) I.ok.mod.kin hk (thn (ha.run pos pins s σ H (fun vs H1 => ∃ mu1, Ext mu mu1 H H1 ∧ Rel X.K mu1 B O H1 σ ρ S1 ∧ RpAll X.K mu1 (fun a => B a ∨ O a) H1 vs ws) I (tDa.mk rl e2 fun vs H1 mu1 E r p => ⟨mu1, E, r, p⟩)) fun us s1 ⟨vs, H1, I1, r, mu1, E, rl1, p⟩ => ⟨I1.kIn, ?_⟩) he hpl
  have hl : (us ++ []).length = ps.length := by
    rw [List.append_nil, ← r.length, p.length]
    exact F.len _ _ _ _ e3
  have hb1 := hb s1 us I1.kIn hl
  rw [List.append_nil] at hb1
  exact run_fnD (args := ⟨us, []⟩) F hr hgd hb1 I1 r (call_sp E rl1.sto rl1.bn p e3 q)
end
end DL
namespace DL
open PySem PySem.Spec PyProof.Rows L2
theorem call_dict_tup {prog : Program} {w : World} {A : Around} {E : Value → Shared → Prop} {s : Shared} {l : Addr} {ol : Obj} {items : Array Value} {n : Nat} {prs : List (Key × Value)} {Q : Value → Shared → Prop} (hh : A.handled = none)
    (hl : s.heap.get? l = some ol) (hc : ol.cls = .type "tuple") (hd : ol.dict = none) (hi : ol.data = .seq items n) (hs : items.size = prs.length) (hn : prs.length ≤ sizeLine)
    (ht : ∀ (j : Nat) (q : Key × Value), prs[j]? = some q → ∃ (b : Addr) (u : Value), items[j]? = some (.ref b) ∧ IsTup s.heap b #[u, q.2] ∧ keyIs q.1 u = true)
    (h : ∀ h' tk, h'.DictOf (mixKind prog w) s.heap.objs.size (merged [] prs) → (∀ b o, s.heap.get? b = some o → h'.get? b = some o) → Q (.ref s.heap.objs.size) { s with heap := h', toks := tk }) :
    wpAny (model prog w) A (call (.type "dict") [.ref l]) Q E s := by
  have pick : ∀ j : Nat, ∃ f : Addr × Value, ∀ q : Key × Value, prs[j]? = some q → items[j]? = some (Value.ref f.1) ∧ IsTup s.heap f.1 #[f.2, q.2] ∧ keyIs q.1 f.2 = true := fun j => by
    match e : prs[j]? with
    | none => exact ⟨(0, .none), fun q z => by cases z⟩
    | some p =>
      obtain ⟨b, u, z⟩ := ht j p e
      exact ⟨(b, u), fun q y => by cases y; exact z⟩
  obtain ⟨f, hf⟩ := Classical.axiomOfChoice pick
  have at_ : ∀ {j : Nat} {k v : Value}, (prs.mapIdx fun j q => ((f j).2, q.2))[j]? = some (k, v) → ∃ q, prs[j]? = some q ∧ (f j).2 = k ∧ q.2 = v := fun {j k v} z => by
    rw [List.getElem?_mapIdx] at z
    obtain ⟨q, z1, z2⟩ := Option.map_eq_some_iff.mp z
    cases z2
    exact ⟨q, z1, rfl, rfl⟩
  refine PySem.call_dict_pairs (knd := mixKind prog w) (kvs := prs) (.tuple l items (fun j => (f j).1) (prs.mapIdx fun j q => ((f j).2, q.2))) hh ⟨⟨ol, n, hl, hc, hd, hi⟩, by simpa using hs, fun j k v z => ?_⟩ ⟨by simp, fun j k v z => ?_⟩ (by simpa using hn)
    fun h' tk d k => h h' tk d fun b o e => k b o (by simp) e
  · obtain ⟨q, z1, rfl, rfl⟩ := at_ z
    exact ⟨(hf j q z1).1, .inl (hf j q z1).2.1⟩
  · obtain ⟨q, z1, rfl, rfl⟩ := at_ z
    exact ⟨q.1, z1, (hf j q z1).2.2⟩
def putD (ds : List (Wd × Wd)) (k v : Wd) : List (Wd × Wd) := if (ds.any fun q => PyData.eqv q.1 k) = true then ds.map (fun q => if PyData.eqv q.1 k = true then (q.1, v) else q) else ds ++ [(k, v)]
def mergeD (ds : List (Wd × Wd)) (ps : List (Wd × Wd)) : List (Wd × Wd) := ps.foldl (fun acc q => putD acc q.1 q.2) ds
def pairsD : List Wd → Option (List (Wd × Wd))
  | [] => some []
  | .tuple [k, v] :: r => if keyD k = true then (pairsD r).map ((k, v) :: ·) else none
  | _ => none
def gDict : List Wd → Option Wd
  | [.list ys] => (pairsD ys).map fun ps => .dict (mergeD [] ps)
  | [.tuple ys] => (pairsD ys).map fun ps => .dict (mergeD [] ps)
  | _ => none
section
variable {K : Fg} {mu : List Addr} {T : Addr → Prop} {H : Hp}
theorem key_of {v : V} {k : Wd} (h : Rp K mu T H v k) (e : keyD k = true) : ∃ kk : Key, v = kV kk ∧ k = kW kk := by
  cases h with
  | int i => exact ⟨.inl i, rfl, rfl⟩
  | str x => exact ⟨.inr x, rfl, rfl⟩
  | _ => cases e
theorem kv_any (k : Key) : ∀ {kvs : List (Key × V)} {ds : List (Wd × Wd)}, RpKv K mu T H kvs ds → (kvs.any fun q => decide (q.1 = k)) = ds.any fun q => PyData.eqv q.1 (kW k)
  | [], [], _ => rfl
  | (k', v) :: r, (_, d) :: ds, h => by
    cases h with
    | cons a b => rw [List.any_cons, List.any_cons, kv_any k b, eqv_key]
theorem kv_put {v : V} {w : Wd} (k : Key) (p : Rp K mu T H v w) : ∀ {kvs : List (Key × V)} {ds : List (Wd × Wd)}, RpKv K mu T H kvs ds → RpKv K mu T H (kvs.map fun q => if q.1 = k then (q.1, v) else q) (ds.map fun q => if PyData.eqv q.1 (kW k) = true then (q.1, w) else q)
  | [], [], _ => .nil
  | (k', v') :: r, (_, d) :: ds, h => by
    cases h with
    | cons a b =>
      have ih := kv_put k p b
      rw [List.map_cons, List.map_cons]
      by_cases c : k' = k
      · rw [if_pos c, eqv_key, decide_eq_true c, if_pos rfl]
        exact .cons p ih
      · rw [if_neg c, eqv_key, decide_eq_false c, if_neg Bool.false_ne_true]
        exact .cons a ih
theorem kv_snoc {v : V} {w : Wd} (k : Key) (p : Rp K mu T H v w) : ∀ {kvs : List (Key × V)} {ds : List (Wd × Wd)}, RpKv K mu T H kvs ds → RpKv K mu T H (kvs ++ [(k, v)]) (ds ++ [(kW k, w)])
  | [], [], _ => .cons p .nil
  | (k', v') :: r, (_, d) :: ds, h => by
    cases h with
    | cons a b => exact .cons a (kv_snoc k p b)
theorem kv_putK {v : V} {w : Wd} (k : Key) (p : Rp K mu T H v w) {kvs : List (Key × V)} {ds : List (Wd × Wd)} (h : RpKv K mu T H kvs ds) : RpKv K mu T H (putK kvs k v) (putD ds (kW k) w) := by
  unfold putK putD
  rw [kv_any k h]
  split
  · exact kv_put k p h
  · exact kv_snoc k p h
theorem pairs_rp : ∀ {vs : List V} {ws : List Wd} {ps : List (Wd × Wd)}, RpAll K mu T H vs ws → pairsD ws = some ps → ∃ (as : List Addr) (kvs : List (Key × V)), vs = as.map V.ref ∧ Paired (fun p kv => SqT K H p [kV kv.1, kv.2]) as kvs ∧ RpKv K mu T H kvs ps
  | [], [], _, _, e => by cases e; exact ⟨[], [], rfl, .nil, .nil⟩
  | v :: vs, w :: ws, ps, h, e => by
    cases h with
    | cons a b =>
      unfold pairsD at e
      split at e
      · rename_i z; cases z
      · rename_i k u r z
        cases z
        by_cases c : keyD k = true
        · rw [if_pos c] at e
          obtain ⟨m, e1, rfl⟩ := Option.map_eq_some_iff.mp e
          obtain ⟨as, kvs, rfl, h1, h2⟩ := pairs_rp b e1
          cases a with
          | @tup ad xs ds a1 b1 =>
            cases b1 with
            | cons pk b1 => cases b1 with
            | cons pu b1 =>
              cases b1
              obtain ⟨kk, rfl, rfl⟩ := key_of pk c
              exact ⟨ad :: as, (kk, _) :: kvs, rfl, .cons a1.sq h1, .cons pu h2⟩
        · rw [if_neg c] at e
          cases e
      · cases e
theorem merge_rp : ∀ {more : List (Key × V)} {ps : List (Wd × Wd)}, RpKv K mu T H more ps → ∀ {kvs : List (Key × V)} {ds : List (Wd × Wd)}, RpKv K mu T H kvs ds → RpKv K mu T H (mergeK kvs more) (mergeD ds ps)
  | [], [], _, _, _, h => h
  | (k, v) :: r, (_, d) :: ds, h, kvs, acc, h2 => by
    cases h with
    | cons a b => exact merge_rp b (kv_putK k a h2)
end
section
variable {X : Cx}
theorem cd_dict (hc : X.calm = true) : CallD X (.type "dict") gDict := by
  intro pins s σ H xs us Q mu T S ws w I r st bn p e q
  unfold gDict at e
  split at e
  · obtain ⟨ps, e1, rfl⟩ := Option.map_eq_some_iff.mp e
    cases p with
    | cons p1 p2 =>
      cases p2
      cases p1 with
      | lst a b =>
        obtain ⟨as, kvs, rfl, h1, h2⟩ := pairs_rp b e1
        exact call_dictP hc pins s σ H _ us Q I r ⟨_, as, kvs, rfl, a.sq, h1, fun l hl => q _ _ (same_upd hl) (new_dct st bn (merge_rp h2 .nil) hl)⟩
  · obtain ⟨ps, e1, rfl⟩ := Option.map_eq_some_iff.mp e
    cases p with
    | cons p1 p2 =>
      cases p2
      obtain ⟨u, rfl, rx⟩ := vals1 r
      cases p1 with
      | tup a b =>
        cases rx
        obtain ⟨as, kvs, rfl, h1, h2⟩ := pairs_rp b e1
        obtain ⟨its, rv, pt, hz⟩ := I.tuple a.sq
        have ei := refs_at rv
        subst ei
        rw [List.length_map] at hz
        obtain ⟨prs, rel, hl, hpr⟩ := pairs_of I h1
        obtain ⟨o, ho, hcl, n, hdat⟩ := pt
        have hdn : o.dict = none := by
          rcases a with ⟨⟨o', d, z⟩, _⟩ | ⟨_, o', z, d⟩
          · have z2 := (I.hok _ _ z).1
            rw [ho] at z2
            cases z2
            exact d
          · have z2 := I.kIn _ _ z
            rw [ho] at z2
            cases z2
            exact d
        refine call_dict_tup (prs := prs) (I.ok.hd hc) ho hcl hdn hdat (by simp [hl]) (by rw [hl]; exact hz) (fun j q' e => ?_) fun h' tk hd' k => ?_
        · obtain ⟨b, u, e1, e2, e3⟩ := hpr j q' e
          exact ⟨b, u, by simp [e1], e2, e3⟩
        · have hm : (s.heap.objs.size == sysModules) = false := beq_eq_false_iff_ne.mpr (Nat.ne_of_gt I.big)
          have hlen : (mergeK [] kvs).length ≤ sizeLine := by
            refine Nat.le_trans (length_mergeK kvs []) ?_
            rw [List.length_nil, Nat.zero_add, rel.length, hl]
            exact hz
          have nf : H s.heap.objs.size = none := I.hok.fresh (Nat.le_refl _)
          exact ⟨.ref s.heap.objs.size, upd H s.heap.objs.size (.dK (mergeK [] kvs)), I.laid (t' := tk) k (Nat.le_refl _) (show ObjOk X.prog X.w _ _ _ (.dK (mergeK [] kvs)) from ⟨hlen, hm, merged [] prs, KV.merge rel .nil, hd'⟩), rfl, q _ _ (same_upd nf) (new_dct st bn (merge_rp h2 .nil) nf)⟩
  · cases e
theorem de_gstr {x z : Str} {t : Tok} {pos : Pos} (hg : Gl X x) (hm : X.mg x = some (.str z t)) (hd : (x == ("__debug__" : Str)) = false := by decide) : De X (.Name x pos) (mC (.str z)) := de_c (pe_glob (v := .str z) hg hm ⟨t, rfl⟩ hd) fun _ _ _ => .str z
theorem de_gint {x : Str} {z : Int} {t : Tok} {pos : Pos} (hg : Gl X x) (hm : X.mg x = some (.int z t)) (hd : (x == ("__debug__" : Str)) = false := by decide) : De X (.Name x pos) (mC (.int z)) := de_c (pe_glob (v := .int z) hg hm ⟨t, rfl⟩ hd) fun _ _ _ => .int z
def KnD (K : Fg) (v : V) (w : Wd) : Prop := ∀ mu T H, Rp K mu T H v w
theorem de_gdat {x : Str} {a : Addr} {w : Wd} {pos : Pos} (hg : Gl X x) (hm : X.mg x = some (.ref a)) (h : KnD X.K (.ref a) w) (hd : (x == ("__debug__" : Str)) = false := by decide) : De X (.Name x pos) (mC w) := de_c (pe_glob (v := .ref a) hg hm rfl hd) fun mu T H => h mu T H
end
end DL
namespace DL
open PySem PySem.Spec PyProof.Rows L2
variable {G : Bool}
def Dfn (K : Fg) (mg : Str → Option Value) (x : Str) (st : Stmt) : Prop := ∃ f fd, mg x = some (.ref f) ∧ FunD K x x (defArgs st) (defBody st) (defScope st) [] [] f fd
def Cal (G : Bool) (P : Program) (w : World) (K : Fg) (mg : Str → Option Value) (base : Heap) (k : Nat) (x : Str) (st : Stmt) (ps : List Str) (g : Gd) : Prop :=
  ∃ f fd, mg x = some (.ref f) ∧ FunD K x x (defArgs st) (defBody st) (defScope st) [] [] f fd ∧ Binds K fd ps [] ∧ FnD G P w K mg base k f fd ps g
section
variable {X : Cx} {k k' : Nat} {x : Str} {st : Stmt} {ps : List Str} {g : Gd} {p pos : Pos} {e : Expr} {es : List Expr} {fs : Ma}
theorem dc_call (C : Cal G X.prog X.w X.K X.mg X.base k x st ps g) (hr : Room k' X.A) (hk : k ≤ k') (hgd : G = true → X.A.guards = some []) (hg : Gl X x) (ha : Da X (e :: es) fs)
    (hdb : (x == ("__debug__" : Str)) = false := by decide) (he : starEach (e :: es) X.env = (false, eval e X.env) :: starEach es X.env := by rfl) (hpl : (backTo pos (starEach es X.env)).any (·.1) = false := by rfl) : De X (.Call (.Name x p) (e :: es) [] pos) (mCall g fs) := by
  obtain ⟨f, fd, hm, F, hb, G⟩ := C
  exact de_call G (hr.mono hk) hgd hg hm F.kp hb ha hdb he hpl
end
section
variable {P : Program} {w : World} {K : Fg} {mg : Str → Option Value} {base : Heap} {x : Str} {st : Stmt}
theorem cal_of {N ps : List Str} {k n p : Nat} {m : Ms} (D : Dfn K mg x st) (Sc : FnScope N ps (defScope st)) (hn : N.length = n) (hp : ps.length = p)
    (hb : ∀ (kV doc pm : Value) (an : Option Addr) (cdv ct : Value) (us : List Value), us.length = ps.length → bindArgs (PySem.W.fnOf x x (defArgs st) (defBody st) (defScope st) .none kV doc pm an cdv ct) ⟨us, []⟩ = pure (ps.zip us))
    (hbody : ∀ (f : Addr) (cdv : Value) (A : Around) (outer : List Env) (s : Shared) (H : Hp), Room k (A.deeper (envOfC x (defScope st) s.heap.objs.size f cdv)) → (G = true → (A.deeper (envOfC x (defScope st) s.heap.objs.size f cdv)).guards = some []) → Dss (cxOf CX0 P w K mg base N x (defScope st) f cdv A outer s H E0).nox (defBody st) m) :
    Cal G P w K mg base (k + 1) x st ps (runDef n p m) := by
  obtain ⟨f, fd, hm, F⟩ := D
  exact ⟨f, fd, hm, F, F.bindsN hb, fnD_of F Sc hn hp fun cdv A outer s H hr hg => hbody f cdv A outer s H hr hg⟩
theorem Cal.mono {j k : Nat} {ps : List Str} {g : Gd} (C : Cal G P w K mg base j x st ps g) (h : j ≤ k) : Cal G P w K mg base k x st ps g := by
  obtain ⟨f, fd, hm, F, hb, G⟩ := C
  exact ⟨f, fd, hm, F, hb, G.mono h⟩
theorem Cal.imp {k : Nat} {ps : List Str} {g g' : Gd} (C : Cal G P w K mg base k x st ps g) (h : ∀ ws S v S', g' ws S = .ok v S' → g ws S = .ok v S') : Cal G P w K mg base k x st ps g' := by
  obtain ⟨f, fd, hm, F, hb, G⟩ := C
  exact ⟨f, fd, hm, F, hb, G.imp h⟩
end
theorem rp_ints {K : Fg} {mu : List Addr} {T : Addr → Prop} {H : Hp} : ∀ ns : List Int, RpAll K mu T H (ns.map V.int) (ns.map PyData.int)
  | [] => .nil
  | n :: ns => .cons (.int n) (rp_ints ns)
theorem mod_hide {K : Fg} {mg : Str → Option Value} {h : Heap} {H : Hp} (M : Mod K mg h) (away : ∀ b o, h.get? b = some o → K.lookup b = some o ∨ (∃ es ep, o.data = .dict es ep) → H b = none) : Mod K mg (hidT h H) := by
  have ns : ∀ {x : Addr} {m : Str → Option Value}, h.Ns x m → (hidT h H).Ns x m := fun ⟨o, es, ep, e, d, r⟩ => ⟨o, es, ep, hidT_get e (away _ _ e (.inr ⟨es, ep, d⟩)), d, r⟩
  obtain ⟨m1, m2, ⟨mb, m3, m4⟩, mc, m5, m6⟩ := M
  exact ⟨fun b o e => hidT_get (m1 b o e) (away _ _ (m1 b o e) (.inl e)), ns m2, ⟨mb, ns m3, m4⟩, mc, ns m5, m6⟩
section
variable {P : Program} {w : World} {K : Fg} {mg : Str → Option Value} {k : Nat} {fa a : Addr} {fd : FuncData} {x : Str} {g : Gd} {s : Shared} {vs : List Value} {ns : List Int}
abbrev LawEnds (s : Shared) (r : Result) (s' : Shared) : Prop := r = .ok (.ret (.bool true)) ∧ OldK s.heap s'.heap ∧ s'.os = s.os ∧ AllBare s'.gens
theorem law_run {H : Hp} (M : Mod K mg (hidT s.heap H)) (fz : ∀ b u, H b = some u → ∃ o v, u = .frz o v) (hok : HOk P w H s.heap) (hS : LsR K [] (fun _ => False) H a (ns.map V.int)) (hgn : s.gens = #[]) (hr : Room k callerA)
    (F : FnD G P w K mg (hidT s.heap H) k fa fd [x] g) (hbind : ∀ (s : Shared) (u : Value), BindsTo s fd ⟨[u], []⟩ [(x, u)]) (hg : ∃ S', g [.list (ns.map PyData.int)] [] = .ok (.bool true) S') :
    codeAny (model P w) callerA (.call (.ref fa) ⟨[.ref a], []⟩) (LawEnds s) s := by
  obtain ⟨S', hg⟩ := hg
  have none_of : ∀ {b : Addr} {p : Prop}, b ∈ ([] : List Addr) → p := fun h => by cases h
  refine codeAny_mono (F.run callerA [] s H ⟨[.ref a], []⟩ [.ref a] [.ref a] (fun v _ => v = .bl true) hr (fun _ => rfl) ⟨rfl, M, fun _ _ => of_hidT, Nat.le_of_eq (hidT_size ..), trivial, fun _ => none_of, hok, .of_eq hgn⟩ (hbind s _) (.cons rfl .nil)
    ⟨_, [], [], fun _ => False, ⟨rfl, .nil, fun _ _ _ z => by cases z⟩, fun _ => False.elim, .cons (.lst hS (rp_ints ns)) .nil, _, S', hg, fun _ _ _ _ _ z => by cases z; rfl⟩) fun r s' h => ?_
  match r, h with
  | .ok (.ret u), ⟨v, H', os, bare, un, hok', hv, q⟩ =>
    subst q
    obtain rfl : u = Value.bool true := hv
    refine ⟨rfl, OldK.of_keep fun b o e => ?_, os, bare⟩
    cases y : H b with
    | none => exact un.keep b o e y none_of (by simp)
    | some z =>
      obtain ⟨o', v', rfl⟩ := fz b z y
      have same := (hok b _ y).1.symm.trans e
      cases same
      exact (hok' b _ (un.frzs b _ _ y)).1
theorem law_D {mb : Str → Option Value} (KX : K.In s.heap) (hns : s.heap.Ns mainGlobals mg) (hb : s.heap.Ns builtinsNs mb) (hbb : ∀ x : Str, x ≠ "__name__" → mb x = bootBuiltins x) (hlim : s.heap.NoLimit) (hgn : s.gens = #[])
    (ha : s.heap.get? a = some { cls := .type "list", data := .seq vs.toArray }) (hi : IntsAre vs ns) (hl : ns.length ≤ sizeLine) (hr : Room k callerA)
    (F : ∀ base : Heap, K.In base → base.Ns mainGlobals mg → FnD G P w K mg base k fa fd [x] g) (hbind : ∀ (s : Shared) (u : Value), BindsTo s fd ⟨[u], []⟩ [(x, u)])
    (hg : ∃ S', g [.list (ns.map PyData.int)] [] = .ok (.bool true) S') : codeAny (model P w) callerA (.call (.ref fa) ⟨[.ref a], []⟩) (LawEnds s) s := by
  have M : Mod K mg s.heap := ⟨KX, hns, ⟨mb, hb, hbb⟩, hlim⟩
  have z : (ns.map V.int).length ≤ sizeLine := by rw [List.length_map]; exact hl
  cases hk : K.lookup a with
  | some o =>
    obtain rfl := Option.some.inj ((KX a o hk).symm.trans ha)
    have M2 := mod_hide M (H := fun _ => none) fun _ _ _ _ => rfl
    exact law_run M2 (fun _ _ y => by cases y) (fun _ _ y => by cases y) (.inr ⟨vs, _, hk, vals_ints hi, z⟩) hgn hr (F _ M2.kin M2.glob) hbind hg
  | none =>
    have one : ∀ {b : Addr} {u : HO}, (if b = a then some (HO.frz { cls := .type "list", data := .seq vs.toArray } (.lst (ns.map V.int))) else none) = some u → b = a ∧ u = .frz { cls := .type "list", data := .seq vs.toArray } (.lst (ns.map V.int)) := fun {b u} y => by
      split at y
      · exact ⟨by assumption, (Option.some.inj y).symm⟩
      · cases y
    have M2 := mod_hide M (H := fun b => if b = a then some (.frz { cls := .type "list", data := .seq vs.toArray } (.lst (ns.map V.int))) else none) fun b o e c => if_neg fun q => by
      subst q
      rcases c with c | ⟨es, ep, d⟩
      · rw [hk] at c
        cases c
      · obtain rfl := Option.some.inj (e.symm.trans ha)
        cases d
    refine law_run M2 (fun b u y => ⟨_, _, (one y).2⟩) (fun b u y => ?_) (.inl ⟨.inr ⟨_, if_pos rfl⟩, by simp, id⟩) hgn hr (F _ M2.kin M2.glob) hbind hg
    obtain ⟨rfl, rfl⟩ := one y
    exact ⟨ha, z, vs, _, vals_ints hi, ha⟩
end
theorem walk_D {l : PySem.W.OpenLaw} {n k : Nat} {q : Program} {loose : List Str} {XP : (Str → Option Value) → Heap → Prop} {YP : World → Heap → Prop} {d : DefRec} {x : Str} {g : Gd} (hn : l.most = some n) (hn2 : n ≤ sizeLine) (hdf : d.params.defaults = []) (hr : Room k callerA)
    (F : ∀ (w : World) (mg : Str → Option Value) (fa : Addr) (h : Heap), YP w h → h.Ns mainGlobals mg → mg d.name = some (.ref fa) →
      ∃ (K : Fg) (fd : FuncData), K.In h ∧ (∀ (s : Shared) (u : Value), BindsTo s fd ⟨[u], []⟩ [(x, u)]) ∧ ∀ base : Heap, K.In base → base.Ns mainGlobals mg → FnD G l.prog w K mg base k fa fd [x] g)
    (hg : ∀ ns : List Int, ns.length ≤ n → ∃ S', g [.list (ns.map PyData.int)] [] = .ok (.bool true) S') : PySem.W.WalkO q loose XP YP l.row.toRowW d [] (fun f vs => PySem.call f vs) := by
  refine Att.attach_call hn hdf fun w s₀ s₁ mg mb fa o pm cd doc a vs ns G Y ho hd hcd hmg hobj hints hlen hgn => ?_
  obtain ⟨K, fd, KX, hb, hF⟩ := F w mg fa _ Y G.T.g hmg
  exact law_D KX G.T.g G.T.b G.T.builtins G.T.nolimit hgn hobj hints (Nat.le_trans hlen hn2) hr hF hb (hg ns hlen)
end DL
namespace DL
open PySem PySem.Spec PyProof.Rows L2
theorem _root_.L2.Room.u65 {k : Nat} {A : Around} (r : Room k A) : A.units + 65 < cLine := by have := r.un; omega
theorem _root_.L2.Room.u1 {k : Nat} {A : Around} (r : Room k A) : A.units + 1 < cLine := by have := r.un; omega
theorem bt_len : bootBuiltins "len" = some (.builtin "len") := by decide +kernel
theorem bt_all : bootBuiltins "all" = some (.builtin "all") := by decide +kernel
theorem bt_min : bootBuiltins "min" = some (.builtin "min") := by decide +kernel
theorem bt_max : bootBuiltins "max" = some (.builtin "max") := by decide +kernel
theorem bt_int : bootBuiltins "int" = some (.type "int") := by decide +kernel
theorem bt_bool : bootBuiltins "bool" = some (.type "bool") := by decide +kernel
theorem bt_str : bootBuiltins "str" = some (.type "str") := by decide +kernel
theorem bt_list : bootBuiltins "list" = some (.type "list") := by decide +kernel
theorem bt_tuple : bootBuiltins "tuple" = some (.type "tuple") := by decide +kernel
theorem bt_dict : bootBuiltins "dict" = some (.type "dict") := by decide +kernel
section
variable {X : Cx}
theorem vl (i : Nat) {x : Str} {pos : Pos} (hN : X.N[i]? = some x := by rfl) (hv : X.env.scope.names.lookup x = some .local := by rfl) (hd : (x == ("__debug__" : Str)) = false := by rfl) (hcd : (x == ("__classdict__" : Str)) = false := by rfl) : De X (.Name x pos) (mV i) := de_var hN (.inl hv) hd hcd
theorem vc (i : Nat) {x : Str} {pos : Pos} (hN : X.N[i]? = some x := by rfl) (hv : X.env.scope.names.lookup x = some .cell := by rfl) (hd : (x == ("__debug__" : Str)) = false := by rfl) (hcd : (x == ("__classdict__" : Str)) = false := by rfl) : De X (.Name x pos) (mV i) := de_var hN (.inr (.inl hv)) hd hcd
end
theorem cal_bad {G : Bool} {P : Program} {w : World} {K : Fg} {mg : Str → Option Value} {base : Heap} {x : Str} {st : Stmt} {ps : List Str} {k : Nat} (D : Dfn K mg x st)
    (hb : ∀ (kV doc pm : Value) (an : Option Addr) (cdv ct : Value) (us : List Value), us.length = ps.length → bindArgs (PySem.W.fnOf x x (defArgs st) (defBody st) (defScope st) .none kV doc pm an cdv ct) ⟨us, []⟩ = pure (ps.zip us)) : Cal G P w K mg base k x st ps (fun _ _ => .bad) := by
  obtain ⟨f, fd, hm, F⟩ := D
  refine ⟨f, fd, hm, F, F.bindsN hb, ⟨fun ws S v S' e => ?_, fun A outer s H args us vs Q hr hg e0 hb' r h => ?_⟩⟩
  · cases e
  · obtain ⟨_, _, _, _, _, _, _, _, _, e, _⟩ := h
    cases e
end DL
namespace DL
open PySem PySem.Spec PyProof.Rows L2
section
variable {prog : Program} {w : World} {A : Around} {E : Value → Shared → Prop} {s : Shared} {zo Ti To T i1 i2 : Addr} {fp1 fp2 : List Addr} {n1 n2 k : Nat} {P1 P2 : Nat → Value → Prop} {St1 St2 : Nat → Heap → Prop} {b : Bool} {oT : Obj}
structure ZS (zo Ti To i1 i2 : Addr) (St1 St2 : Nat → Heap → Prop) (k : Nat) (h : Heap) : Prop where
  z : (IsZip h zo Ti To .none ∧ ∃ a c, IsTupOf2 h To a c) ∨ ∃ T b, IsZipHeld h zo Ti To T b ∧ (∃ o, h.get? T = some o) ∧ T ∉ [zo, To, i1, i2]
  ti : IsTupOf2 h Ti (.ref i1) (.ref i2)
  s1 : St1 k h
  s2 : St2 k h
theorem ZS.type {h : Heap} (x : ZS zo Ti To i1 i2 St1 St2 k h) : ∃ o, h.get? zo = some o ∧ o.cls = .type "zip" := by
  rcases x.z with ⟨q, _⟩ | ⟨T, b, q, _⟩
  · exact ⟨_, q, rfl⟩
  · exact ⟨_, q, rfl⟩
end
end DL
namespace DL
open PySem PySem.Spec
open AutoSeq1 (wpAny_loadPart')
def PairsIn (h0 h : Heap) (bad : List Addr) (xs ys acc : Array Value) : Prop := ∀ (j : Nat) (v : Value), acc[j]? = some v → ∃ (t : Addr) (x y : Value), v = .ref t ∧ xs[j]? = some x ∧ ys[j]? = some y ∧ IsPair h t x y ∧ t ∉ bad ∧ h0.objs.size ≤ t ∧ ∀ i, i < j → acc[i]? ≠ some v
abbrev ZT (zo Ti To i1 i2 l1 l2 : Addr) (xs ys : Array Value) := ZS zo Ti To i1 i2 (fun i h => h.IsTupleIter i1 l1 i ∧ h.IsTuple l1 xs) (fun i h => h.IsListIter i2 l2 i ∧ h.IsList l2 ys)
section
variable {prog : Program} {w : World} {A : Around} {E : Value → Shared → Prop} {s : Shared} {zo Ti To i1 i2 l1 l2 L : Addr} {xs ys : Array Value}
theorem ZT.fr {k : Nat} {h h' : Heap} (x : ZT zo Ti To i1 i2 l1 l2 xs ys k h) (al : ∀ c o, h.get? c = some o → ∃ o', h'.get? c = some o') (f : ∀ c ∈ [zo, Ti, To, i1, i2, l1, l2], ∀ o, h.get? c = some o → h'.get? c = some o) : ZT zo Ti To i1 i2 l1 l2 xs ys k h' where
  z := x.z.imp (fun ⟨a, b, c, d⟩ => ⟨f zo (by simp) _ a, b, c, f To (by simp) _ d⟩) fun ⟨T, b, a, ⟨o, c⟩, d⟩ => ⟨T, b, f zo (by simp) _ a, al T o c, d⟩
  ti := f Ti (by simp) _ x.ti
  s1 := ⟨x.s1.1.at (f i1 (by simp)), x.s1.2.at (f l1 (by simp))⟩
  s2 := ⟨x.s2.1.at (f i2 (by simp)), x.s2.2.at (f l2 (by simp))⟩
theorem PairsIn.mono {h0 h h' : Heap} {bad : List Addr} {acc : Array Value} (p : PairsIn h0 h bad xs ys acc) (f : ∀ c o, c ∉ bad → h.get? c = some o → h'.get? c = some o) : PairsIn h0 h' bad xs ys acc := fun j v hj =>
  let ⟨t, x, y, a1, a2, a3, a4, a5, a6⟩ := p j v hj
  ⟨t, x, y, a1, a2, a3, f t _ a5 a4, a5, a6⟩
theorem PairsIn.snoc {h0 h h' : Heap} {bad : List Addr} {acc : Array Value} {t : Addr} {x y : Value} (p : PairsIn h0 h bad xs ys acc) (f : ∀ c o, c ∉ bad → h.get? c = some o → h'.get? c = some o) (new : h.get? t = none) (hx : xs[acc.size]? = some x) (hy : ys[acc.size]? = some y)
    (ht : IsPair h' t x y) (hb : t ∉ bad) (h0t : h0.objs.size ≤ t) : PairsIn h0 h' bad xs ys (acc.push (.ref t)) := fun j v hj => by
  have old : ∀ {i : Nat} {u : Value}, i < acc.size → (acc.push (.ref t))[i]? = some u → acc[i]? = some u := fun {i u} hi e => by rwa [Array.getElem?_push, if_neg (Nat.ne_of_lt hi)] at e
  have le : j < acc.size + 1 := by simpa using (Array.getElem?_eq_some_iff.1 hj).1
  by_cases c : j < acc.size
  · obtain ⟨t', x', y', a1, a2, a3, a4, a5, a6, a7⟩ := p j v (old c hj)
    exact ⟨t', x', y', a1, a2, a3, f t' _ a5 a4, a5, a6, fun i hi e => a7 i hi (old (Nat.lt_trans hi c) e)⟩
  · obtain rfl : j = acc.size := by omega
    obtain rfl : Value.ref t = v := by simpa using hj
    refine ⟨t, x, y, rfl, hx, hy, ht, hb, h0t, fun i hi e => ?_⟩
    obtain ⟨t', _, _, a1, _, _, a4, _⟩ := p i _ (old hi e)
    cases a1
    exact absurd (new.symm.trans a4) nofun
end
end DL
namespace DL
open PySem PySem.Spec PyProof.Rows L2
section
variable {X : Cx} {pins : List (Addr × Obj)} {σ : Sg} {s1 : Shared}
end
section
variable {X : Cx} {a b : Expr} {fa fb : Mx} {p p2 pos pos2 : Pos}
end
end DL
namespace DL
open PySem PySem.Spec PyProof.Rows L2
variable {G : Bool}
mutual
def knW (K : Fg) : Wd → Value → Bool
  | .none, .none => true
  | .bool b, .bool c => b == c
  | .int i, .int j _ => decide (i = j)
  | .str x, .str y _ => decide (x = y)
  | .tuple ds, .ref a => (match K.lookup a with
    | some ⟨.type "tuple", none, .seq its _, _⟩ => decide (its.size ≤ sizeLine) && knAll K ds its.toList
    | _ => false)
  | _, _ => false
def knAll (K : Fg) : List Wd → List Value → Bool
  | [], [] => true
  | d :: ds, u :: us => knW K d u && knAll K ds us
  | _, _ => false
end
mutual
theorem knW_ok {K : Fg} : ∀ (d : Wd) (u : Value), knW K d u = true → ∃ v, RelV v u ∧ KnD K v d
  | .none, u, h => by
    cases u with
    | none => exact ⟨.non, rfl, fun _ _ _ => .non⟩
    | _ => cases h
  | .bool b, u, h => by
    cases u with
    | bool c =>
      have e : b = c := by
        have h1 : (b == c) = true := h
        exact eq_of_beq h1
      subst e
      exact ⟨.bl b, rfl, fun _ _ _ => .bl b⟩
    | _ => cases h
  | .int i, u, h => by
    cases u with
    | int j t =>
      have e : i = j := of_decide_eq_true h
      subst e
      exact ⟨.int i, ⟨t, rfl⟩, fun _ _ _ => .int i⟩
    | _ => cases h
  | .str x, u, h => by
    cases u with
    | str y t =>
      have e : x = y := of_decide_eq_true h
      subst e
      exact ⟨.str x, ⟨t, rfl⟩, fun _ _ _ => .str x⟩
    | _ => cases h
  | .tuple ds, u, h => by
    cases u with
    | ref a =>
      have h1 : (match K.lookup a with
        | some ⟨.type "tuple", none, .seq its _, _⟩ => decide (its.size ≤ sizeLine) && knAll K ds its.toList
        | _ => false) = true := h
      split at h1
      · rename_i its n sl q
        obtain ⟨h2, h3⟩ := Bool.and_eq_true_iff.mp h1
        obtain ⟨vs, r, k⟩ := knAll_ok ds its.toList h3
        refine ⟨.ref a, rfl, fun mu T H => .tup (.inr ⟨fun H' => .inr ⟨_, its, n, q, rfl, rfl, of_decide_eq_true h2, r⟩, _, q, rfl⟩) (k mu T H)⟩
      · cases h1
    | _ => cases h
  | .list ds, u, h => by cases u <;> cases h
  | .dict ds, u, h => by cases u <;> cases h
theorem knAll_ok {K : Fg} : ∀ (ds : List Wd) (us : List Value), knAll K ds us = true → ∃ vs, Vals vs us ∧ ∀ mu T H, RpAll K mu T H vs ds
  | [], [], _ => ⟨[], .nil, fun _ _ _ => .nil⟩
  | [], _ :: _, h => by cases h
  | _ :: _, [], h => by cases h
  | d :: ds, u :: us, h => by
    obtain ⟨h1, h2⟩ := Bool.and_eq_true_iff.mp (show (knW K d u && knAll K ds us) = true from h)
    obtain ⟨v, r, k⟩ := knW_ok d u h1
    obtain ⟨vs, rs, ks⟩ := knAll_ok ds us h2
    exact ⟨v :: vs, .cons r rs, fun mu T H => .cons (k mu T H) (ks mu T H)⟩
end
def knB (x : Str) (d : Wd) (K : Fg) : Bool := match PySem.W.nsIn K mainGlobals x with
  | some (some (.ref a)) => knW K d (.ref a)
  | _ => false
theorem knB_ok {K : Fg} {h : Heap} {mg : Str → Option Value} (X : K.In h) (G : h.Ns mainGlobals mg) {x : Str} {d : Wd} (c : knB x d K = true) : ∃ a, mg x = some (.ref a) ∧ KnD K (.ref a) d := by
  unfold knB at c
  split at c
  · rename_i a e
    obtain ⟨v, r, k⟩ := knW_ok d (.ref a) c
    have ev : v = .ref a := RelV.inj r (show RelV (.ref a) (.ref a) from rfl)
    subst ev
    exact ⟨a, PySem.W.mg_of X G e, k⟩
  · cases c
theorem Cal.fnD {P : Program} {w : World} {K : Fg} {mg : Str → Option Value} {base : Heap} {k : Nat} {x : Str} {st : Stmt} {ps : List Str} {g : Gd} {f : Addr} {fd : FuncData} (C : Cal G P w K mg base k x st ps g) (hm : mg x = some (.ref f))
    (F : FunD K x x (defArgs st) (defBody st) (defScope st) [] [] f fd) : FnD G P w K mg base k f fd ps g := by
  obtain ⟨f', fd', hm', F', _, G⟩ := C
  rw [hm] at hm'
  cases hm'
  obtain ⟨_, _, _, _, _, _, _, _, _, _, _, l1, _⟩ := F.ex
  obtain ⟨_, _, _, _, _, _, _, _, _, _, _, l2, _⟩ := F'.ex
  rw [l1] at l2
  cases l2
  exact G
end DL
set_option maxHeartbeats 0
namespace K28
open PySem PySem.Spec PyProof.Rows L2 DL
def top (i : Nat) : Stmt := PySem.Challenge.pw_whichfirst_k28_whole_days.main.body.getD i (.Pass ⟨0, 0, 0, 0⟩)
abbrev c_COUNT_WORDS : Wd := (.tuple [(.str "hours"), (.str "cycles"), (.str "days")])
abbrev c_JOINING_WORDS : Wd := (.tuple [(.str "first"), (.str "later")])
abbrev c_NO_USE : Wd := (.tuple [(.int 0), (.int 0)])
def d__law_feed : He.DefD := ⟨("_law_feed", none), "_law_feed", "_law_feed", defArgs (top 51), defBody (top 51), defScope (top 51), [], []⟩
def d__law_draw : He.DefD := ⟨("_law_draw", none), "_law_draw", "_law_draw", defArgs (top 52), defBody (top 52), defScope (top 52), [], []⟩
def d__law_any : He.DefD := ⟨("_law_any", none), "_law_any", "_law_any", defArgs (top 53), defBody (top 53), defScope (top 53), [], []⟩
def d__law_stays : He.DefD := ⟨("_law_stays", none), "_law_stays", "_law_stays", defArgs (top 57), defBody (top 57), defScope (top 57), [], []⟩
def d__law_rule : He.DefD := ⟨("_law_rule", none), "_law_rule", "_law_rule", defArgs (top 56), defBody (top 56), defScope (top 56), [], []⟩
def d__law_plot : He.DefD := ⟨("_law_plot", none), "_law_plot", "_law_plot", defArgs (top 58), defBody (top 58), defScope (top 58), [], []⟩
def d__law_most : He.DefD := ⟨("_law_most", none), "_law_most", "_law_most", defArgs (top 59), defBody (top 59), defScope (top 59), [], []⟩
def d_moved_limit : He.DefD := ⟨("moved_limit", none), "moved_limit", "moved_limit", defArgs (top 38), defBody (top 38), defScope (top 38), [], []⟩
def d_steady_day : He.DefD := ⟨("steady_day", none), "steady_day", "steady_day", defArgs (top 31), defBody (top 31), defScope (top 31), [], []⟩
def d_place_on : He.DefD := ⟨("place_on", none), "place_on", "place_on", defArgs (top 26), defBody (top 26), defScope (top 26), [], []⟩
def d_use_on : He.DefD := ⟨("use_on", none), "use_on", "use_on", defArgs (top 27), defBody (top 27), defScope (top 27), [], []⟩
def d_part_use : He.DefD := ⟨("part_use", none), "part_use", "part_use", defArgs (top 30), defBody (top 30), defScope (top 30), [], []⟩
def d_plain_passing : He.DefD := ⟨("plain_passing", none), "plain_passing", "plain_passing", defArgs (top 32), defBody (top 32), defScope (top 32), [], []⟩
def d_first_passing : He.DefD := ⟨("first_passing", none), "first_passing", "first_passing", defArgs (top 33), defBody (top 33), defScope (top 33), [], []⟩
def d_require_usable : He.DefD := ⟨("require_usable", none), "require_usable", "require_usable", defArgs (top 18), defBody (top 18), defScope (top 18), [], []⟩
def d_is_name : He.DefD := ⟨("is_name", none), "is_name", "is_name", defArgs (top 8), defBody (top 8), defScope (top 8), [], []⟩
def d_index_among : He.DefD := ⟨("index_among", none), "index_among", "index_among", defArgs (top 24), defBody (top 24), defScope (top 24), [], []⟩
def d_part_names : He.DefD := ⟨("part_names", none), "part_names", "part_names", defArgs (top 23), defBody (top 23), defScope (top 23), [], []⟩
def d_stays_of : He.DefD := ⟨("stays_of", none), "stays_of", "stays_of", defArgs (top 25), defBody (top 25), defScope (top 25), [], []⟩
def d_lasting : He.DefD := ⟨("lasting", none), "lasting", "lasting", defArgs (top 39), defBody (top 39), defScope (top 39), [], []⟩
def d_inner_pairs : He.DefD := ⟨("inner_pairs", none), "inner_pairs", "inner_pairs", defArgs (top 10), defBody (top 10), defScope (top 10), [], []⟩
def d_all_pairs : He.DefD := ⟨("all_pairs", none), "all_pairs", "all_pairs", defArgs (top 19), defBody (top 19), defScope (top 19), [], []⟩
def d_number_for : He.DefD := ⟨("number_for", none), "number_for", "number_for", defArgs (top 20), defBody (top 20), defScope (top 20), [], []⟩
def d_widened : He.DefD := ⟨("widened", none), "widened", "widened", defArgs (top 21), defBody (top 21), defScope (top 21), [], []⟩
def d_task_late : He.DefD := ⟨("task_late", none), "task_late", "task_late", defArgs (top 41), defBody (top 41), defScope (top 41), [], []⟩
def d_task_early : He.DefD := ⟨("task_early", none), "task_early", "task_early", defArgs (top 42), defBody (top 42), defScope (top 42), [], []⟩
def d_task_named : He.DefD := ⟨("task_named", none), "task_named", "task_named", defArgs (top 37), defBody (top 37), defScope (top 37), [], []⟩
def d_is_integer : He.DefD := ⟨("is_integer", none), "is_integer", "is_integer", defArgs (top 5), defBody (top 5), defScope (top 5), [], []⟩
def d_is_number : He.DefD := ⟨("is_number", none), "is_number", "is_number", defArgs (top 6), defBody (top 6), defScope (top 6), [], []⟩
def d_named_base : He.DefD := ⟨("named_base", none), "named_base", "named_base", defArgs (top 43), defBody (top 43), defScope (top 43), [], []⟩
def d_early_day : He.DefD := ⟨("early_day", none), "early_day", "early_day", defArgs (top 46), defBody (top 46), defScope (top 46), [], []⟩
def d_task_due : He.DefD := ⟨("task_due", none), "task_due", "task_due", defArgs (top 40), defBody (top 40), defScope (top 40), [], []⟩
def d_due_day : He.DefD := ⟨("due_day", none), "due_day", "due_day", defArgs (top 44), defBody (top 44), defScope (top 44), [], []⟩
def d_late_day : He.DefD := ⟨("late_day", none), "late_day", "late_day", defArgs (top 45), defBody (top 45), defScope (top 45), [], []⟩
def d__law_three : He.DefD := ⟨("_law_three", none), "_law_three", "_law_three", defArgs (top 60), defBody (top 60), defScope (top 60), [], []⟩
def d_task_window : He.DefD := ⟨("task_window", none), "task_window", "task_window", defArgs (top 47), defBody (top 47), defScope (top 47), [], []⟩
def d_window_of : He.DefD := ⟨("window_of", none), "window_of", "window_of", defArgs (top 48), defBody (top 48), defScope (top 48), [], []⟩
def d__law_before : He.DefD := ⟨("_law_before", none), "_law_before", "_law_before", defArgs (top 55), defBody (top 55), defScope (top 55), [], []⟩
def d_limit_word : He.DefD := ⟨("limit_word", none), "limit_word", "limit_word", defArgs (top 9), defBody (top 9), defScope (top 9), [], []⟩
def d_is_amount : He.DefD := ⟨("is_amount", none), "is_amount", "is_amount", defArgs (top 7), defBody (top 7), defScope (top 7), [], []⟩
def d_limit_fault : He.DefD := ⟨("limit_fault", none), "limit_fault", "limit_fault", defArgs (top 11), defBody (top 11), defScope (top 11), [], []⟩
def d_is_limit : He.DefD := ⟨("is_limit", none), "is_limit", "is_limit", defArgs (top 12), defBody (top 12), defScope (top 12), [], []⟩
def d_passing_day : He.DefD := ⟨("passing_day", none), "passing_day", "passing_day", defArgs (top 34), defBody (top 34), defScope (top 34), [], []⟩
def d__law_shifted : He.DefD := ⟨("_law_shifted", none), "_law_shifted", "_law_shifted", defArgs (top 54), defBody (top 54), defScope (top 54), [], []⟩
def d__law_ends_right : He.DefD := ⟨("_law_ends_right", none), "_law_ends_right", "_law_ends_right", defArgs (top 61), defBody (top 61), defScope (top 61), [], []⟩
def d__law_with : He.DefD := ⟨("_law_with", none), "_law_with", "_law_with", defArgs (top 62), defBody (top 62), defScope (top 62), [], []⟩
def d_windows_of : He.DefD := ⟨("windows_of", none), "windows_of", "windows_of", defArgs (top 49), defBody (top 49), defScope (top 49), [], []⟩
def d__law_agrees : He.DefD := ⟨("_law_agrees", none), "_law_agrees", "_law_agrees", defArgs (top 63), defBody (top 63), defScope (top 63), [], []⟩
def d_law : He.DefD := ⟨("law", none), "law", "law", defArgs (top 64), defBody (top 64), defScope (top 64), [], []⟩
def hfn : List He.DefD := [d__law_feed, d__law_draw, d__law_any, d__law_stays, d__law_rule, d__law_plot, d__law_most, d_moved_limit, d_steady_day, d_place_on, d_use_on, d_part_use, d_plain_passing, d_first_passing, d_require_usable, d_is_name, d_index_among, d_part_names, d_stays_of, d_lasting, d_inner_pairs, d_all_pairs, d_number_for, d_widened, d_task_late, d_task_early, d_task_named, d_is_integer, d_is_number, d_named_base, d_early_day, d_task_due, d_due_day, d_late_day, d__law_three, d_task_window, d_window_of, d__law_before, d_limit_word, d_is_amount, d_limit_fault, d_is_limit, d_passing_day, d__law_shifted, d__law_ends_right, d__law_with, d_windows_of, d__law_agrees, d_law]
def hfa : List He.Fa := [.glo "_law_feed", .glo "_law_draw", .glo "_law_any", .glo "_law_stays", .glo "_law_rule", .glo "_law_plot", .glo "_law_most", .glo "moved_limit", .glo "steady_day", .glo "place_on", .glo "use_on", .glo "part_use", .glo "plain_passing", .glo "first_passing", .glo "require_usable", .glo "is_name", .glo "index_among", .glo "part_names", .glo "stays_of", .glo "lasting", .glo "inner_pairs", .glo "all_pairs", .glo "number_for", .glo "widened", .glo "task_late", .glo "task_early", .glo "task_named", .glo "is_integer", .glo "is_number", .glo "named_base", .glo "early_day", .glo "task_due", .glo "due_day", .glo "late_day", .glo "_law_three", .glo "task_window", .glo "window_of", .glo "_law_before", .glo "limit_word", .glo "is_amount", .glo "limit_fault", .glo "is_limit", .glo "passing_day", .glo "_law_shifted", .glo "_law_ends_right", .glo "_law_with", .glo "windows_of", .glo "_law_agrees", .glo "law", .free "all", .free "bool", .free "dict", .free "enumerate", .free "int", .free "isinstance", .free "len", .free "list", .free "max", .free "min", .free "range", .free "str", .free "tuple", .free "zip", .str "KEPT" "kept", .str "LETTERS" "abcdefghijklmnopqrstuvwxyz", .int "LONGEST_NAME" 8]
def hex_ (K : Fg) : Bool := (knB "COUNT_WORDS" c_COUNT_WORDS K && (knB "JOINING_WORDS" c_JOINING_WORDS K && (knB "NO_USE" c_NO_USE K && true)))
abbrev hR : PySem.W.OpenRow := PySem.W.OpenLaw.row PySem.Challenge.rw_whichfirst_k28_whole_days
def hn0 : List PySem.Str := ["LETTERS", "LONGEST_NAME", "COUNT_WORDS", "JOINING_WORDS", "is_integer", "is_number", "is_amount", "is_name", "limit_word", "inner_pairs", "limit_fault", "is_limit", "WhichError", "SiteError", "NotUsable", "require_usable", "all_pairs", "number_for", "widened", "part_names", "index_among", "stays_of", "place_on", "use_on", "NO_USE", "part_use", "steady_day", "plain_passing", "first_passing", "passing_day"]
def hn1 : List PySem.Str := ["KEPT", "task_named", "moved_limit", "lasting", "task_due", "task_late", "task_early", "named_base", "due_day", "late_day", "early_day", "task_window", "window_of", "windows_of", "_law_feed", "_law_draw", "_law_any", "_law_shifted", "_law_before", "_law_rule", "_law_stays", "_law_plot", "_law_most", "_law_three", "_law_ends_right", "_law_with", "_law_agrees"]
def hnames : List PySem.Str := hn0 ++ hn1
abbrev hhk : PySem.W.Hook := He.hookX 4 hfa hfn [] [] hex_
def hob (s : PySem.W.SharedT) : He.AlX := He.obsX 4 hfa hfn [] [] hex_ (HandSHeadRun.getT s)
theorem hob_eq (s : PySem.W.SharedT) : hob s = hhk.obs s.abs := He.obsX_eq (HandSHeadRun.getT_eq s)
theorem hrun (w : World) : HandSHeadRun.RunEq hR (PySem.W.view hR.prog [64]) hhk hob 4000 hnames w := by
  intro os
  kernel_rfl
end K28
namespace DL
open PySem PySem.Spec PyProof.Rows L2
def wpE {α : Type} (x : R α) (Q : α → Sto → Prop) : Prop := match x with
  | .ok a S => Q a S
  | .bad => False
def wpS (o : Out) (N : Ev → Sto → Prop) (Rt : Wd → Sto → Prop) : Prop := match o with
  | .nx ρ S => N ρ S
  | .rt w S => Rt w S
  | _ => False
theorem wpE_mono {α : Type} {x : R α} {Q Q' : α → Sto → Prop} (h : wpE x Q) (q : ∀ a S, Q a S → Q' a S) : wpE x Q' := by
  cases x with
  | ok a S => exact q a S h
  | bad => exact h
theorem wpS_mono {x : Out} {N N' : Ev → Sto → Prop} {Q Q' : Wd → Sto → Prop} (h : wpS x N Q) (n : ∀ a S, N a S → N' a S) (q : ∀ a S, Q a S → Q' a S) : wpS x N' Q' := by
  cases x with
  | nx ρ S => exact n ρ S h
  | rt w S => exact q w S h
  | bk => exact h
  | ct => exact h
  | bad => exact h
@[simp] theorem wpE_ok {α : Type} {a : α} {S : Sto} {Q : α → Sto → Prop} : wpE (.ok a S) Q = Q a S := rfl
@[simp] theorem wpE_bad {α : Type} {Q : α → Sto → Prop} : wpE (.bad : R α) Q = False := rfl
@[simp] theorem wpE_bnd {α β : Type} {x : R α} {k : α → Sto → R β} {Q : β → Sto → Prop} : wpE (x.bnd k) Q = wpE x fun a S => wpE (k a S) Q := by cases x <;> rfl
@[simp] theorem wpE_ite {α : Type} {c : Prop} [Decidable c] {x y : R α} {Q : α → Sto → Prop} : wpE (if c then x else y) Q = if c then wpE x Q else wpE y Q := by split <;> rfl
theorem wpE_ex {α : Type} {x : R α} {Q : α → Sto → Prop} : wpE x Q ↔ ∃ a S, x = .ok a S ∧ Q a S := by
  cases x with
  | ok a S => exact ⟨fun h => ⟨a, S, rfl, h⟩, fun ⟨_, _, e, q⟩ => by cases e; exact q⟩
  | bad => exact ⟨fun h => h.elim, fun ⟨_, _, e, _⟩ => by cases e⟩
@[simp] theorem wpS_nx {ρ : Ev} {S : Sto} {N : Ev → Sto → Prop} {Q : Wd → Sto → Prop} : wpS (.nx ρ S) N Q = N ρ S := rfl
@[simp] theorem wpS_rt {ρ : Wd} {S : Sto} {N : Ev → Sto → Prop} {Q : Wd → Sto → Prop} : wpS (.rt ρ S) N Q = Q ρ S := rfl
@[simp] theorem wpS_bad {N : Ev → Sto → Prop} {Q : Wd → Sto → Prop} : wpS .bad N Q = False := rfl
@[simp] theorem wpS_ite {c : Prop} [Decidable c] {x y : Out} {N : Ev → Sto → Prop} {Q : Wd → Sto → Prop} : wpS (if c then x else y) N Q = if c then wpS x N Q else wpS y N Q := by split <;> rfl
section
variable {N : Ev → Sto → Prop} {Rt : Wd → Sto → Prop} {ρ : Ev} {S : Sto}
theorem wp_seq {m m' : Ms} : wpS (sSeq m m' ρ S) N Rt = wpS (m ρ S) (fun ρ' S' => wpS (m' ρ' S') N Rt) Rt := by
  unfold sSeq
  cases m ρ S <;> rfl
theorem wp_ret {f : Mx} : wpS (sRet f ρ S) N Rt = wpE (f ρ S) Rt := by
  unfold sRet
  cases f ρ S <;> rfl
theorem wp_expr {f : Mx} : wpS (sExpr f ρ S) N Rt = wpE (f ρ S) fun _ S1 => N ρ S1 := by
  unfold sExpr
  cases f ρ S <;> rfl
theorem wp_set {i : Nat} {f : Mx} : wpS (sSet i f ρ S) N Rt = wpE (f ρ S) fun w S1 => N (ρ.set i (some (.val w))) S1 := by
  unfold sSet
  cases f ρ S <;> rfl
theorem wp_ifS {t : Mt} {m m' : Ms} : wpS (sIf t m m' ρ S) N Rt = wpE (t ρ S) fun b S1 => if b = true then wpS (m ρ S1) N Rt else wpS (m' ρ S1) N Rt := by
  unfold sIf
  cases t ρ S with
  | ok b S1 => simp only [sTest_ok, wpE_ok, wpS_ite]
  | bad => rfl
theorem wp_asg {g : Mg} {f : Mx} : wpS (sAsg g f ρ S) N Rt = wpE (f ρ S) fun w S1 => ∃ ρ', g w ρ = some ρ' ∧ N ρ' S1 := by
  unfold sAsg
  cases f ρ S with
  | bad => rfl
  | ok w S1 =>
    simp only [sOf_ok, wpE_ok]
    cases h : g w ρ with
    | none => simp [wpS]
    | some ρ' => simp [wpS]
theorem wp_own {i : Nat} {fs : Ma} : wpS (sOwn i fs ρ S) N Rt = wpE (fs ρ S) fun ws S1 => ws.length ≤ sizeLine ∧ N (ρ.set i (some (.own ws))) S1 := by
  unfold sOwn
  cases fs ρ S with
  | bad => rfl
  | ok ws S1 =>
    simp only [wpE_ok, wpS_ite, wpS_nx, wpS_bad]
    by_cases h : ws.length ≤ sizeLine <;> simp [h]
theorem wp_app {i : Nat} {f : Mx} {ws : List Wd} (h : ρ[i]? = some (some (.own ws))) : wpS (sApp i f ρ S) N Rt = wpE (f ρ S) fun w S1 => ws.length < sizeLine ∧ N (ρ.set i (some (.own (ws ++ [w])))) S1 := by
  unfold sApp
  rw [h]
  cases f ρ S with
  | bad => rfl
  | ok w S1 =>
    simp only [sOf_ok, wpE_ok, wpS_ite, wpS_nx, wpS_bad]
    by_cases h : ws.length < sizeLine <;> simp [h]
theorem wp_par {i j : Nat} {fs : Ma} : wpS (sPar i j fs ρ S) N Rt = wpE (fs ρ S) fun ws S1 => ∃ v w, ws = [v, w] ∧ N ((ρ.set i (some (.val v))).set j (some (.val w))) S1 := by
  unfold sPar
  cases fs ρ S with
  | bad => rfl
  | ok ws S1 =>
    simp only [wpE_ok]
    match ws with
    | [] => simp
    | [_] => simp
    | [v, w] => exact propext ⟨fun h => ⟨v, w, rfl, h⟩, fun ⟨_, _, e, h⟩ => by cases e; exact h⟩
    | _ :: _ :: _ :: _ => simp
theorem wp_parO {i j : Nat} {f : Mx} : wpS (sParO i j f ρ S) N Rt = wpE (f ρ S) fun w S1 => N ((ρ.set j (some (.val w))).set i (some (.own []))) S1 := by
  unfold sParO
  cases f ρ S <;> rfl
theorem wp_put {fo : Mx} {x : Str} {f : Mx} : wpS (sPut fo x f ρ S) N Rt = wpE (f ρ S) fun w S1 => wpE (fo ρ S1) fun o S2 => ∃ l S3, o = oW l ∧ recPut S2 l x w = some S3 ∧ N ρ S3 := by
  unfold sPut
  cases f ρ S with
  | bad => rfl
  | ok w S1 =>
    simp only [sOf_ok, wpE_ok]
    cases fo ρ S1 with
    | bad => rfl
    | ok o S2 =>
      simp only [sOf_ok, wpE_ok]
      split
      · rename_i l
        cases h : recPut S2 l x w with
        | none =>
          simp only [wpS_bad, false_iff, eq_iff_iff]
          rintro ⟨l', S3, e, e2, _⟩
          cases e
          rw [h] at e2
          cases e2
        | some S3 =>
          simp only [wpS_nx, eq_iff_iff]
          constructor
          · intro n
            exact ⟨l, S3, rfl, h, n⟩
          · rintro ⟨l', S3', e, e2, n⟩
            cases e
            rw [h] at e2
            cases e2
            exact n
      · rename_i hn
        simp only [wpS_bad, eq_iff_iff, false_iff]
        rintro ⟨l, _, e, _⟩
        exact hn l e
theorem wp_for0 {fi : Mi} {g : Mg} {m : Ms} : wpS (sFor fi g m ρ S) N Rt = wpE (fi ρ S) fun ws S1 => wpS (forLoop g m ws ρ S1) N Rt := by
  unfold sFor
  cases fi ρ S <;> rfl
theorem wp_for {g : Mg} {m : Ms} (I : List Wd → Ev → Sto → Prop) (hs : ∀ w r ρ S, I (w :: r) ρ S → ∃ ρ1, g w ρ = some ρ1 ∧ wpS (m ρ1 S) (fun ρ2 S2 => I r ρ2 S2) Rt) (he : ∀ ρ S, I [] ρ S → N ρ S) : ∀ (ws : List Wd) (ρ : Ev) (S : Sto), I ws ρ S → wpS (forLoop g m ws ρ S) N Rt
  | [], ρ, S, h => he ρ S h
  | w :: r, ρ, S, h => by
    obtain ⟨ρ1, e, q⟩ := hs w r ρ S h
    unfold forLoop
    rw [e]
    simp only
    cases hm : m ρ1 S with
    | nx ρ2 S2 => rw [hm] at q; exact wp_for I hs he r ρ2 S2 q
    | rt w S2 => rw [hm] at q; exact q
    | bk _ _ => rw [hm] at q; exact q.elim
    | ct _ _ => rw [hm] at q; exact q.elim
    | bad => rw [hm] at q; exact q.elim
end
theorem wp_lc {g : Mg} {t : Mt} {fe : Mx} {ρ : Ev} {Q : List Wd → Sto → Prop} (I : List Wd → List Wd → Sto → Prop)
    (hs : ∀ w r acc S, I (w :: r) acc S → ∃ ρ1, g w ρ = some ρ1 ∧ wpE (t ρ1 S) fun b S1 => if b = true then wpE (fe ρ1 S1) fun y S2 => acc.length < sizeLine ∧ I r (acc ++ [y]) S2 else I r acc S1)
    (he : ∀ acc S, I [] acc S → Q acc S) : ∀ (ws acc : List Wd) (S : Sto), I ws acc S → wpE (lcLoop g t fe ρ ws acc S) Q
  | [], acc, S, h => he acc S h
  | w :: r, acc, S, h => by
    obtain ⟨ρ1, e, q⟩ := hs w r acc S h
    unfold lcLoop
    rw [e]
    simp only [wpE_bnd]
    refine wpE_mono q fun b S1 h1 => ?_
    cases b with
    | false =>
      simp only [Bool.false_eq_true, if_false] at h1 ⊢
      exact wp_lc I hs he r acc S1 h1
    | true =>
      simp only [if_true, wpE_bnd] at h1 ⊢
      refine wpE_mono h1 fun y S2 h2 => ?_
      rw [if_pos h2.1]
      exact wp_lc I hs he r _ S2 h2.2
theorem lc_pure {α : Type} {g : Mg} {t : Mt} {fe : Mx} {ρ : Ev} {S : Sto} {enc : α → Wd} {p : α → Bool} {out : α → Wd} : ∀ (xs : List α) (acc : List Wd), acc.length + xs.length ≤ sizeLine →
    (∀ x ∈ xs, ∃ ρ1, g (enc x) ρ = some ρ1 ∧ t ρ1 S = .ok (p x) S ∧ (p x = true → fe ρ1 S = .ok (out x) S)) → lcLoop g t fe ρ (xs.map enc) acc S = .ok (acc ++ (xs.filter p).map out) S
  | [], acc, _, _ => by simp [lcLoop]
  | x :: xs, acc, hl, h => by
    obtain ⟨ρ1, e1, e2, e3⟩ := h x (List.mem_cons_self ..)
    simp only [List.map_cons, List.length_cons] at hl ⊢
    unfold lcLoop
    rw [e1]
    simp only [e2, R.bnd_ok]
    cases hp : p x with
    | false =>
      simp only [Bool.false_eq_true, if_false]
      rw [lc_pure xs acc (by omega) fun y hy => h y (List.mem_cons_of_mem _ hy)]
      simp [hp]
    | true =>
      simp only [if_true, e3 hp, R.bnd_ok]
      rw [if_pos (by omega), lc_pure xs (acc ++ [out x]) (by simp; omega) fun y hy => h y (List.mem_cons_of_mem _ hy)]
      simp [hp]
structure Sz (n k : Nat) (d : Wd) : Prop where
  sh : d.showable = true
  cl : d.canLay0 = true
  dp : d.depth ≤ k
  ls : d.leavesShort 13 = true
  wt : d.weight ≤ n
theorem Sz.mono {n k n' k' : Nat} {d : Wd} (h : Sz n k d) (hn : n ≤ n') (hk : k ≤ k') : Sz n' k' d := ⟨h.sh, h.cl, Nat.le_trans h.dp hk, h.ls, Nat.le_trans h.wt hn⟩
theorem Sz.all {n k : Nat} : ∀ {xs : List Wd}, (∀ x ∈ xs, Sz n k x) → PyData.showableAll xs = true ∧ PyData.canLayAll0 xs = true ∧ PyData.depthAll xs ≤ k ∧ PyData.leavesShortAll 13 xs = true ∧ PyData.weightAll xs ≤ xs.length * (n + 1)
  | [], _ => by simp [PyData.showableAll, PyData.canLayAll0, PyData.depthAll, PyData.leavesShortAll, PyData.weightAll]
  | x :: xs, h => by
    have h1 := h x (List.mem_cons_self ..)
    obtain ⟨a, b, c, d, e⟩ := Sz.all fun y hy => h y (List.mem_cons_of_mem x hy)
    refine ⟨by simp [PyData.showableAll, h1.sh, a], by simp [PyData.canLayAll0, h1.cl, b], ?_, by simp [PyData.leavesShortAll, h1.ls, d], ?_⟩
    · have := h1.dp
      simp only [PyData.depthAll]
      omega
    · have := h1.wt
      simp only [PyData.weightAll, List.length_cons, Nat.succ_mul]
      omega
theorem Sz.tup {n k m n' : Nat} {xs : List Wd} (h : ∀ x ∈ xs, Sz n k x) (hm : xs.length ≤ m) (hn : m * (n + 1) ≤ n') : Sz n' (k + 1) (.tuple xs) := by
  obtain ⟨a, b, c, d, e⟩ := Sz.all h
  have := Nat.mul_le_mul_right (n + 1) hm
  exact ⟨by simp [PyData.showable, a], by simp [PyData.canLay0, b], by simp [PyData.depth, c], by simp [PyData.leavesShort, d], by simp only [PyData.weight]; omega⟩
theorem Sz.lst {n k m n' : Nat} {xs : List Wd} (h : ∀ x ∈ xs, Sz n k x) (hm : xs.length ≤ m) (hn : m * (n + 1) ≤ n') : Sz n' (k + 1) (.list xs) := by
  obtain ⟨a, b, c, d, e⟩ := Sz.all h
  have := Nat.mul_le_mul_right (n + 1) hm
  exact ⟨by simp [PyData.showable, a], by simp [PyData.canLay0, b], by simp [PyData.depth, c], by simp [PyData.leavesShort, d], by simp only [PyData.weight]; omega⟩
theorem Sz.int {i : Int} (h : i.natAbs < 2 ^ 30) : Sz 30 0 (.int i) := by
  have h1 : i.natAbs.log2 < 30 := by
    by_cases h0 : i.natAbs = 0
    · rw [h0]; decide
    · exact (Nat.log2_lt h0).2 h
  refine ⟨?_, rfl, Nat.le_refl _, ?_, ?_⟩
  · simp only [PyData.showable, decide_eq_true_eq]
    omega
  · simp only [PyData.leavesShort, decide_eq_true_eq]
    exact PyData.shown_int_le (by omega)
  · simp only [PyData.weight]
    split <;> omega
theorem Sz.non : Sz 0 0 .none := ⟨rfl, rfl, Nat.le_refl _, rfl, Nat.le_refl _⟩
theorem Sz.str {x : Str} {n : Nat} (h : PyData.strOk x = true) (hl : x.cps.size ≤ n) : Sz n 0 (.str x) := by
  refine ⟨rfl, by simpa [PyData.canLay0] using h, Nat.le_refl _, ?_, hl⟩
  simp only [PyData.leavesShort, List.all_eq_true, decide_eq_true_eq]
  intro c hc
  simp only [PyData.strOk, Array.all_eq_true', decide_eq_true_eq] at h
  have := h c (by simpa using hc)
  omega
theorem Sz.shaped {n k : Nat} {d : Wd} (h : Sz n k d) (hk : k ≤ 64) : SeqAt.shaped d = true := by
  have := h.dp
  simp only [SeqAt.shaped, h.cl, Bool.true_and, decide_eq_true_eq]
  omega
end DL
namespace DL
open PySem PySem.Spec PyProof.Rows L2
def wpO {α : Type} (o : Option α) (k : α → Prop) : Prop := ∃ w, o = some w ∧ k w
theorem wpO_rfl {α : Type} {o : Option α} {w : α} {k : α → Prop} (h : o = some w) (q : k w) : wpO o k := ⟨w, h, q⟩
section
variable {N : Ev → Sto → Prop} {Rt : Wd → Sto → Prop} {ρ : Ev} {S : Sto} {Q : Wd → Sto → Prop} {Qb : Bool → Sto → Prop} {Qs : List Wd → Sto → Prop} {Qo : Option Int → Sto → Prop}
theorem zq15 {m m' : Ms} (h : wpS (m ρ S) (fun ρ' S' => wpS (m' ρ' S') N Rt) Rt) : wpS (sSeq m m' ρ S) N Rt := by rw [wp_seq]; exact h
theorem w_seqJ {m m' : Ms} (J : Ev → Sto → Prop) (h : wpS (m ρ S) J Rt) (h2 : ∀ ρ' S', J ρ' S' → wpS (m' ρ' S') N Rt) : wpS (sSeq m m' ρ S) N Rt := zq15 (wpS_mono h h2 fun _ _ h => h)
theorem w_ret {f : Mx} (h : wpE (f ρ S) Rt) : wpS (sRet f ρ S) N Rt := by rw [wp_ret]; exact h
theorem w_expr {f : Mx} (h : wpE (f ρ S) fun _ S1 => N ρ S1) : wpS (sExpr f ρ S) N Rt := by rw [wp_expr]; exact h
theorem w_set {i : Nat} {f : Mx} (h : wpE (f ρ S) fun w S1 => N (ρ.set i (some (.val w))) S1) : wpS (sSet i f ρ S) N Rt := by rw [wp_set]; exact h
theorem w_ifS {t : Mt} {m m' : Ms} (h : wpE (t ρ S) fun b S1 => if b = true then wpS (m ρ S1) N Rt else wpS (m' ρ S1) N Rt) : wpS (sIf t m m' ρ S) N Rt := by rw [wp_ifS]; exact h
theorem w_asg {g : Mg} {f : Mx} (h : wpE (f ρ S) fun w S1 => wpO (g w ρ) fun ρ' => N ρ' S1) : wpS (sAsg g f ρ S) N Rt := by rw [wp_asg]; exact h
theorem w_own {i : Nat} {fs : Ma} (h : wpE (fs ρ S) fun ws S1 => ws.length ≤ sizeLine ∧ N (ρ.set i (some (.own ws))) S1) : wpS (sOwn i fs ρ S) N Rt := by rw [wp_own]; exact h
theorem w_app {i : Nat} {f : Mx} {ws : List Wd} (h : ρ[i]? = some (some (.own ws))) (q : wpE (f ρ S) fun w S1 => ws.length < sizeLine ∧ N (ρ.set i (some (.own (ws ++ [w])))) S1) : wpS (sApp i f ρ S) N Rt := by rw [wp_app h]; exact q
theorem w_par {i j : Nat} {f g : Mx} (h : wpE (f ρ S) fun v S1 => wpE (g ρ S1) fun w S2 => N ((ρ.set i (some (.val v))).set j (some (.val w))) S2) : wpS (sPar i j (aCons f (aCons g aNil)) ρ S) N Rt := by
  rw [wp_par]
  simp only [aCons, aNil, wpE_bnd, wpE_ok]
  exact wpE_mono h fun v S1 h => wpE_mono h fun w S2 h => ⟨v, w, rfl, h⟩
theorem w_parO {i j : Nat} {f : Mx} (h : wpE (f ρ S) fun w S1 => N ((ρ.set j (some (.val w))).set i (some (.own []))) S1) : wpS (sParO i j f ρ S) N Rt := by rw [wp_parO]; exact h
theorem w_put {l : Nat} {fo : Mx} {x : Str} {f : Mx} (h : wpE (f ρ S) fun w S1 => wpE (fo ρ S1) fun o S2 => o = oW l ∧ wpO (recPut S2 l x w) fun S3 => N ρ S3) : wpS (sPut fo x f ρ S) N Rt := by
  rw [wp_put]
  exact wpE_mono h fun w S1 h => wpE_mono h fun o S2 ⟨e, S3, e2, n⟩ => ⟨l, S3, e, e2, n⟩
theorem w_frz {i : Nat} {m : Ms} (h : wpS (m (frzE i ρ) S) N Rt) : wpS (sFrz i m ρ S) N Rt := h
theorem w_nil (h : N ρ S) : wpS (sNil ρ S) N Rt := h
theorem w_for {fi : Mi} {g : Mg} {m : Ms} (h : wpE (fi ρ S) fun ws S1 => wpS (forLoop g m ws ρ S1) N Rt) : wpS (sFor fi g m ρ S) N Rt := by rw [wp_for0]; exact h
theorem w_C {w : Wd} (h : Q w S) : wpE (mC w ρ S) Q := h
theorem w_V {i : Nat} {w : Wd} (e : ρ[i]? = some (some (.val w))) (h : Q w S) : wpE (mV i ρ S) Q := by
  unfold mV
  rw [e]
  exact h
theorem w_bin {g : Wd → Wd → Option Wd} {fa fb : Mx} (h : wpE (fa ρ S) fun x S1 => wpE (fb ρ S1) fun y S2 => wpO (g x y) fun w => Q w S2) : wpE (mBin g fa fb ρ S) Q := by
  unfold mBin
  simp only [wpE_bnd]
  refine wpE_mono h fun x S1 h => wpE_mono h fun y S2 ⟨w, e, q⟩ => ?_
  rw [e]
  exact q
theorem w_un {g : Wd → Option Wd} {fa : Mx} (h : wpE (fa ρ S) fun x S1 => wpO (g x) fun w => Q w S1) : wpE (mUn g fa ρ S) Q := by
  unfold mUn
  simp only [wpE_bnd]
  refine wpE_mono h fun x S1 ⟨w, e, q⟩ => ?_
  rw [e]
  exact q
theorem w_CB {g : List Wd → Option Wd} {fs : Ma} (h : wpE (fs ρ S) fun x S1 => wpO (g x) fun w => Q w S1) : wpE (mCB g fs ρ S) Q := by
  unfold mCB
  simp only [wpE_bnd]
  refine wpE_mono h fun x S1 ⟨w, e, q⟩ => ?_
  rw [e]
  exact q
theorem w_ix {fa fb : Mx} (h : wpE (fa ρ S) fun x S1 => wpE (fb ρ S1) fun y S2 => wpO (gIx S2 x y) fun w => Q w S2) : wpE (mIx fa fb ρ S) Q := by
  unfold mIx
  simp only [wpE_bnd]
  refine wpE_mono h fun x S1 h => wpE_mono h fun y S2 ⟨w, e, q⟩ => ?_
  rw [e]
  exact q
theorem w_and {fa fb : Mx} (h : wpE (fa ρ S) fun x S1 => wpO (truD x) fun b => if b = true then wpE (fb ρ S1) Q else Q x S1) : wpE (mAnd fa fb ρ S) Q := by
  unfold mAnd
  simp only [wpE_bnd]
  refine wpE_mono h fun x S1 ⟨b, e, q⟩ => ?_
  rw [e]
  cases b <;> exact q
theorem w_not {fa : Mx} (h : wpE (fa ρ S) fun x S1 => wpO (truD x) fun b => Q (.bool (!b)) S1) : wpE (mNot fa ρ S) Q := by
  unfold mNot
  simp only [wpE_bnd]
  refine wpE_mono h fun x S1 ⟨b, e, q⟩ => ?_
  rw [e]
  exact q
theorem w_if {t : Mt} {fa fb : Mx} (h : wpE (t ρ S) fun b S1 => if b = true then wpE (fa ρ S1) Q else wpE (fb ρ S1) Q) : wpE (mIf t fa fb ρ S) Q := by
  unfold mIf
  simp only [wpE_bnd, wpE_ite]
  exact h
theorem w_tru {f : Mx} (h : wpE (f ρ S) fun x S1 => wpO (truD x) fun b => Qb b S1) : wpE (mTru f ρ S) Qb := by
  unfold mTru
  simp only [wpE_bnd]
  refine wpE_mono h fun x S1 ⟨b, e, q⟩ => ?_
  rw [e]
  exact q
theorem w_andT {t u : Mt} (h : wpE (t ρ S) fun b S1 => if b = true then wpE (u ρ S1) Qb else Qb false S1) : wpE (mAndT t u ρ S) Qb := by
  unfold mAndT
  simp only [wpE_bnd, wpE_ite, wpE_ok]
  exact h
theorem w_orT {t u : Mt} (h : wpE (t ρ S) fun b S1 => if b = true then Qb true S1 else wpE (u ρ S1) Qb) : wpE (mOrT t u ρ S) Qb := by
  unfold mOrT
  simp only [wpE_bnd, wpE_ite, wpE_ok]
  exact h
theorem w_notT {t : Mt} (h : wpE (t ρ S) fun b S1 => Qb (!b) S1) : wpE (mNotT t ρ S) Qb := by
  unfold mNotT
  simp only [wpE_bnd, wpE_ok]
  exact h
theorem w_true (h : Qb true S) : wpE (tTrue ρ S) Qb := h
theorem w_aNil (h : Qs [] S) : wpE (aNil ρ S) Qs := h
theorem w_aCons {f : Mx} {fs : Ma} (h : wpE (f ρ S) fun x S1 => wpE (fs ρ S1) fun xs S2 => Qs (x :: xs) S2) : wpE (aCons f fs ρ S) Qs := by
  unfold aCons
  simp only [wpE_bnd, wpE_ok]
  exact h
theorem w_lst {fs : Ma} (h : wpE (fs ρ S) fun ws S1 => ws.length ≤ sizeLine ∧ Q (.list ws) S1) : wpE (mLst fs ρ S) Q := by
  unfold mLst
  simp only [wpE_bnd, wpE_ite, wpE_ok]
  exact wpE_mono h fun ws S1 h => by rw [if_pos h.1]; exact h.2
theorem w_tup {fs : Ma} (h : wpE (fs ρ S) fun ws S1 => ws.length ≤ sizeLine ∧ Q (.tuple ws) S1) : wpE (mTup fs ρ S) Q := by
  unfold mTup
  simp only [wpE_bnd, wpE_ite, wpE_ok]
  exact wpE_mono h fun ws S1 h => by rw [if_pos h.1]; exact h.2
theorem w_oNone (h : Qo none S) : wpE (oNone ρ S) Qo := h
theorem w_oSome {f : Mx} (h : wpE (f ρ S) fun w S1 => ∃ i, w = .int i ∧ Qo (some i) S1) : wpE (oSome f ρ S) Qo := by
  unfold oSome
  simp only [wpE_bnd]
  refine wpE_mono h fun w S1 ⟨i, e, q⟩ => ?_
  subst e
  exact q
theorem w_sl {f : Mx} {lo hi : Mo} (h : wpE (f ρ S) fun x S1 => wpE (lo ρ S1) fun l S2 => wpE (hi ρ S2) fun u S3 => wpO (gSl l u x) fun w => Q w S3) : wpE (mSl f lo hi ρ S) Q := by
  unfold mSl
  simp only [wpE_bnd]
  refine wpE_mono h fun x S1 h => wpE_mono h fun y S2 h => wpE_mono h fun z S3 ⟨w, e, q⟩ => ?_
  rw [e]
  exact q
theorem w_rec {names : List Str} {fs : Ma} (h : wpE (fs ρ S) fun ws S1 => Q (oW S1.length) (S1 ++ [.dct (names.zip ws)])) : wpE (mRec names fs ρ S) Q := by
  unfold mRec
  simp only [wpE_bnd, wpE_ok]
  exact h
theorem w_call {g : Gd} {fs : Ma} (h : wpE (fs ρ S) fun ws S1 => wpE (g ws S1) Q) : wpE (mCall g fs ρ S) Q := by
  unfold mCall
  simp only [wpE_bnd]
  exact h
theorem w_lc {vs : List Nat} {fi : Mi} {g : Mg} {t : Mt} {fe : Mx} (h : wpE (fi ρ S) fun ws S1 => wpE (lcLoop g t fe (wipeE ρ vs) ws [] S1) fun acc S2 => Q (.list acc) S2) : wpE (mLc vs fi g t fe ρ S) Q := by
  unfold mLc
  simp only [wpE_bnd, wpE_ok]
  exact h
theorem w_iSeq {f : Mx} (h : wpE (f ρ S) fun w S1 => wpO (itemsD w) fun ws => Qs ws S1) : wpE (iSeq f ρ S) Qs := by
  unfold iSeq
  simp only [wpE_bnd]
  refine wpE_mono h fun x S1 ⟨b, e, q⟩ => ?_
  rw [e]
  exact q
theorem w_range1 {f : Mx} (h : wpE (f ρ S) fun w S1 => ∃ j, w = .int j ∧ (-(2 ^ 62) ≤ j ∧ j < 2 ^ 62) ∧ Qs (rangeD 0 j.toNat) S1) : wpE (iRange1 (aCons f aNil) ρ S) Qs := by
  unfold iRange1 aCons aNil
  simp only [wpE_bnd, wpE_ok]
  refine wpE_mono h fun w S1 ⟨j, e, hj, q⟩ => ?_
  subst e
  simp only [if_pos hj]
  exact q
theorem w_range2 {f f' : Mx} (h : wpE (f ρ S) fun w S1 => wpE (f' ρ S1) fun w' S2 => ∃ i j, w = .int i ∧ w' = .int j ∧ ((-(2 ^ 62) ≤ i ∧ i < 2 ^ 62) ∧ -(2 ^ 62) ≤ j ∧ j < 2 ^ 62) ∧ Qs (rangeD i (j - i).toNat) S2) : wpE (iRange2 (aCons f (aCons f' aNil)) ρ S) Qs := by
  unfold iRange2 aCons aNil
  simp only [wpE_bnd, wpE_ok]
  refine wpE_mono h fun w S1 h => wpE_mono h fun w' S2 ⟨i, j, e, e', hj, q⟩ => ?_
  subst e e'
  simp only [if_pos hj]
  exact q
theorem w_iStr {f : Mx} (h : wpE (f ρ S) fun w S1 => ∃ y, w = .str y ∧ Qs (signsD y) S1) : wpE (iStr f ρ S) Qs := by
  unfold iStr
  simp only [wpE_bnd]
  refine wpE_mono h fun w S1 ⟨j, e, q⟩ => ?_
  subst e
  exact q
theorem w_forC {g : Mg} {m : Ms} {w : Wd} {r : List Wd} {ρ1 : Ev} (e : g w ρ = some ρ1) (h : wpS (m ρ1 S) (fun ρ2 S2 => wpS (forLoop g m r ρ2 S2) N Rt) Rt) : wpS (forLoop g m (w :: r) ρ S) N Rt := by
  unfold forLoop
  rw [e]
  simp only
  cases hm : m ρ1 S with
  | nx ρ2 S2 => rw [hm] at h; exact h
  | rt w S2 => rw [hm] at h; exact h
  | bk _ _ => rw [hm] at h; exact h.elim
  | ct _ _ => rw [hm] at h; exact h.elim
  | bad => rw [hm] at h; exact h.elim
theorem w_ok {α : Type} {a : α} {Q : α → Sto → Prop} (h : Q a S) : wpE (.ok a S) Q := h
theorem w_eq {α : Type} {x : R α} {a : α} {S' : Sto} {Q : α → Sto → Prop} (e : x = .ok a S') (h : Q a S') : wpE x Q := by rw [e]; exact h
theorem w_def {n p : Nat} {m : Ms} {ws : List Wd} (h : ws.length = p) (q : wpS (m (startE n ws) S) (fun _ S' => Q .none S') Q) : wpE (runDef n p m ws S) Q := by
  unfold runDef
  rw [if_pos h]
  cases hm : m (startE n ws) S <;> rw [hm] at q <;> first | exact q | exact q.elim
theorem w_t {A B : Prop} (h : A) : if true = true then A else B := h
theorem w_f {A B : Prop} (h : B) : if false = true then A else B := h
theorem w_b {b : Bool} {A B : Prop} (h : b = true → A) (h2 : b = false → B) : if b = true then A else B := by cases b; exact h2 rfl; exact h rfl
theorem w_bt {b : Bool} {A B : Prop} (e : b = true) (h : A) : if b = true then A else B := by rw [if_pos e]; exact h
theorem w_bf {b : Bool} {A B : Prop} (e : b = false) (h : B) : if b = true then A else B := by subst e; exact h
theorem w_len {A : Prop} {ws : List Wd} (h : A) (e : decide (ws.length ≤ sizeLine) = true) : ws.length ≤ sizeLine ∧ A := ⟨of_decide_eq_true e, h⟩
theorem wpR_ok {g : Gd} {ws : List Wd} {w : Wd} {S' : Sto} (h : wpE (g ws S) fun w' S1 => w' = w ∧ S1 = S') : g ws S = .ok w S' := by
  obtain ⟨a, S1, e, rfl, rfl⟩ := wpE_ex.1 h
  exact e
end
theorem wo_le {i j : Int} {k : Wd → Prop} (h : k (.bool (decide (i ≤ j)))) : wpO (gLe (.int i) (.int j)) k := ⟨_, rfl, h⟩
theorem wo_lt {i j : Int} {k : Wd → Prop} (h : k (.bool (decide (i < j)))) : wpO (gLt (.int i) (.int j)) k := ⟨_, rfl, h⟩
theorem wo_ge {i j : Int} {k : Wd → Prop} (h : k (.bool (decide (j ≤ i)))) : wpO (gGe (.int i) (.int j)) k := ⟨_, rfl, h⟩
theorem wo_gt {i j : Int} {k : Wd → Prop} (h : k (.bool (decide (j < i)))) : wpO (gGt (.int i) (.int j)) k := ⟨_, rfl, h⟩
theorem wo_eqi {i j : Int} {k : Wd → Prop} (h : k (.bool (decide (i = j)))) : wpO (gEq (.int i) (.int j)) k := ⟨_, by show some (PyData.bool (i == j)) = _; rw [show (i == j) = decide (i = j) from rfl], h⟩
theorem wo_nei {i j : Int} {k : Wd → Prop} (h : k (.bool (!decide (i = j)))) : wpO (gNe (.int i) (.int j)) k := ⟨_, by show some (PyData.bool (!(i == j))) = _; rw [show (i == j) = decide (i = j) from rfl], h⟩
theorem wo_mod {i j : Int} {k : Wd → Prop} (h : 0 < j) (q : k (.int (i % j))) : wpO (gMod (.int i) (.int j)) k := ⟨_, by simp only [gMod]; rw [if_pos h], q⟩
theorem wo_div {i j : Int} {k : Wd → Prop} (h : 0 < j) (h1 : j < 1073741824) (q : k (.int (i / j))) : wpO (gDiv (.int i) (.int j)) k := ⟨_, by simp only [gDiv]; rw [if_pos ⟨h, h1⟩], q⟩
theorem wo_mul {i j : Int} {k : Wd → Prop} (h : (-(2 ^ 64) < i ∧ i < 2 ^ 64) ∨ (-(2 ^ 64) < j ∧ j < 2 ^ 64)) (q : k (.int (i * j))) : wpO (gMul (.int i) (.int j)) k := ⟨_, by simp only [gMul]; rw [if_pos h], q⟩
theorem wo_pow {i j : Int} {k : Wd → Prop} (h : 0 ≤ j ∧ j ≤ 1000000 ∧ i.natAbs < 2 ^ 64) (q : k (.int (i ^ j.toNat))) : wpO (gPow (.int i) (.int j)) k := ⟨_, by simp only [gPow]; rw [if_pos h], q⟩
def feedR (c : List Int) (a l t : Int) : Rec := .dct [("cells", .list (c.map PyData.int)), ("at", .int a), ("left", .int l), ("turn", .int t)]
def FeedOk (S0 : Sto) (S : Sto) : Prop := ∃ c a l t, S = feedR c a l t :: S0
section
variable {c : List Int} {a l t i : Int} {S0 : Sto}
theorem fp_at : recPut (feedR c a l t :: S0) 0 "at" (.int i) = some (feedR c i l t :: S0) := rfl
theorem fp_left : recPut (feedR c a l t :: S0) 0 "left" (.int i) = some (feedR c a i t :: S0) := rfl
theorem fp_turn : recPut (feedR c a l t :: S0) 0 "turn" (.int i) = some (feedR c a l i :: S0) := rfl
end
theorem cells_shaped {c : List Int} : SeqAt.shaped (.list (c.map PyData.int)) = true := by
    have h1 : PyData.canLayAll0 (c.map PyData.int) = true ∧ PyData.depthAll (c.map PyData.int) = 0 := by
      induction c with
      | nil => exact ⟨rfl, rfl⟩
      | cons x c ih => simp only [List.map_cons, PyData.canLayAll0, PyData.depthAll, PyData.canLay0, PyData.depth, ih.1, ih.2]; exact ⟨rfl, rfl⟩
    simp only [SeqAt.shaped, PyData.canLay0, PyData.depth, h1.1, h1.2]
    rfl
theorem gEq_cells {c : List Int} : gEq (.list (c.map PyData.int)) (.list []) = some (.bool c.isEmpty) := by
  have h := @cells_shaped c
  simp only [gEq]
  rw [if_pos ⟨h, rfl⟩]
  cases c <;> rfl
section
variable {c : List Int} {a l t i : Int} {S0 : Sto} {k : Sto → Prop}
theorem wf_at (h : k (feedR c i l t :: S0)) : oW 0 = oW 0 ∧ wpO (recPut (feedR c a l t :: S0) 0 "at" (.int i)) k := ⟨rfl, _, fp_at, h⟩
theorem wf_left (h : k (feedR c a i t :: S0)) : oW 0 = oW 0 ∧ wpO (recPut (feedR c a l t :: S0) 0 "left" (.int i)) k := ⟨rfl, _, fp_left, h⟩
theorem wf_turn (h : k (feedR c a l i :: S0)) : oW 0 = oW 0 ∧ wpO (recPut (feedR c a l t :: S0) 0 "turn" (.int i)) k := ⟨rfl, _, fp_turn, h⟩
theorem gNe_cells {c : List Int} : gNe (.list (c.map PyData.int)) (.list []) = some (.bool (!c.isEmpty)) := by
  have h := @cells_shaped c
  simp only [gNe]
  rw [if_pos ⟨h, rfl⟩]
  cases c <;> rfl
theorem wo_cells {k : Wd → Prop} (h : k (.bool c.isEmpty)) : wpO (gEq (.list (c.map PyData.int)) (.list [])) k := ⟨_, gEq_cells, h⟩
end
theorem lc_map {α : Type} {g : Mg} {fe : Mx} {ρ : Ev} {S : Sto} {enc : α → Wd} {out : α → Wd} {Q : List Wd → Sto → Prop} (xs : List α) (hl : xs.length ≤ sizeLine)
    (h : ∀ x ∈ xs, ∃ ρ1, g (enc x) ρ = some ρ1 ∧ fe ρ1 S = .ok (out x) S) (q : Q (xs.map out) S) : wpE (lcLoop g tTrue fe ρ (xs.map enc) [] S) Q := by
  rw [lc_pure (t := tTrue) (p := fun _ => true) (out := out) xs [] (by simpa using hl) fun x hx => let ⟨ρ1, a, b⟩ := h x hx; ⟨ρ1, a, rfl, fun _ => b⟩]
  rw [List.filter_eq_self.2 (fun _ _ => rfl)]
  exact q
theorem gIx_look {S : Sto} {ds : List (Wd × Wd)} {x : Str} {w : Wd} (h : lookD ds (.str x) = some w) : gIx S (.dict ds) (.str x) = some w := by
  unfold gIx
  split
  · rename_i h1 h2; cases h1
  · rename_i h1 h2; cases h1
  · rename_i h1 h2; cases h1
  · rename_i h1 h2
    cases h1
    simp [lookD, PyData.eqv] at h
  · rename_i h1 _
    cases h1
    rw [if_pos (show keyD (.str x) = true from rfl)]
    exact h
  · rename_i h5 _ _
    first | exact absurd rfl (h5 ds) | exact (h5 ds _ rfl rfl).elim | simp_all
theorem atI_in {α : Type} {xs : List α} {i : Int} (h0 : 0 ≤ i) (h1 : i < xs.length) : atI xs i = some (xs[i.toNat]'(by omega)) := by
  unfold atI ixN
  rw [if_pos h0, if_pos h1]
  simp only [Option.bind_some]
  exact List.getElem?_eq_getElem (by omega)
end DL
namespace DL
open PySem PySem.Spec PyProof.Rows L2
section
variable {X : Cx} {fi : Mi} {g : Mg} {t : Mt} {fe : Mx} {elt tgx iter : Expr} {ifs : List Expr} {scope : Scope} {own : List (Str × Nat)} {pos spos py : Pos} {i : Nat} {y : Str}
theorem de_lcP (hc : X.calm = true) (hN : X.N.Nodup) (hi : DiP X tgx iter fi) (ok : BlkOk X.N X.env.scope scope own)
    (hg : DgPF (X.fam scope) X.K (own.map (·.2)) tgx g)
    (ht : ∀ (s : Shared) (H : Hp) (C : Addr) (cl : List (Str × Addr)) (fp : List Addr), DTs (X.blk s H scope (compEnvC scope cl C X.env) fp) ifs t)
    (he : ∀ (s : Shared) (H : Hp) (C : Addr) (cl : List (Str × Addr)) (fp : List Addr), De (X.blk s H scope (compEnvC scope cl C X.env) fp) elt fe) (hs : ∀ x, foldedSetIterable iter X.env x = pure x := by intro _; rfl) :
    De X (.ListComp elt [⟨tgx, iter, ifs, 0⟩] scope pos) (mLc (own.map (·.2)) fi g t fe) := by
  obtain ⟨tg, pg, kg⟩ := hg
  refine PE.weak (pe_lc (tt := tDt X.K t) (te := tD X.K fe) hc hN hi ok (fun s H C cl fp => pg (s, H, C, cl, fp)) ht he hs) (lc_core' (fun J v w ws hJ mu B O H S st bn p => ?_) (fun σ => wipe_idem σ _))
  obtain ⟨h1, h2⟩ := hJ mu _ H S st bn p
  exact ⟨fun i d e => ⟨(h1 i d e).1, fun x H' hy => ⟨((h1 i d e).2 x H' hy).1, fun σ ρ ρ' Q r eg k => kg mu B O H' σ ρ ρ' S x d Q r ((h1 i d e).2 x H' hy).2 eg k⟩⟩, h2⟩
end
theorem RpAll.reverse {K : Fg} {mu : List Addr} {T : Addr → Prop} {H : Hp} : ∀ {vs : List V} {ws : List Wd}, RpAll K mu T H vs ws → RpAll K mu T H vs.reverse ws.reverse
  | [], [], _ => .nil
  | _ :: _, _ :: _, h => by
    cases h with
    | cons a b =>
      rw [List.reverse_cons, List.reverse_cons]
      exact b.reverse.append (.cons a .nil)
theorem RpAll.dropLast {K : Fg} {mu : List Addr} {T : Addr → Prop} {H : Hp} {vs : List V} {ws : List Wd} (h : RpAll K mu T H vs ws) : RpAll K mu T H vs.dropLast ws.dropLast := by
  rw [List.dropLast_eq_take, List.dropLast_eq_take, h.length]
  exact h.take _
def gRev : Wd → Option Wd
  | .list ws => some (.list ws.reverse)
  | _ => none
section
variable {X : Cx} {e : Expr} {f : Mx} {es : List Expr} {fs : Ma} {pos : Pos}
theorem de_rev {k : Nat} {p1 p2 p3 : Pos} (he : De X e f) : De X (.Subscript e (.Slice none none (some (.UnaryOp .USub (.Constant (.int 1) k p1) p2)) p3) pos) (mUn gRev f) :=
  PE.weak (pe_revL he) fun σ H Q ⟨ρ, S, mu, B, O, rl, w, S', e1, q⟩ => by
    obtain ⟨w0, S1, e2, e1⟩ := R.bnd_inv e1
    obtain ⟨e3, rfl⟩ := R.of_inv e1
    refine tD.mk rl e2 fun v H1 mu1 E r p => ?_
    unfold gRev at e3
    split at e3
    · cases e3
      cases p with
      | lst a b => exact ⟨_, _, rfl, a.sq, fun l hl => q _ _ mu1 (E.trans (.same (same_upd hl))) (r.sto.same (same_upd hl)) (new_lst r.sto r.bn b.reverse hl)⟩
    · cases e3
def aStar (f : Mx) (fs : Ma) : Ma := fun ρ S => (f ρ S).bnd fun x S1 => match itemsD x with
  | some xs => (fs ρ S1).bnd fun ys S2 => .ok (xs ++ ys) S2
  | none => .bad
theorem da_star {p : Pos} (he : De X e f) (hr : Da X es fs) (hs : starEach (.Starred e p :: es) X.env = (true, eval e X.env) :: starEach es X.env := by rfl) : Da X (.Starred e p :: es) (aStar f fs) :=
  PA.weak (StX.pa_star he hr hs) fun σ H Q ⟨ρ, S, mu, B, O, rl, w, S', e1, q⟩ => by
    obtain ⟨w0, S1, e2, e1⟩ := R.bnd_inv e1
    refine tD.mk rl e2 fun v H1 mu1 E r p => ?_
    cases hx : itemsD w0 with
    | none => rw [hx] at e1; cases e1
    | some xs =>
      rw [hx] at e1
      simp only at e1
      obtain ⟨ys, S2, e3, e1⟩ := R.bnd_inv e1
      cases e1
      have fin : ∀ (vs : List V), RpAll X.K mu1 (fun a => B a ∨ O a) H1 vs xs → tDa X.K fs σ H1 fun us H2 => Q (vs ++ us) H2 := fun vs pv =>
        tDa.mk r e3 fun us H2 mu2 E2 r2 p2 => q _ H2 mu2 (E.trans E2) r2.sto ((pv.ext E2).append p2)
      unfold itemsD at hx
      split at hx
      · cases hx
        cases p with
        | lst a b => exact ⟨_, _, rfl, .inr a.sq, fin _ b⟩
      · cases hx
        cases p with
        | tup a b => exact ⟨_, _, rfl, .inl a.sq, fin _ b⟩
      · cases hx
end
section
variable {X : Cx} {e : Expr} {f : Mx} {pos : Pos} {i : Nat} {x : Str}
def mLenO (i : Nat) : Mx := fun ρ S => match ρ[i]? with
  | some (some (.own ws)) => .ok (.int ws.length) S
  | _ => .bad
def sExt (i : Nat) (f : Mx) : Ms := fun ρ S => match ρ[i]? with
  | some (some (.own ws)) => sOf (f ρ S) fun w S1 => match w with
    | .list zs => if ws.length + zs.length ≤ sizeLine then .nx (ρ.set i (some (.own (ws ++ zs)))) S1 else .bad
    | _ => .bad
  | _ => .bad
def rExtW (K : Fg) : V → List V → Hp → VK → Prop := fun x vs H Q => ∃ l b xs zs, x = .ref l ∧ vs = [.ref b] ∧ H l = some (.lst xs) ∧ (∃ mu T, LsR K mu T H b zs) ∧ xs.length + zs.length ≤ sizeLine ∧ Q .non (upd H l (.lst (xs ++ zs)))
theorem mt_extW : MtM X "list.extend" (rExtW X.K) := by
  intro pins s σ H x vs v us Q I rx rv h
  obtain ⟨l, b, xs, zs, rfl, rfl, hH, ⟨_, _, hB⟩, hz, q⟩ := h
  cases rx
  obtain ⟨u, rfl, ru⟩ := rv.one
  cases ru
  obtain ⟨z, its, n, r, hl, e⟩ := I.lstM hH
  obtain ⟨i2, n2, r2, z2, e2⟩ := lst_at I hB
  have l2 := r2.length
  have l1 := r.length
  have hs : its.toArray.size + i2.toArray.size ≤ sizeLine := by rw [List.size_toArray, List.size_toArray]; omega
  refine call_meets F.slot_list_extend ⟨_, e, rfl⟩ F.entry_list_extend (F.args_list_extend_2 _ _)
    (AutoSeq1.list_extend_list_list_0 l its.toArray n b i2.toArray n2 (by rw [notLongL hs, Bool.and_false]; exact Bool.false_ne_true) (by rw [List.size_toArray]; omega) (by rw [List.size_toArray] at *; omega)) ⟨e, e2, ?_⟩
  exact ⟨.non, _, I.lset (its' := its ++ i2) hH e (by simp) (r.append r2) (by rw [List.length_append]; omega), rfl, q⟩
theorem ds_extend {apos cpos xpos : Pos} (hN : X.N[i]? = some x) (hv : Vis X.env.scope x) (he : De X e f) (hd : (x == ("__debug__" : Str)) = false := by decide) (hcd : (x == ("__classdict__" : Str)) = false := by decide)
    (hbase : attributeBase (.Name x xpos) "extend" X.env (eval (.Name x xpos) X.env) = eval (.Name x xpos) X.env := by rfl)
    (hfew : ((backTo cpos (starEach [e] X.env)).all (fun x => !x.1) && (backToKw cpos (keywordEach [] X.env)).all (fun x => x.1.isSome) && decide ([e].length + ([] : List Keyword).length + (if ([] : List Keyword).isEmpty then 0 else 1) < 30)) = true := by rfl)
    (hline : (apos.endLine == cpos.line) = true := by rfl) (hs1 : starEach [e] X.env = [(false, eval e X.env)] := by rfl)
    (hs : swapsWith (.Call (.Attribute (.Name x xpos) "extend" apos) [e] [] cpos) none pos.line X.env = pure false := by rfl) : Ds X (.Expr (.Call (.Attribute (.Name x xpos) "extend" apos) [e] [] cpos) pos) (sExt i f) :=
  PS.weak (ps_expr (pe_bm PySem.F.plainAttrs_list PySem.F.slot_list_extend PySem.F.type_list_extend mt_extW (pe_var hN hv hd hcd) (pa_cons he pa_nil hs1) hbase hfew hline hs1 rfl) hs) fun D σ H ⟨ρ, S, mu, B, O, rl, q⟩ => by
    unfold sExt at q
    split at q
    · rename_i ws hi
      cases z : f ρ S with
      | bad => rw [z] at q; exact q.elim
      | ok w S1 =>
        rw [z, sOf_ok] at q
        split at q
        · rename_i zs
          by_cases hz : ws.length + zs.length ≤ sizeLine
          · rw [if_pos hz] at q
            obtain ⟨a, xs, h1, h2, h3, h4, h5⟩ := rl.own i ws hi
            refine ⟨.ref a, h1, .inl ⟨rfl, xs, .inl (.inl h4)⟩, ?_⟩
            refine tD.mk rl z fun v H1 mu1 E r p => ?_
            cases p with
            | lst b c =>
              have h4' : H1 a = some (.lst xs) := E.keep a _ h4 (rl.bn a (.inr h2)).2
              refine ⟨a, _, xs, _, rfl, rfl, h4', ⟨_, _, b⟩, by rw [h5.length, c.length]; exact hz, ?_⟩
              exact q σ _ mu1 O ((E.toS r.sto).trans (ExtS.at_own h2)) (r.grow (xs := xs) hi h1 h2 h3 ((h5.ext E).append c))
          · rw [if_neg hz] at q
            exact q.elim
        · exact q.elim
    · exact q.elim
def sPop (g : Mg) (i : Nat) : Ms := fun ρ S => match ρ[i]? with
  | some (some (.own ws)) => match ws[ws.length - 1]? with
    | some w => match g w (ρ.set i (some (.own ws.dropLast))) with
      | some ρ' => .nx ρ' S
      | none => .bad
    | none => .bad
  | _ => .bad
theorem ds_pop {tg : Expr} {g : Mg} {vs : List Nat} {apos cpos xpos : Pos} (hN : X.N[i]? = some x) (hv : Vis X.env.scope x) (hg : Dg X vs tg g) (hd : (x == ("__debug__" : Str)) = false := by decide) (hcd : (x == ("__classdict__" : Str)) = false := by decide)
    (hbase : attributeBase (.Name x xpos) "pop" X.env (eval (.Name x xpos) X.env) = eval (.Name x xpos) X.env := by rfl) (hline : (apos.endLine == cpos.line) = true := by rfl)
    (hs : swapsWithSole [tg] (.Call (.Attribute (.Name x xpos) "pop" apos) [] [] cpos) pos.line X.env = pure false := by rfl) (hw : swappedStores [tg] (.Call (.Attribute (.Name x xpos) "pop" apos) [] [] cpos) X.env = pure none := by rfl)
    (h1 : (assignEach [tg] X.env).map (·.2) = [assign tg X.env] := by rfl) : Ds X (.Assign [tg] (.Call (.Attribute (.Name x xpos) "pop" apos) [] [] cpos) pos) (sPop g i) := by
  obtain ⟨t, p, k⟩ := hg
  refine PS.weak (ps_asg (pe_bm0 PySem.F.plainAttrs_list PySem.F.slot_list_pop PySem.F.type_list_pop mt_pop (pe_var hN hv hd hcd) hbase hline) (p ()) hs hw h1) fun D σ H ⟨ρ, S, mu, B, O, rl, q⟩ => ?_
  unfold sPop at q
  split at q
  · rename_i ws hi
    split at q
    · rename_i w hw
      split at q
      · rename_i ρ' hr
        obtain ⟨a, xs, h1, h2, h3, h4, h5⟩ := rl.own i ws hi
        obtain ⟨v, e1, e2⟩ := h5.get hw
        rw [← h5.length] at e1
        refine ⟨.ref a, h1, .inl ⟨rfl, xs, .inl (.inl h4)⟩, ?_⟩
        refine ⟨a, xs, v, rfl, rfl, h4, e1, ?_⟩
        have r2 := rl.grow (xs := xs) hi h1 h2 h3 h5.dropLast
        exact k mu B O _ σ _ ρ' S v w _ r2 (e2.at_ban (.inr h2)) hr fun σ' r' _ => q σ' _ mu O (ExtS.at_own h2) r'
      · exact q.elim
    · exact q.elim
  · exact q.elim
end
end DL
namespace DL
open PySem PySem.Spec PyProof.Rows L2
section
variable {X : Cx} {pos p xp : Pos} {i : Nat} {x : Str}
theorem de_lenO (hN : X.N[i]? = some x) (hv : Vis X.env.scope x) (hg : Gl X "len") (hm : X.mg "len" = none) (hd : (x == ("__debug__" : Str)) = false := by decide) (hcd : (x == ("__classdict__" : Str)) = false := by decide)
    (he : starEach [.Name x xp] X.env = (false, eval (.Name x xp) X.env) :: starEach [] X.env := by rfl) : De X (.Call (.Name "len" p) [.Name x xp] [] pos) (mLenO i) :=
  PE.weak (pe_callB call_len hg hm bt_len (pa_cons (pe_var hN hv hd hcd) pa_nil he) (by decide) (by decide) he rfl) fun σ H Q ⟨ρ, S, mu, B, O, rl, w, S', e1, q⟩ => by
    unfold mLenO at e1
    split at e1
    · rename_i ws hi
      cases e1
      obtain ⟨a, xs, h1, h2, h3, h4, h5⟩ := rl.own i ws hi
      refine ⟨.ref a, h1, ?_⟩
      refine ⟨_, _, rfl, .inl ⟨xs, .inl (.inl h4), rfl⟩, ?_⟩
      exact q _ H mu (.refl _ _) rl.sto (by rw [h5.length]; exact .int _)
    · cases e1
end
theorem enumT_new (a : Addr) (items : Array Value) :
    Meets (Builtin.«enumerate.__new__» ⟨[.type "enumerate", .ref a], []⟩) (fun _ R s => s.heap.IsTuple a items ∧
      R (.ok (.ret (.ref (s.heap.objs.size + 1)))) { s with heap := (s.heap.push { cls := .type "tuple_iterator", data := .fields #[.ref a, .int 0 0] }).push { cls := .type "enumerate", data := .fields #[.none, .bool false, .ref s.heap.objs.size, rawInt 0, .none, .none] } }) :=
  .of_wp fun prog w A R ⟨hp, g, d, tk, os⟩ ⟨ht, h⟩ => by
    have sub := sub_enumerate
    have ht' : Heap.IsTuple (Shared.heap ⟨hp, g, d, tk, os⟩) a items := ht
    have sz : (hp.push { cls := .type "tuple_iterator", data := .fields #[.ref a, .int 0 0] }).objs.size = hp.objs.size + 1 := Heap.size_push ..
    wp_walk using wpAny_pyIter_tuple ht'
    refine wpAny_stack_any fun st => wpAny_pure ?_
    split
    · rename_i c _ _ _ _ _
      cases (c == Value.type "enumerate") <;> (wp_walk using wpAny_pyIter_tuple ht'; exact ⟨_, rfl, by rw [sz]; exact h⟩)
    · wp_walk using wpAny_pyIter_tuple ht'; exact ⟨_, rfl, by rw [sz]; exact h⟩
def IteT (K : Fg) (a : Addr) : It :=
  ⟨fun i H => ∃ (xs : List V) (x : V), SqT K H a xs ∧ xs[i]? = some x, fun i H v H' => ∃ T x, v = .ref T ∧ H T = none ∧ H' = upd H T (.tup [.int (i : Nat), x]) ∧ ∀ xs, SqT K H a xs → xs[i]? = some x, fun i H => ∃ xs : List V, SqT K H a xs ∧ xs.length = i⟩
structure EnT (a e it : Addr) (i : Nat) (h : Heap) : Prop where
  en : ∃ old, IsEnum h e it i old
  tu : h.IsTupleIter it a i
  ei : e ≠ it
  ea : e ≠ a
  ai : a ≠ it
theorem turn_enumT {P : Program} {w : World} {K : Fg} {elts : List Expr} {kk : Nat} {tpos : Pos} (a e it : Addr) : Turn P w K (.Tuple elts kk tpos) (IteT K a) [e, it] e (EnT a e it) where
  mem := .head _
  obj := fun i h z b hb => by
    obtain ⟨old, q⟩ := z.en
    obtain ⟨o, q1, _, q2⟩ := z.tu
    have c : b = e ∨ b = it := by simpa using hb
    rcases c with rfl | rfl
    · exact ⟨_, q, nofun⟩
    · exact ⟨o, q1, by rw [q2]; exact nofun⟩
  keep := fun i h h' z k => ⟨z.en.imp fun old q => k e (by simp) _ q, z.tu.at (k it (by simp)), z.ei, z.ea, z.ai⟩
  item := fun X hP hw hK hc i pins s σ H E I hf z ⟨xs, x, hq, hx⟩ => by
    subst hP hw hK
    obtain ⟨its, rv, p, hz⟩ := I.tuple hq
    obtain ⟨u, hu, ru⟩ := rv.get hx
    have W := WalksT.enumerateD (prog := X.prog) (w := X.w) (Draws.tuple (show X.A.in1.handled = none from I.ok.hd hc) it a z.ai its.toArray) e z.ei (by simp [z.ei, z.ea]) (by simp)
    refine W.item i s _ _ (by simpa using (List.getElem?_eq_some_iff.1 hu).1) ⟨z.en, z.tu, p⟩ fun T vals h' tk ⟨t, y, hy, hv⟩ hT tp mid k => ⟨_, rfl, W.go _ _ _ i T _ _ _ mid fun h2 st2 k2 => ?_⟩
    subst hv
    obtain rfl : y = u := by simpa [hu] using hy.symm
    have far := W.apart i T _ mid
    have tp2 : h2.IsTuple T #[.int i t, y] := tp.at fun o q => k2 T o far q
    refine ⟨.ref T, _, I.turnedNew (t' := tk) (ch := [e, it]) (fun b o hb q => k2 b o hb (k b o hb q)) hf hT (ob := .tup [.int (i : Nat), x]) ?_, rfl, ⟨T, x, rfl, I.hok.fresh hT, rfl, fun ys hy => by rw [I.tuple_inj hy hq]; exact hx⟩, ⟨st2.1, st2.2.1, z.ei, z.ea, z.ai⟩, fun b hb => ?_⟩
    · exact ⟨by show 2 ≤ sizeLine; decide, [.int i t, y], .cons ⟨_, rfl⟩ (.cons ru .nil), tp2⟩
    · exact (upd_ne fun q : b = T => far (by rw [← q]; exact hb)).trans (hf b hb).1
  done := fun X hP hw hK hc i pins s σ H E I hf z ⟨xs, hq, hx⟩ => by
    subst hP hw hK
    obtain ⟨its, rv, p, hz⟩ := I.tuple hq
    have n : its.toArray.size = i := by simpa [← hx] using rv.length.symm
    have W := WalksT.enumerateD (prog := X.prog) (w := X.w) (Draws.tuple (show X.A.in1.handled = none from I.ok.hd hc) it a z.ai its.toArray) e z.ei (by simp [z.ei, z.ea]) (by simp)
    refine W.done s _ _ ?_ fun h' tk k => ⟨rfl, I.turnedL k hf⟩
    rw [n]
    exact ⟨z.en, z.tu, p⟩
  self := fun A i s Q E z q => let ⟨_, h⟩ := z.en; wpAny_pyIter_enum h q
def iEnT (K : Fg) (ta : TA) : TI := fun σ H R => ta σ H fun vs H1 => ∃ a xs, vs = [.ref a] ∧ SqT K H1 a xs ∧ R (IteT K a) H1
section
variable {X : Cx} {e : Expr} {ta : TA} {p pos tpos : Pos} {elts : List Expr} {kk : Nat}
theorem pi_enT (hg : Gl X "enumerate") (hm : X.mg "enumerate" = none) (ha : PA X [e] ta) (hs : starEach [e] X.env = [(false, eval e X.env)] := by rfl) : PI X (.Tuple elts kk tpos) (.Call (.Name "enumerate" p) [e] [] pos) (iEnT X.K ta) := ⟨fun pins s σ H R I h =>
  Call_ (ld_blt I hg hm boot_enumerate (PyProof.Rows.callWith_type1 (thn (ha.run pos pins s σ H _ I h) fun us s1 ⟨vs, H1, I1, r1, a, xs, ev, hq, q⟩ => by
    subst ev
    obtain ⟨u, rfl, ru⟩ := vals1 r1
    cases ru
    obtain ⟨its, rv, tp, hz⟩ := I1.tuple hq
    have la := tp.lt
    have new : ∀ b ∈ [s1.heap.objs.size + 1, s1.heap.objs.size], s1.heap.objs.size ≤ b := by simp
    have k1 : ∀ o, (s1.heap.push o).objs.size = s1.heap.objs.size + 1 := fun o => Heap.size_push ..
    refine callType_new F.called_enumerate (by decide) (F.typeCall_enumerate_1 _) (F.newCall_enumerate_1 _) (fun obj => F.args_object_init_2 obj _) F.entry_enumerate_new (enumT_new a its.toArray) ⟨tp, ?_⟩
    have at1 := Heap.get?_push_size (s1.heap.push { cls := .type "tuple_iterator", data := .fields #[.ref a, .int 0 0] }) (o := { cls := .type "enumerate", data := .fields #[.none, .bool false, .ref s1.heap.objs.size, rawInt 0, .none, .none] }) rfl
    rw [k1] at at1
    have en : IsEnum ((s1.heap.push { cls := .type "tuple_iterator", data := .fields #[.ref a, .int 0 0] }).push { cls := .type "enumerate", data := .fields #[.none, .bool false, .ref s1.heap.objs.size, rawInt 0, .none, .none] }) (s1.heap.objs.size + 1) s1.heap.objs.size 0 .none := at1
    refine ⟨⟨_, en, rfl⟩, wpAny_pyIter_enum en ⟨s1.heap.objs.size + 1, [s1.heap.objs.size + 1, s1.heap.objs.size], EnT a _ _, IteT X.K a, H1, rfl, I1.kept (t' := s1.toks) fun b o z => Heap.get?_push_of_some _ (Heap.get?_push_of_some _ z), turn_enumT a _ _, ?_, fun b hb => I1.fpOk (new b hb) (I1.hok.fresh (new b hb)), q⟩⟩
    exact ⟨⟨.none, en⟩, ⟨_, Heap.get?_push_of_some _ (Heap.get?_push_size _ rfl), rfl, rfl⟩, Nat.succ_ne_self _, Nat.ne_of_gt (Nat.lt_succ_of_lt la), Nat.ne_of_lt la⟩) hs rfl))⟩
theorem pi_or {tg it : Expr} {w1 w2 : TI} (p : PI X tg it w1) (q : PI X tg it w2) : PI X tg it (fun σ H R => w1 σ H R ∨ w2 σ H R) := ⟨fun pins s σ H R I h => h.elim (p.run pins s σ H R I) (q.run pins s σ H R I)⟩
end
theorem it_enumT {K : Fg} {a : Addr} {ws : List Wd} : ItOkP K (IteT K a) [.ref a] [.tuple ws] (enumD 0 ws) := fun mu T H S st bn r => by
  cases r with
  | cons r _ => cases r with
  | tup h1 h2 =>
    refine ⟨fun i d e => ?_, ⟨_, h1.sq, by rw [h2.length, enumD_length]⟩⟩
    obtain ⟨w, e1, rfl⟩ := enumD_get ws 0 i d e
    obtain ⟨x, e2, e3⟩ := h2.get e1
    refine ⟨⟨_, x, h1.sq, e2⟩, fun y H' hy => ?_⟩
    obtain ⟨Tn, x', rfl, hn, rfl, hx⟩ := hy
    have e4 := hx _ h1.sq
    rw [e2] at e4
    cases e4
    refine ⟨same_upd hn, .inr ⟨Tn, _, _, rfl, rfl, .inl (.inl upd_same), .cons ?_ (.cons (e3.same (same_upd hn)) .nil)⟩⟩
    rw [Nat.zero_add]
    exact .int _
def iEnumA (fs : Ma) : Mi := fun ρ S => (fs ρ S).bnd fun ws S1 => match ws with
  | [w] => R.of ((itemsD w).map (enumD 0)) S1
  | _ => .bad
theorem dip_enA {X : Cx} {e : Expr} {fs : Ma} {p pos tpos : Pos} {elts : List Expr} {kk : Nat} (hg : Gl X "enumerate") (hm : X.mg "enumerate" = none) (ha : Da X [e] fs) (hs : starEach [e] X.env = [(false, eval e X.env)] := by rfl) :
    DiP X (.Tuple elts kk tpos) (.Call (.Name "enumerate" p) [e] [] pos) (iEnumA fs) :=
  PI.weak (pi_or (pi_enum hg hm ha hs) (pi_enT hg hm ha hs)) fun σ H Rr ⟨ρ, S, mu, B, O, rl, ws, S', e, q⟩ => by
    obtain ⟨us, S1, e1, e2⟩ := R.bnd_inv e
    split at e2
    · rename_i w
      obtain ⟨e3, rfl⟩ := R.of_inv e2
      obtain ⟨zs, e4, rfl⟩ := Option.map_eq_some_iff.mp e3
      cases w with
      | list ys =>
        cases e4
        refine .inl (tDa.mk rl e1 fun vs H1 mu1 E r p => ?_)
        cases p with
        | cons p1 p2 =>
          cases p2
          cases p1 with
          | @lst a xs _ h1 h2 => exact ⟨a, xs, rfl, h1.sq, q _ _ _ H1 mu1 it_enum E r.sto (.cons (.lst h1 h2) .nil)⟩
      | tuple ys =>
        cases e4
        refine .inr (tDa.mk rl e1 fun vs H1 mu1 E r p => ?_)
        cases p with
        | cons p1 p2 =>
          cases p2
          cases p1 with
          | @tup a xs _ h1 h2 => exact ⟨a, xs, rfl, h1.sq, q _ _ _ H1 mu1 it_enumT E r.sto (.cons (.tup h1 h2) .nil)⟩
      | _ => cases e4
    · cases e2
section
variable {N : Ev → Sto → Prop} {Rt : Wd → Sto → Prop} {ρ : Ev} {S : Sto} {Q : Wd → Sto → Prop} {Qs : List Wd → Sto → Prop}
theorem w_enA {f : Mx} (h : wpE (f ρ S) fun w S1 => ∃ ys, itemsD w = some ys ∧ Qs (enumD 0 ys) S1) : wpE (iEnumA (aCons f aNil) ρ S) Qs := by
  unfold iEnumA aCons aNil
  simp only [wpE_bnd, wpE_ok]
  refine wpE_mono h fun w S1 ⟨ys, e, q⟩ => ?_
  rw [e]
  exact q
theorem w_star {f : Mx} {fs : Ma} (h : wpE (f ρ S) fun w S1 => ∃ xs, itemsD w = some xs ∧ wpE (fs ρ S1) fun ys S2 => Qs (xs ++ ys) S2) : wpE (aStar f fs ρ S) Qs := by
  unfold aStar
  simp only [wpE_bnd]
  refine wpE_mono h fun w S1 ⟨xs, e, q⟩ => ?_
  rw [e]
  simp only [wpE_bnd, wpE_ok]
  exact q
theorem w_lenO {i : Nat} {ws : List Wd} (h : ρ[i]? = some (some (.own ws))) (q : Q (.int ws.length) S) : wpE (mLenO i ρ S) Q := by
  unfold mLenO
  rw [h]
  exact q
theorem w_ext {i : Nat} {f : Mx} {ws : List Wd} (h : ρ[i]? = some (some (.own ws))) (q : wpE (f ρ S) fun w S1 => ∃ zs, w = .list zs ∧ ws.length + zs.length ≤ sizeLine ∧ N (ρ.set i (some (.own (ws ++ zs)))) S1) : wpS (sExt i f ρ S) N Rt := by
  unfold sExt
  rw [h]
  cases z : f ρ S with
  | bad => rw [z] at q; exact q.elim
  | ok w S1 =>
    rw [z] at q
    obtain ⟨zs, rfl, hl, q⟩ := q
    simp only [sOf_ok, if_pos hl]
    exact q
theorem w_pop {i : Nat} {g : Mg} {ws : List Wd} {w : Wd} (h : ρ[i]? = some (some (.own (ws ++ [w])))) (q : wpO (g w (ρ.set i (some (.own ws)))) fun ρ' => N ρ' S) : wpS (sPop g i ρ S) N Rt := by
  obtain ⟨ρ', e, q⟩ := q
  unfold sPop
  rw [h]
  simp only [List.length_append, List.length_singleton, Nat.add_sub_cancel, List.getElem?_append_right (Nat.le_refl _), Nat.sub_self, List.getElem?_cons_zero, List.dropLast_concat, e]
  exact q
theorem w_wh {t : Mt} {m : Ms} {fuel : Ev → Sto → Nat} (h : wpS (whLoop t m (fuel ρ S) ρ S) N Rt) : wpS (sWhile fuel t m ρ S) N Rt := h
theorem w_whS {t : Mt} {m : Ms} {n : Nat} (h : wpE (t ρ S) fun b S1 => if b = true then wpS (m ρ S1) (fun ρ2 S2 => wpS (whLoop t m n ρ2 S2) N Rt) Rt else N ρ S1) : wpS (whLoop t m (n + 1) ρ S) N Rt := by
  unfold whLoop
  cases z : t ρ S with
  | bad => rw [z] at h; exact h.elim
  | ok b S1 =>
    rw [z] at h
    simp only [sTest_ok]
    cases b with
    | false => exact h
    | true =>
      simp only [if_true, wpE_ok] at h ⊢
      cases y : m ρ S1 <;> rw [y] at h <;> first | exact h | exact h.elim
theorem w_zip2 {f f' : Mx} (h : wpE (f ρ S) fun x S1 => wpE (f' ρ S1) fun y S2 => ∃ xs ys, ((x = .list xs ∧ y = .list ys) ∨ (x = .tuple xs ∧ y = .tuple ys)) ∧ Qs (zipD xs ys) S2) : wpE (iZipD (aCons f (aCons f' aNil)) ρ S) Qs := by
  unfold iZipD aCons aNil
  simp only [wpE_bnd, wpE_ok]
  refine wpE_mono h fun x S1 h => wpE_mono h fun y S2 ⟨xs, ys, e, q⟩ => ?_
  rcases e with ⟨rfl, rfl⟩ | ⟨rfl, rfl⟩ <;> exact q
end
end DL
namespace DL
open PySem PySem.Spec PyProof.Rows L2
def strsD : List Wd → Option (List Str)
  | [] => some []
  | .str x :: r => (strsD r).map (x :: ·)
  | _ => none
def findS (z : Str) : List Str → Nat → Option Nat
  | [], _ => none
  | y :: r, n => if y = z then some n else findS z r (n + 1)
def gIndexT : Wd → Wd → Option Wd
  | .tuple ys, .str z => (strsD ys).bind fun xs => (findS z xs 0).map fun (j : Nat) => .int (j : Int)
  | _, _ => none
theorem strs_of {K : Fg} {mu : List Addr} {T : Addr → Prop} {H : Hp} : ∀ {vs : List V} {ws : List Wd} {ns : List Str}, RpAll K mu T H vs ws → strsD ws = some ns → vs = ns.map V.str
  | [], [], ns, _, e => by cases e; rfl
  | v :: vs, w :: ws, ns, h, e => by
    cases h with
    | cons a b =>
      unfold strsD at e
      split at e
      · rename_i e0; cases e0
      · rename_i x r e0
        cases e0
        obtain ⟨xs, e1, rfl⟩ := Option.map_eq_some_iff.mp e
        cases a
        rw [strs_of b e1]
        rfl
      · cases e
theorem findS_spec (z : Str) : ∀ (ys : List Str) (n j : Nat), findS z ys n = some j → ∃ i, j = n + i ∧ ys[i]? = some z ∧ ∀ m, m < i → ys[m]? ≠ some z
  | [], n, j, h => by cases h
  | y :: ys, n, j, h => by
    unfold findS at h
    by_cases c : y = z
    · rw [if_pos c] at h
      cases h
      subst c
      exact ⟨0, rfl, rfl, fun m hm => absurd hm (Nat.not_lt_zero m)⟩
    · rw [if_neg c] at h
      obtain ⟨i, e1, e2, e3⟩ := findS_spec z ys (n + 1) j h
      refine ⟨i + 1, by omega, e2, fun m hm => ?_⟩
      cases m with
      | zero => intro q; cases q; exact c rfl
      | succ m => exact e3 m (by omega)
section
variable {X : Cx}
theorem tup_ty {pins : List (Addr × Obj)} {s : Shared} {σ : Sg} {H : Hp} {mu : List Addr} {T : Addr → Prop} {a : Addr} {xs : List V} (I : Inv X pins σ H s) (h : TpR X.K mu T H a xs) : s.TypeIs (.ref a) "tuple" ∧ ∀ a', Value.ref a = .ref a' → ∃ ob, s.heap.get? a' = some ob ∧ ob.dict = none := by
  obtain ⟨its, _, ⟨o, ho, hc, _⟩, _⟩ := I.tuple h.sq
  refine ⟨⟨o, ho, hc⟩, fun a' e => ?_⟩
  cases e
  rcases h with ⟨⟨o', d, q⟩, _⟩ | ⟨_, o', q, d⟩
  · exact ⟨o', (I.hok a _ q).1, d⟩
  · exact ⟨o', I.kIn a o' q, d⟩
theorem de_tm {o e : Expr} {es : List Expr} {name : Str} {id : String} {fo : Mx} {t : TA} {r : V → List V → Hp → VK → Prop} {g : Mx} {apos cpos : Pos} (slot : Slot "tuple" name id) (hty : typeOf (.builtin id) = pure (.type "method_descriptor")) (hm : MtR X id r) (ho : De X o fo) (ha : PA X (e :: es) t)
    (k : ∀ σ H Q, tD X.K g σ H Q → tD X.K fo σ H fun x H1 => (∃ a xs mu T, x = .ref a ∧ TpR X.K mu T H1 a xs) ∧ t σ H1 fun xs H2 => r x xs H2 Q)
    (hbase : attributeBase o name X.env (eval o X.env) = eval o X.env := by rfl)
    (hfew : ((backTo cpos (starEach (e :: es) X.env)).all (fun x => !x.1) && (backToKw cpos (keywordEach [] X.env)).all (fun x => x.1.isSome) && decide ((e :: es).length + ([] : List Keyword).length + (if ([] : List Keyword).isEmpty then 0 else 1) < 30)) = true := by rfl)
    (hline : (apos.endLine == cpos.line) = true := by rfl) (hs : starEach (e :: es) X.env = (false, eval e X.env) :: starEach es X.env := by rfl) (hplain : (backTo cpos (starEach es X.env)).any (·.1) = false := by rfl) :
    De X (.Call (.Attribute o name apos) (e :: es) [] cpos) g := by
  refine ⟨fun pins s σ H Q I h => ?_⟩
  refine wpAny_Call_method_late hbase hfew hline rfl (thn (ho.run pins s σ H _ I (k σ H Q h)) fun v s1 ⟨x, H1, I1, r1, ⟨a, xs, mu, T, ex, hT⟩, q1⟩ => ?_)
  subst ex
  cases r1
  obtain ⟨h1, h2⟩ := tup_ty I1 hT
  refine ⟨"tuple", id, PySem.F.plainAttrs_tuple, slot, hty, h1, h2, ?_⟩
  have hA := ha.run cpos pins s1 σ H1 _ I1 q1
  rw [hs] at hA ⊢
  refine Calls.callWith_builtin (by show (false || (backTo cpos (starEach es X.env)).any (·.1)) = false; rw [hplain] <;> rfl) (Calls.evalArgs_plain ?_)
  exact thn hA fun us s2 ⟨vs, H2, I2, r2, q2⟩ => hm pins s2 σ H2 (.ref a) vs _ us Q I2 rfl r2 q2
theorem de_indexT {o e : Expr} {fo fe : Mx} {apos cpos : Pos} (ho : De X o fo) (he : De X e fe) (hbase : attributeBase o "index" X.env (eval o X.env) = eval o X.env := by rfl)
    (hfew : ((backTo cpos (starEach [e] X.env)).all (fun x => !x.1) && (backToKw cpos (keywordEach [] X.env)).all (fun x => x.1.isSome) && decide ([e].length + ([] : List Keyword).length + (if ([] : List Keyword).isEmpty then 0 else 1) < 30)) = true := by rfl)
    (hline : (apos.endLine == cpos.line) = true := by rfl) (hs : starEach [e] X.env = [(false, eval e X.env)] := by rfl) : De X (.Call (.Attribute o "index" apos) [e] [] cpos) (mBin gIndexT fo fe) := by
  refine de_tm PySem.F.slot_tuple_index PySem.F.type_tuple_index mt_tup_index ho (pa_cons he pa_nil hs) ?_ hbase hfew hline hs rfl
  intro σ H Q ⟨ρ, S, mu, B, O, rl, w, S', e, q⟩
  obtain ⟨x, S1, e1, e⟩ := R.bnd_inv e
  obtain ⟨y, S2, e2, e⟩ := R.bnd_inv e
  obtain ⟨e3, rfl⟩ := R.of_inv e
  unfold gIndexT at e3
  split at e3
  · rename_i ys z _
    obtain ⟨xs, h1, h2⟩ := Option.bind_eq_some_iff.mp e3
    obtain ⟨j, h3, rfl⟩ := Option.map_eq_some_iff.mp h2
    obtain ⟨i, rfl, h4, h5⟩ := findS_spec z xs 0 j h3
    refine tD.mk rl e1 fun v H1 mu1 E1 r1 p1 => ?_
    cases p1 with
    | @tup a vs ds a1 b1 =>
      refine ⟨⟨a, vs, _, _, rfl, a1⟩, tD.mk r1 e2 fun u H2 mu2 E2 r2 p2 => ?_⟩
      have p1 : Rp X.K mu2 (fun a => B a ∨ O a) H2 (.ref a) (.tuple ys) := Rp.ext (.tup a1 b1) E2
      cases p1 with
      | tup a2 b2 =>
        cases p2
        refine ⟨a, xs, z, i, rfl, rfl, ?_, h4, h5, q _ H2 mu2 (E1.trans E2) r2.sto ?_⟩
        · rw [← strs_of b2 h1]
          exact a2.sq
        · rw [Nat.zero_add]
          exact .int _
  · cases e3
end
end DL
namespace DL
open PySem PySem.Spec PyProof.Rows L2
variable {G : Bool}
mutual
def bndW (n : Nat) : Wd → Bool
  | .list ws => bndAll n ws
  | .tuple ws => bndAll n ws
  | .dict kvs => bndKv n kvs
  | _ => true
def bndAll (n : Nat) : List Wd → Bool
  | [] => true
  | w :: ws => bndW n w && bndAll n ws
def bndKv (n : Nat) : List (Wd × Wd) → Bool
  | [] => true
  | (k, v) :: r => (match k, v with
    | .none, .int i => decide (i.toNat < n)
    | _, _ => bndW n v) && bndKv n r
end
def Rec.bnd (n : Nat) : Rec → Bool
  | .dct fs => fs.all fun q => bndW n q.2
  | .tdc kvs => kvs.all fun q => bndW n q.2
  | .tab _ => true
  | .exn _ fs => fs.all fun q => bndW n q.2
section
variable {K : Fg} {mu : List Addr} {T : Addr → Prop} {H : Hp} {n : Nat}
theorem take_notin {a : Addr} (h : a ∉ mu) : a ∉ mu.take n := fun q => h (List.mem_of_mem_take q)
mutual
theorem Rp.take : ∀ (w : Wd) (v : V), bndW n w = true → Rp K mu T H v w → Rp K (mu.take n) T H v w
  | .none, _, _, h => by cases h; exact .non
  | .bool b, _, _, h => by cases h; exact .bl b
  | .int i, _, _, h => by cases h; exact .int i
  | .str x, _, _, h => by cases h; exact .str x
  | .list ds, _, c, h => by
    cases h with
    | lst a b => exact .lst (a.imp (fun z => ⟨z.1, take_notin z.2.1, z.2.2⟩) id) (RpAll.takeM ds _ c b)
  | .tuple ds, _, c, h => by
    cases h with
    | tup a b => exact .tup (a.imp (fun z => ⟨z.1, take_notin z.2.1, z.2.2⟩) id) (RpAll.takeM ds _ c b)
  | .dict ds, _, c, h => by
    cases h with
    | dct a b => exact .dct ⟨a.1, take_notin a.2.1, a.2.2⟩ (RpKv.takeM ds _ c b)
    | @obj a l e =>
      refine .obj ?_
      have hl : l < n := by
        unfold bndW bndKv at c
        simp only [Bool.and_eq_true, decide_eq_true_eq] at c
        exact c.1
      rw [List.getElem?_take]
      rw [if_pos hl]
      exact e
theorem RpAll.takeM : ∀ (ws : List Wd) (vs : List V), bndAll n ws = true → RpAll K mu T H vs ws → RpAll K (mu.take n) T H vs ws
  | [], _, _, h => by cases h; exact .nil
  | d :: ds, _, c, h => by
    cases h with
    | cons a b =>
      unfold bndAll at c
      obtain ⟨c1, c2⟩ := Bool.and_eq_true_iff.mp c
      exact .cons (Rp.take d _ c1 a) (RpAll.takeM ds _ c2 b)
theorem RpKv.takeM : ∀ (ws : List (Wd × Wd)) (vs : List (Key × V)), bndKv n ws = true → RpKv K mu T H vs ws → RpKv K (mu.take n) T H vs ws
  | [], _, _, h => by cases h; exact .nil
  | (_, d) :: ds, _, c, h => by
    cases h with
    | @cons k v r d ds a b =>
      unfold bndKv at c
      obtain ⟨c1, c2⟩ := Bool.and_eq_true_iff.mp c
      refine .cons (Rp.take d _ ?_ a) (RpKv.takeM ds _ c2 b)
      cases k with
      | inl i => exact c1
      | inr x => exact c1
end
theorem FsR.takeM : ∀ {kvs : List (Key × V)} {fs : List (Str × Wd)}, (fs.all fun q => bndW n q.2) = true → FsR K mu T H kvs fs → FsR K (mu.take n) T H kvs fs
  | [], [], _, _ => trivial
  | (k, v) :: r, (x, d) :: ds, c, h => by
    rw [List.all_cons] at c
    obtain ⟨c1, c2⟩ := Bool.and_eq_true_iff.mp c
    exact ⟨h.1, Rp.take _ _ c1 h.2.1, FsR.takeM c2 h.2.2⟩
  | [], _ :: _, _, h => h.elim
  | _ :: _, [], _, h => h.elim
theorem bnd_ints (k : List Int) : bndAll n (k.map PyData.int) = true := by
  induction k with
  | nil => rfl
  | cons x k ih => simp only [List.map_cons, bndAll, bndW, ih]; rfl
theorem TdR.takeM : ∀ {kvs : List (List Int × Wd)} {es : List (List Int × Addr × Value)}, (kvs.all fun q => bndW n q.2) = true → TdR K mu T H kvs es → TdR K (mu.take n) T H kvs es
  | [], [], _, _ => trivial
  | (k, d) :: r, (k', b, u) :: es, c, h => by
    rw [List.all_cons] at c
    obtain ⟨c1, c2⟩ := Bool.and_eq_true_iff.mp c
    obtain ⟨v, h1, h2⟩ := h.2.2.1
    exact ⟨h.1, Rp.take _ _ (by unfold bndW; exact bnd_ints k) h.2.1, ⟨v, h1, Rp.take _ _ c1 h2⟩, TdR.takeM c2 h.2.2.2⟩
  | [], _ :: _, _, h => h.elim
  | _ :: _, [], _, h => h.elim
theorem lookup_mem' {y : Str} {w : Wd} : ∀ {l : List (Str × Wd)}, l.lookup y = some w → (y, w) ∈ l
  | [], h => by cases h
  | (x, v) :: l, h => by
    by_cases c : y = x
    · subst c
      have e : List.lookup y ((y, v) :: l) = some v := by simp [List.lookup]
      rw [e] at h
      cases h
      exact List.mem_cons_self
    · have e : List.lookup y ((x, v) :: l) = l.lookup y := by simp [List.lookup, beq_eq_false_iff_ne.mpr c]
      rw [e] at h
      exact List.mem_cons_of_mem _ (lookup_mem' h)
theorem RecOk.takeM {a : Addr} : ∀ {r : Rec}, r.bnd n = true → RecOk K mu T H a r → RecOk K (mu.take n) T H a r
  | .dct fs, c, ⟨kvs, h, q⟩ => ⟨kvs, h, FsR.takeM c q⟩
  | .tdc fs, c, ⟨es, h, q⟩ => ⟨es, h, TdR.takeM c q⟩
  | .tab x, c, ⟨h0, ps, h, q, z⟩ => ⟨h0, ps, h, q, fun pos cv hc => let ⟨c, h1, h2, h3⟩ := z pos cv hc; ⟨c, h1, h2, fun m => h3 (List.mem_of_mem_take m)⟩⟩
  | .exn x fs, c, ⟨oe, dx, vs, fv, h1, h2, h3, h4, h5, h6, q⟩ => ⟨oe, dx, vs, fv, h1, h2, h3, h4, h5, fun m => h6 (List.mem_of_mem_take m), fun y w z => let ⟨v, p1, p2⟩ := q y w z; ⟨v, p1, Rp.take _ _ (List.all_eq_true.mp c (y, w) (lookup_mem' z)) p2⟩⟩
theorem StOk.takeM {S : Sto} (h : StOk K mu T H S) (c : ((S.take n).all fun r => r.bnd n) = true) : StOk K (mu.take n) T H (S.take n) := by
  refine ⟨by rw [List.length_take, List.length_take, h.len], h.nd.sublist (List.take_sublist _ _), fun l a r h1 h2 => ?_⟩
  have hr : r ∈ S.take n := List.mem_of_getElem? h2
  rw [List.getElem?_take] at h1 h2
  split at h1
  · rename_i hl
    rw [if_pos hl] at h2
    exact RecOk.takeM (List.all_eq_true.mp c r hr) (h.ok l a r h1 h2)
  · cases h1
end
section
variable {P : Program} {w : World} {K : Fg} {mg : Str → Option Value} {base : Heap}
end
theorem mdO_ok {P : Program} {w : World} {H : Hp} {h : Heap} {a : Addr} {ents : List (List Int × Addr × Value)} {o : Obj} {es : Array DictEntry} {ep : Nat} (h1 : (a == sysModules) = false) (h2 : ents.length ≤ sizeLine) (h3 : (ents.map (·.1)).Nodup) (h4 : h.get? a = some o) (h5 : o.ExactDict) (h6 : o.data = .dict es ep)
    (h7 : ∀ (P : Program) (w : World), es.toList = ents.map fun x => entryOfKey (tupleKind (mixKind P w)) (x.1.map Sum.inl, x.2)) : ObjOk P w H h a (mdO a ents) :=
  ⟨⟨h1, h2, h3, o, es, ep, h4, h5, h6, h7⟩, ⟨o, h4⟩, fun k1 k2 ⟨z1, z2, z3, o', es', ep', z4, z5⟩ k => ⟨z1, z2, z3, o', es', ep', k _ z4, z5⟩⟩
section
variable {X : Cx} {pos : Pos}
theorem StOk.newRec0 {K : Fg} {mu : List Addr} {T : Addr → Prop} {H : Hp} {S : Sto} {p : Addr} {o : HO} {r : Rec} (st : StOk K mu T H S) (np : H p = none) (hr : RecOk K (mu ++ [p]) T (upd H p o) p r) : Ext mu (mu ++ [p]) H (upd H p o) ∧ StOk K (mu ++ [p]) T (upd H p o) (S ++ [r]) := by
  have hpm : p ∉ mu := st.fresh np
  have E : Ext mu (mu ++ [p]) H (upd H p o) := ⟨fun l a z => by rw [List.getElem?_append_left (List.getElem?_eq_some_iff.mp z).1]; exact z, fun a u z _ => by rw [upd_ne (ne_of_none z np)]; exact z, fun a m n => by
    rcases List.mem_append.mp m with m | m
    · exact absurd m n
    · rw [List.mem_singleton.mp m]; exact np⟩
  refine ⟨E, by rw [List.length_append, List.length_append, st.len]; rfl, ?_, fun l a q h1 h2 => ?_⟩
  · rw [List.nodup_append]
    refine ⟨st.nd, by simp, fun x hx y hy => ?_⟩
    rw [List.mem_singleton] at hy
    subst hy
    exact fun e => hpm (e ▸ hx)
  · by_cases c : l < S.length
    · rw [List.getElem?_append_left c] at h2
      rw [List.getElem?_append_left (by rw [st.len]; exact c)] at h1
      have na : a ≠ p := fun e => hpm (e ▸ List.mem_of_getElem? h1)
      exact RecOk.map (fun _ z => by rw [upd_ne na]; exact z) (fun _ _ z => z.ext E) (fun c _ _ z n => ⟨by rw [upd_ne (ne_of_none z np)]; exact z, E.notin z n⟩) (st.ok l a q h1 h2)
    · rw [List.getElem?_append_right (by omega)] at h2
      rw [List.getElem?_append_right (by rw [st.len]; omega)] at h1
      have hl : l - S.length = 0 := by
        have := (List.getElem?_eq_some_iff.mp h2).1
        simp at this
        omega
      rw [st.len, hl] at h1
      rw [hl] at h2
      cases h1
      cases h2
      exact hr
def mMap0 : Mx := fun _ S => .ok (oW S.length) (S ++ [.tdc []])
theorem de_map0 : De X (.Dict [] [] pos) mMap0 := by
  refine ⟨fun pins s σ H Q I ⟨ρ, S, mu, B, O, rl, w, S', e, q⟩ => ?_⟩
  cases e
  have np : H s.heap.objs.size = none := I.hok.fresh (Nat.le_refl _)
  obtain ⟨E, st⟩ := StOk.newRec0 (o := mdO s.heap.objs.size []) (r := .tdc []) rl.sto np ⟨[], upd_same, trivial⟩
  refine wpAny_Dict_empty ⟨.ref s.heap.objs.size, _, I.laid (a := s.heap.objs.size) (o := mdO s.heap.objs.size []) (t' := s.toks) (fun _ _ q => Heap.get?_push_of_some _ q) (Nat.le_refl _) ?_, rfl, q _ _ _ E st (.obj ?_)⟩
  · exact mdO_ok (es := #[]) (ep := 0) (beq_eq_false_iff_ne.mpr (Nat.ne_of_gt I.big)) (Nat.zero_le _) List.nodup_nil (Heap.get?_push_size _ rfl) ⟨rfl, rfl, rfl⟩ rfl (fun _ _ => rfl)
  · rw [← rl.sto.len, List.getElem?_append_right (Nat.le_refl _), Nat.sub_self]
    rfl
end
def lookT (k : List Int) : List (List Int × Wd) → Option Wd
  | [] => none
  | (k', d) :: r => if k' = k then some d else lookT k r
def putT (k : List Int) (w : Wd) (kvs : List (List Int × Wd)) : List (List Int × Wd) := if (kvs.any fun q => decide (q.1 = k)) = true then kvs.map (fun q => if q.1 = k then (q.1, w) else q) else kvs ++ [(k, w)]
def inlE (x : List Int × Addr × Value) : List Key × Addr × Value := (x.1.map Sum.inl, x.2)
theorem inl_inj : ∀ {a b : List Int}, (a.map (Sum.inl (β := Str)) : List Key) = b.map Sum.inl → a = b
  | [], [], _ => rfl
  | x :: a, y :: b, h => by
    rw [List.map_cons, List.map_cons] at h
    injection h with h1 h2
    injection h1 with h1
    rw [h1, inl_inj h2]
  | [], _ :: _, h => by cases h
  | _ :: _, [], h => by cases h
section
variable {K : Fg} {mu : List Addr} {T : Addr → Prop} {H : Hp}
theorem ints_rp {k : List Int} : ∀ {vs : List V}, RpAll K mu T H vs (k.map PyData.int) → vs = (k.map (Sum.inl (β := Str)) : List Key).map kV := by
  induction k with
  | nil => intro vs h; cases h; rfl
  | cons x k ih =>
    intro vs h
    cases h with
    | cons a b =>
      cases a
      rw [ih b]
      rfl
theorem TdR.look {k : List Int} {w : Wd} : ∀ {kvs : List (List Int × Wd)} {es : List (List Int × Addr × Value)}, TdR K mu T H kvs es → lookT k kvs = some w → ∃ b u v, atKey (es.map inlE) (k.map Sum.inl) = some (b, u) ∧ RelV v u ∧ Rp K mu T H v w
  | [], [], _, e => by cases e
  | (k1, d) :: r, (k2, b, u) :: es, h, e => by
    obtain ⟨rfl, _, ⟨v, h1, h2⟩, h3⟩ := h
    unfold lookT at e
    by_cases c : k1 = k
    · rw [if_pos c] at e
      cases e
      subst c
      refine ⟨b, u, v, ?_, h1, h2⟩
      simp [atKey, inlE]
    · rw [if_neg c] at e
      obtain ⟨b', u', v', q1, q2, q3⟩ := TdR.look h3 e
      refine ⟨b', u', v', ?_, q2, q3⟩
      rw [← q1]
      unfold atKey
      rw [List.map_cons, List.find?_cons_of_neg]
      exact fun z => c (inl_inj (of_decide_eq_true z))
  | [], _ :: _, h, _ => h.elim
  | _ :: _, [], h, _ => h.elim
theorem TdR.length : ∀ {kvs : List (List Int × Wd)} {es : List (List Int × Addr × Value)}, TdR K mu T H kvs es → kvs.length = es.length
  | [], [], _ => rfl
  | (k1, d) :: r, (k2, b, u) :: es, h => by rw [List.length_cons, List.length_cons, TdR.length h.2.2.2]
  | [], _ :: _, h => h.elim
  | _ :: _, [], h => h.elim
theorem TdR.any (k : List Int) : ∀ {kvs : List (List Int × Wd)} {es : List (List Int × Addr × Value)}, TdR K mu T H kvs es → (kvs.any fun q => decide (q.1 = k)) = (es.any fun q => decide (q.1 = k))
  | [], [], _ => rfl
  | (k1, d) :: r, (k2, b, u) :: es, h => by
    rw [List.any_cons, List.any_cons, TdR.any k h.2.2.2, h.1]
  | [], _ :: _, h => h.elim
  | _ :: _, [], h => h.elim
def putE (k : List Int) (b : Addr) (u : Value) (es : List (List Int × Addr × Value)) : List (List Int × Addr × Value) := if (es.any fun q => decide (q.1 = k)) = true then es.map (fun q => if q.1 = k then (q.1, q.2.1, u) else q) else es ++ [(k, b, u)]
theorem TdR.putM {k : List Int} {v : V} {u : Value} {w : Wd} (rv : RelV v u) (p : Rp K mu T H v w) : ∀ {kvs : List (List Int × Wd)} {es : List (List Int × Addr × Value)}, TdR K mu T H kvs es → TdR K mu T H (kvs.map (fun q => if q.1 = k then (q.1, w) else q)) (es.map (fun q => if q.1 = k then (q.1, q.2.1, u) else q))
  | [], [], _ => trivial
  | (k1, d) :: r, (k2, b, u') :: es, h => by
    obtain ⟨rfl, h1, h2, h3⟩ := h
    rw [List.map_cons, List.map_cons]
    by_cases c : k1 = k
    · rw [if_pos c, if_pos c]
      exact ⟨rfl, h1, ⟨v, rv, p⟩, TdR.putM rv p h3⟩
    · rw [if_neg c, if_neg c]
      exact ⟨rfl, h1, h2, TdR.putM rv p h3⟩
  | [], _ :: _, h => h.elim
  | _ :: _, [], h => h.elim
theorem TdR.snoc {k : List Int} {b : Addr} {v : V} {u : Value} {w : Wd} (hk : Rp K mu T H (.ref b) (.tuple (k.map .int))) (rv : RelV v u) (p : Rp K mu T H v w) : ∀ {kvs : List (List Int × Wd)} {es : List (List Int × Addr × Value)}, TdR K mu T H kvs es → TdR K mu T H (kvs ++ [(k, w)]) (es ++ [(k, b, u)])
  | [], [], _ => ⟨rfl, hk, ⟨v, rv, p⟩, trivial⟩
  | (k1, d) :: r, (k2, b, u') :: es, h => ⟨h.1, h.2.1, h.2.2.1, TdR.snoc hk rv p h.2.2.2⟩
  | [], _ :: _, h => h.elim
  | _ :: _, [], h => h.elim
theorem TdR.put {k : List Int} {b : Addr} {v : V} {u : Value} {w : Wd} (hk : Rp K mu T H (.ref b) (.tuple (k.map .int))) (rv : RelV v u) (p : Rp K mu T H v w) {kvs : List (List Int × Wd)} {es : List (List Int × Addr × Value)} (h : TdR K mu T H kvs es) : TdR K mu T H (putT k w kvs) (putE k b u es) := by
  unfold putT putE
  rw [h.any k]
  split
  · exact TdR.putM rv p h
  · exact TdR.snoc hk rv p h
end
theorem at_some (k : List Int) : ∀ es : List (List Int × Addr × Value), (atKey (es.map inlE) (k.map Sum.inl)).isSome = (es.any fun q => decide (q.1 = k))
  | [] => rfl
  | q :: es => by
    have ih := at_some k es
    unfold atKey at ih ⊢
    rw [List.map_cons, List.any_cons]
    by_cases c : q.1 = k
    · rw [List.find?_cons_of_pos (by exact decide_eq_true (show q.1.map Sum.inl = _ by rw [c])), decide_eq_true c]
      rfl
    · rw [List.find?_cons_of_neg (by exact fun z => c (inl_inj (of_decide_eq_true z))), decide_eq_false c, ih]
      rfl
theorem stored_inl (k : List Int) (b : Addr) (u : Value) (es : List (List Int × Addr × Value)) : storedH (es.map inlE) (k.map Sum.inl) b u = (putE k b u es).map inlE := by
  unfold storedH putE
  rw [at_some]
  split
  · rw [List.map_map, List.map_map]
    refine List.map_congr_left fun q _ => ?_
    show putAt _ u (inlE q) = inlE (if q.1 = k then (q.1, q.2.1, u) else q)
    unfold putAt
    by_cases c : q.1 = k
    · rw [if_pos (show (inlE q).1 = k.map Sum.inl from by show q.1.map Sum.inl = _; rw [c]), if_pos c]
      rfl
    · rw [if_neg (show ¬ (inlE q).1 = k.map Sum.inl from fun z => c (inl_inj z)), if_neg c]
  · rw [List.map_append]
    rfl
theorem put_nodup {k : List Int} {b : Addr} {u : Value} {es : List (List Int × Addr × Value)} (h : (es.map (·.1)).Nodup) : ((putE k b u es).map (·.1)).Nodup := by
  unfold putE
  split
  · rw [List.map_map]
    have : (fun q : List Int × Addr × Value => (if q.1 = k then (q.1, q.2.1, u) else q).1) = fun q => q.1 := by
      funext q
      split <;> rfl
    show (es.map fun q => (if q.1 = k then (q.1, q.2.1, u) else q).1).Nodup
    rw [this]
    exact h
  · rename_i c
    rw [List.map_append, List.nodup_append]
    refine ⟨h, by simp, fun x hx y hy => ?_⟩
    simp only [List.map_cons, List.map_nil, List.mem_singleton] at hy
    subst hy
    rintro rfl
    obtain ⟨q, hq, e⟩ := List.mem_map.mp hx
    exact c (List.any_eq_true.mpr ⟨q, hq, decide_eq_true e⟩)
theorem put_length (k : List Int) (b : Addr) (u : Value) (es : List (List Int × Addr × Value)) : (putE k b u es).length ≤ es.length + 1 := by
  unfold putE
  split
  · rw [List.length_map]; omega
  · rw [List.length_append]; exact Nat.le_refl _
theorem ent_any {P P' : Program} {w w' : World} {x : List Int × Addr × Value} : entryOfKey (tupleKind (mixKind P w)) (x.1.map Sum.inl, x.2) = entryOfKey (tupleKind (mixKind P' w')) (x.1.map Sum.inl, x.2) := by
  unfold entryOfKey
  congr 1
  show reduceHash (Builtin.Tuple.tupleHashOf (((x.1.map Sum.inl : List Key)).map (keyH w))) = reduceHash (Builtin.Tuple.tupleHashOf (((x.1.map Sum.inl : List Key)).map (keyH w')))
  rw [List.map_map, List.map_map]
  rfl
section
variable {X : Cx} {pos : Pos} {pins : List (Addr × Obj)} {σ : Sg} {H : Hp} {s : Shared}
theorem key_is {mu : List Addr} {T : Addr → Prop} {b : Addr} {k : List Int} (I : Inv X pins σ H s) (h : Rp X.K mu T H (.ref b) (.tuple (k.map .int))) : (tupleKind (mixKind X.prog X.w)).is s.heap (k.map Sum.inl) b := by
  cases h with
  | tup a r =>
    obtain ⟨its, rv, ⟨o, h1, h2, n, h3⟩, _⟩ := I.tuple a.sq
    rw [ints_rp r] at rv
    exact ⟨o, its.toArray, n, h1, h2, h3, by simpa using items_are rv⟩
theorem td_dict {mu : List Addr} {T : Addr → Prop} {a : Addr} {kvs : List (List Int × Wd)} {ents : List (List Int × Addr × Value)} (I : Inv X pins σ H s) (h : H a = some (mdO a ents)) (r : TdR X.K mu T H kvs ents) :
    (a == sysModules) = false ∧ ents.length ≤ sizeLine ∧ (ents.map (·.1)).Nodup ∧ s.heap.DictOfH (tupleKind (mixKind X.prog X.w)) a (ents.map inlE) := by
  obtain ⟨⟨h1, h2, h3, o, es, ep, h4, h5, h6, h7⟩, hx0⟩ := (show ObjOk X.prog X.w H s.heap a (mdO a ents) from I.hok a _ h)
  clear hx0
  refine ⟨h1, h2, h3, o, es, ep, h4, h5, h6, ?_, fun x hx => ?_, ?_⟩
  · rw [h7 X.prog X.w, List.map_map]
    rfl
  · obtain ⟨y, hy, rfl⟩ := List.mem_map.mp hx
    clear h2 h3 h7 h hx
    induction kvs generalizing ents with
    | nil =>
      cases ents with
      | nil => cases hy
      | cons _ _ => exact r.elim
    | cons q kvs ih =>
      cases ents with
      | nil => cases hy
      | cons e es =>
        obtain ⟨k1, d⟩ := q
        obtain ⟨k2, b, u⟩ := e
        obtain ⟨rfl, r1, r2, r3⟩ := r
        rcases List.mem_cons.mp hy with rfl | hy
        · exact key_is I r1
        · exact ih r3 hy
  · rw [List.map_map]
    have : ((fun x : List Key × Addr × Value => x.1) ∘ inlE) = (fun k => k.map Sum.inl) ∘ fun x : List Int × Addr × Value => x.1 := rfl
    rw [this, ← List.map_map]
    exact List.pairwise_map.mpr (h3.imp fun h z => h (inl_inj z))
end
def recGetT (S : Sto) (x y : Wd) : Option Wd := match x, y with
  | .dict [(.none, .int (.ofNat l))], .tuple ks => (match S[l]?, intsD ks with
    | some (.tdc kvs), some k => lookT k kvs
    | _, _ => none)
  | _, _ => none
def mIxT (fa fb : Mx) : Mx := fun ρ S => (fa ρ S).bnd fun x S1 => (fb ρ S1).bnd fun y S2 => R.of (recGetT S2 x y) S2
def recPutT (S : Sto) (x y w : Wd) : Option Sto := match x, y with
  | .dict [(.none, .int (.ofNat l))], .tuple ks => (match S[l]?, intsD ks with
    | some (.tdc kvs), some k => if kvs.length < sizeLine then some (S.set l (.tdc (putT k w kvs))) else none
    | _, _ => none)
  | _, _ => none
def sPutT (fo fk f : Mx) : Ms := fun ρ S => sOf (f ρ S) fun w S1 => sOf (fo ρ S1) fun o S2 => sOf (fk ρ S2) fun k S3 => match recPutT S3 o k w with
  | some S4 => .nx ρ S4
  | none => .bad
theorem intsD_eq : ∀ {ks : List Wd} {k : List Int}, intsD ks = some k → ks = k.map PyData.int
  | [], k, h => by cases h; rfl
  | w :: ks, k, h => by
    unfold intsD at h
    split at h
    · rename_i z; cases z
    · rename_i i r z
      cases z
      obtain ⟨m, e1, rfl⟩ := Option.map_eq_some_iff.mp h
      rw [intsD_eq e1]
      rfl
    · cases h
theorem recGetT_inv {S : Sto} {x y w : Wd} (h : recGetT S x y = some w) : ∃ l k kvs, x = oW l ∧ y = .tuple (k.map .int) ∧ S[l]? = some (.tdc kvs) ∧ lookT k kvs = some w := by
  unfold recGetT at h
  split at h
  · rename_i l ks
    split at h
    · rename_i kvs k e1 e2
      exact ⟨l, k, kvs, rfl, by rw [intsD_eq e2], e1, h⟩
    · cases h
  · cases h
theorem recPutT_inv {S S' : Sto} {x y w : Wd} (h : recPutT S x y w = some S') : ∃ l k kvs, x = oW l ∧ y = .tuple (k.map .int) ∧ S[l]? = some (.tdc kvs) ∧ kvs.length < sizeLine ∧ S' = S.set l (.tdc (putT k w kvs)) := by
  unfold recPutT at h
  split at h
  · rename_i l ks
    split at h
    · rename_i kvs k e1 e2
      obtain ⟨hz, rfl⟩ := ite_inv h
      exact ⟨l, k, kvs, rfl, by rw [intsD_eq e2], e1, hz, rfl⟩
    · cases h
  · cases h
section
variable {X : Cx} {a b : Expr} {fa fb : Mx} {pos : Pos}
theorem rp_obj {K : Fg} {mu : List Addr} {T : Addr → Prop} {H : Hp} {v : V} {l : Nat} (h : Rp K mu T H v (oW l)) : ∃ a, v = .ref a ∧ mu[l]? = some a := by
  cases h with
  | obj e => exact ⟨_, rfl, e⟩
  | dct a b => exact (kv_none b).elim
theorem rp_tup {K : Fg} {mu : List Addr} {T : Addr → Prop} {H : Hp} {v : V} {ds : List Wd} (h : Rp K mu T H v (.tuple ds)) : ∃ a, v = .ref a := by
  cases h with
  | tup a b => exact ⟨_, rfl⟩
theorem de_ixT (hu : X.A.units + 1 < cLine) (ha : De X a fa) (hb : De X b fb) (hs : PlainIx b) : De X (.Subscript a b pos) (mIxT fa fb) := by
  refine ⟨fun pins s σ H Q I ⟨ρ, S, mu, B, O, rl, w, S', e, q⟩ => ?_⟩
  obtain ⟨x, S1, e1, e⟩ := R.bnd_inv e
  obtain ⟨y, S2, e2, e⟩ := R.bnd_inv e
  obtain ⟨e3, rfl⟩ := R.of_inv e
  refine Subscript_ (thn (ha.run pins s σ H (fun x' H1 => ∃ mu1, Ext mu mu1 H H1 ∧ Rel X.K mu1 B O H1 σ ρ S1 ∧ Rp X.K mu1 (fun a => B a ∨ O a) H1 x' x) I (tD.mk rl e1 fun v H1 mu1 h1 h2 h3 => ⟨mu1, h1, h2, h3⟩)) fun v s1 ⟨x', H1, I1, r1, mu1, E1, rl1, p1⟩ => ?_)
  refine thn (hb.run pins s1 σ H1 (fun y' H2 => ∃ mu2, Ext mu1 mu2 H1 H2 ∧ Rel X.K mu2 B O H2 σ ρ S2 ∧ Rp X.K mu2 (fun a => B a ∨ O a) H2 y' y) I1 (tD.mk rl1 e2 fun v H1 mu1 h1 h2 h3 => ⟨mu1, h1, h2, h3⟩)) fun u s2 ⟨y', H2, I2, r2, mu2, E2, rl2, p2⟩ => ?_
  obtain ⟨l, k, kvs, rfl, rfl, hS, hk⟩ := recGetT_inv e3
  obtain ⟨ad, rfl, hl⟩ := rp_obj (p1.ext E2)
  obtain ⟨bd, rfl⟩ := rp_tup p2
  cases r1
  cases r2
  obtain ⟨ents, h1, h2⟩ := rl2.sto.ok _ _ _ hl hS
  obtain ⟨d1, d2, d3, dd⟩ := td_dict I2 h1 h2
  obtain ⟨b', u', v', q1, q2, q3⟩ := h2.look hk
  refine tail_of dd.typeIs PySem.F.slot_dict_getitem.lookup (hs _ _) (wpAny_getItem_heap (tupleKind_room_in1 hu) (key_is I2 p2) dd q1 ?_)
  exact ⟨v', H2, I2.tok _, q2, q v' H2 mu2 (E1.trans E2) rl2.sto q3⟩
theorem StOk.setRec {K : Fg} {mu : List Addr} {T : Addr → Prop} {H : Hp} {S : Sto} {l : Nat} {a : Addr} {r : Rec} {o : HO} (st : StOk K mu T H S) (hl : mu[l]? = some a) (hr : RecOk K mu T (upd H a o) a r) : Ext mu mu H (upd H a o) ∧ StOk K mu T (upd H a o) (S.set l r) := by
  have hm : a ∈ mu := List.mem_of_getElem? hl
  have ex : Ext mu mu H (upd H a o) := .at_mu hm
  refine ⟨ex, by rw [List.length_set]; exact st.len, st.nd, fun j b q h1 h2 => ?_⟩
  by_cases c : j = l
  · subst c
    rw [hl] at h1
    cases h1
    have hj : j < S.length := by rw [← st.len]; exact (List.getElem?_eq_some_iff.mp hl).1
    rw [List.getElem?_set_self hj] at h2
    cases h2
    exact hr
  · rw [List.getElem?_set_ne (Ne.symm c)] at h2
    have nb : b ≠ a := fun z => c (nodup_ad st.nd h1 (z ▸ hl))
    exact RecOk.map (fun _ z => by rw [upd_ne nb]; exact z) (fun _ _ z => z.ext ex) (fun c _ _ z n => ⟨ex.keep _ _ z n, n⟩) (st.ok j b q h1 h2)
theorem ds_putT {o i value : Expr} {fo fk f : Mx} {pos' : Pos} (hu : X.A.units + 1 < cLine) (ho : De X o fo) (hi : De X i fk) (hv : De X value f) (hs : swapsWith value (some (.Subscript o i pos')) pos.line X.env = pure false := by rfl) :
    Ds X (.Assign [.Subscript o i pos'] value pos) (sPutT fo fk f) := by
  refine ⟨fun pins s σ H D I ⟨ρ, S, mu, B, O, rl, q⟩ => ?_⟩
  unfold sPutT at q
  cases z : f ρ S with
  | bad => rw [z] at q; exact q.elim
  | ok w S1 =>
    rw [z, sOf_ok] at q
    cases y : fo ρ S1 with
    | bad => rw [y] at q; exact q.elim
    | ok od S2 =>
      rw [y, sOf_ok] at q
      cases t : fk ρ S2 with
      | bad => rw [t] at q; exact q.elim
      | ok kd S3 =>
        rw [t, sOf_ok] at q
        cases g : recPutT S3 od kd w with
        | none => rw [g] at q; exact q.elim
        | some S4 =>
          rw [g] at q
          obtain ⟨l, k, kvs, rfl, rfl, hS, hz, rfl⟩ := recPutT_inv g
          refine wpAny_Assign_Subscript (thn (hv.run pins s σ H (fun v H1 => ∃ mu1, Ext mu mu1 H H1 ∧ Rel X.K mu1 B O H1 σ ρ S1 ∧ Rp X.K mu1 (fun a => B a ∨ O a) H1 v w) I (tD.mk rl z fun v H1 mu1 h1 h2 h3 => ⟨mu1, h1, h2, h3⟩)) fun r s1 ⟨v, H1, I1, rv, mu1, E1, rl1, p1⟩ => ?_) hs
          refine thn (ho.run pins s1 σ H1 (fun v H2 => ∃ mu2, Ext mu1 mu2 H1 H2 ∧ Rel X.K mu2 B O H2 σ ρ S2 ∧ Rp X.K mu2 (fun a => B a ∨ O a) H2 v (oW l)) I1 (tD.mk rl1 y fun v H1 mu1 h1 h2 h3 => ⟨mu1, h1, h2, h3⟩)) fun u s2 ⟨x, H2, I2, rx, mu2, E2, rl2, p2⟩ => ?_
          refine thn (hi.run pins s2 σ H2 (fun v H3 => ∃ mu3, Ext mu2 mu3 H2 H3 ∧ Rel X.K mu3 B O H3 σ ρ S3 ∧ Rp X.K mu3 (fun a => B a ∨ O a) H3 v (.tuple (k.map .int))) I2 (tD.mk rl2 t fun v H1 mu1 h1 h2 h3 => ⟨mu1, h1, h2, h3⟩)) fun iv s3 ⟨yv, H3, I3, ry, mu3, E3, rl3, p3⟩ => ?_
          obtain ⟨ad, rfl, hl⟩ := rp_obj (p2.ext E3)
          obtain ⟨bd, rfl⟩ := rp_tup p3
          cases rx
          cases ry
          obtain ⟨ents, h1, h2⟩ := rl3.sto.ok _ _ _ hl hS
          obtain ⟨d1, d2, d3, dd⟩ := td_dict I3 h1 h2
          have hlen := h2.length
          refine wpAny_setItem_heap (hsz := by rw [List.length_map]; omega) (tupleKind_room_in1 hu) (key_is I3 p3) dd fun h' dd' hsb => ?_
          rw [stored_inl] at dd'
          obtain ⟨ob, es, ep, g1, g2, g3, g4, _, _⟩ := dd'
          have hT := h2.put p3 rv ((p1.ext E2).ext E3)
          have hpl := put_length k bd r ents
          have hok : ∀ Hx : Hp, ObjOk X.prog X.w Hx h' ad (mdO ad (putE k bd r ents)) := fun Hx => mdO_ok d1 (by omega) (put_nodup d3) g1 g2 g3 fun P w => by
            rw [g4, List.map_map]
            exact List.map_congr_left fun x _ => ent_any
          have st := rl3.sto.setRec (o := mdO ad (putE k bd r ents)) (r := .tdc (putT k w kvs)) hl ⟨_, upd_same, TdR.map (fun _ _ z => z.ext (.at_mu (List.mem_of_getElem? hl))) hT⟩
          have IW : Inv X pins σ (upd H3 ad (mdO ad (putE k bd r ents))) { s3 with heap := h', toks := s3.toks + (tupleKind (mixKind X.prog X.w)).draws (k.map Sum.inl) } :=
            d_write I3 (by rw [h1]; exact True.intro) hsb ⟨ob, g1⟩ (hok _)
          have ex := ((E1.trans E2).trans E3).trans st.1
          exact ⟨σ, _, IW, q σ _ mu3 O (ex.toS st.2) (rl3.ext st.1 st.2)⟩
end
end DL
namespace DL
open PySem PySem.Spec PyProof.Rows L2
theorem RpKv.imp {K : Fg} {mu mu' : List Addr} {T T' : Addr → Prop} {H H' : Hp} (f : ∀ v w, Rp K mu T H v w → Rp K mu' T' H' v w) : ∀ {kvs : List (Key × V)} {ds : List (Wd × Wd)}, RpKv K mu T H kvs ds → RpKv K mu' T' H' kvs ds
  | [], [], _ => .nil
  | (k, v) :: r, (_, d) :: ds, h => by
    cases h with
    | cons a b => exact .cons (f _ _ a) (RpKv.imp f b)
theorem kv_length {K : Fg} {mu : List Addr} {T : Addr → Prop} {H : Hp} : ∀ {kvs : List (Key × V)} {ds : List (Wd × Wd)}, RpKv K mu T H kvs ds → kvs.length = ds.length
  | [], [], _ => rfl
  | (k, v) :: r, (_, d) :: ds, h => by
    cases h with
    | cons a b => rw [List.length_cons, List.length_cons, kv_length b]
def dcLoop (g : Mg) (t : Mt) (fk fv : Mx) (ρ : Ev) : List Wd → List (Wd × Wd) → Sto → R (List (Wd × Wd))
  | [], acc, S => .ok acc S
  | w :: ws, acc, S => match g w ρ with
    | none => .bad
    | some ρ1 => (t ρ1 S).bnd fun b S1 => if b = true then (fk ρ1 S1).bnd fun k S2 => (fv ρ1 S2).bnd fun y S3 => if acc.length < sizeLine ∧ keyD k = true then dcLoop g t fk fv ρ ws (putD acc k y) S3 else .bad else dcLoop g t fk fv ρ ws acc S1
def mDc (vs : List Nat) (fi : Mi) (g : Mg) (t : Mt) (fk fv : Mx) : Mx := fun ρ S => (fi ρ S).bnd fun ws S1 => (dcLoop g t fk fv (wipeE ρ vs) ws [] S1).bnd fun acc S2 => .ok (.dict acc) S2
section
variable {X : Cx} {fi : Mi} {g : Mg} {t : Mt} {vs : List Nat}
theorem dc_core' {fk fv : Mx} {K : Fg} {tg : TG} {P : It → List V → List Wd → List Wd → Prop}
    (hP : ∀ J v w ws, P J v w ws → ∀ (mu : List Addr) (B O : Addr → Prop) (H : Hp) (S : Sto), StOk K mu (fun a => B a ∨ O a) H S → Bn mu (fun a => B a ∨ O a) H → RpAll K mu (fun a => B a ∨ O a) H v w →
      (∀ (i : Nat) (d : Wd), ws[i]? = some d → J.go i H ∧ ∀ x H', J.yld i H x H' → Same H H' ∧ ∀ (σ : Sg) (ρ ρ' : Ev) (Q : Sg → Hp → Prop), Rel K mu B O H' σ ρ S → g d ρ = some ρ' → (∀ σ', Rel K mu B O H' σ' ρ' S → wipe σ' vs = wipe σ vs → Q σ' H') → tg x σ H' Q) ∧ J.stop ws.length H)
    (hv : ∀ σ : Sg, wipe (wipe σ vs) vs = wipe σ vs) :
    ∀ σ H Q, tD K (mDc vs fi g t fk fv) σ H Q → tDc (tDi K P fi) tg (tDt K t) (tD K fk) (tD K fv) vs σ H Q := fun σ H Q ⟨ρ, S, mu, B, O, rl, w, S', e, q⟩ => by
  obtain ⟨ws, S1, e1, e⟩ := R.bnd_inv e
  obtain ⟨res, S2, e2, e⟩ := R.bnd_inv e
  cases e
  refine ⟨ρ, S, mu, B, O, rl, ws, S1, e1, fun J v u H1 mu1 hJ E st p D nD => ?_⟩
  have rl1 := rl.ext E st
  have nT : ¬ (B D ∨ O D) := rl1.bn.fresh nD
  have rb := (rl1.wipe vs).ban nD (.dK [])
  have pb : RpAll K mu1 (fun a => (B a ∨ a = D) ∨ O a) (upd H1 D (.dK [])) v u := ((p.ban nD).weak fun a z => z.elim (fun z => z.elim (fun z => .inl (.inl z)) .inr) fun z => .inl (.inr z)).same (same_upd nD)
  refine ⟨fun i k H2 => k = ws.length - i ∧ i ≤ ws.length ∧ ∃ av acc S3 mu2, Ext mu1 mu2 H1 H2 ∧ Rel K mu2 (fun a => B a ∨ a = D) O H2 (wipe σ vs) (wipeE ρ vs) S3 ∧ RpAll K mu2 (fun a => (B a ∨ a = D) ∨ O a) H2 v u ∧ H2 D = some (.dK av) ∧ RpKv K mu2 (fun a => (B a ∨ a = D) ∨ O a) H2 av acc ∧
      dcLoop g t fk fv (wipeE ρ vs) (ws.drop i) acc S3 = .ok res S',
    ⟨ws.length, by omega, Nat.zero_le _, [], [], S1, mu1, (Ext.refl _ _).at_new nD, rb, pb, upd_same, .nil, e2⟩, fun i k H2 ⟨ek, hi, av, acc, S3, mu2, x2, r2, p2, hD, pa, el⟩ => ?_⟩
  obtain ⟨hgo, hstop⟩ := hP J v u ws hJ mu2 (fun a => B a ∨ a = D) O H2 S3 r2.sto r2.bn p2
  by_cases c : i < ws.length
  · obtain ⟨go, yld⟩ := hgo i ws[i] (List.getElem?_eq_getElem c)
    rw [List.drop_eq_getElem_cons c] at el
    unfold dcLoop at el
    cases y : g ws[i] (wipeE ρ vs) with
    | none => rw [y] at el; cases el
    | some ρ3 =>
      rw [y] at el
      simp only at el
      obtain ⟨b, S4, e4, el⟩ := R.bnd_inv el
      refine .inr ⟨go, fun H' => ∃ av acc S3 mu2, Ext mu1 mu2 H1 H' ∧ Rel K mu2 (fun a => B a ∨ a = D) O H' (wipe σ vs) (wipeE ρ vs) S3 ∧ RpAll K mu2 (fun a => (B a ∨ a = D) ∨ O a) H' v u ∧ H' D = some (.dK av) ∧ RpKv K mu2 (fun a => (B a ∨ a = D) ∨ O a) H' av acc ∧
          dcLoop g t fk fv (wipeE ρ vs) (ws.drop (i + 1)) acc S3 = .ok res S', fun H' ⟨av, acc, S5, mu5, h1, h2, h3, h4, h5, h6⟩ => ⟨ws.length - (i + 1), by omega, rfl, by omega, av, acc, S5, mu5, h1, h2, h3, h4, h5, h6⟩, fun x H' hy => ?_⟩
      obtain ⟨sm, k2⟩ := yld x H' hy
      have r3 := r2.ext (.same sm) (r2.sto.same sm)
      refine k2 (wipe σ vs) (wipeE ρ vs) ρ3 _ r3 y fun σ' r' hw => ⟨hw.trans (hv σ), ?_⟩
      refine tDt.mk r' e4 fun H4 mu4 E4 r4 => ?_
      have D4 : H4 D = some (.dK av) := E4.keep D _ (sm D _ hD) (r2.bn D (.inl (.inr rfl))).2
      have q4 : Ext mu2 mu4 H2 H4 := (Ext.same sm).trans E4
      have r40 : Rel K mu4 (fun a => B a ∨ a = D) O H4 (wipe σ vs) (wipeE ρ vs) S4 := r2.ext q4 r4.sto
      cases b with
      | false =>
        rw [if_neg Bool.false_ne_true] at el ⊢
        exact ⟨av, acc, S4, mu4, x2.trans q4, r40, p2.ext q4, D4, pa.ext q4, el⟩
      | true =>
        rw [if_pos rfl] at el ⊢
        obtain ⟨kd, S5, e5, el⟩ := R.bnd_inv el
        obtain ⟨z, S6, e6, el⟩ := R.bnd_inv el
        by_cases hz : acc.length < sizeLine ∧ keyD kd = true
        · rw [if_pos hz] at el
          refine tD.mk r4 e5 fun kv H5 mu5 E5 r5 p5 => tD.mk r5 e6 fun yv H6 mu6 E6 r6 p6 => ?_
          have q6 : Ext mu2 mu6 H2 H6 := (q4.trans E5).trans E6
          have D5 : H5 D = some (.dK av) := E5.keep D _ D4 (r40.bn D (.inl (.inr rfl))).2
          have r50 : Rel K mu5 (fun a => B a ∨ a = D) O H5 (wipe σ vs) (wipeE ρ vs) S5 := r2.ext (q4.trans E5) r5.sto
          have D6 : H6 D = some (.dK av) := E6.keep D _ D5 (r50.bn D (.inl (.inr rfl))).2
          have r60 : Rel K mu6 (fun a => B a ∨ a = D) O H6 (wipe σ vs) (wipeE ρ vs) S6 := r2.ext q6 r6.sto
          obtain ⟨kk, rfl, rfl⟩ := DL.key_of p5 hz.2
          have hal := kv_length pa
          refine ⟨av, kk, rfl, D6, by rw [hal]; exact hz.1, putK av kk yv, putD acc (kW kk) z, S6, mu6, (x2.trans q6).at_new nD, r60.at_ban (.inr rfl) _, (p2.ext q6).at_ban (.inl (.inr rfl)), upd_same, ?_, el⟩
          exact (kv_putK kk p6 (pa.ext q6)).imp fun _ _ h => h.at_ban (.inl (.inr rfl))
        · rw [if_neg hz] at el
          cases el
  · have ei : i = ws.length := by omega
    subst ei
    rw [List.drop_length] at el
    cases el
    exact .inl ⟨hstop, q (.ref D) H2 mu2 (E.trans x2) (r2.sto.weak fun a z => z.imp .inl id) (.dct ⟨hD, (r2.bn D (.inl (.inr rfl))).2, nT⟩ (pa.imp fun _ _ h => h.weak fun a z => z.imp .inl id))⟩
variable {fk fv : Mx} {kx vx tgx iter : Expr} {ifs : List Expr} {scope : Scope} {own : List (Str × Nat)} {pos : Pos}
theorem swd_true {gs : List Comprehension} {py : Pos} {y : Str} {l : Nat} {env : Env} (kf : env.scope.kind = .function) (yl : env.scope.names.lookup y = some .local) (hl : (py.line == pos.line) = true)
    (na : (scope.names.any fun (n, k) => n == y && (k == .local || k == .cell)) = false) : swapsWith (.DictComp kx vx gs scope pos) (some (.Name y py)) l env = pure true := by
  have k1 : env.kindOf y = some .local := yl
  have k2 : env.blockKind = .function := by unfold Env.blockKind; rw [kf]; rfl
  unfold swapsWith
  simp only [k2, k1, na, Expr.pos, hl]
  rfl
theorem ds_setDc {i : Nat} {y : Str} {py spos : Pos} (hc : X.calm = true) (hN : X.N.Nodup) (hy : X.N[i]? = some y) (hyl : X.env.scope.names.lookup y = some .local) (hsw : swapsWith (.DictComp kx vx [⟨tgx, iter, ifs, 0⟩] scope pos) (some (.Name y py)) spos.line X.env = pure true) (hi : Di X tgx iter fi) (ok : BlkOk X.N X.env.scope scope own)
    (hg : DgF (X.fam scope) X.K (own.map (·.2)) tgx g)
    (ht : ∀ (s : Shared) (H : Hp) (C : Addr) (cl : List (Str × Addr)) (fp : List Addr), DTs (X.blk s H scope (compEnvC scope cl C X.env) fp) ifs t)
    (hk : ∀ (s : Shared) (H : Hp) (C : Addr) (cl : List (Str × Addr)) (fp : List Addr), De (X.blk s H scope (compEnvC scope cl C X.env) fp) kx fk)
    (he : ∀ (s : Shared) (H : Hp) (C : Addr) (cl : List (Str × Addr)) (fp : List Addr), De (X.blk s H scope (compEnvC scope cl C X.env) fp) vx fv) (hs : ∀ x, foldedSetIterable iter X.env x = pure x := by intro _; rfl) :
    Ds X (.Assign [.Name y py] (.DictComp kx vx [⟨tgx, iter, ifs, 0⟩] scope pos) spos) (sSet i (mDc (own.map (·.2)) fi g t fk fv)) := by
  obtain ⟨tg, pg, kg⟩ := hg
  refine ⟨fun pins s σ H D I ⟨ρ, S, mu, B, O, rl, q⟩ => ?_⟩
  unfold sSet at q
  cases z : mDc (own.map (·.2)) fi g t fk fv ρ S with
  | bad => rw [z] at q; exact q.elim
  | ok w S1 =>
    rw [z, sOf_ok] at q
    have h : tDc (tDi X.K (ItOk X.K) fi) tg (tDt X.K t) (tD X.K fk) (tD X.K fv) (own.map (·.2)) σ H (fun x H1 => D.nx (σ.set i (some x)) H1) := by
      refine dc_core' (fun J v w ws hJ mu B O H S st bn p => ?_) (fun σ => wipe_idem σ _) σ H _ (tD.mk rl z fun v H1 mu1 E r p => q _ H1 mu1 O (E.toS r.sto) (r.set i p))
      obtain ⟨h1, h2⟩ := hJ mu _ H S st bn p
      exact ⟨fun i d e => ⟨(h1 i d e).1, fun x H' hy => ⟨((h1 i d e).2 x H' hy).1, fun σ ρ ρ' Q r eg k => kg mu B O H' σ ρ ρ' S x d Q r ((h1 i d e).2 x H' hy).2 eg k⟩⟩, h2⟩
    rw [exec_Assign_Name_used _ _ _ _ hsw]
    refine wpAny_bind (wpAny_standAt (wpAny_bind ?_))
    show wpAny _ X.A (do let _ ← comprehension (.DictComp kx vx [⟨tgx, iter, ifs, 0⟩] scope pos) scope X.env (firstIterPos [⟨tgx, iter, ifs, 0⟩] pos) newDict false (eval iter X.env) (some (assign (.Name y py) X.env))) _ _ s
    refine wpAny_bind (thn (dc_core (tt := tDt X.K t) (tk := tD X.K fk) (tv := tD X.K fv) (Qf := fun _ s' => SP X pins D .next s') hc hN I hi ok (fun s H C cl fp => pg (s, H, C, cl, fp)) ht hk he hs h fun L C s' m H' I' q hn f => ?_) fun _ s' hq => wpAny_pure (wpAny_pure hq))
    show wpAny _ _ (assign (.Name y py) X.env (.ref L)) _ _ _
    refine wpAny_assign_Name (store_ok2 (v := V.ref L) I' hN hy (.inl hyl) rfl (fun s2 I2 ⟨a, sb, ha⟩ => ?_) (.inr hyl))
    obtain ⟨g0, g1, g2, g3, g4, g5⟩ := f
    have nC : C ≠ a := by
      rcases ha with z | z
      · rw [z]; exact g1
      · exact fun e => g4 y a z e.symm
    refine ⟨m, hn.sameBut sb nC, fun h3 sb3 => ?_⟩
    exact ⟨_, H', I2.turned (t' := s2.toks) (fun b o hb e => (sb3.2 b hb).trans e) g0 g1 g3 g4 g5, q⟩
end
end DL
namespace DL
open PySem PySem.Spec PyProof.Rows L2
variable {G : Bool}
def pureG (g : Gd) : Gd := fun ws S => if bndAll 0 ws = true then (match g ws [] with
  | .ok w _ => if bndW 0 w = true then .ok w S else .bad
  | .bad => .bad) else .bad
theorem pureG_inv {g : Gd} {ws : List Wd} {S S1 : Sto} {w : Wd} (e : pureG g ws S = .ok w S1) : bndAll 0 ws = true ∧ bndW 0 w = true ∧ S1 = S ∧ ∃ S', g ws [] = .ok w S' := by
  unfold pureG at e
  split at e
  · rename_i c
    cases h : g ws [] with
    | bad => rw [h] at e; cases e
    | ok v S' =>
      rw [h] at e
      simp only at e
      split at e
      · rename_i c2
        cases e
        exact ⟨c, c2, rfl, S', rfl⟩
      · cases e
  · cases e
theorem pureG_eq {g : Gd} {ws : List Wd} {S S' : Sto} {w : Wd} (e : g ws [] = .ok w S') (h1 : bndAll 0 ws = true) (h2 : bndW 0 w = true) : pureG g ws S = .ok w S := by
  unfold pureG
  rw [if_pos h1, e]
  simp only
  rw [if_pos h2]
section
variable {K : Fg} {mu : List Addr} {T : Addr → Prop} {H : Hp}
abbrev banM (T : Addr → Prop) (mu : List Addr) : Addr → Prop := fun a => T a ∨ a ∈ mu
mutual
theorem Rp.inn : ∀ (w : Wd) (v : V), bndW 0 w = true → Rp K mu T H v w → Rp K [] (banM T mu) H v w
  | .none, _, _, h => by cases h; exact .non
  | .bool b, _, _, h => by cases h; exact .bl b
  | .int i, _, _, h => by cases h; exact .int i
  | .str x, _, _, h => by cases h; exact .str x
  | .list ds, _, c, h => by
    cases h with
    | lst a b => exact .lst (a.imp (fun z => ⟨z.1, by simp, fun q => q.elim z.2.2 z.2.1⟩) id) (RpAll.inn ds _ c b)
  | .tuple ds, _, c, h => by
    cases h with
    | tup a b => exact .tup (a.imp (fun z => ⟨z.1, by simp, fun q => q.elim z.2.2 z.2.1⟩) id) (RpAll.inn ds _ c b)
  | .dict ds, _, c, h => by
    cases h with
    | dct a b => exact .dct ⟨a.1, by simp, fun q => q.elim a.2.2 a.2.1⟩ (RpKv.inn ds _ c b)
    | @obj a l e =>
      unfold bndW bndKv at c
      simp at c
theorem RpAll.inn : ∀ (ws : List Wd) (vs : List V), bndAll 0 ws = true → RpAll K mu T H vs ws → RpAll K [] (banM T mu) H vs ws
  | [], _, _, h => by cases h; exact .nil
  | d :: ds, _, c, h => by
    cases h with
    | cons a b =>
      unfold bndAll at c
      obtain ⟨c1, c2⟩ := Bool.and_eq_true_iff.mp c
      exact .cons (Rp.inn d _ c1 a) (RpAll.inn ds _ c2 b)
theorem RpKv.inn : ∀ (ws : List (Wd × Wd)) (vs : List (Key × V)), bndKv 0 ws = true → RpKv K mu T H vs ws → RpKv K [] (banM T mu) H vs ws
  | [], _, _, h => by cases h; exact .nil
  | (_, d) :: ds, _, c, h => by
    cases h with
    | @cons k v r d ds a b =>
      unfold bndKv at c
      obtain ⟨c1, c2⟩ := Bool.and_eq_true_iff.mp c
      refine .cons (Rp.inn d _ ?_ a) (RpKv.inn ds _ c2 b)
      cases k with
      | inl i => exact c1
      | inr x => exact c1
end
mutual
theorem Rp.out {mu' : List Addr} : ∀ (w : Wd) (v : V), bndW 0 w = true → Rp K mu' (banM T mu) H v w → Rp K mu T H v w
  | .none, _, _, h => by cases h; exact .non
  | .bool b, _, _, h => by cases h; exact .bl b
  | .int i, _, _, h => by cases h; exact .int i
  | .str x, _, _, h => by cases h; exact .str x
  | .list ds, _, c, h => by
    cases h with
    | lst a b => exact .lst (a.imp (fun z => ⟨z.1, fun q => z.2.2 (.inr q), fun q => z.2.2 (.inl q)⟩) id) (RpAll.out ds _ c b)
  | .tuple ds, _, c, h => by
    cases h with
    | tup a b => exact .tup (a.imp (fun z => ⟨z.1, fun q => z.2.2 (.inr q), fun q => z.2.2 (.inl q)⟩) id) (RpAll.out ds _ c b)
  | .dict ds, _, c, h => by
    cases h with
    | dct a b => exact .dct ⟨a.1, fun q => a.2.2 (.inr q), fun q => a.2.2 (.inl q)⟩ (RpKv.out ds _ c b)
    | @obj a l e =>
      unfold bndW bndKv at c
      simp at c
theorem RpAll.out {mu' : List Addr} : ∀ (ws : List Wd) (vs : List V), bndAll 0 ws = true → RpAll K mu' (banM T mu) H vs ws → RpAll K mu T H vs ws
  | [], _, _, h => by cases h; exact .nil
  | d :: ds, _, c, h => by
    cases h with
    | cons a b =>
      unfold bndAll at c
      obtain ⟨c1, c2⟩ := Bool.and_eq_true_iff.mp c
      exact .cons (Rp.out d _ c1 a) (RpAll.out ds _ c2 b)
theorem RpKv.out {mu' : List Addr} : ∀ (ws : List (Wd × Wd)) (vs : List (Key × V)), bndKv 0 ws = true → RpKv K mu' (banM T mu) H vs ws → RpKv K mu T H vs ws
  | [], _, _, h => by cases h; exact .nil
  | (_, d) :: ds, _, c, h => by
    cases h with
    | @cons k v r d ds a b =>
      unfold bndKv at c
      obtain ⟨c1, c2⟩ := Bool.and_eq_true_iff.mp c
      refine .cons (Rp.out d _ ?_ a) (RpKv.out ds _ c2 b)
      cases k with
      | inl i => exact c1
      | inr x => exact c1
end
end
section
variable {P : Program} {w : World} {K : Fg} {mg : Str → Option Value} {base : Heap}
theorem FnD.pure {k : Nat} {f : Addr} {fd : FuncData} {ps : List Str} {g : Gd} (F : FnD G P w K mg base k f fd ps g) : FnD G P w K mg base k f fd ps (pureG g) := by
  refine ⟨fun ws S v S' e => ?_, fun A outer s H args us vs Q hr hg e0 hb r ⟨ws, S, mu, T, h1, h2, h3, v, S1, e, q⟩ => ?_⟩
  · obtain ⟨_, _, _, S2, e1⟩ := pureG_inv e
    exact F.len _ _ _ _ e1
  · obtain ⟨c1, c2, rfl, S2, e1⟩ := pureG_inv e
    refine F.run A outer s H args us vs Q hr hg e0 hb r ⟨ws, [], [], fun a => banM T mu a ∧ ∀ ps, H a ≠ some (.tbl ps), ⟨rfl, List.nodup_nil, fun l a q h => by simp at h⟩, fun a t => ⟨?_, by simp⟩, (RpAll.inn _ _ c1 h3).weak fun a t => t.1, v, S2, e1, fun u H' mu' E st rp => ?_⟩
    · rcases t.1 with y | y
      · exact (h2 a y).1
      · exact ⟨h1.pl y, t.2⟩
    · have sm : Same H H' := fun a o h => E.keep a o h (by simp)
      refine q u H' mu (.same sm) (h1.same sm) (Rp.out _ _ c2 (rp.banT fun a t => ?_))
      by_cases c : ∃ ps, H a = some (.tbl ps)
      · obtain ⟨ps, e⟩ := c
        exact .inr ⟨ps, sm _ _ e⟩
      · exact .inl ⟨t, fun ps e => c ⟨ps, e⟩⟩
theorem Cal.pure {k : Nat} {x : Str} {st : Stmt} {ps : List Str} {g : Gd} (C : Cal G P w K mg base k x st ps g) : Cal G P w K mg base k x st ps (pureG g) := by
  obtain ⟨f, fd, hm, F, hb, G⟩ := C
  exact ⟨f, fd, hm, F, hb, G.pure⟩
end
mutual
theorem bnd_lay {n : Nat} : ∀ w : Wd, w.canLay0 = true → bndW n w = true
  | .none, _ => rfl
  | .bool _, _ => rfl
  | .int _, _ => rfl
  | .str _, _ => rfl
  | .list ds, h => by unfold bndW; exact bnd_layA ds h
  | .tuple ds, h => by unfold bndW; exact bnd_layA ds h
  | .dict _, h => by cases h
theorem bnd_layA {n : Nat} : ∀ ws : List Wd, PyData.canLayAll0 ws = true → bndAll n ws = true
  | [], _ => rfl
  | d :: ds, h => by
    have h' : (PyData.canLay0 d && PyData.canLayAll0 ds) = true := h
    obtain ⟨c1, c2⟩ := Bool.and_eq_true_iff.mp h'
    unfold bndAll
    rw [bnd_lay d c1, bnd_layA ds c2]
    rfl
end
def gInD : Wd → Wd → Option Wd
  | _, .dict ((.none, _) :: _) => none
  | k, .dict ds => if keyD k = true then some (.bool (lookD ds k).isSome) else none
  | _, _ => none
theorem look_none {K : Fg} {mu : List Addr} {T : Addr → Prop} {H : Hp} (k : Key) : ∀ {kvs : List (Key × V)} {ds : List (Wd × Wd)}, RpKv K mu T H kvs ds → (valV kvs k).isSome = (lookD ds (kW k)).isSome
  | [], [], _ => rfl
  | (k', v) :: r, (_, d) :: ds, h => by
    cases h with
    | cons a b =>
      have ih := look_none k b
      unfold lookD
      rw [eqv_key]
      by_cases c : k' = k
      · rw [decide_eq_true c, if_pos rfl]
        subst c
        rw [valV_pos rfl]
        rfl
      · rw [decide_eq_false c, if_neg Bool.false_ne_true, valV_neg c]
        exact ih
section
variable {X : Cx}
theorem od_inD (hu : X.A.units + 1 < cLine) : OpD X (compareOp .In) gInD := by
  intro pins s σ H x y v u Q mu T S dx dy w I rx ry st bn r1 r2 e q
  unfold gInD at e
  split at e
  · cases e
  · rename_i k ds hne
    obtain ⟨hk, rfl⟩ := ite_inv e
    cases r2 with
    | @dct a kvs _ h1 h2 =>
      obtain ⟨kk, rfl, rfl⟩ := DL.key_of r1 hk
      cases ry
      exact d_in hu I (DGet.k h1.1) rx fun s' I' => ⟨.bl _, H, I', rfl, q _ H (Same.refl H) (by rw [look_none kk h2]; exact .bl _)⟩
    | obj e => exact (hne _ _ rfl).elim
  · cases e
end
end DL
namespace DL
open PySem PySem.Spec PyProof.Rows L2
section
variable {X : Cx} {fs : Ma} {pos : Pos}
end
end DL
namespace DL
open PySem PySem.Spec PyProof.Rows L2
section
variable {X : Cx} {es : List Expr} {b : Expr} {fs : Ma} {g : Mx} {pos lp : Pos}
end
section
variable {X : Cx}
end
section
variable {X : Cx} {f g : Mx} {pos : Pos}
end
end DL
namespace DL
open PySem PySem.Spec PyProof.Rows L2
section
variable {prog : Program} {w : World} {A : Around} {E : Value → Shared → Prop} {s : Shared}
end
section
variable {X : Cx} {e : Expr} {es : List Expr} {fs : Ma} {pos pos2 p p2 : Pos}
end
end DL
namespace WF
open PySem PySem.Spec PyProof.Rows L2 DL
def m_feed_k17 : Ms := (sRet (mRec ["cells", "at", "left", "turn"] (aCons (mCB gList (aCons (mSl (mV 0) oNone (oSome (mC (.int 63)))) aNil)) (aCons (mC (.int 0)) (aCons (mC (.int 0)) (aCons (mC (.int 0)) aNil))))))
def g_feed_k17 : Gd := runDef 1 1 m_feed_k17
end WF
namespace WF
open PySem PySem.Spec PyProof.Rows L2 DL
def m_draw_k17 : Ms := (sSeq (sPut (mV 0) "turn" (mBin gAdd (mIx (mV 0) (mC (.str "turn"))) (mC (.int 1)))) (sSeq (sIf (mTru (mBin gEq (mIx (mV 0) (mC (.str "cells"))) (mLst aNil))) (sRet (mBin gMod (mCB gInt (aCons (mBin gDiv (mBin gMul (mIx (mV 0) (mC (.str "turn"))) (mC (.int 5))) (mC (.int 3))) aNil)) (mV 1))) sNil) (sSeq (sIf (mTru (mBin gGt (mIx (mV 0) (mC (.str "left"))) (mC (.int 0)))) (sSeq (sSet 2 (mBin gMod (mCB gInt (aCons (mIx (mV 0) (mC (.str "left"))) aNil)) (mV 1))) (sSeq (sPut (mV 0) "left" (mBin gDiv (mIx (mV 0) (mC (.str "left"))) (mV 1))) (sRet (mV 2)))) sNil) (sSeq (sSet 3 (mIx (mV 0) (mC (.str "at")))) (sSeq (sPut (mV 0) "at" (mBin gAdd (mV 3) (mC (.int 1)))) (sSeq (sSet 4 (mIx (mIx (mV 0) (mC (.str "cells"))) (mBin gMod (mCB gInt (aCons (mV 3) aNil)) (mCB gLen (aCons (mIx (mV 0) (mC (.str "cells"))) aNil))))) (sSeq (sIf (mAndT (mTru (mBin gGe (mV 4) (mBin gPow (mC (.int 10)) (mC (.int 18))))) (mTru (mBin gLt (mV 3) (mCB gLen (aCons (mIx (mV 0) (mC (.str "cells"))) aNil))))) (sSeq (sPut (mV 0) "left" (mBin gDiv (mV 4) (mV 1))) (sRet (mBin gMod (mCB gInt (aCons (mV 4) aNil)) (mV 1)))) sNil) (sSeq (sSet 5 (mBin gMod (mCB gInt (aCons (mBin gAdd (mBin gAdd (mBin gMod (mCB gInt (aCons (mV 4) aNil)) (mC (.int 1000002893))) (mBin gMul (mC (.int 97259)) (mIx (mV 0) (mC (.str "turn"))))) (mC (.int 797))) aNil)) (mC (.int 2147483579)))) (sSeq (sSet 5 (mBin gMod (mCB gInt (aCons (mBin gAdd (mBin gAdd (mBin gPow (mV 5) (mC (.int 3))) (mBin gMul (mC (.int 7401089)) (mIx (mV 0) (mC (.str "turn"))))) (mC (.int 431))) aNil)) (mC (.int 2147483497)))) (sRet (mBin gMod (mCB gInt (aCons (mBin gDiv (mBin gMod (mCB gInt (aCons (mBin gAdd (mBin gPow (mV 5) (mC (.int 3))) (mBin gMul (mC (.int 389)) (mV 5))) aNil)) (mC (.int 2147483423))) (mC (.int 32))) aNil)) (mV 1))))))))))))
def g_draw_k17 : Gd := runDef 6 2 m_draw_k17
end WF
namespace WF
open PySem PySem.Spec PyProof.Rows L2 DL
def m_any_k17 : Ms := (sRet (mIx (mV 1) (mCall WF.g_draw_k17 (aCons (mV 0) (aCons (mCB gLen (aCons (mV 1) aNil)) aNil)))))
def g_any_k17 : Gd := runDef 2 2 m_any_k17
end WF
namespace WF
open PySem PySem.Spec PyProof.Rows L2 DL
def m_stays_k17 : Ms := (sSeq (sParO 2 3 (mC (.int 0))) (sSeq (sFor (iRange1 (aCons (mBin gAdd (mC (.int 1)) (mCall WF.g_draw_k17 (aCons (mV 0) (aCons (mC (.int 3)) aNil)))) aNil)) (gtN 4) (sSeq (sApp 2 (mTup (aCons (mV 3) (aCons (mCall WF.g_any_k17 (aCons (mV 0) (aCons (mBin gAdd (mBin gAdd (mV 1) (mV 1)) (mLst (aCons (mC .none) aNil))) aNil))) aNil)))) (sSet 3 (mBin gAdd (mBin gAdd (mV 3) (mC (.int 1))) (mCall WF.g_draw_k17 (aCons (mV 0) (aCons (mC (.int 5)) aNil))))))) (sFrz 2 (sRet (mCB gTuple (aCons (mV 2) aNil))))))
def g_stays_k17 : Gd := runDef 5 2 m_stays_k17
end WF
namespace WF
open PySem PySem.Spec PyProof.Rows L2 DL
def m_rule_k17 (g : Gd) : Ms := (sSeq (sIf (mOrT (mTru (mBin gEq (mV 1) (mC (.int 0)))) (mTru (mBin gEq (mCall WF.g_draw_k17 (aCons (mV 0) (aCons (mC (.int 3)) aNil))) (mC (.int 0))))) (sRet (mTup (aCons (mCall WF.g_any_k17 (aCons (mV 0) (aCons (mLst (aCons (mC (.str "hours")) (aCons (mC (.str "cycles")) (aCons (mC (.str "days")) (aCons (mC (.str "days")) aNil))))) aNil))) (aCons (mBin gAdd (mC (.int 1)) (mCall WF.g_draw_k17 (aCons (mV 0) (aCons (mV 2) aNil)))) aNil)))) sNil) (sSeq (sSet 3 (mCB gTuple (aCons (mLc [4] (iRange1 (aCons (mBin gAdd (mC (.int 1)) (mCall WF.g_draw_k17 (aCons (mV 0) (aCons (mC (.int 2)) aNil)))) aNil)) (gtN 4) tTrue (mCall g (aCons (mV 0) (aCons (mBin gSub (mV 1) (mC (.int 1))) (aCons (mV 2) aNil))))) aNil))) (sRet (mTup (aCons (mCall WF.g_any_k17 (aCons (mV 0) (aCons (mLst (aCons (mC (.str "first")) (aCons (mC (.str "later")) aNil))) aNil))) (aCons (mV 3) aNil))))))
def g_rule_k17 : Nat → Gd
  | 0 => fun _ _ => .bad
  | n + 1 => runDef 5 3 (m_rule_k17 (g_rule_k17 n))
end WF
namespace WF
open PySem PySem.Spec PyProof.Rows L2 DL
def m_plot_k17 : Ms := (sSeq (sSet 2 (mSl (mLst (aCons (mC (.str "lift")) (aCons (mC (.str "mill")) aNil))) oNone (oSome (mBin gAdd (mC (.int 1)) (mCall WF.g_draw_k17 (aCons (mV 0) (aCons (mC (.int 2)) aNil))))))) (sSeq (sOwn 3 aNil) (sSeq (sFor (iSeq (mV 2)) (gtN 4) (sSeq (sSet 5 (mLc [11] (iRange1 (aCons (mBin gAdd (mC (.int 1)) (mCall WF.g_draw_k17 (aCons (mV 0) (aCons (mC (.int 3)) aNil)))) aNil)) (gtN 11) tTrue (mTup (aCons (mCall WF.g_draw_k17 (aCons (mV 0) (aCons (mC (.int 6)) aNil))) (aCons (mCall WF.g_draw_k17 (aCons (mV 0) (aCons (mC (.int 4)) aNil))) aNil))))) (sApp 3 (mTup (aCons (mV 4) (aCons (mCB gTuple (aCons (mV 5) aNil)) aNil)))))) (sFrz 3 (sSeq (sSet 6 (mSl (mLst (aCons (mC (.str "pump")) (aCons (mC (.str "saw")) aNil))) oNone (oSome (mBin gAdd (mC (.int 1)) (mCall WF.g_draw_k17 (aCons (mV 0) (aCons (mC (.int 2)) aNil))))))) (sSeq (sSet 7 (mLc [12] (iSeq (mV 6)) (gtN 12) tTrue (mTup (aCons (mV 12) (aCons (mCall WF.g_stays_k17 (aCons (mV 0) (aCons (mV 2) aNil))) aNil))))) (sSeq (sOwn 8 aNil) (sSeq (sFor (iSeq (mSl (mLst (aCons (mC (.str "clean")) (aCons (mC (.str "oil")) (aCons (mC (.str "zinc")) aNil)))) oNone (oSome (mBin gAdd (mC (.int 1)) (mCall WF.g_draw_k17 (aCons (mV 0) (aCons (mC (.int 3)) aNil))))))) (gtN 4) (sSeq (sSet 9 (mCB gTuple (aCons (mLc [11] (iRange1 (aCons (mC (.int 3)) aNil)) (gtN 11) tTrue (mCall WF.g_any_k17 (aCons (mV 0) (aCons (mLst (aCons (mC (.int 0)) (aCons (mC (.int 0)) (aCons (mC (.int 1)) (aCons (mC (.int 2)) (aCons (mC (.int 3)) aNil)))))) aNil)))) aNil))) (sSeq (sSet 10 (mTup (aCons (mV 4) (aCons (mCall WF.g_any_k17 (aCons (mV 0) (aCons (mV 6) aNil))) (aCons (mCall WF.g_any_k17 (aCons (mV 0) (aCons (mLst (aCons (mC (.str "kept")) (aCons (mC (.str "fresh")) (aCons (mC (.str "kept")) aNil)))) aNil))) aNil))))) (sApp 8 (mBin gAdd (mV 10) (mTup (aCons (mCall (WF.g_rule_k17 4) (aCons (mV 0) (aCons (mC (.int 2)) (aCons (mV 1) aNil)))) (aCons (mV 9) aNil)))))))) (sFrz 8 (sRet (mTup (aCons (mCB gTuple (aCons (mV 3) aNil)) (aCons (mCB gTuple (aCons (mV 7) aNil)) (aCons (mCB gTuple (aCons (mV 8) aNil)) aNil))))))))))))))
def g_plot_k17 : Gd := runDef 13 2 m_plot_k17
end WF
namespace DL
open PySem PySem.Spec PyProof.Rows L2
section
variable {X : Cx} {x : Str} {c : Value} {body suite : List Stmt} {b₀ : Stmt} {np pos pos' : Pos} {m : Ms}
end
end DL
namespace DL
open PySem PySem.Spec PyProof.Rows L2
section
variable {ι : Type} {F : ι → Cx} {K : Fg} {vs : List Nat} {pos : Pos}
def gtL (gs : Mgs) : Mg := fun w ρ => match w with
  | .list ds => gs ds ρ
  | _ => none
theorem pg_lstF {es : List Expr} {k : Nat} {t : TGs} (hc : ∀ i, (F i).calm = true) (hK : ∀ i, (F i).K = K) (p : ∀ i, PGs (F i) es t) (hst : ∀ i, (assignEach es (F i).env).findIdx? (·.1) = none) (i : ι) : PG (F i) (.Tuple es k pos) (gLst K es.length t) := by
  rw [← hK i]
  exact pg_lst (hc i) (p i) (assignEach_len _ _) (hst i)
theorem dg_lst {es : List Expr} {k : Nat} {gs : Mgs} (hc : ∀ i, (F i).calm = true) (hK : ∀ i, (F i).K = K) (h : DgsF F K vs es gs) (hst : ∀ i, (assignEach es (F i).env).findIdx? (·.1) = none := by intro _; rfl) : DgF F K vs (.Tuple es k pos) (gtL gs) := by
  obtain ⟨t, p, l, q⟩ := h
  refine ⟨_, pg_lstF hc hK p hst, fun mu B O H σ ρ ρ' S v w Q rl r e z => ?_⟩
  cases r with
  | @lst a xs ds a1 b1 =>
    have e : gs ds ρ = some ρ' := e
    exact ⟨a, xs, rfl, a1.sq, by rw [b1.length]; exact l ds ρ ρ' e, q mu B O H σ ρ ρ' S xs ds Q rl b1 e z⟩
  | _ => cases e
end
section
variable {X : Cx}
end
section
variable {prog : Program} {w : World} {A : Around} {E : Value → Shared → Prop} {s : Shared}
end
section
variable {X : Cx} {e : Expr} {f : Mx} {pos : Pos}
end
section
variable {X : Cx} {e e2 : Expr} {ta : TA} {p pos tpos : Pos} {elts : List Expr} {kk : Nat}
end
section
variable {X : Cx} {pos xp : Pos} {i : Nat} {x : Str} {b : Expr} {fb : Mx}
end
end DL
namespace DL
open PySem PySem.Spec PyProof.Rows L2
section
variable {X : Cx} {e : Expr} {f : Mx} {pos pos' : Pos} {op : Operator} {g : Wd → Wd → Option Wd}
end
section
variable {X : Cx} {e : Expr} {lo hi : Option Expr} {f : Mx} {ml mh : Mo} {pos p2 p3 : Pos}
end
section
variable {X : Cx}
end
end DL
namespace DL
open PySem PySem.Spec PyProof.Rows L2
variable {G : Bool}
section
variable {X : Cx} {k k' i : Nat} {f : Addr} {fd : FuncData} {ps : List Str} {g : Gd} {x y : Str} {xp p pos : Pos} {es : List Expr} {fs : Ma}
end
end DL
namespace DL
open PySem PySem.Spec PySem.W PySem.Calls PyProof.Rows PySem.HandSPX
def StatB (base : Heap) : Prop := ∀ (M : Model) (h : Heap) (C : Addr), (∀ b o, base.get? b = some o → h.get? b = some o) → Looks M h (opaqueClassAbove (.ref C)) none
section
variable {P : Program} {w : World} {A : Around} {K : Frag} {C : Addr} {a b : Str} {R : Result → Shared → Prop} {s : Shared} {base : Heap} {mg mb : Str → Option Value} {u1 u2 : Value}
end
end DL
namespace DL
open PySem PySem.Spec PyProof.Rows L2
variable {G : Bool}
structure Xn where
  c : Str
  fs : List (Str × Wd)
abbrev Xm := Ev → Sto → Option (Xn × Sto)
abbrev Xd := List Wd → Sto → Option (Xn × Sto)
def XAt (K : Fg) (mg : Str → Option Value) (mu : List Addr) (T : Addr → Prop) (H : Hp) (cls : Value) (d : Option Addr) (x : Xn) : Prop :=
  ∃ C dx fs, cls = .ref C ∧ mg x.c = some (.ref C) ∧ d = some dx ∧ H dx = some (.xd fs) ∧ ∀ f w, x.fs.lookup f = some w → ∃ v, fs.lookup f = some v ∧ Rp K mu T H v w
theorem XAt.weak {K : Fg} {mg : Str → Option Value} {mu : List Addr} {T T' : Addr → Prop} {H : Hp} {cls : Value} {d : Option Addr} {x : Xn} (h : XAt K mg mu T H cls d x) (t : ∀ a, T' a → T a) : XAt K mg mu T' H cls d x := by
  obtain ⟨C, dx, fs, e1, e2, e3, e4, q⟩ := h
  exact ⟨C, dx, fs, e1, e2, e3, e4, fun f w z => let ⟨v, a, b⟩ := q f w z; ⟨v, a, b.weak t⟩⟩
def xW (X : Cx) (mu : List Addr) (B O : Addr → Prop) (H : Hp) (e : Xn) (S' : Sto) : WX := fun cls d _ H' => ∃ mu' O', ExtS mu mu' O O' H H' ∧ StOk X.K mu' (fun a => B a ∨ O' a) H' S' ∧ XAt X.K X.mg mu' (fun a => B a ∨ O' a) H' cls d e
def tXs (X : Cx) (f : Xm) (σ : Sg) (H : Hp) : Prop := ∃ ρ S mu B O, Rel X.K mu B O H σ ρ S ∧ ∃ e S', f ρ S = some (e, S') ∧ Takes X (xW X mu B O H e S')
def xWe (X : Cx) (mu : List Addr) (B O : Addr → Prop) (H : Hp) (e : Xn) (S' : Sto) : WX := fun cls d _ H' => ∃ mu', Ext mu mu' H H' ∧ StOk X.K mu' (fun a => B a ∨ O a) H' S' ∧ XAt X.K X.mg mu' (fun a => B a ∨ O a) H' cls d e
def tXe (X : Cx) (f : Xm) (σ : Sg) (H : Hp) : Prop := ∃ ρ S mu B O, Rel X.K mu B O H σ ρ S ∧ ∃ e S', f ρ S = some (e, S') ∧ Takes X (xWe X mu B O H e S')
theorem tXs.e {X : Cx} {f : Xm} {σ : Sg} {H : Hp} (h : tXs X f σ H) : tXe X f σ H := by
  obtain ⟨ρ, S, mu, B, O, rl, e, S', e1, t⟩ := h
  exact ⟨ρ, S, mu, B, O, rl, e, S', e1, t.imp fun _ _ _ _ ⟨mu', a, b, c⟩ => ⟨mu', O, a.toS b, b, c⟩⟩
section
variable {X : Cx} {mu m1 : List Addr} {B O O1 : Addr → Prop} {H H1 : Hp} {σ : Sg} {ρ : Ev} {S S1 S' : Sto} {e : Xn}
theorem tXe.mk {f : Xm} (rl : Rel X.K mu B O H σ ρ S) (e1 : f ρ S = some (e, S')) (t : Takes X (xWe X mu B O H e S')) : tXe X f σ H := ⟨ρ, S, mu, B, O, rl, e, S', e1, t⟩
theorem tXs.mk {f : Xm} (rl : Rel X.K mu B O H σ ρ S) (e1 : f ρ S = some (e, S')) (t : Takes X (xW X mu B O H e S')) : tXs X f σ H := ⟨ρ, S, mu, B, O, rl, e, S', e1, t⟩
end
section
variable {X : Cx} {st : Stmt} {rest : List Stmt} {m : Ms} {fx fr : Xm} {e : Expr} {es : List Expr} {pos : Pos}
end
def spX (K : Fg) (mg : Str → Option Value) (x : Xd) (vs : List V) (H : Hp) (E : XK) : Prop := ∃ ws S mu T, StOk K mu T H S ∧ Bn mu T H ∧ RpAll K mu T H vs ws ∧ ∃ e S', x ws S = some (e, S') ∧
  ∀ cls d H' mu', Ext mu mu' H H' → StOk K mu' T H' S' → XAt K mg mu' T H' cls d e → E cls d H'
structure FnX (G : Bool) (P : Program) (w : World) (K : Fg) (mg : Str → Option Value) (base : Heap) (k : Nat) (f : Addr) (fd : FuncData) (ps : List Str) (x : Xd) : Prop where
  len : ∀ ws S r, x ws S = some r → ws.length = ps.length
  run : ∀ (A : Around) (outer : List Env) (s : Shared) (H : Hp) (args : Args) (us : List Value) (vs : List V) (E : XK), Room k A → (G = true → A.guards = some []) → Env0 P w K mg base A outer s H → BindsTo s fd args (ps.zip us) → Vals vs us → spX K mg x vs H E →
    codeAny (model P w) A (.call (.ref f) args) (CR (CX P w) outer P w H s (fun _ _ => False) E) s
theorem FnX.mono {P : Program} {w : World} {K : Fg} {mg : Str → Option Value} {base : Heap} {j k : Nat} {f : Addr} {fd : FuncData} {ps : List Str} {x : Xd} (F : FnX G P w K mg base j f fd ps x) (h : j ≤ k) : FnX G P w K mg base k f fd ps x :=
  ⟨F.len, fun A outer s H args us vs E hr => F.run A outer s H args us vs E (hr.mono h)⟩
section
variable {P : Program} {w : World} {K : Fg} {mg : Str → Option Value} {base : Heap} {x qual : Str} {params : Arguments} {body : List Stmt} {scope : Scope} {dvs : List V} {kws : List (Str × V)} {f : Addr} {fd : FuncData}
end
section
variable {X : Cx} {k : Nat} {f : Addr} {fd : FuncData} {ps : List Str} {g : Xd} {x : Str} {p pos : Pos} {e : Expr} {es : List Expr} {fs : Ma} {fa : Xm}
end
section
variable {X : Cx} {C : Addr} {a b x : Str} {e1 e2 : Expr} {fs : Ma} {p pos : Pos}
end
end DL
namespace DL
open PySem PySem.Spec PyProof.Rows L2
def StatO (h : Heap) : Prop := ∃ o, h.get? cStatics = some o ∧ PySem.W.nsIn [(cStatics, o)] cStatics "thirdparty.any" = some none
end DL
namespace DL
open PySem PySem.Spec PyProof.Rows L2
section
variable {X : Cx} {a : Expr} {f : Mx} {pos p p2 : Pos}
inductive ClsA (X : Cx) : List Expr → List Addr → Prop where
  | nil : ClsA X [] []
  | cons {x : Str} {p : Pos} {es : List Expr} {C : Addr} {Cs : List Addr} (gx : Gl X x) (mx : X.mg x = some (.ref C)) (r : ClsA X es Cs) (dx : (x == ("__debug__" : Str)) = false := by decide) (hs : starEach (.Name x p :: es) X.env = (false, eval (.Name x p) X.env) :: starEach es X.env := by rfl) : ClsA X (.Name x p :: es) (C :: Cs)
theorem ClsA.pa {es : List Expr} {Cs : List Addr} (h : ClsA X es Cs) : PA X es fun σ H Q => Q (Cs.map V.ref) H := by
  induction h with
  | nil => exact ⟨fun pp pins s σ H Q I h => pa_nil.run pp pins s σ H Q I h⟩
  | cons gx mx r dx hs ih => exact ⟨fun pp pins s σ H Q I h => (pa_cons (te := tC (.ref _)) (pe_glob gx mx rfl dx) ih hs).run pp pins s σ H Q I h⟩
end
end DL
namespace DL
open PySem PySem.Spec PyProof.Rows L2
section
variable {P : Program} {w : World} {K : Fg} {mg : Str → Option Value} {base : Heap} {x qual : Str} {params : Arguments} {body : List Stmt} {scope : Scope} {dvs : List V} {kws : List (Str × V)} {f : Addr} {fd : FuncData}
end
section
variable {X : Cx} {a : Addr} {oe : Obj} {pn : List (Addr × Obj)} {x en y : Str} {i k : Nat} {f : Addr} {fd : FuncData} {g : Gd} {p p2 pos : Pos}
end
end DL
namespace DL
open PySem PySem.Spec PyProof.Rows L2
section
variable {K : Fg} {mu : List Addr} {T : Addr → Prop} {H : Hp} {S : Sto} {a : Addr} {oe : Obj}
end
section
variable {X : Cx} {pins : List (Addr × Obj)} {σ : Sg} {H : Hp} {s : Shared} {mu : List Addr} {B O : Addr → Prop} {ρ : Ev} {S : Sto} {l : Nat} {P c : Addr} {xo : Str} {params : Arguments} {body : Expr} {scope : Scope} {pos : Pos}
end
section
variable {X : Cx}
end
end DL
namespace DL
open PySem PySem.Spec PyProof.Rows L2
variable {G : Bool}
theorem StatO.in_ {h : Heap} {o : Obj} (e : h.get? cStatics = some o) : PySem.W.Frag.In [(cStatics, o)] h := fun a u z => by
  by_cases c : a = cStatics
  · subst c
    have : ([(cStatics, o)] : Fg).lookup cStatics = some o := by simp [List.lookup]
    rw [this] at z
    cases z
    exact e
  · have : ([(cStatics, o)] : Fg).lookup a = none := by simp [List.lookup, beq_eq_false_iff_ne.mpr c]
    rw [this] at z
    cases z
theorem StatO.b {h : Heap} (x : StatO h) : StatB h := by
  obtain ⟨o, e, n⟩ := x
  exact fun M h' C k => PySem.W.looks_opaque (StatO.in_ (k _ _ e)) n
theorem StatO.dict {o : Obj} (e : PySem.W.nsIn [(cStatics, o)] cStatics "thirdparty.any" = some none) : ∃ es ep, o.data = .dict es ep := by
  unfold PySem.W.nsIn at e
  split at e
  · rename_i c d es n sl ho
    have : ([(cStatics, o)] : Fg).lookup cStatics = some o := by simp [List.lookup]
    rw [this] at ho
    cases ho
    exact ⟨es, n, rfl⟩
  · cases e
section
variable {P : Program} {w : World} {K : Fg} {mg : Str → Option Value} {k : Nat} {fa a : Addr} {fd : FuncData} {y : Str} {g : Gd} {s : Shared} {vs : List Value} {ns : List Int} {xs : List Str}
end
end DL
namespace DL
open PySem PySem.Spec PyProof.Rows L2
variable {G : Bool}
theorem _root_.L2H.RoomH.units {k : Nat} {A : Around} (r : L2H.RoomH k A) : A.units + 64 < cLine := by have := r.un; omega
theorem _root_.L2H.RoomH.u65 {k : Nat} {A : Around} (r : L2H.RoomH k A) : A.units + 65 < cLine := by have := r.un; omega
theorem _root_.L2H.RoomH.u1 {k : Nat} {A : Around} (r : L2H.RoomH k A) : A.units + 1 < cLine := by have := r.un; omega
theorem _root_.L2.Room.one {k : Nat} {A : Around} (r : Room k A) : Room 1 A ∨ k = 0 := by
  cases k with
  | zero => exact .inr rfl
  | succ k => exact .inl ⟨r.hd, by have := r.dp; omega, by have := r.un; omega⟩
section
variable {X : Cx} {st : Stmt} {rest : List Stmt} {m : Ms} {fx fr : Xm} {t : TS}
end
section
variable {X : Cx} {k k' : Nat} {x : Str} {st : Stmt} {ps : List Str} {g : Xd} {p pos : Pos} {e : Expr} {es : List Expr} {fs : Ma} {fa : Xm}
end
section
variable {P : Program} {w : World} {K : Fg} {mg : Str → Option Value} {base : Heap} {x : Str} {st : Stmt}
section
variable {qual : Str} {params : Arguments} {body : List Stmt} {scope : Scope} {dvs : List V} {kws : List (Str × V)} {f : Addr} {fd : FuncData}
end
section
variable {X : Cx} {xo lbl : Str} {cs : List Str} {gh : Gd} {fE : Mx} {xE : Xm} {lam : Expr} {params : Arguments} {body : Expr} {scope : Scope} {p lpos pos : Pos} {k kE kh : Nat}
end
end
end DL
namespace DL
open PySem PySem.Spec PyProof.Rows L2
end DL
namespace DL
open PySem PySem.Spec PyProof.Rows L2
section
variable {X : Cx} {tg iter : Expr} {fi : Mi} {g : Mg} {m : Ms} {fx : Xm} {body : List Stmt} {pos : Pos} {vs : List Nat}
end
end DL
namespace DL
open PySem PySem.Spec PyProof.Rows L2
section
variable {X : Cx} {x : Str} {c : Value} {body suite : List Stmt} {b₀ : Stmt} {np pos pos' : Pos} {m mh : Ms} {fx : Xm} {cs : List Str}
def CsOk (X : Cx) (cs : List Str) (c : Value) : Prop := ∀ y ∈ cs, ∀ C, X.mg y = some (.ref C) → PySem.W.exmOne X.K (.ref C) c = some true
theorem CsOk.nil : CsOk X [] c := fun y hy => by cases hy
theorem CsOk.cons {y : Str} (hy : X.mg y = some (.ref (He.ga X.K y))) (he : PySem.W.exmOne X.K (.ref (He.ga X.K y)) c = some true) (r : CsOk X cs c) : CsOk X (y :: cs) c := fun z hz C e => by
  rcases List.mem_cons.mp hz with rfl | hz
  · rw [hy] at e
    cases e
    exact he
  · exact r z hz C e
end
end DL
namespace DL
open PySem PySem.Spec PyProof.Rows L2
inductive OutG where
  | nx (ws : List Wd) (ρ : Ev) (S : Sto)
  | rt (ws : List Wd) (S : Sto)
  | bk (ws : List Wd) (ρ : Ev) (S : Sto)
  | ct (ws : List Wd) (ρ : Ev) (S : Sto)
  | bad
abbrev Yg := List Wd → Ev → Sto → OutG
def postG (K : Fg) (D : GEnds) (mu : List Addr) (B O : Addr → Prop) (H : Hp) : OutG → Prop
  | .nx ws ρ S => ∀ ys σ' H' mu' O', ExtS mu mu' O O' H H' → Rel K mu' B O' H' σ' ρ S → RpAll K mu' (fun a => B a ∨ O' a) H' ys ws → D.nx ys σ' H'
  | .rt ws S => ∀ ys H' mu' O', ExtS mu mu' O O' H H' → StOk K mu' (fun a => B a ∨ O' a) H' S → RpAll K mu' (fun a => B a ∨ O' a) H' ys ws → D.rt ys .non H'
  | .bk ws ρ S => ∀ ys σ' H' mu' O', ExtS mu mu' O O' H H' → Rel K mu' B O' H' σ' ρ S → RpAll K mu' (fun a => B a ∨ O' a) H' ys ws → D.bk ys σ' H'
  | .ct ws ρ S => ∀ ys σ' H' mu' O', ExtS mu mu' O O' H H' → Rel K mu' B O' H' σ' ρ S → RpAll K mu' (fun a => B a ∨ O' a) H' ys ws → D.ct ys σ' H'
  | .bad => False
def tDg (K : Fg) (m : Yg) : TGn := fun D ys σ H => ∃ ws ρ S mu B O, Rel K mu B O H σ ρ S ∧ RpAll K mu (fun a => B a ∨ O a) H ys ws ∧ postG K D mu B O H (m ws ρ S)
def Ys (X : Cx) (st : Stmt) (m : Yg) : Prop := GS X st (tDg X.K m)
def Yss (X : Cx) (st : List Stmt) (m : Yg) : Prop := GSs X st (tDg X.K m)
theorem GS.weak {X : Cx} {st : Stmt} {t t' : TGn} (h : GS X st t) (w : ∀ D ys σ H, t' D ys σ H → t D ys σ H) : GS X st t' :=
  ⟨fun A S ip R n ys s₀ c fs K J gd lv s σ H D g hn k hI ht => h.run A S ip R n ys s₀ c fs K J gd lv s σ H D g hn k hI (w _ _ _ _ ht)⟩
theorem GSs.weak {X : Cx} {st : List Stmt} {t t' : TGn} (h : GSs X st t) (w : ∀ D ys σ H, t' D ys σ H → t D ys σ H) : GSs X st t' :=
  ⟨fun A S ip R n ys s₀ c fs K J gd lv s σ H D g hn k hI ht => h.run A S ip R n ys s₀ c fs K J gd lv s σ H D g hn k hI (w _ _ _ _ ht)⟩
theorem postG.mono {K : Fg} {D D' : GEnds} {mu m1 : List Addr} {B O O1 : Addr → Prop} {H H1 : Hp} {o : OutG} (e : ExtS mu m1 O O1 H H1) (h : postG K D mu B O H o) (hn : ∀ ys σ H, D.nx ys σ H → D'.nx ys σ H) (hr : ∀ ys v H, D.rt ys v H → D'.rt ys v H)
    (hb : ∀ ys σ H, D.bk ys σ H → D'.bk ys σ H) (hc : ∀ ys σ H, D.ct ys σ H → D'.ct ys σ H) : postG K D' m1 B O1 H1 o := by
  cases o with
  | nx ws ρ S => exact fun ys σ' H' mu' O' x r p => hn _ _ _ (h ys σ' H' mu' O' (e.trans x) r p)
  | rt ws S => exact fun ys H' mu' O' x s p => hr _ _ _ (h ys H' mu' O' (e.trans x) s p)
  | bk ws ρ S => exact fun ys σ' H' mu' O' x r p => hb _ _ _ (h ys σ' H' mu' O' (e.trans x) r p)
  | ct ws ρ S => exact fun ys σ' H' mu' O' x r p => hc _ _ _ (h ys σ' H' mu' O' (e.trans x) r p)
  | bad => exact h
theorem postG.ext {K : Fg} {D : GEnds} {mu m1 : List Addr} {B O O1 : Addr → Prop} {H H1 : Hp} {o : OutG} (e : ExtS mu m1 O O1 H H1) (h : postG K D mu B O H o) : postG K D m1 B O1 H1 o :=
  h.mono e (fun _ _ _ z => z) (fun _ _ _ z => z) (fun _ _ _ z => z) fun _ _ _ z => z
def yPlain (m : Ms) : Yg := fun ws ρ S => match m ρ S with
  | .nx ρ' S' => .nx ws ρ' S'
  | .rt .none S' => .rt ws S'
  | .rt _ _ => .bad
  | .bk ρ' S' => .bk ws ρ' S'
  | .ct ρ' S' => .ct ws ρ' S'
  | .bad => .bad
theorem plain_weak {K : Fg} {m : Ms} : ∀ D ys σ H, tDg K (yPlain m) D ys σ H → tPlain (tDs K m) D ys σ H := fun D ys σ H ⟨ws, ρ, S, mu, B, O, rl, p, q⟩ => by
  refine ⟨ρ, S, mu, B, O, rl, ?_⟩
  unfold yPlain at q
  cases z : m ρ S with
  | nx ρ' S' =>
    rw [z] at q
    exact fun σ' H' mu' O' x r => q ys σ' H' mu' O' x r (p.extS x)
  | rt w S' =>
    rw [z] at q
    cases w with
    | none =>
      intro v H' mu' O' x s r
      cases r
      exact q ys H' mu' O' x s (p.extS x)
    | _ => exact q.elim
  | bk ρ' S' =>
    rw [z] at q
    exact fun σ' H' mu' O' x r => q ys σ' H' mu' O' x r (p.extS x)
  | ct ρ' S' =>
    rw [z] at q
    exact fun σ' H' mu' O' x r => q ys σ' H' mu' O' x r (p.extS x)
  | bad => rw [z] at q; exact q.elim
section
variable {X : Cx} {st : Stmt} {rest : List Stmt}
theorem PS.noxD {t : TS} (h : PS X.nox st t) : PS X st t := ⟨fun pins s σ H D I hw =>
  wpAny_mono (h.run pins s σ H D (I.wish _) hw) (fun _ _ q => q.unwish) fun _ _ z => False.elim z⟩
theorem ys_plain {m : Ms} (h : Ds X.nox st m) : Ys X st (yPlain m) := GS.weak (gs_ps (PS.noxD h)) plain_weak
def yNil : Yg := fun ws ρ S => .nx ws ρ S
theorem yss_nil : Yss X [] yNil := GSs.weak gss_nil fun D ys σ H ⟨ws, ρ, S, mu, B, O, rl, p, q⟩ => q ys σ H mu O (.refl _ _ _) rl p
def ySeq (m m' : Yg) : Yg := fun ws ρ S => match m ws ρ S with
  | .nx ws' ρ' S' => m' ws' ρ' S'
  | o => o
theorem yss_cons {m m' : Yg} (h1 : Ys X st m) (h2 : Yss X rest m') : Yss X (st :: rest) (ySeq m m') :=
  GSs.weak (gss_cons h1 h2) fun D ys σ H ⟨ws, ρ, S, mu, B, O, rl, p, q⟩ => by
    refine ⟨ws, ρ, S, mu, B, O, rl, p, ?_⟩
    unfold ySeq at q
    cases z : m ws ρ S with
    | nx ws' ρ' S' =>
      rw [z] at q
      exact fun ys' σ' H' mu' O' x r p' => ⟨ws', ρ', S', mu', B, O', r, p', q.ext x⟩
    | rt ws' S' => rw [z] at q; exact q
    | bk ws' ρ' S' => rw [z] at q; exact q
    | ct ws' ρ' S' => rw [z] at q; exact q
    | bad => rw [z] at q; exact q
def yYield (f : Mx) : Yg := fun ws ρ S => if ws.length < sizeLine then (match f ρ S with
  | .ok w S1 => .nx (ws ++ [w]) ρ S1
  | .bad => .bad) else .bad
theorem ys_yield {e : Expr} {f : Mx} {yp pos : Pos} (he : De X.nox e f) (hco : X.env.scope.isCoroutine = false := by rfl) (hi : interactive X.env = false := by rfl) : Ys X (.Expr (.Yield (some e) yp) pos) (yYield f) :=
  GS.weak (gs_yield (PE.nox he) hco hi) fun D ys σ H ⟨ws, ρ, S, mu, B, O, rl, p, q⟩ => by
    unfold yYield at q
    by_cases c : ws.length < sizeLine
    · rw [if_pos c] at q
      refine ⟨by rw [p.length]; exact c, ?_⟩
      cases z : f ρ S with
      | bad => rw [z] at q; exact q.elim
      | ok w S1 =>
        rw [z] at q
        exact tD.mk rl z fun v H1 mu1 E r pv => q _ σ H1 mu1 O (E.toS r.sto) r ((p.ext E).append (.cons pv .nil))
    · rw [if_neg c] at q
      exact q.elim
def yLoop (t : Mt) (m : Yg) : Nat → Yg
  | 0, _, _, _ => .bad
  | n + 1, ws, ρ, S => match t ρ S with
    | .ok b S1 => if b = true then (match m ws ρ S1 with
      | .nx ws2 ρ2 S2 => yLoop t m n ws2 ρ2 S2
      | .ct ws2 ρ2 S2 => yLoop t m n ws2 ρ2 S2
      | .bk ws2 ρ2 S2 => .nx ws2 ρ2 S2
      | .rt ws2 S2 => .rt ws2 S2
      | .bad => .bad) else .nx ws ρ S1
    | .bad => .bad
def yWhile (fuel : Ev → Sto → Nat) (t : Mt) (m : Yg) : Yg := fun ws ρ S => yLoop t m (fuel ρ S) ws ρ S
theorem ys_while {c : Expr} {body : List Stmt} {t : Mt} {m : Yg} {pos : Pos} (fuel : Ev → Sto → Nat) (hp : PassesOwn (model X.prog X.w) X.A X.env X.xe) (hc : Dt X.nox c t) (hb : Yss X body m) : Ys X (.While c body [] pos) (yWhile fuel t m) :=
  GS.weak (gs_while hp (PT.nox hc) hb) fun D ys σ H ⟨ws, ρ, S, mu, B, O, rl, p, q⟩ => by
    refine ⟨fun n ys2 σ2 H2 => ∃ ws2 ρ2 S2 mu2 O2, Rel X.K mu2 B O2 H2 σ2 ρ2 S2 ∧ RpAll X.K mu2 (fun a => B a ∨ O2 a) H2 ys2 ws2 ∧ postG X.K D mu2 B O2 H2 (yLoop t m n ws2 ρ2 S2), ⟨fuel ρ S, ws, ρ, S, mu, O, rl, p, q⟩, fun n ys2 σ2 H2 ⟨ws2, ρ2, S2, mu2, O2, r2, p2, q2⟩ => ?_⟩
    cases n with
    | zero => exact q2.elim
    | succ n =>
      unfold yLoop at q2
      cases z : t ρ2 S2 with
      | bad => rw [z] at q2; exact q2.elim
      | ok b S3 =>
        rw [z] at q2
        simp only at q2
        refine tDt.mk r2 z fun H3 mu3 E3 r3 => ?_
        have x3 := E3.toS r3.sto
        have p3 := p2.extS x3
        cases b with
        | false =>
          rw [if_neg Bool.false_ne_true] at q2 ⊢
          exact q2 ys2 σ2 H3 mu3 O2 x3 r3 p3
        | true =>
          rw [if_pos rfl] at q2 ⊢
          refine ⟨fun ys' σ' H' => ∃ ws2 ρ2 S2 mu2 O2, Rel X.K mu2 B O2 H' σ' ρ2 S2 ∧ RpAll X.K mu2 (fun a => B a ∨ O2 a) H' ys' ws2 ∧ postG X.K D mu2 B O2 H' (yLoop t m n ws2 ρ2 S2), fun ys' σ' H' h => ⟨n, Nat.lt_succ_self n, h⟩, ws2, ρ2, S3, mu3, B, O2, r3, p3, ?_⟩
          cases u : m ws2 ρ2 S3 with
          | nx ws4 ρ4 S4 =>
            rw [u] at q2
            exact fun ys5 σ5 H5 mu5 O5 x5 r5 p5 => ⟨ws4, ρ4, S4, mu5, O5, r5, p5, postG.ext (x3.trans x5) q2⟩
          | ct ws4 ρ4 S4 =>
            rw [u] at q2
            exact fun ys5 σ5 H5 mu5 O5 x5 r5 p5 => ⟨ws4, ρ4, S4, mu5, O5, r5, p5, postG.ext (x3.trans x5) q2⟩
          | bk ws4 ρ4 S4 =>
            rw [u] at q2
            exact fun ys5 σ5 H5 mu5 O5 x5 r5 p5 => q2 ys5 σ5 H5 mu5 O5 (x3.trans x5) r5 p5
          | rt ws4 S4 =>
            rw [u] at q2
            exact fun ys5 H5 mu5 O5 x5 s5 p5 => q2 ys5 H5 mu5 O5 (x3.trans x5) s5 p5
          | bad => rw [u] at q2; exact q2.elim
end
def EN : XK := fun _ _ _ => False
def spYG (K : Fg) (g : Gd) : SpG := fun vs H Q _ => ∃ ws S mu T, StOk K mu T H S ∧ Bn mu T H ∧ RpAll K mu T H vs ws ∧ ∃ ys S', g ws S = .ok (.list ys) S' ∧ ∀ zs H' mu', Ext mu mu' H H' → StOk K mu' T H' S' → Bn mu' T H' → RpAll K mu' T H' zs ys → Q zs H'
def runGen (n p : Nat) (m : Yg) : Gd := fun ws S => if ws.length = p then (match m [] (startE n ws) S with
  | .nx ys _ S' => .ok (.list ys) S'
  | .rt ys S' => .ok (.list ys) S'
  | _ => .bad) else .bad
def CalG (P : Program) (w : World) (K : Fg) (mg : Str → Option Value) (base : Heap) (k : Nat) (x : Str) (st : Stmt) (ps : List Str) (g : Gd) : Prop :=
  ∃ f fd, mg x = some (.ref f) ∧ FunD K x x (defArgs st) (defBody st) (defScope st) [] [] f fd ∧ Binds K fd ps [] ∧ (∀ ws S v S', g ws S = .ok v S' → ws.length = ps.length ∧ ∃ ys, v = .list ys) ∧ GFn P w K mg base k f fd ps (spYG K g)
section
variable {P : Program} {w : World} {K : Fg} {mg : Str → Option Value} {base : Heap} {x : Str} {st : Stmt}
theorem calG_of {N ps : List Str} {k n p : Nat} {m : Yg} (D : Dfn K mg x st) (Sc : GScope N ps (defScope st)) (hn : N.length = n) (hp : ps.length = p)
    (hb : ∀ (kV doc pm : Value) (an : Option Addr) (cdv ct : Value) (us : List Value), us.length = ps.length → bindArgs (PySem.W.fnOf x x (defArgs st) (defBody st) (defScope st) .none kV doc pm an cdv ct) ⟨us, []⟩ = pure (ps.zip us))
    (hbody : ∀ (f : Addr) (cdv : Value) (A : Around) (outer : List Env) (s : Shared) (H : Hp) (E : XK) (pn : List (Addr × Obj)), Room k (A.deeper (envOfC x (defScope st) s.heap.objs.size f cdv)) → Yss (gcxOf P w K mg base N x (defScope st) f cdv A outer s H E pn) (defBody st) m) :
    CalG P w K mg base (k + 1) x st ps (runGen n p m) := by
  subst hn hp
  obtain ⟨f, fd, hm, F⟩ := D
  have hlen : ∀ ws S v S', runGen N.length ps.length m ws S = .ok v S' → ws.length = ps.length ∧ ∃ ys, v = .list ys := fun ws S v S' e => by
    unfold runGen at e
    by_cases c : ws.length = ps.length
    · rw [if_pos c] at e
      refine ⟨c, ?_⟩
      split at e
      · cases e; exact ⟨_, rfl⟩
      · cases e; exact ⟨_, rfl⟩
      · cases e
    · rw [if_neg c] at e
      cases e
  have hlenV : ∀ vs H Q E, spYG K (runGen N.length ps.length m) vs H Q E → vs.length = ps.length := fun vs H Q E ⟨ws, S, mu, T, _, _, rp, ys, S', e, _⟩ => by
    rw [rp.length]
    exact (hlen _ _ _ _ e).1
  refine ⟨f, fd, hm, F, F.bindsN hb, hlen, ?_⟩
  obtain ⟨oc, od, dV, kV, doc, pm, an, cdv, ct, osl, rfl, lk, hcd, _, _⟩ := F.ex
  refine gfn_of lk hcd Sc hlenV fun A outer s H vs Q E pn hr hsp => ?_
  obtain ⟨ws, S, mu, T, st', bn, rp, ys, S', e, q⟩ := hsp
  refine ⟨_, hbody f cdv A outer s H E pn hr, [], startE N.length ws, S, mu, T, fun _ => False, start_rel st' bn rp, .nil, ?_⟩
  have c := (hlen _ _ _ _ e).1
  unfold runGen at e
  rw [if_pos c] at e
  have toE : ∀ {H' : Hp} {mu' : List Addr} {O' : Addr → Prop}, ExtS mu mu' (fun _ => False) O' H H' → Ext mu mu' H H' := fun y => ⟨y.pre, fun a o h n => y.keep a o h n fun z => z, y.new⟩
  show postG K _ mu T (fun _ => False) H (m [] (startE N.length ws) S)
  cases z : m [] (startE N.length ws) S with
  | nx ys' ρ' S2 =>
    rw [z] at e
    cases e
    exact fun zs σ' H' mu' O' y r' p' => q zs H' mu' (toE y) (r'.sto.weak fun a t => .inl t) (fun a t => r'.bn a (.inl t)) (p'.weak fun a t => .inl t)
  | rt ys' S2 =>
    rw [z] at e
    cases e
    exact fun zs H' mu' O' y s' p' => ⟨rfl, q zs H' mu' (toE y) (s'.weak fun a t => .inl t) (bn.ext (toE y)) (p'.weak fun a t => .inl t)⟩
  | bk ys' ρ' S2 => rw [z] at e; cases e
  | ct ys' ρ' S2 => rw [z] at e; cases e
  | bad => rw [z] at e; cases e
end
section
variable {X : Cx} {k k' : Nat} {x : Str} {st : Stmt} {ps : List Str} {g : Gd} {p pos pos' : Pos} {e : Expr} {es : List Expr} {fs : Ma} {nm : Str}
theorem de_listG {p2 : Pos} (C : CalG X.prog X.w X.K X.mg X.base k x st ps g) (hr : Room k' X.A) (hk : k + 3 ≤ k') (hg : Gl X x) (hl : Gl X nm) (hmg : X.mg nm = none) (hv : bootBuiltins nm = some (.type "list")) (ha : Da X (e :: es) fs) (hnm : nm ≠ "__name__" := by decide) (hdb2 : (nm == ("__debug__" : Str)) = false := by decide)
    (hdb : (x == ("__debug__" : Str)) = false := by decide) (he : starEach (e :: es) X.env = (false, eval e X.env) :: starEach es X.env := by rfl) (hpl : (backTo pos' (starEach es X.env)).any (·.1) = false := by rfl)
    (he2 : starEach [.Call (.Name x p) (e :: es) [] pos'] X.env = (false, eval (.Call (.Name x p) (e :: es) [] pos') X.env) :: starEach [] X.env := by rfl) : De X (.Call (.Name nm p2) [.Call (.Name x p) (e :: es) [] pos'] [] pos) (mCall g fs) := by
  obtain ⟨f, fd, hm, F, hb, hlen, G⟩ := C
  have PG := pgen_call (X := X) (dvs := []) (ds := []) (E := EN) (p := p) (pos' := pos') G ((hr.mono hk).mono (by omega)) hg hm F.kp hb .nil ha hdb he hpl
  refine PE.weak (pe_listG (pos := pos) (p := p2) PG (fun pins σ H s e s' I c => ?_) (fun cls d H z => z.elim) (hr.mono hk) hl hmg hv hnm hdb2 he2) fun σ H Q ⟨ρ, S, mu, B, O, rl, v, S', e1, q⟩ => ?_
  · obtain ⟨a, B, H', cls, d, _, _, _, _, _, _, _, z⟩ := c
    exact z.elim
  · obtain ⟨ws, S1, e2, e3⟩ := R.bnd_inv e1
    refine tDa.mk rl e2 fun vs H1 mu1 E1 r1 p1 => ?_
    obtain ⟨_, ys, rfl⟩ := hlen _ _ _ _ e3
    rw [List.append_nil]
    exact ⟨ws, S1, mu1, fun a => B a ∨ O a, r1.sto, r1.bn, p1, ys, S', e3, fun zs H' mu' E2 st2 bn2 p2 p hp => q (.ref p) (upd H' p (.lst zs)) mu' ((E1.trans E2).trans (.same (same_upd hp))) (st2.same (same_upd hp)) (new_lst st2 bn2 p2 hp)⟩
end
end DL
namespace DL
open PySem PySem.Spec PyProof.Rows L2
def Fns (X : Cx) (es : List Expr) (as : List Addr) : Prop := ∃ t, PA X es t ∧ ∀ σ H (Q : List V → Hp → Prop), Q (as.map V.ref) H → t σ H Q
def DeF (X : Cx) (i : Nat) (a : Addr) (e : Expr) (f : Mx) : Prop := PE X e (fun σ H Q => σ[i]? = some (some (.ref a)) ∧ tD X.K f σ H Q)
def DaF (X : Cx) (i : Nat) (a : Addr) (es : List Expr) (f : Ma) : Prop := PA X es (fun σ H Q => σ[i]? = some (some (.ref a)) ∧ tDa X.K f σ H Q)
section
variable {X : Cx} {k k' i : Nat} {a : Addr} {x y : Str} {st : Stmt} {ps : List Str} {g : Gd} {p pos : Pos} {e : Expr} {es : List Expr} {f : Mx} {fs : Ma} {G : Bool}
theorem fns_nil : Fns X [] [] := ⟨_, pa_nil, fun σ H Q h => h⟩
theorem fns_cons {as : List Addr} (hg : Gl X x) (hm : X.mg x = some (.ref a)) (h : Fns X es as) (hd : (x == ("__debug__" : Str)) = false := by decide) (hs : starEach (.Name x p :: es) X.env = (false, eval (.Name x p) X.env) :: starEach es X.env := by rfl) : Fns X (.Name x p :: es) (a :: as) := by
  obtain ⟨t, h1, h2⟩ := h
  exact ⟨_, pa_cons (pe_glob (v := .ref a) hg hm rfl hd) h1 hs, fun σ H Q h => h2 σ H _ h⟩
theorem daF_one (h : DeF X i a e f) (hs : starEach [e] X.env = (false, eval e X.env) :: starEach [] X.env := by rfl) : DaF X i a [e] (aCons f aNil) :=
  ⟨fun pos pins s σ H Q I ⟨hσ, ρ, S, mu, B, O, rl, ws, S', e1, q⟩ => by
    obtain ⟨w, S1, e2, e1⟩ := R.bnd_inv e1
    obtain ⟨wr, S2, e3, e1⟩ := R.bnd_inv e1
    cases e1
    cases e3
    exact (pa_cons h pa_nil hs).run pos pins s σ H Q I ⟨hσ, tD.mk rl e2 fun v H1 mu1 E r p => q _ H1 mu1 E r.sto (.cons p .nil)⟩⟩
theorem deF_call (C : Cal G X.prog X.w X.K X.mg X.base k x st ps g) (hr : Room k' X.A) (hk : k ≤ k') (hgd : G = true → X.A.guards = some []) (hg : Gl X x) (ha : DaF X i a (e :: es) fs)
    (hdb : (x == ("__debug__" : Str)) = false := by decide) (he : starEach (e :: es) X.env = (false, eval e X.env) :: starEach es X.env := by rfl) (hpl : (backTo pos (starEach es X.env)).any (·.1) = false := by rfl) : DeF X i a (.Call (.Name x p) (e :: es) [] pos) (mCall g fs) := by
  obtain ⟨f, fd, hm, F, hb, Fn⟩ := C
  refine ⟨fun pins s σ H Q I ⟨hσ, ρ, S, mu, B, O, rl, v, S', e1, q⟩ => ?_⟩
  obtain ⟨ws, S1, e2, e3⟩ := R.bnd_inv e1
  refine wpAny_Call_Name_kw (ld_glob I hg hm ?_ hdb)
  refine PySem.W.callWith_K (h₀ := X.base) I.ok.mod.kin F.kp (thn (ha.run pos pins s σ H (fun vs H1 => ∃ mu1, Ext mu mu1 H H1 ∧ Rel X.K mu1 B O H1 σ ρ S1 ∧ RpAll X.K mu1 (fun a => B a ∨ O a) H1 vs ws) I ⟨hσ, tDa.mk rl e2 fun vs H1 mu1 E r p => ⟨mu1, E, r, p⟩⟩) fun us s1 ⟨vs, H1, I1, r, mu1, E, rl1, p⟩ => ⟨I1.kIn, ?_⟩) he hpl
  have hl : (us ++ []).length = ps.length := by
    rw [List.append_nil, ← r.length, p.length]
    exact Fn.len _ _ _ _ e3
  have hb1 := hb s1 us I1.kIn hl
  rw [List.append_nil] at hb1
  exact run_fnD (args := ⟨us, []⟩) (Fn.mono hk) hr hgd hb1 I1 r (call_sp E rl1.sto rl1.bn p e3 q)
theorem deF_held (C : Cal G X.prog X.w X.K X.mg X.base k x st ps g) (hma : X.mg x = some (.ref a)) (hr : Room k' X.A) (hk : k ≤ k') (hgd : G = true → X.A.guards = some []) (hN : X.N[i]? = some y) (hv : Vis X.env.scope y) (ha : Da X (e :: es) fs)
    (hdb : (y == ("__debug__" : Str)) = false := by decide) (hcd : (y == ("__classdict__" : Str)) = false := by decide) (he : starEach (e :: es) X.env = (false, eval e X.env) :: starEach es X.env := by rfl) (hpl : (backTo pos (starEach es X.env)).any (·.1) = false := by rfl) : DeF X i a (.Call (.Name y p) (e :: es) [] pos) (mCall g fs) := by
  obtain ⟨f, fd, hm, F, hb, Fn⟩ := C
  obtain rfl : f = a := by
    have z := hm.symm.trans hma
    cases z
    rfl
  refine ⟨fun pins s σ H Q I ⟨hσ, ρ, S, mu, B, O, rl, v, S', e1, q⟩ => ?_⟩
  obtain ⟨ws, S1, e2, e3⟩ := R.bnd_inv e1
  refine wpAny_Call_Name_kw (thn ((pe_var (pos := p) hN hv hdb hcd).run pins s σ H (fun v H1 => v = .ref f ∧ H1 = H) I ⟨.ref f, hσ, rfl, rfl⟩) fun u s1 ⟨v1, H1, I1, r1, q1⟩ => ?_)
  obtain ⟨rfl, rfl⟩ := q1
  cases r1
  refine PySem.W.callWith_K (h₀ := X.base) I.ok.mod.kin F.kp (thn (ha.run pos pins s1 σ H1 (fun vs H2 => ∃ mu1, Ext mu mu1 H1 H2 ∧ Rel X.K mu1 B O H2 σ ρ S1 ∧ RpAll X.K mu1 (fun a => B a ∨ O a) H2 vs ws) I1 (tDa.mk rl e2 fun vs H2 mu1 E r p => ⟨mu1, E, r, p⟩)) fun us s2 ⟨vs, H2, I2, r, mu1, E, rl1, p⟩ => ⟨I2.kIn, ?_⟩) he hpl
  have hl : (us ++ []).length = ps.length := by
    rw [List.append_nil, ← r.length, p.length]
    exact Fn.len _ _ _ _ e3
  have hb1 := hb s2 us I2.kIn hl
  rw [List.append_nil] at hb1
  exact run_fnD (args := ⟨us, []⟩) (Fn.mono hk) hr hgd hb1 I2 r (call_sp E rl1.sto rl1.bn p e3 q)
end
theorem Cal.at_ {G : Bool} {P : Program} {w : World} {K : Fg} {mg : Str → Option Value} {base : Heap} {k : Nat} {x : Str} {st : Stmt} {ps : List Str} {g : Gd} (C : Cal G P w K mg base k x st ps g) : ∃ a, mg x = some (.ref a) := by
  obtain ⟨f, _, h, _⟩ := C
  exact ⟨f, h⟩
theorem wipe_len (σ : Sg) : ∀ vs : List Nat, (wipe σ vs).length = σ.length
  | [] => rfl
  | v :: vs => by
    show ((wipe σ vs).set v none).length = _
    rw [List.length_set, wipe_len σ vs]
def fnLoop : List Mx → List Wd → Ev → Sto → R (List Wd)
  | [], acc, _, S => .ok acc S
  | f :: r, acc, ρ, S => (f ρ S).bnd fun z S1 => if acc.length < sizeLine then fnLoop r (acc ++ [z]) ρ S1 else .bad
def mFns (vs : List Nat) (fes : List Mx) : Mx := fun ρ S => if fes.length ≤ sizeLine then (fnLoop fes [] (wipeE ρ vs) S).bnd fun acc S1 => .ok (.list acc) S1 else .bad
theorem wipeE_at {ρ : Ev} {i : Nat} : ∀ {vs : List Nat}, i ∈ vs → ∀ w, (wipeE ρ vs)[i]? ≠ some (some w)
  | v :: vs, h, w => by
    intro e
    show False
    have e : ((wipeE ρ vs).set v none)[i]? = some (some w) := e
    rcases set_get e with ⟨_, z, _⟩ | ⟨c, e⟩
    · cases z
    · rcases List.mem_cons.mp h with h | h
      · exact c h.symm
      · exact wipeE_at h w e
section
variable {K : Fg} {mu : List Addr} {B O : Addr → Prop} {H : Hp} {σ : Sg} {ρ : Ev} {S : Sto}
theorem Rel.any (h : Rel K mu B O H σ ρ S) {i : Nat} (hi : ∀ w, ρ[i]? ≠ some (some w)) (v : Option V) : Rel K mu B O H (σ.set i v) ρ S := by
  have ne : ∀ {j : Nat} {w : Sl}, ρ[j]? = some (some w) → i ≠ j := fun {j w} e z => hi w (z ▸ e)
  refine ⟨by rw [List.length_set]; exact h.len, fun j w e => ?_, fun j ws e => ?_, fun j k ws ws' b e1 e2 e3 e4 => ?_, h.sto, h.bn⟩
  · rw [List.getElem?_set_ne (ne e)]
    exact h.val j w e
  · rw [List.getElem?_set_ne (ne e)]
    exact h.own j ws e
  · rw [List.getElem?_set_ne (ne e1)] at e3
    rw [List.getElem?_set_ne (ne e2)] at e4
    exact h.dif j k ws ws' b e1 e2 e3 e4
end
section
variable {X : Cx} {elt : Expr} {es : List Expr} {scope : Scope} {own : List (Str × Nat)} {pos tp np : Pos} {kt i : Nat} {y : Str} {L : List (Addr × Mx)}
theorem de_fns (hc : X.calm = true) (hN : X.N.Nodup) (hes : Fns X es (L.map (·.1))) (ok : BlkOk X.N X.env.scope scope own) (hi : X.N[i]? = some y) (hin : i ∈ own.map (·.2))
    (hg : ∀ (s : Shared) (H : Hp) (C : Addr) (cl : List (Str × Addr)) (fp : List Addr), PG (X.blk s H scope (compEnvC scope cl C X.env) fp) (.Name y np) (gName i))
    (he : ∀ q ∈ L, ∀ (s : Shared) (H : Hp) (C : Addr) (cl : List (Str × Addr)) (fp : List Addr), DeF (X.blk s H scope (compEnvC scope cl C X.env) fp) i q.1 elt q.2) (hs : ∀ x, foldedSetIterable (.Tuple es kt tp) X.env x = pure x := by intro _; rfl) :
    De X (.ListComp elt [⟨.Name y np, .Tuple es kt tp, [], 0⟩] scope pos) (mFns (own.map (·.2)) (L.map (·.2))) := by
  obtain ⟨t, h1, h2⟩ := hes
  refine ⟨fun pins s σ H Q I ⟨ρ, S, mu, B, O, rl, w, S', e, q⟩ => (pe_lc (te := fun σ H Q => ∃ q ∈ L, σ[i]? = some (some (.ref q.1)) ∧ tD X.K q.2 σ H Q) hc hN (pi_tup (pe_tup h1)) ok hg (fun _ _ _ _ _ => pts_nil) (fun s H C cl fp => ⟨fun pins s' σ H' Q I ⟨q, hq, h⟩ => (he q hq s H C cl fp).run pins s' σ H' Q I h⟩) hs).run pins s σ H Q I ?_⟩
  have hσ : i < σ.length := by rw [I.len]; exact (List.getElem?_eq_some_iff.mp hi).1
  generalize hvs : own.map (·.2) = vs at *
  unfold mFns at e
  have hz : (L.map (·.2)).length ≤ sizeLine := by
    by_cases hz : (L.map (·.2)).length ≤ sizeLine
    · exact hz
    · rw [if_neg hz] at e
      cases e
  rw [if_pos hz] at e
  obtain ⟨res, S2, e2, e⟩ := R.bnd_inv e
  cases e
  show t σ H _
  refine h2 σ H _ ⟨by simpa using hz, fun p hp => ?_⟩
  have np : p ∉ mu := rl.sto.fresh hp
  have sm := same_upd (o := HO.tup ((L.map (·.1)).map V.ref)) hp
  have sq : ∀ {H' : Hp}, H' p = some (.tup ((L.map (·.1)).map V.ref)) → SqT X.K H' p ((L.map (·.1)).map V.ref) := fun h => .inl (.inl h)
  refine ⟨p, rfl, ⟨_, sq upd_same⟩, fun D nD => ?_⟩
  have rl1 := rl.ext (.same sm) (rl.sto.same sm)
  have nT : ¬ (B D ∨ O D) := rl1.bn.fresh nD
  have hpD : p ≠ D := fun z => by rw [← z, upd_same] at nD; cases nD
  have rb := (rl1.wipe vs).ban nD (.lst [])
  have hwl : i < (wipe σ vs).length := by rw [(rl1.wipe vs).len, ← (rl1.wipe vs).len]; rw [wipe_len]; exact hσ
  refine ⟨fun j k H2 => k = L.length - j ∧ j ≤ L.length ∧ ∃ av acc S3 mu2, Ext mu mu2 (upd H p (.tup ((L.map (·.1)).map V.ref))) H2 ∧ Rel X.K mu2 (fun a => B a ∨ a = D) O H2 (wipe σ vs) (wipeE ρ vs) S3 ∧ H2 p = some (.tup ((L.map (·.1)).map V.ref)) ∧ H2 D = some (.lst av) ∧ RpAll X.K mu2 (fun a => (B a ∨ a = D) ∨ O a) H2 av acc ∧
      fnLoop ((L.map (·.2)).drop j) acc (wipeE ρ vs) S3 = .ok res S',
    ⟨L.length, by omega, Nat.zero_le _, [], [], S, mu, (Ext.refl _ _).at_new nD, rb, by rw [upd_ne hpD]; exact upd_same, upd_same, .nil, e2⟩, fun j k H2 ⟨ek, hj, av, acc, S3, mu2, x2, r2, p2, hD, pa, el⟩ => ?_⟩
  by_cases c : j < L.length
  · have c2 : j < (L.map (·.2)).length := by rw [List.length_map]; exact c
    rw [List.drop_eq_getElem_cons c2] at el
    unfold fnLoop at el
    obtain ⟨z, S5, e5, el⟩ := R.bnd_inv el
    rw [List.getElem_map] at e5
    have xat : ((L.map (·.1)).map V.ref)[j]? = some (.ref L[j].1) := by simp [List.getElem?_eq_getElem c]
    refine .inr ⟨⟨_, _, sq p2, xat⟩, fun H' => ∃ av acc S3 mu2, Ext mu mu2 (upd H p (.tup ((L.map (·.1)).map V.ref))) H' ∧ Rel X.K mu2 (fun a => B a ∨ a = D) O H' (wipe σ vs) (wipeE ρ vs) S3 ∧ H' p = some (.tup ((L.map (·.1)).map V.ref)) ∧ H' D = some (.lst av) ∧ RpAll X.K mu2 (fun a => (B a ∨ a = D) ∨ O a) H' av acc ∧
        fnLoop ((L.map (·.2)).drop (j + 1)) acc (wipeE ρ vs) S3 = .ok res S', fun H' ⟨av, acc, S5, mu5, h1, h2, h3, h4, h5, h6⟩ => ⟨L.length - (j + 1), by omega, rfl, by omega, av, acc, S5, mu5, h1, h2, h3, h4, h5, h6⟩, fun x H' hy => ?_⟩
    obtain ⟨rfl, hx⟩ := hy
    have hx := hx _ (sq p2)
    rw [xat] at hx
    cases hx
    show wipe ((wipe σ vs).set i _) vs = _ ∧ _
    refine ⟨(wipe_set hin).trans (wipe_idem σ vs), ?_⟩
    dsimp only [tYes]
    rw [if_pos rfl]
    have r3 := r2.any (wipeE_at (ρ := ρ) hin) (some (.ref L[j].1))
    refine ⟨L[j], List.getElem_mem c, by rw [List.getElem?_set_self hwl], ?_⟩
    by_cases hz2 : acc.length < sizeLine
    · rw [if_pos hz2] at el
      refine tD.mk r3 e5 fun yv H5 mu5 E5 r5 p5 => ?_
      have D5 : H5 D = some (.lst av) := E5.keep D _ hD (r2.bn D (.inl (.inr rfl))).2
      have np2 : p ∉ mu2 := x2.notin upd_same np
      have p5' : H5 p = some (.tup ((L.map (·.1)).map V.ref)) := E5.keep p _ p2 np2
      have r50 : Rel X.K mu5 (fun a => B a ∨ a = D) O H5 (wipe σ vs) (wipeE ρ vs) S5 := r2.ext E5 r5.sto
      have pa5 := pa.ext E5
      refine ⟨av, D5, by rw [pa.length]; exact hz2, av ++ [yv], acc ++ [z], S5, mu5, (x2.trans E5).at_new nD, r50.at_ban (.inr rfl) _, by rw [upd_ne hpD]; exact p5', upd_same, ?_, el⟩
      exact (pa5.append (.cons p5 .nil)).at_ban (.inl (.inr rfl))
    · rw [if_neg hz2] at el
      cases el
  · have ej : j = L.length := by omega
    subst ej
    rw [List.drop_eq_nil_of_le (by rw [List.length_map]; exact Nat.le_refl _)] at el
    cases el
    refine .inl ⟨⟨_, sq p2, by simp⟩, q (.ref D) H2 mu2 ((Ext.same sm).trans x2) (r2.sto.weak fun a z => z.imp .inl id) (.lst (.inl ⟨.inl hD, (r2.bn D (.inl (.inr rfl))).2, nT⟩) (pa.weak fun a z => z.imp .inl id))⟩
end
end DL
namespace WF
open PySem PySem.Spec PyProof.Rows L2 DL
def m_moved_limit (g : Gd) : Ms := (sSeq (sAsg (gtT (gtCons (gtN 2) (gtCons (gtN 3) gtNil))) (mV 0)) (sSeq (sIf (mTru (mBin gIn (mV 2) (mC (.tuple [(.str "hours"), (.str "cycles"), (.str "days")])))) (sRet (mTup (aCons (mV 2) (aCons (mBin gAdd (mV 3) (mIx (mV 1) (mBin gIndexT (mC (.tuple [(.str "hours"), (.str "cycles"), (.str "days")])) (mV 2)))) aNil)))) sNil) (sRet (mTup (aCons (mV 2) (aCons (mCB gTuple (aCons (mLc [4] (iSeq (mV 3)) (gtN 4) tTrue (mCall g (aCons (mV 4) (aCons (mV 1) aNil)))) aNil)) aNil))))))
def g_moved_limit : Nat → Gd
  | 0 => fun _ _ => .bad
  | n + 1 => runDef 5 2 (m_moved_limit (g_moved_limit n))
end WF
namespace WF
open PySem PySem.Spec PyProof.Rows L2 DL
def m_steady_day : Ms := (sSeq (sAsg (gtT (gtCons (gtN 2) (gtCons (gtN 3) gtNil))) (mIx (mV 1) (mUn gNeg (mC (.int 1))))) (sRet (mIf (mTru (mBin gIsN (mV 3) (mC .none))) (mV 2) (mCB gMax (aCons (mV 2) (aCons (mBin gSub (mCB gLen (aCons (mIx (mCB gDict (aCons (mIx (mV 0) (mC (.int 0))) aNil)) (mV 3)) aNil)) (mC (.int 1))) aNil))))))
def g_steady_day : Gd := runDef 4 2 m_steady_day
end WF
namespace WF
open PySem PySem.Spec PyProof.Rows L2 DL
def m_place_on : Ms := (sRet (mIx (mLc [2, 3] (iSeq (mV 0)) (gtT (gtCons (gtN 2) (gtCons (gtN 3) gtNil))) (mTru (mBin gLe (mV 2) (mV 1))) (mV 3)) (mUn gNeg (mC (.int 1)))))
def g_place_on : Gd := runDef 4 2 m_place_on
end WF
namespace WF
open PySem PySem.Spec PyProof.Rows L2 DL
def m_use_on : Ms := (sRet (mIx (mV 0) (mCB gMin (aCons (mV 1) (aCons (mBin gSub (mCB gLen (aCons (mV 0) aNil)) (mC (.int 1))) aNil)))))
def g_use_on : Gd := runDef 2 2 m_use_on
end WF
namespace WF
open PySem PySem.Spec PyProof.Rows L2 DL
def m_part_use : Ms := (sSeq (sSet 3 (mCall WF.g_place_on (aCons (mV 1) (aCons (mV 2) aNil)))) (sSeq (sIf (mTru (mBin gIsN (mV 3) (mC .none))) (sRet (mC (.tuple [(.int 0), (.int 0)]))) sNil) (sRet (mCall WF.g_use_on (aCons (mIx (mCB gDict (aCons (mIx (mV 0) (mC (.int 0))) aNil)) (mV 3)) (aCons (mV 2) aNil))))))
def g_part_use : Gd := runDef 4 3 m_part_use
end WF
namespace WF
open PySem PySem.Spec PyProof.Rows L2 DL
def m_plain_passing : Ms := (sSeq (sIf (mTru (mBin gLt (mV 3) (mC (.int 0)))) (sRet (mV 4)) sNil) (sSeq (sIf (mTru (mBin gEq (mV 2) (mC (.str "days")))) (sRet (mBin gAdd (mBin gAdd (mV 4) (mV 3)) (mC (.int 1)))) sNil) (sSeq (sSet 5 (mBin gIndexT (mC (.tuple [(.str "hours"), (.str "cycles"), (.str "days")])) (mV 2))) (sSeq (sSet 6 (mC (.int 0))) (sSeq (sSet 7 (mCB gMax (aCons (mV 4) (aCons (mCall WF.g_steady_day (aCons (mV 0) (aCons (mV 1) aNil))) aNil)))) (sSeq (sFor (iRange2 (aCons (mV 4) (aCons (mV 7) aNil))) (gtN 8) (sSeq (sSet 6 (mBin gAdd (mV 6) (mIx (mCall WF.g_part_use (aCons (mV 0) (aCons (mV 1) (aCons (mV 8) aNil)))) (mV 5)))) (sIf (mTru (mBin gGt (mV 6) (mV 3))) (sRet (mBin gAdd (mV 8) (mC (.int 1)))) sNil))) (sSeq (sSet 9 (mIx (mCall WF.g_part_use (aCons (mV 0) (aCons (mV 1) (aCons (mV 7) aNil)))) (mV 5))) (sRet (mIf (mTru (mBin gEq (mV 9) (mC (.int 0)))) (mC .none) (mBin gAdd (mBin gAdd (mV 7) (mBin gDiv (mBin gSub (mV 3) (mV 6)) (mV 9))) (mC (.int 1))))))))))))
def g_plain_passing : Gd := runDef 10 5 m_plain_passing
end WF
namespace WF
open PySem PySem.Spec PyProof.Rows L2 DL
def m_first_passing (g : Gd) : Ms := (sSeq (sAsg (gtT (gtCons (gtN 4) (gtCons (gtN 5) gtNil))) (mV 2)) (sSeq (sIf (mTru (mBin gIn (mV 4) (mC (.tuple [(.str "hours"), (.str "cycles"), (.str "days")])))) (sRet (mCall WF.g_plain_passing (aCons (mV 0) (aCons (mV 1) (aCons (mV 4) (aCons (mV 5) (aCons (mV 3) aNil))))))) sNil) (sSeq (sSet 6 (mLc [8] (iSeq (mV 5)) (gtN 8) tTrue (mCall g (aCons (mV 0) (aCons (mV 1) (aCons (mV 8) (aCons (mV 3) aNil))))))) (sSeq (sSet 7 (mLc [9] (iSeq (mV 6)) (gtN 9) (mTru (mBin gNotN (mV 9) (mC .none))) (mV 9))) (sSeq (sIf (mTru (mBin gEq (mV 4) (mC (.str "first")))) (sRet (mIf (mTru (mBin gNe (mV 7) (mLst aNil))) (mCB gMin (aCons (mV 7) aNil)) (mC .none))) sNil) (sRet (mIf (mTru (mBin gEq (mCB gLen (aCons (mV 7) aNil)) (mCB gLen (aCons (mV 6) aNil)))) (mCB gMax (aCons (mV 7) aNil)) (mC .none))))))))
def g_first_passing : Nat → Gd
  | 0 => fun _ _ => .bad
  | n + 1 => runDef 10 4 (m_first_passing (g_first_passing n))
end WF
namespace WF
open PySem PySem.Spec PyProof.Rows L2 DL
def m_require_usable : Ms := (sIf (mNotT (mTru (mV 0))) sBad sNil)
def g_require_usable : Gd := runDef 3 3 m_require_usable
end WF
namespace WF
open PySem PySem.Spec PyProof.Rows L2 DL
def m_is_name : Ms := (sSeq (sIf (mOrT (mNotT (mTru (mUn (gIsi "str") (mV 0)))) (mNotT (mTru (mChain gLe gLe (mC (.int 1)) (mCB gLen (aCons (mV 0) aNil)) (mC (.int 8)))))) (sRet (mC (.bool false))) sNil) (sRet (mCB gAll (aCons (mLc [1] (DL.iStr (mV 0)) (gtN 1) tTrue (mBin gIn (mV 1) (mC (.str "abcdefghijklmnopqrstuvwxyz")))) aNil))))
def g_is_name : Gd := runDef 2 1 m_is_name
end WF
namespace WF
open PySem PySem.Spec PyProof.Rows L2 DL
def m_index_among : Ms := (sSeq (sExpr (mCall WF.g_require_usable (aCons (mAnd (mCall WF.g_is_name (aCons (mV 1) aNil)) (mBin gIn (mV 1) (mV 0))) (aCons (mV 2) (aCons (mUn gNeg (mC (.int 1))) aNil))))) (sRet (mBin gIndex (mV 0) (mV 1))))
def g_index_among : Gd := runDef 3 3 m_index_among
end WF
namespace WF
open PySem PySem.Spec PyProof.Rows L2 DL
def m_part_names : Ms := (sRet (mLc [1, 2] (iSeq (mIx (mV 0) (mC (.int 1)))) (gtT (gtCons (gtN 1) (gtCons (gtN 2) gtNil))) tTrue (mV 1)))
def g_part_names : Gd := runDef 3 1 m_part_names
end WF
namespace WF
open PySem PySem.Spec PyProof.Rows L2 DL
def m_stays_of : Ms := (sRet (mIx (mIx (mIx (mV 0) (mC (.int 1))) (mCall WF.g_index_among (aCons (mCall WF.g_part_names (aCons (mV 0) aNil)) (aCons (mV 1) (aCons (mC (.str "part")) aNil))))) (mC (.int 1))))
def g_stays_of : Gd := runDef 2 2 m_stays_of
end WF
namespace WF
open PySem PySem.Spec PyProof.Rows L2 DL
def m_lasting : Ms := (sSeq (sSet 4 (mCall (WF.g_first_passing 12) (aCons (mV 0) (aCons (mCall WF.g_stays_of (aCons (mV 0) (aCons (mIx (mV 1) (mC (.int 1))) aNil))) (aCons (mV 2) (aCons (mV 3) aNil)))))) (sRet (mIf (mTru (mBin gIsN (mV 4) (mC .none))) (mC .none) (mBin gSub (mV 4) (mC (.int 1))))))
def g_lasting : Gd := runDef 5 4 m_lasting
end WF
namespace WF
open PySem PySem.Spec PyProof.Rows L2 DL
def m_inner_pairs : Ms := (sSeq (sIf (mTru (mBin gIn (mIx (mV 1) (mC (.int 0))) (mC (.tuple [(.str "hours"), (.str "cycles"), (.str "days")])))) (sRet (mLst aNil)) sNil) (sRet (mLc [2, 3] (iEnumA (aCons (mIx (mV 1) (mC (.int 1))) aNil)) (gtT (gtCons (gtN 2) (gtCons (gtN 3) gtNil))) tTrue (mTup (aCons (mTup (aStar (mV 0) (aCons (mV 2) aNil))) (aCons (mV 3) aNil))))))
def g_inner_pairs : Gd := runDef 4 2 m_inner_pairs
end WF
namespace WF
open PySem PySem.Spec PyProof.Rows L2 DL
def m_all_pairs : Ms := (sSeq (sOwn 1 aNil) (sSeq (sOwn 2 (aCons (mTup (aCons (mTup aNil) (aCons (mV 0) aNil))) aNil)) (sSeq (sWhile (fun _ _ => 1000) (mTru (mBin gGt (mLenO 2) (mC (.int 0)))) (sSeq (sPop (gtT (gtCons (gtN 3) (gtCons (gtN 4) gtNil))) 2) (sSeq (sApp 1 (mTup (aCons (mV 3) (aCons (mV 4) aNil)))) (sExt 2 (mUn gRev (mCall WF.g_inner_pairs (aCons (mV 3) (aCons (mV 4) aNil)))))))) (sFrz 2 (sFrz 1 (sRet (mV 1)))))))
def g_all_pairs : Gd := runDef 5 1 m_all_pairs
end WF
namespace WF
open PySem PySem.Spec PyProof.Rows L2 DL
def m_number_for : Ms := (sRet (mIx (mV 1) (mBin gIndexT (mC (.tuple [(.str "hours"), (.str "cycles"), (.str "days")])) (mV 0))))
def g_number_for : Gd := runDef 2 2 m_number_for
end WF
namespace WF
open PySem PySem.Spec PyProof.Rows L2 DL
def m_widened : Ms := (sSeq (sSet 2 mMap0) (sSeq (sFor (iSeq (mUn gRev (mCall WF.g_all_pairs (aCons (mV 0) aNil)))) (gtT (gtCons (gtN 3) (gtCons (gtN 4) gtNil))) (sSeq (sAsg (gtT (gtCons (gtN 5) (gtCons (gtN 6) gtNil))) (mV 4)) (sIf (mTru (mBin gIn (mV 5) (mC (.tuple [(.str "hours"), (.str "cycles"), (.str "days")])))) (sPutT (mV 2) (mV 3) (mTup (aCons (mV 5) (aCons (mBin gAdd (mV 6) (mCall WF.g_number_for (aCons (mV 5) (aCons (mV 1) aNil)))) aNil)))) (sPutT (mV 2) (mV 3) (mTup (aCons (mV 5) (aCons (mCB gTuple (aCons (mLc [7] (iRange1 (aCons (mCB gLen (aCons (mV 6) aNil)) aNil)) (gtN 7) tTrue (mIxT (mV 2) (mBin gAdd (mV 3) (mTup (aCons (mV 7) aNil))))) aNil)) aNil))))))) (sRet (mIxT (mV 2) (mTup aNil)))))
def g_widened : Gd := pureG (runDef 8 2 m_widened)
end WF
namespace WF
open PySem PySem.Spec PyProof.Rows L2 DL
def m_task_late : Ms := (sRet (mCall WF.g_lasting (aCons (mV 0) (aCons (mV 1) (aCons (mCall WF.g_widened (aCons (mIx (mV 1) (mC (.int 3))) (aCons (mIx (mV 1) (mC (.int 4))) aNil))) (aCons (mV 2) aNil))))))
def g_task_late : Gd := runDef 3 3 m_task_late
end WF
namespace WF
open PySem PySem.Spec PyProof.Rows L2 DL
def m_task_early : Ms := (sSeq (sSet 3 (mCall (WF.g_moved_limit 12) (aCons (mIx (mV 1) (mC (.int 3))) (aCons (mCB gTuple (aCons (mLc [7] (iSeq (mIx (mV 1) (mC (.int 4)))) (gtN 7) tTrue (mBin gSub (mBin gSub (mC (.int 0)) (mV 7)) (mC (.int 1)))) aNil)) aNil)))) (sSeq (sPar 4 5 (aCons (mCall (WF.g_first_passing 12) (aCons (mV 0) (aCons (mCall WF.g_stays_of (aCons (mV 0) (aCons (mIx (mV 1) (mC (.int 1))) aNil))) (aCons (mV 3) (aCons (mV 2) aNil))))) (aCons (mCall WF.g_task_late (aCons (mV 0) (aCons (mV 1) (aCons (mV 2) aNil)))) aNil))) (sSeq (sSet 6 (mIf (mTru (mBin gNotN (mV 4) (mC .none))) (mLst (aCons (mCB gMax (aCons (mBin gAdd (mV 2) (mC (.int 1))) (aCons (mV 4) aNil))) aNil)) (mLst aNil))) (sSeq (sSet 6 (mIf (mTru (mBin gNotN (mV 5) (mC .none))) (mBin gAdd (mV 6) (mLst (aCons (mV 5) aNil))) (mV 6))) (sRet (mIf (mTru (mBin gNe (mV 6) (mLst aNil))) (mCB gMin (aCons (mV 6) aNil)) (mC .none)))))))
def g_task_early : Gd := runDef 8 3 m_task_early
end WF
namespace WF
open PySem PySem.Spec PyProof.Rows L2 DL
def m_task_named : Ms := (sSeq (sAsg (gtT (gtCons (gtN 2) (gtCons (gtN 3) (gtCons (gtN 4) gtNil)))) (mV 0)) (sSeq (sSet 5 (mDc [6] (iSeq (mV 4)) (gtN 6) tTrue (mIx (mV 6) (mC (.int 0))) (mV 6))) (sSeq (sExpr (mCall WF.g_require_usable (aCons (mAnd (mUn (gIsi "str") (mV 1)) (mBin gInD (mV 1) (mV 5))) (aCons (mC (.str "name")) (aCons (mUn gNeg (mC (.int 1))) aNil))))) (sRet (mIx (mV 5) (mV 1))))))
def g_task_named : Gd := runDef 7 2 m_task_named
end WF
namespace WF
open PySem PySem.Spec PyProof.Rows L2 DL
def m_is_integer : Ms := (sRet (mAnd (mUn (gIsi "int") (mV 0)) (mNot (mUn (gIsi "bool") (mV 0)))))
def g_is_integer : Gd := runDef 1 1 m_is_integer
end WF
namespace WF
open PySem PySem.Spec PyProof.Rows L2 DL
def m_is_number : Ms := (sRet (mAnd (mCall WF.g_is_integer (aCons (mV 0) aNil)) (mBin gGe (mV 0) (mC (.int 0)))))
def g_is_number : Gd := runDef 1 1 m_is_number
end WF
namespace WF
open PySem PySem.Spec PyProof.Rows L2 DL
def m_named_base : Ms := (sSeq (sSet 3 (mCall WF.g_task_named (aCons (mV 0) (aCons (mV 1) aNil)))) (sSeq (sExpr (mCall WF.g_require_usable (aCons (mCall WF.g_is_number (aCons (mV 2) aNil)) (aCons (mC (.str "base")) (aCons (mUn gNeg (mC (.int 1))) aNil))))) (sRet (mV 3))))
def g_named_base : Gd := runDef 4 3 m_named_base
end WF
namespace WF
open PySem PySem.Spec PyProof.Rows L2 DL
def m_early_day : Ms := (sRet (mCall WF.g_task_early (aCons (mV 0) (aCons (mCall WF.g_named_base (aCons (mV 0) (aCons (mV 1) (aCons (mV 2) aNil)))) (aCons (mV 2) aNil)))))
def g_early_day : Gd := runDef 3 3 m_early_day
end WF
namespace WF
open PySem PySem.Spec PyProof.Rows L2 DL
def m_task_due : Ms := (sRet (mCall WF.g_lasting (aCons (mV 0) (aCons (mV 1) (aCons (mIx (mV 1) (mC (.int 3))) (aCons (mV 2) aNil))))))
def g_task_due : Gd := runDef 3 3 m_task_due
end WF
namespace WF
open PySem PySem.Spec PyProof.Rows L2 DL
def m_due_day : Ms := (sRet (mCall WF.g_task_due (aCons (mV 0) (aCons (mCall WF.g_named_base (aCons (mV 0) (aCons (mV 1) (aCons (mV 2) aNil)))) (aCons (mV 2) aNil)))))
def g_due_day : Gd := runDef 3 3 m_due_day
end WF
namespace WF
open PySem PySem.Spec PyProof.Rows L2 DL
def m_late_day : Ms := (sRet (mCall WF.g_task_late (aCons (mV 0) (aCons (mCall WF.g_named_base (aCons (mV 0) (aCons (mV 1) (aCons (mV 2) aNil)))) (aCons (mV 2) aNil)))))
def g_late_day : Gd := runDef 3 3 m_late_day
end WF
namespace WF
open PySem PySem.Spec PyProof.Rows L2 DL
def m_most_k27 : Ms := (sRet (mIf (mTru (mBin gIsN (mV 0) (mC .none))) (mBin gPow (mC (.int 10)) (mC (.int 9))) (mV 0)))
def g_most_k27 : Gd := runDef 1 1 m_most_k27
end WF
namespace WF
open PySem PySem.Spec PyProof.Rows L2 DL
def m_three_k28 : Ms := (sRet (mFns [3] [(mCall WF.g_most_k27 (aCons (mCall WF.g_early_day (aCons (mV 0) (aCons (mV 1) (aCons (mV 2) aNil)))) aNil)), (mCall WF.g_most_k27 (aCons (mCall WF.g_due_day (aCons (mV 0) (aCons (mV 1) (aCons (mV 2) aNil)))) aNil)), (mCall WF.g_most_k27 (aCons (mCall WF.g_late_day (aCons (mV 0) (aCons (mV 1) (aCons (mV 2) aNil)))) aNil))]))
def g_three_k28 : Gd := runDef 4 3 m_three_k28
end WF
namespace DL
open PySem PySem.Spec PyProof.Rows L2
section
variable {X : Cx}
def gMin3 : List Wd → Option Wd
  | [.int a, .int b, .int c] => some (.int (if b < a then (if c < b then c else b) else (if c < a then c else a)))
  | _ => none
theorem cd_min3 (hc : X.calm = true) : CallD X (.builtin "min") gMin3 := by
  intro pins s σ H xs us Q mu T S ws w I r st bn p e q
  unfold gMin3 at e
  split at e
  · cases e
    cases p with
    | cons p1 p => cases p with
      | cons p2 p => cases p with
        | cons p3 p =>
          cases p
          cases p1; cases p2; cases p3
          cases r with
          | cons r1 r => cases r with
            | cons r2 r => cases r with
              | cons r3 r =>
                cases r
                obtain ⟨t1, rfl⟩ := r1
                obtain ⟨t2, rfl⟩ := r2
                obtain ⟨t3, rfl⟩ := r3
                refine min_three_ints (I.ok.hd hc) fun h' tk k => ⟨_, H, I.kept k, ?_, q _ H (Same.refl H) (.int _)⟩
                split <;> split <;> exact ⟨_, rfl⟩
  · cases e
end
end DL
namespace WF
open PySem PySem.Spec PyProof.Rows L2 DL
def m_before_k19 : Ms := (sRet (mIf (mTru (mBin gIsN (mV 0) (mC .none))) (mC .none) (mBin gSub (mV 0) (mC (.int 1)))))
def g_before_k19 : Gd := runDef 1 1 m_before_k19
end WF
namespace WF
open PySem PySem.Spec PyProof.Rows L2 DL
def m_limit_word : Ms := (sSeq (sIf (mOrT (mNotT (mTru (mUn (gIsi "tuple") (mV 0)))) (mOrT (mTru (mBin gNe (mCB gLen (aCons (mV 0) aNil)) (mC (.int 2)))) (mNotT (mTru (mUn (gIsi "str") (mIx (mV 0) (mC (.int 0)))))))) (sRet (mC .none)) sNil) (sRet (mIf (mOrT (mTru (mBin gIn (mIx (mV 0) (mC (.int 0))) (mC (.tuple [(.str "hours"), (.str "cycles"), (.str "days")])))) (mTru (mBin gIn (mIx (mV 0) (mC (.int 0))) (mC (.tuple [(.str "first"), (.str "later")]))))) (mIx (mV 0) (mC (.int 0))) (mC .none))))
def g_limit_word : Gd := runDef 1 1 m_limit_word
end WF
namespace WF
open PySem PySem.Spec PyProof.Rows L2 DL
def m_is_amount : Ms := (sRet (mAnd (mCall WF.g_is_integer (aCons (mV 0) aNil)) (mBin gGe (mV 0) (mC (.int 1)))))
def g_is_amount : Gd := runDef 1 1 m_is_amount
end WF
namespace WF
open PySem PySem.Spec PyProof.Rows L2 DL
def m_limit_fault : Ms := (sSeq (sOwn 1 (aCons (mTup (aCons (mTup aNil) (aCons (mV 0) aNil))) aNil)) (sSeq (sWhile (fun _ _ => 1000) (mTru (mBin gGt (mLenO 1) (mC (.int 0)))) (sSeq (sPop (gtT (gtCons (gtN 2) (gtCons (gtN 3) gtNil))) 1) (sSeq (sSet 4 (mCall WF.g_limit_word (aCons (mV 3) aNil))) (sSeq (sIf (mTru (mBin gIsN (mV 4) (mC .none))) (sRet (mTup (aCons (mC (.str "word")) (aCons (mV 2) aNil)))) sNil) (sIf (mTru (mBin gIn (mV 4) (mC (.tuple [(.str "hours"), (.str "cycles"), (.str "days")])))) (sIf (mNotT (mTru (mCall WF.g_is_amount (aCons (mIx (mV 3) (mC (.int 1))) aNil)))) (sRet (mTup (aCons (mC (.str "number")) (aCons (mV 2) aNil)))) sNil) (sIf (mOrT (mNotT (mTru (mUn (gIsi "tuple") (mIx (mV 3) (mC (.int 1)))))) (mTru (mBin gEq (mCB gLen (aCons (mIx (mV 3) (mC (.int 1))) aNil)) (mC (.int 0))))) (sRet (mTup (aCons (mC (.str "limits")) (aCons (mV 2) aNil)))) (sExt 1 (mUn gRev (mCall WF.g_inner_pairs (aCons (mV 2) (aCons (mV 3) aNil))))))))))) (sFrz 1 (sRet (mC .none)))))
def g_limit_fault : Gd := runDef 5 1 m_limit_fault
end WF
namespace WF
open PySem PySem.Spec PyProof.Rows L2 DL
def m_is_limit : Ms := (sRet (mBin gIsN (mCall WF.g_limit_fault (aCons (mV 0) aNil)) (mC .none)))
def g_is_limit : Gd := runDef 1 1 m_is_limit
end WF
namespace WF
open PySem PySem.Spec PyProof.Rows L2 DL
def m_passing_day : Ms := (sSeq (sSet 4 (mCall WF.g_stays_of (aCons (mV 0) (aCons (mV 1) aNil)))) (sSeq (sExpr (mCall WF.g_require_usable (aCons (mCall WF.g_is_limit (aCons (mV 2) aNil)) (aCons (mC (.str "limit")) (aCons (mUn gNeg (mC (.int 1))) aNil))))) (sSeq (sExpr (mCall WF.g_require_usable (aCons (mCall WF.g_is_number (aCons (mV 3) aNil)) (aCons (mC (.str "base")) (aCons (mUn gNeg (mC (.int 1))) aNil))))) (sRet (mCall (WF.g_first_passing 12) (aCons (mV 0) (aCons (mV 4) (aCons (mV 2) (aCons (mV 3) aNil)))))))))
def g_passing_day : Gd := runDef 5 4 m_passing_day
end WF
namespace WF
open PySem PySem.Spec PyProof.Rows L2 DL
def m_shifted_k19 (g : Gd) : Ms := (sSeq (sAsg (gtT (gtCons (gtN 2) (gtCons (gtN 3) gtNil))) (mV 0)) (sSeq (sIf (mTru (mBin gIn (mV 2) (mTup (aCons (mC (.str "first")) (aCons (mC (.str "later")) aNil))))) (sRet (mTup (aCons (mV 2) (aCons (mCB gTuple (aCons (mLc [4] (iSeq (mV 3)) (gtN 4) tTrue (mCall g (aCons (mV 4) (aCons (mV 1) aNil)))) aNil)) aNil)))) sNil) (sRet (mTup (aCons (mV 2) (aCons (mBin gAdd (mV 3) (mIx (mV 1) (mBin gIndex (mLst (aCons (mC (.str "hours")) (aCons (mC (.str "cycles")) (aCons (mC (.str "days")) aNil)))) (mV 2)))) aNil))))))
def g_shifted_k19 : Nat → Gd
  | 0 => fun _ _ => .bad
  | n + 1 => runDef 5 2 (m_shifted_k19 (g_shifted_k19 n))
end WF
namespace WF
open PySem PySem.Spec PyProof.Rows L2 DL
def m_task_window : Ms := (sSeq (sIf (mOrT (mTru (mBin gNe (mIx (mV 1) (mC (.int 2))) (mC (.str "kept")))) (mTru (mBin gIsN (mCall WF.g_task_due (aCons (mV 0) (aCons (mV 1) (aCons (mV 2) aNil)))) (mC .none)))) (sRet (mC .none)) sNil) (sSeq (sPar 3 4 (aCons (mCB gMax (aCons (mBin gAdd (mV 2) (mC (.int 1))) (aCons (mCall WF.g_task_early (aCons (mV 0) (aCons (mV 1) (aCons (mV 2) aNil)))) aNil))) (aCons (mCall WF.g_task_late (aCons (mV 0) (aCons (mV 1) (aCons (mV 2) aNil)))) aNil))) (sRet (mIf (mAndT (mTru (mBin gNotN (mV 4) (mC .none))) (mTru (mBin gLt (mV 4) (mV 3)))) (mC .none) (mTup (aCons (mV 3) (aCons (mV 4) aNil)))))))
def g_task_window : Gd := runDef 5 3 m_task_window
end WF
namespace WF
open PySem PySem.Spec PyProof.Rows L2 DL
def m_window_of : Ms := (sRet (mCall WF.g_task_window (aCons (mV 0) (aCons (mCall WF.g_named_base (aCons (mV 0) (aCons (mV 1) (aCons (mV 2) aNil)))) (aCons (mV 2) aNil)))))
def g_window_of : Gd := runDef 3 3 m_window_of
end WF
namespace WF
open PySem PySem.Spec PyProof.Rows L2 DL
def m_ends_right_k28 : Ms := (sSeq (sAsg (gtL (gtCons (gtN 3) (gtCons (gtN 4) (gtCons (gtN 5) gtNil)))) (mCall WF.g_three_k28 (aCons (mV 0) (aCons (mIx (mV 1) (mC (.int 0))) (aCons (mV 2) aNil))))) (sSeq (sIf (mTru (mBin gNe (mV 4) (mCall WF.g_most_k27 (aCons (mCall WF.g_before_k19 (aCons (mCall WF.g_passing_day (aCons (mV 0) (aCons (mIx (mV 1) (mC (.int 1))) (aCons (mIx (mV 1) (mC (.int 3))) (aCons (mV 2) aNil))))) aNil)) aNil)))) (sRet (mC (.bool false))) sNil) (sSeq (sIf (mTru (mBin gNe (mV 5) (mCall WF.g_most_k27 (aCons (mCall WF.g_before_k19 (aCons (mCall WF.g_passing_day (aCons (mV 0) (aCons (mIx (mV 1) (mC (.int 1))) (aCons (mCall (WF.g_shifted_k19 12) (aCons (mIx (mV 1) (mC (.int 3))) (aCons (mIx (mV 1) (mC (.int 4))) aNil))) (aCons (mV 2) aNil))))) aNil)) aNil)))) (sRet (mC (.bool false))) sNil) (sSeq (sIf (mOrT (mTru (mBin gLt (mCB gMin3 (aCons (mV 3) (aCons (mV 4) (aCons (mV 5) aNil)))) (mV 2))) (mOrT (mTru (mBin gGt (mV 3) (mV 5))) (mTru (mBin gGt (mV 4) (mV 5))))) (sRet (mC (.bool false))) sNil) (sSeq (sSet 6 (mCall WF.g_window_of (aCons (mV 0) (aCons (mIx (mV 1) (mC (.int 0))) (aCons (mV 2) aNil))))) (sSeq (sIf (mOrT (mTru (mBin gEq (mIx (mV 1) (mC (.int 2))) (mC (.str "fresh")))) (mOrT (mTru (mBin gEq (mV 4) (mBin gPow (mC (.int 10)) (mC (.int 9))))) (mTru (mBin gEq (mV 5) (mV 2))))) (sRet (mBin gIsN (mV 6) (mC .none))) sNil) (sRet (mBin gEq (mV 6) (mTup (aCons (mV 3) (aCons (mIf (mTru (mBin gEq (mV 5) (mBin gPow (mC (.int 10)) (mC (.int 9))))) (mC .none) (mV 5)) aNil)))))))))))
def g_ends_right_k28 : Gd := runDef 7 3 m_ends_right_k28
end WF
namespace WF
open PySem PySem.Spec PyProof.Rows L2 DL
def m_with_k28 : Ms := (sRet (mBin gAdd (mSl (mV 0) oNone (oSome (mC (.int 2)))) (mTup (aCons (mBin gAdd (mBin gAdd (mSl (mIx (mV 0) (mC (.int 2))) oNone (oSome (mV 1))) (mTup (aCons (mV 2) aNil))) (mSl (mIx (mV 0) (mC (.int 2))) (oSome (mBin gAdd (mV 1) (mC (.int 1)))) oNone)) aNil))))
def g_with_k28 : Gd := runDef 3 3 m_with_k28
end WF
namespace WF
open PySem PySem.Spec PyProof.Rows L2 DL
def m_windows_of : Yg := (ySeq (yPlain (sSet 3 (mCall WF.g_task_named (aCons (mV 0) (aCons (mV 1) aNil))))) (ySeq (yPlain (sExpr (mCall WF.g_require_usable (aCons (mCall WF.g_is_number (aCons (mV 2) aNil)) (aCons (mC (.str "upto")) (aCons (mUn gNeg (mC (.int 1))) aNil)))))) (ySeq (yPlain (sSet 4 (mC (.int 0)))) (ySeq (yWhile (fun _ _ => 1000) (mAndT (mTru (mBin gNotN (mV 4) (mC .none))) (mTru (mBin gLe (mV 4) (mV 2)))) (ySeq (yPlain (sSet 5 (mCall WF.g_task_due (aCons (mV 0) (aCons (mV 3) (aCons (mV 4) aNil)))))) (ySeq (yYield (mTup (aCons (mV 4) (aCons (mCall WF.g_task_early (aCons (mV 0) (aCons (mV 3) (aCons (mV 4) aNil)))) (aCons (mCall WF.g_task_late (aCons (mV 0) (aCons (mV 3) (aCons (mV 4) aNil)))) (aCons (mV 5) aNil)))))) (ySeq (yPlain (sSet 4 (mIf (mAndT (mTru (mBin gNotN (mV 5) (mC .none))) (mTru (mBin gGt (mV 5) (mV 4)))) (mV 5) (mC .none)))) yNil)))) yNil))))
def g_windows_of : Gd := runGen 6 3 m_windows_of
end WF
namespace WF
open PySem PySem.Spec PyProof.Rows L2 DL
def m_agrees_k28 : Ms := (sSeq (sPar 3 4 (aCons (mIx (mIx (mV 1) (mC (.int 2))) (mV 2)) (aCons (mCall WF.g_draw_k17 (aCons (mV 0) (aCons (mC (.int 12)) aNil))) aNil))) (sSeq (sSet 5 (mCall WF.g_three_k28 (aCons (mV 1) (aCons (mIx (mV 3) (mC (.int 0))) (aCons (mV 4) aNil))))) (sSeq (sIf (mNotT (mTru (mCall WF.g_ends_right_k28 (aCons (mV 1) (aCons (mV 3) (aCons (mV 4) aNil)))))) (sRet (mC (.bool false))) sNil) (sSeq (sSet 6 (mCall WF.g_three_k28 (aCons (mV 1) (aCons (mIx (mV 3) (mC (.int 0))) (aCons (mBin gAdd (mBin gAdd (mV 4) (mC (.int 1))) (mCall WF.g_draw_k17 (aCons (mV 0) (aCons (mC (.int 5)) aNil)))) aNil))))) (sSeq (sSet 7 (mCB gTuple (aCons (mLc [14, 15] (iSeq (mIx (mV 1) (mC (.int 0)))) (gtT (gtCons (gtN 14) (gtCons (gtN 15) gtNil))) tTrue (mTup (aCons (mV 14) (aCons (mCB gTuple (aCons (mLc [16, 17] (iSeq (mV 15)) (gtT (gtCons (gtN 16) (gtCons (gtN 17) gtNil))) tTrue (mTup (aCons (mBin gAdd (mV 16) (mC (.int 1))) (aCons (mBin gAdd (mV 17) (mC (.int 2))) aNil)))) aNil)) aNil)))) aNil))) (sSeq (sSet 8 (mCall WF.g_three_k28 (aCons (mBin gAdd (mTup (aCons (mV 7) aNil)) (mSl (mV 1) (oSome (mC (.int 1))) oNone)) (aCons (mIx (mV 3) (mC (.int 0))) (aCons (mV 4) aNil))))) (sSeq (sIf (mTru (mBin gNe (mLc [18, 19] (iZipD (aCons (mV 5) (aCons (mV 6) aNil))) (gtT (gtCons (gtN 18) (gtCons (gtN 19) gtNil))) (mTru (mBin gLt (mV 19) (mV 18))) (mC (.int 1))) (mLst aNil))) (sRet (mC (.bool false))) sNil) (sSeq (sIf (mTru (mBin gNe (mLc [18, 19] (iZipD (aCons (mV 5) (aCons (mV 8) aNil))) (gtT (gtCons (gtN 18) (gtCons (gtN 19) gtNil))) (mTru (mBin gGt (mV 19) (mV 18))) (mC (.int 1))) (mLst aNil))) (sRet (mC (.bool false))) sNil) (sSeq (sSet 9 (mCall WF.g_three_k28 (aCons (mCall WF.g_with_k28 (aCons (mV 1) (aCons (mV 2) (aCons (mBin gAdd (mSl (mV 3) oNone (oSome (mC (.int 4)))) (mTup (aCons (mTup (aCons (mC (.int 0)) (aCons (mC (.int 0)) (aCons (mC (.int 0)) aNil)))) aNil))) aNil)))) (aCons (mIx (mV 3) (mC (.int 0))) (aCons (mV 4) aNil))))) (sSeq (sSet 10 (mCall WF.g_three_k28 (aCons (mCall WF.g_with_k28 (aCons (mV 1) (aCons (mV 2) (aCons (mBin gAdd (mSl (mV 3) oNone (oSome (mC (.int 4)))) (mTup (aCons (mCB gTuple (aCons (mLc [18] (iSeq (mIx (mV 3) (mC (.int 4)))) (gtN 18) tTrue (mBin gAdd (mV 18) (mC (.int 1)))) aNil)) aNil))) aNil)))) (aCons (mIx (mV 3) (mC (.int 0))) (aCons (mV 4) aNil))))) (sSeq (sIf (mOrT (mTru (mBin gNe (mIx (mV 9) (mC (.int 1))) (mIx (mV 9) (mC (.int 2))))) (mOrT (mTru (mBin gNe (mIx (mV 9) (mC (.int 1))) (mIx (mV 5) (mC (.int 1))))) (mTru (mBin gLt (mIx (mV 10) (mC (.int 2))) (mIx (mV 5) (mC (.int 2))))))) (sRet (mC (.bool false))) sNil) (sSeq (sSet 11 (mCall WF.g_windows_of (aCons (mV 1) (aCons (mIx (mV 3) (mC (.int 0))) (aCons (mC (.int 12)) aNil))))) (sSeq (sFor (iEnumA (aCons (mV 11) aNil)) (gtT (gtCons (gtN 12) (gtCons (gtN 13) gtNil))) (sSeq (sIf (mTru (mBin gNe (mIx (mV 13) (mC (.int 0))) (mIf (mTru (mBin gGt (mV 12) (mC (.int 0)))) (mIx (mIx (mV 11) (mBin gSub (mV 12) (mC (.int 1)))) (mC (.int 3))) (mC (.int 0))))) (sRet (mC (.bool false))) sNil) (sIf (mTru (mBin gNe (mLc [20] (iSeq (mTup (aCons (mIx (mV 13) (mC (.int 1))) (aCons (mIx (mV 13) (mC (.int 3))) (aCons (mIx (mV 13) (mC (.int 2))) aNil))))) (gtN 20) tTrue (mCall WF.g_most_k27 (aCons (mV 20) aNil))) (mCall WF.g_three_k28 (aCons (mV 1) (aCons (mIx (mV 3) (mC (.int 0))) (aCons (mIx (mV 13) (mC (.int 0))) aNil)))))) (sRet (mC (.bool false))) sNil))) (sRet (mC (.bool true))))))))))))))))
def g_agrees_k28 : Gd := runDef 21 3 m_agrees_k28
end WF
namespace WF
open PySem PySem.Spec PyProof.Rows L2 DL
def m_law_k28 : Ms := (sSeq (sSet 1 (mCall WF.g_feed_k17 (aCons (mV 0) aNil))) (sSeq (sFor (iRange1 (aCons (mC (.int 2)) aNil)) (gtN 2) (sSeq (sSet 3 (mCall WF.g_plot_k17 (aCons (mV 1) (aCons (mC (.int 10)) aNil)))) (sIf (mTru (mBin gNe (mLc [4] (iRange1 (aCons (mCB gLen (aCons (mIx (mV 3) (mC (.int 2))) aNil)) aNil)) (gtN 4) (mNotT (mTru (mCall WF.g_agrees_k28 (aCons (mV 1) (aCons (mV 3) (aCons (mV 4) aNil)))))) (mV 4)) (mLst aNil))) (sRet (mC (.bool false))) sNil))) (sRet (mC (.bool true)))))
def g_law_k28 : Gd := runDef 5 1 m_law_k28
end WF
namespace K28
open PySem PySem.Spec PyProof.Rows L2 DL
structure Bl (P : Program) (K : Fg) (mg : Str → Option Value) : Prop where
  b_all : mg "all" = none
  b_bool : mg "bool" = none
  b_dict : mg "dict" = none
  b_enumerate : mg "enumerate" = none
  b_int : mg "int" = none
  b_isinstance : mg "isinstance" = none
  b_len : mg "len" = none
  b_list : mg "list" = none
  b_max : mg "max" = none
  b_min : mg "min" = none
  b_range : mg "range" = none
  b_str : mg "str" = none
  b_tuple : mg "tuple" = none
  b_zip : mg "zip" = none
  c_COUNT_WORDS : ∃ a, mg "COUNT_WORDS" = some (.ref a) ∧ KnD K (.ref a) c_COUNT_WORDS
  c_JOINING_WORDS : ∃ a, mg "JOINING_WORDS" = some (.ref a) ∧ KnD K (.ref a) c_JOINING_WORDS
  c_KEPT : ∃ t, mg "KEPT" = some (.str "kept" t)
  c_LETTERS : ∃ t, mg "LETTERS" = some (.str "abcdefghijklmnopqrstuvwxyz" t)
  c_LONGEST_NAME : ∃ t, mg "LONGEST_NAME" = some (.int 8 t)
  c_NO_USE : ∃ a, mg "NO_USE" = some (.ref a) ∧ KnD K (.ref a) c_NO_USE
section
variable {P : Program} {w : World} {K : Fg} {mg : Str → Option Value} {base : Heap}
abbrev nm__law_feed : List Str := ["_law_script"]
theorem sc__law_feed : FnScope nm__law_feed ["_law_script"] (defScope (top 51)) := ⟨rfl, rfl, rfl, by decide +kernel, rfl, by decide +kernel, by decide +kernel⟩
theorem c__law_feed (B : Bl P K mg) (D : Dfn K mg "_law_feed" (top 51))  : Cal false P w K mg base 1 "_law_feed" (top 51) ["_law_script"] WF.g_feed_k17 := by
  refine cal_of (m := WF.m_feed_k17) D sc__law_feed rfl rfl (fun _ _ _ _ _ _ us hl => match us, hl with | [_], _ => rfl) fun f cdv A outer s H hr hg => ?_
  have ND := sc__law_feed.nd
  exact (dss_one (ds_ret (de_rec (dps_cons (de_callTy cd_list rfl B.b_list bt_list (da_cons (de_slice (vl 0) do_none (do_some de_int)) da_nil)) (dps_cons de_int (dps_cons de_int (dps_cons de_int dps_nil)))) rfl rfl (fun z => by cases z) (by decide) (by decide) (by decide))))
abbrev nm__law_draw : List Str := ["_law_feed_here", "_law_many", "_law_digit", "_law_spot", "_law_cell", "_law_mixed"]
theorem sc__law_draw : FnScope nm__law_draw ["_law_feed_here", "_law_many"] (defScope (top 52)) := ⟨rfl, rfl, rfl, by decide +kernel, rfl, by decide +kernel, by decide +kernel⟩
theorem c__law_draw (B : Bl P K mg) (D : Dfn K mg "_law_draw" (top 52))  : Cal false P w K mg base 1 "_law_draw" (top 52) ["_law_feed_here", "_law_many"] WF.g_draw_k17 := by
  refine cal_of (m := WF.m_draw_k17) D sc__law_draw rfl rfl (fun _ _ _ _ _ _ us hl => match us, hl with | [_, _], _ => rfl) fun f cdv A outer s H hr hg => ?_
  have ND := sc__law_draw.nd
  exact (dss_cons (ds_put hr.u1 (vl 0) (de_op od_add (de_ix hr.u1 (vl 0) de_str (fun _ _ => rfl)) de_int)) (dss_cons (ds_if (dt_cmp (od_eq hr.units) (de_ix hr.u1 (vl 0) de_str (fun _ _ => rfl)) (de_lst da_nil) (nomark _)) (dss_one (ds_ret (de_op od_mod (de_callTy cd_int rfl B.b_int bt_int (da_cons (de_op od_div (de_op od_mul (de_ix hr.u1 (vl 0) de_str (fun _ _ => rfl)) de_int) de_int) da_nil)) (vl 1)))) dss_nil) (dss_cons (ds_if (dt_cmp od_gt (de_ix hr.u1 (vl 0) de_str (fun _ _ => rfl)) de_int (nomark _)) (dss_cons (ds_set (i := 2) ND rfl (.inl rfl) (de_op od_mod (de_callTy cd_int rfl B.b_int bt_int (da_cons (de_ix hr.u1 (vl 0) de_str (fun _ _ => rfl)) da_nil)) (vl 1))) (dss_cons (ds_put hr.u1 (vl 0) (de_op od_div (de_ix hr.u1 (vl 0) de_str (fun _ _ => rfl)) (vl 1))) (dss_one (ds_ret (vl 2))))) dss_nil) (dss_cons (ds_set (i := 3) ND rfl (.inl rfl) (de_ix hr.u1 (vl 0) de_str (fun _ _ => rfl))) (dss_cons (ds_put hr.u1 (vl 0) (de_op od_add (vl 3) de_int)) (dss_cons (ds_set (i := 4) ND rfl (.inl rfl) (de_ix hr.u1 (de_ix hr.u1 (vl 0) de_str (fun _ _ => rfl)) (de_op od_mod (de_callTy cd_int rfl B.b_int bt_int (da_cons (vl 3) da_nil)) (de_callB cd_len rfl B.b_len bt_len (da_cons (de_ix hr.u1 (vl 0) de_str (fun _ _ => rfl)) da_nil))) (fun _ _ => rfl))) (dss_cons (ds_if (Dw.dt (dw_and (dt_cmp od_ge (vl 4) (de_op od_pow de_int de_int) (nomark _)) (dw_and1 (dt_cmp od_lt (vl 3) (de_callB cd_len rfl B.b_len bt_len (da_cons (de_ix hr.u1 (vl 0) de_str (fun _ _ => rfl)) da_nil)) (nomark _))))) (dss_cons (ds_put hr.u1 (vl 0) (de_op od_div (vl 4) (vl 1))) (dss_one (ds_ret (de_op od_mod (de_callTy cd_int rfl B.b_int bt_int (da_cons (vl 4) da_nil)) (vl 1))))) dss_nil) (dss_cons (ds_set (i := 5) ND rfl (.inl rfl) (de_op od_mod (de_callTy cd_int rfl B.b_int bt_int (da_cons (de_op od_add (de_op od_add (de_op od_mod (de_callTy cd_int rfl B.b_int bt_int (da_cons (vl 4) da_nil)) de_int) (de_op od_mul de_int (de_ix hr.u1 (vl 0) de_str (fun _ _ => rfl)))) de_int) da_nil)) de_int)) (dss_cons (ds_set (i := 5) ND rfl (.inl rfl) (de_op od_mod (de_callTy cd_int rfl B.b_int bt_int (da_cons (de_op od_add (de_op od_add (de_op od_pow (vl 5) de_int) (de_op od_mul de_int (de_ix hr.u1 (vl 0) de_str (fun _ _ => rfl)))) de_int) da_nil)) de_int)) (dss_one (ds_ret (de_op od_mod (de_callTy cd_int rfl B.b_int bt_int (da_cons (de_op od_div (de_op od_mod (de_callTy cd_int rfl B.b_int bt_int (da_cons (de_op od_add (de_op od_pow (vl 5) de_int) (de_op od_mul de_int (vl 5))) da_nil)) de_int) de_int) da_nil)) (vl 1)))))))))))))
abbrev nm__law_any : List Str := ["_law_feed_here", "_law_some"]
theorem sc__law_any : FnScope nm__law_any ["_law_feed_here", "_law_some"] (defScope (top 53)) := ⟨rfl, rfl, rfl, by decide +kernel, rfl, by decide +kernel, by decide +kernel⟩
theorem c__law_any (B : Bl P K mg) (D : Dfn K mg "_law_any" (top 53)) (C__law_draw : Cal false P w K mg base 1 "_law_draw" (top 52) ["_law_feed_here", "_law_many"] WF.g_draw_k17) : Cal false P w K mg base 2 "_law_any" (top 53) ["_law_feed_here", "_law_some"] WF.g_any_k17 := by
  refine cal_of (m := WF.m_any_k17) D sc__law_any rfl rfl (fun _ _ _ _ _ _ us hl => match us, hl with | [_, _], _ => rfl) fun f cdv A outer s H hr hg => ?_
  have ND := sc__law_any.nd
  exact (dss_one (ds_ret (de_ix hr.u1 (vl 1) (dc_call C__law_draw hr (by decide) nog rfl (da_cons (vl 0) (da_cons (de_callB cd_len rfl B.b_len bt_len (da_cons (vl 1) da_nil)) da_nil))) (fun _ _ => rfl))))
abbrev nm__law_stays : List Str := ["_law_feed_here", "_law_names", "_law_found", "_law_at", "_law_k"]
theorem sc__law_stays : FnScope nm__law_stays ["_law_feed_here", "_law_names"] (defScope (top 57)) := ⟨rfl, rfl, rfl, by decide +kernel, rfl, by decide +kernel, by decide +kernel⟩
theorem c__law_stays (B : Bl P K mg) (D : Dfn K mg "_law_stays" (top 57)) (C__law_draw : Cal false P w K mg base 1 "_law_draw" (top 52) ["_law_feed_here", "_law_many"] WF.g_draw_k17) (C__law_any : Cal false P w K mg base 2 "_law_any" (top 53) ["_law_feed_here", "_law_some"] WF.g_any_k17) : Cal false P w K mg base 3 "_law_stays" (top 57) ["_law_feed_here", "_law_names"] WF.g_stays_k17 := by
  refine cal_of (m := WF.m_stays_k17) D sc__law_stays rfl rfl (fun _ _ _ _ _ _ us hl => match us, hl with | [_, _], _ => rfl) fun f cdv A outer s H hr hg => ?_
  have ND := sc__law_stays.nd
  exact (dss_cons (ds_parO (i := 2) (j := 3) rfl ND rfl rfl (by decide) rfl rfl de_int rfl) (dss_cons (ds_for (vs := [4]) PassesOwn.never rfl (di_range1 rfl B.b_range (da_cons (de_op od_add de_int (dc_call C__law_draw hr (by decide) nog rfl (da_cons (vl 0) (da_cons de_int da_nil)))) da_nil)) (dg_name (fun _ => ND) (fun _ => rfl) (fun _ => .inl rfl) (by decide) (fun _ => .inl rfl)) (dss_cons (ds_append rfl (.inl rfl) (de_tup (da_cons (vl 3) (da_cons (dc_call C__law_any hr (by decide) nog rfl (da_cons (vl 0) (da_cons (de_op od_add (de_op od_add (vl 1) (vl 1)) (de_lst (da_cons de_non da_nil))) da_nil))) da_nil)))) (dss_one (ds_set (i := 3) ND rfl (.inl rfl) (de_op od_add (de_op od_add (vl 3) de_int) (dc_call C__law_draw hr (by decide) nog rfl (da_cons (vl 0) (da_cons de_int da_nil)))))))) (dss_frz 2 (dss_one (ds_ret (de_callTy cd_tuple rfl B.b_tuple bt_tuple (da_cons (vl 2) da_nil)))))))
abbrev nm__law_rule : List Str := ["_law_feed_here", "_law_deep", "_law_most_here", "_law_some", "_law_k"]
theorem sc__law_rule : FnScope nm__law_rule ["_law_feed_here", "_law_deep", "_law_most_here"] (defScope (top 56)) := ⟨rfl, rfl, rfl, by decide +kernel, rfl, by decide +kernel, by decide +kernel⟩
theorem c__law_rule (B : Bl P K mg) (D : Dfn K mg "_law_rule" (top 56)) (C__law_draw : Cal false P w K mg base 1 "_law_draw" (top 52) ["_law_feed_here", "_law_many"] WF.g_draw_k17) (C__law_any : Cal false P w K mg base 2 "_law_any" (top 53) ["_law_feed_here", "_law_some"] WF.g_any_k17) : ∀ n, Cal false P w K mg base (2 + n) "_law_rule" (top 56) ["_law_feed_here", "_law_deep", "_law_most_here"] (WF.g_rule_k17 n)
  | 0 => cal_bad D (fun _ _ _ _ _ _ us hl => match us, hl with | [_, _, _], _ => rfl)
  | n + 1 => by
    have C := c__law_rule B D C__law_draw C__law_any n
    refine cal_of (k := 2 + n) (m := WF.m_rule_k17 (WF.g_rule_k17 n)) D sc__law_rule rfl rfl (fun _ _ _ _ _ _ us hl => match us, hl with | [_, _, _], _ => rfl) fun f cdv A outer s H hr hg => ?_
    have ND := sc__law_rule.nd
    exact (dss_cons (ds_if (Dw.dt (dw_or (dt_cmp (od_eq hr.units) (vc 1) de_int (nomark _)) (dw_or1 (dt_cmp (od_eq hr.units) (dc_call C__law_draw hr (by omega) nog rfl (da_cons (vc 0) (da_cons de_int da_nil))) de_int (nomark _))))) (dss_one (ds_ret (de_tup (da_cons (dc_call C__law_any hr (by omega) nog rfl (da_cons (vc 0) (da_cons (de_lst (da_cons de_str (da_cons de_str (da_cons de_str (da_cons de_str da_nil))))) da_nil))) (da_cons (de_op od_add de_int (dc_call C__law_draw hr (by omega) nog rfl (da_cons (vc 0) (da_cons (vc 2) da_nil)))) da_nil))))) dss_nil) (dss_cons (ds_set (i := 3) ND rfl (.inl rfl) (de_callTy cd_tuple rfl B.b_tuple bt_tuple (da_cons (de_lc (own := [("_law_k", 4)]) rfl ND (di_range1 rfl B.b_range (da_cons (de_op od_add de_int (dc_call C__law_draw hr (by omega) nog rfl (da_cons (vc 0) (da_cons de_int da_nil)))) da_nil)) (blkOk_by (by kernel_rfl)) (dg_name (fun _ => ND) (fun _ => rfl) (fun _ => .inl rfl) (by decide) (fun _ => .inr rfl)) (fun _ _ _ _ _ => dts_nil) (fun _ _ _ _ _ => (dc_call C hr (by omega) nog rfl (da_cons (vc 0) (da_cons (de_op od_sub (vc 1) de_int) (da_cons (vc 2) da_nil)))))) da_nil))) (dss_one (ds_ret (de_tup (da_cons (dc_call C__law_any hr (by omega) nog rfl (da_cons (vc 0) (da_cons (de_lst (da_cons de_str (da_cons de_str da_nil))) da_nil))) (da_cons (vl 3) da_nil)))))))
abbrev nm__law_plot : List Str := ["_law_feed_here", "_law_most_here", "_law_names", "_law_machines_now", "_law_name", "_law_uses", "_law_pieces", "_law_stays_now", "_law_jobs", "_law_spare", "_law_start", "_law_k", "_law_piece"]
theorem sc__law_plot : FnScope nm__law_plot ["_law_feed_here", "_law_most_here"] (defScope (top 58)) := ⟨rfl, rfl, rfl, by decide +kernel, rfl, by decide +kernel, by decide +kernel⟩
theorem c__law_plot (B : Bl P K mg) (D : Dfn K mg "_law_plot" (top 58)) (C__law_draw : Cal false P w K mg base 1 "_law_draw" (top 52) ["_law_feed_here", "_law_many"] WF.g_draw_k17) (C__law_stays : Cal false P w K mg base 3 "_law_stays" (top 57) ["_law_feed_here", "_law_names"] WF.g_stays_k17) (C__law_any : Cal false P w K mg base 2 "_law_any" (top 53) ["_law_feed_here", "_law_some"] WF.g_any_k17) (C__law_rule : Cal false P w K mg base 6 "_law_rule" (top 56) ["_law_feed_here", "_law_deep", "_law_most_here"] (WF.g_rule_k17 4)) : Cal false P w K mg base 7 "_law_plot" (top 58) ["_law_feed_here", "_law_most_here"] WF.g_plot_k17 := by
  refine cal_of (m := WF.m_plot_k17) D sc__law_plot rfl rfl (fun _ _ _ _ _ _ us hl => match us, hl with | [_, _], _ => rfl) fun f cdv A outer s H hr hg => ?_
  have ND := sc__law_plot.nd
  exact (dss_cons (ds_set (i := 2) ND rfl (.inr rfl) (de_slice (de_lst (da_cons de_str (da_cons de_str da_nil))) do_none (do_some (de_op od_add de_int (dc_call C__law_draw hr (by decide) nog rfl (da_cons (vc 0) (da_cons de_int da_nil))))))) (dss_cons (ds_own (i := 3) ND rfl (.inl rfl) da_nil) (dss_cons (ds_for (vs := [4]) PassesOwn.never rfl (di_seq (vc 2)) (dg_name (fun _ => ND) (fun _ => rfl) (fun _ => .inl rfl) (by decide) (fun _ => .inl rfl)) (dss_cons (ds_setLc (own := [("_law_k", 11)]) (i := 5) rfl ND rfl rfl (sw_true rfl rfl rfl (by kernel_rfl)) (di_range1 rfl B.b_range (da_cons (de_op od_add de_int (dc_call C__law_draw hr (by decide) nog rfl (da_cons (vc 0) (da_cons de_int da_nil)))) da_nil)) (blkOk_by (by kernel_rfl)) (dg_name (fun _ => ND) (fun _ => rfl) (fun _ => .inl rfl) (by decide) (fun _ => .inr rfl)) (fun _ _ _ _ _ => dts_nil) (fun _ _ _ _ _ => (de_tup (da_cons (dc_call C__law_draw hr (by decide) nog rfl (da_cons (vc 0) (da_cons de_int da_nil))) (da_cons (dc_call C__law_draw hr (by decide) nog rfl (da_cons (vc 0) (da_cons de_int da_nil))) da_nil))))) (dss_one (ds_append rfl (.inl rfl) (de_tup (da_cons (vl 4) (da_cons (de_callTy cd_tuple rfl B.b_tuple bt_tuple (da_cons (vl 5) da_nil)) da_nil))))))) (dss_frz 3 (dss_cons (ds_set (i := 6) ND rfl (.inl rfl) (de_slice (de_lst (da_cons de_str (da_cons de_str da_nil))) do_none (do_some (de_op od_add de_int (dc_call C__law_draw hr (by decide) nog rfl (da_cons (vc 0) (da_cons de_int da_nil))))))) (dss_cons (ds_setLc (own := [("_law_piece", 12)]) (i := 7) rfl ND rfl rfl (sw_true rfl rfl rfl (by kernel_rfl)) (di_seq (vl 6)) (blkOk_by (by kernel_rfl)) (dg_name (fun _ => ND) (fun _ => rfl) (fun _ => .inl rfl) (by decide) (fun _ => .inr rfl)) (fun _ _ _ _ _ => dts_nil) (fun _ _ _ _ _ => (de_tup (da_cons (vl 12) (da_cons (dc_call C__law_stays hr (by decide) nog rfl (da_cons (vc 0) (da_cons (vc 2) da_nil))) da_nil))))) (dss_cons (ds_own (i := 8) ND rfl (.inl rfl) da_nil) (dss_cons (ds_for (vs := [4]) PassesOwn.never rfl (di_seq (de_slice (de_lst (da_cons de_str (da_cons de_str (da_cons de_str da_nil)))) do_none (do_some (de_op od_add de_int (dc_call C__law_draw hr (by decide) nog rfl (da_cons (vc 0) (da_cons de_int da_nil))))))) (dg_name (fun _ => ND) (fun _ => rfl) (fun _ => .inl rfl) (by decide) (fun _ => .inl rfl)) (dss_cons (ds_set (i := 9) ND rfl (.inl rfl) (de_callTy cd_tuple rfl B.b_tuple bt_tuple (da_cons (de_lc (own := [("_law_k", 11)]) rfl ND (di_range1 rfl B.b_range (da_cons de_int da_nil)) (blkOk_by (by kernel_rfl)) (dg_name (fun _ => ND) (fun _ => rfl) (fun _ => .inl rfl) (by decide) (fun _ => .inr rfl)) (fun _ _ _ _ _ => dts_nil) (fun _ _ _ _ _ => (dc_call C__law_any hr (by decide) nog rfl (da_cons (vc 0) (da_cons (de_lst (da_cons de_int (da_cons de_int (da_cons de_int (da_cons de_int (da_cons de_int da_nil)))))) da_nil))))) da_nil))) (dss_cons (ds_set (i := 10) ND rfl (.inl rfl) (de_tup (da_cons (vl 4) (da_cons (dc_call C__law_any hr (by decide) nog rfl (da_cons (vc 0) (da_cons (vl 6) da_nil))) (da_cons (dc_call C__law_any hr (by decide) nog rfl (da_cons (vc 0) (da_cons (de_lst (da_cons de_str (da_cons de_str (da_cons de_str da_nil)))) da_nil))) da_nil))))) (dss_one (ds_append rfl (.inl rfl) (de_op od_add (vl 10) (de_tup (da_cons (dc_call C__law_rule hr (by decide) nog rfl (da_cons (vc 0) (da_cons de_int (da_cons (vl 1) da_nil)))) (da_cons (vl 9) da_nil))))))))) (dss_frz 8 (dss_one (ds_ret (de_tup (da_cons (de_callTy cd_tuple rfl B.b_tuple bt_tuple (da_cons (vl 3) da_nil)) (da_cons (de_callTy cd_tuple rfl B.b_tuple bt_tuple (da_cons (vl 7) da_nil)) (da_cons (de_callTy cd_tuple rfl B.b_tuple bt_tuple (da_cons (vl 8) da_nil)) da_nil)))))))))))))))
abbrev nm__law_most : List Str := ["_law_some"]
theorem sc__law_most : FnScope nm__law_most ["_law_some"] (defScope (top 59)) := ⟨rfl, rfl, rfl, by decide +kernel, rfl, by decide +kernel, by decide +kernel⟩
theorem c__law_most (B : Bl P K mg) (D : Dfn K mg "_law_most" (top 59))  : Cal false P w K mg base 1 "_law_most" (top 59) ["_law_some"] WF.g_most_k27 := by
  refine cal_of (m := WF.m_most_k27) D sc__law_most rfl rfl (fun _ _ _ _ _ _ us hl => match us, hl with | [_], _ => rfl) fun f cdv A outer s H hr hg => ?_
  have ND := sc__law_most.nd
  exact (dss_one (ds_ret (de_if (dt_cmp od_is (vl 0) de_non (nomark _)) (de_op od_pow de_int de_int) (vl 0))))
abbrev nm_moved_limit : List Str := ["limit", "steps", "word", "own", "one"]
theorem sc_moved_limit : FnScope nm_moved_limit ["limit", "steps"] (defScope (top 38)) := ⟨rfl, rfl, rfl, by decide +kernel, rfl, by decide +kernel, by decide +kernel⟩
theorem c_moved_limit (B : Bl P K mg) (D : Dfn K mg "moved_limit" (top 38))  : ∀ n, Cal false P w K mg base (0 + n) "moved_limit" (top 38) ["limit", "steps"] (WF.g_moved_limit n)
  | 0 => cal_bad D (fun _ _ _ _ _ _ us hl => match us, hl with | [_, _], _ => rfl)
  | n + 1 => by
    have C := c_moved_limit B D  n
    obtain ⟨a_COUNT_WORDS, h_COUNT_WORDS, k_COUNT_WORDS⟩ := B.c_COUNT_WORDS
    refine cal_of (k := 0 + n) (m := WF.m_moved_limit (WF.g_moved_limit n)) D sc_moved_limit rfl rfl (fun _ _ _ _ _ _ us hl => match us, hl with | [_, _], _ => rfl) fun f cdv A outer s H hr hg => ?_
    have ND := sc_moved_limit.nd
    exact (dss_cons (ds_asg (vs := [2, 3]) (vl 0) (dg_tup (fun _ => rfl) (fun _ => rfl) (dgs_cons (dg_name (fun _ => ND) (fun _ => rfl) (fun _ => .inl rfl) (by decide) (fun _ => .inl rfl)) (dgs_cons (dg_name (fun _ => ND) (fun _ => rfl) (fun _ => .inl rfl) (by decide) (fun _ => .inl rfl)) dgs_nil)))) (dss_cons (ds_if (dt_cmp (od_in hr.u65) (vl 2) (de_gdat rfl h_COUNT_WORDS k_COUNT_WORDS) rfl) (dss_one (ds_ret (de_tup (da_cons (vl 2) (da_cons (de_op od_add (vl 3) (de_ix hr.u1 (vc 1) (de_indexT (de_gdat rfl h_COUNT_WORDS k_COUNT_WORDS) (vl 2)) (fun _ _ => rfl))) da_nil))))) dss_nil) (dss_one (ds_ret (de_tup (da_cons (vl 2) (da_cons (de_callTy cd_tuple rfl B.b_tuple bt_tuple (da_cons (de_lc (own := [("one", 4)]) rfl ND (di_seq (vl 3)) (blkOk_by (by kernel_rfl)) (dg_name (fun _ => ND) (fun _ => rfl) (fun _ => .inl rfl) (by decide) (fun _ => .inr rfl)) (fun _ _ _ _ _ => dts_nil) (fun _ _ _ _ _ => (dc_call C hr (by omega) nog rfl (da_cons (vl 4) (da_cons (vc 1) da_nil))))) da_nil)) da_nil)))))))
abbrev nm_steady_day : List Str := ["site", "stays", "begin", "place"]
theorem sc_steady_day : FnScope nm_steady_day ["site", "stays"] (defScope (top 31)) := ⟨rfl, rfl, rfl, by decide +kernel, rfl, by decide +kernel, by decide +kernel⟩
theorem c_steady_day (B : Bl P K mg) (D : Dfn K mg "steady_day" (top 31))  : Cal false P w K mg base 1 "steady_day" (top 31) ["site", "stays"] WF.g_steady_day := by
  refine cal_of (m := WF.m_steady_day) D sc_steady_day rfl rfl (fun _ _ _ _ _ _ us hl => match us, hl with | [_, _], _ => rfl) fun f cdv A outer s H hr hg => ?_
  have ND := sc_steady_day.nd
  exact (dss_cons (ds_asg (vs := [2, 3]) (de_ix hr.u1 (vl 1) (de_neg de_int) (fun _ _ => rfl)) (dg_tup (fun _ => rfl) (fun _ => rfl) (dgs_cons (dg_name (fun _ => ND) (fun _ => rfl) (fun _ => .inl rfl) (by decide) (fun _ => .inl rfl)) (dgs_cons (dg_name (fun _ => ND) (fun _ => rfl) (fun _ => .inl rfl) (by decide) (fun _ => .inl rfl)) dgs_nil)))) (dss_one (ds_ret (de_if (dt_cmp od_is (vl 3) de_non (nomark _)) (vl 2) (de_callB (cd_max rfl) rfl B.b_max bt_max (da_cons (vl 2) (da_cons (de_op od_sub (de_callB cd_len rfl B.b_len bt_len (da_cons (de_ix hr.u1 (de_callTy (cd_dict rfl) rfl B.b_dict bt_dict (da_cons (de_ix hr.u1 (vl 0) de_int (fun _ _ => rfl)) da_nil)) (vl 3) (fun _ _ => rfl)) da_nil)) de_int) da_nil)))))))
abbrev nm_place_on : List Str := ["stays", "day", "begin", "place"]
theorem sc_place_on : FnScope nm_place_on ["stays", "day"] (defScope (top 26)) := ⟨rfl, rfl, rfl, by decide +kernel, rfl, by decide +kernel, by decide +kernel⟩
theorem c_place_on (B : Bl P K mg) (D : Dfn K mg "place_on" (top 26))  : Cal false P w K mg base 1 "place_on" (top 26) ["stays", "day"] WF.g_place_on := by
  refine cal_of (m := WF.m_place_on) D sc_place_on rfl rfl (fun _ _ _ _ _ _ us hl => match us, hl with | [_, _], _ => rfl) fun f cdv A outer s H hr hg => ?_
  have ND := sc_place_on.nd
  exact (dss_one (ds_ret (de_ix hr.u1 (de_lc (own := [("begin", 2), ("place", 3)]) rfl ND (di_seq (vl 0)) (blkOk_by (by kernel_rfl)) (dg_tup (fun _ => rfl) (fun _ => rfl) (dgs_cons (dg_name (fun _ => ND) (fun _ => rfl) (fun _ => .inl rfl) (by decide) (fun _ => .inr rfl)) (dgs_cons (dg_name (fun _ => ND) (fun _ => rfl) (fun _ => .inl rfl) (by decide) (fun _ => .inr rfl)) dgs_nil))) (fun _ _ _ _ _ => (dts_one (dt_cmp od_le (vl 2) (vc 1) (nomark _)))) (fun _ _ _ _ _ => (vl 3))) (de_neg de_int) (fun _ _ => rfl))))
abbrev nm_use_on : List Str := ["uses", "day"]
theorem sc_use_on : FnScope nm_use_on ["uses", "day"] (defScope (top 27)) := ⟨rfl, rfl, rfl, by decide +kernel, rfl, by decide +kernel, by decide +kernel⟩
theorem c_use_on (B : Bl P K mg) (D : Dfn K mg "use_on" (top 27))  : Cal false P w K mg base 1 "use_on" (top 27) ["uses", "day"] WF.g_use_on := by
  refine cal_of (m := WF.m_use_on) D sc_use_on rfl rfl (fun _ _ _ _ _ _ us hl => match us, hl with | [_, _], _ => rfl) fun f cdv A outer s H hr hg => ?_
  have ND := sc_use_on.nd
  exact (dss_one (ds_ret (de_ix hr.u1 (vl 0) (de_callB (cd_min rfl) rfl B.b_min bt_min (da_cons (vl 1) (da_cons (de_op od_sub (de_callB cd_len rfl B.b_len bt_len (da_cons (vl 0) da_nil)) de_int) da_nil))) (fun _ _ => rfl))))
abbrev nm_part_use : List Str := ["site", "stays", "day", "place"]
theorem sc_part_use : FnScope nm_part_use ["site", "stays", "day"] (defScope (top 30)) := ⟨rfl, rfl, rfl, by decide +kernel, rfl, by decide +kernel, by decide +kernel⟩
theorem c_part_use (B : Bl P K mg) (D : Dfn K mg "part_use" (top 30)) (C_place_on : Cal false P w K mg base 1 "place_on" (top 26) ["stays", "day"] WF.g_place_on) (C_use_on : Cal false P w K mg base 1 "use_on" (top 27) ["uses", "day"] WF.g_use_on) : Cal false P w K mg base 2 "part_use" (top 30) ["site", "stays", "day"] WF.g_part_use := by
  obtain ⟨a_NO_USE, h_NO_USE, k_NO_USE⟩ := B.c_NO_USE
  refine cal_of (m := WF.m_part_use) D sc_part_use rfl rfl (fun _ _ _ _ _ _ us hl => match us, hl with | [_, _, _], _ => rfl) fun f cdv A outer s H hr hg => ?_
  have ND := sc_part_use.nd
  exact (dss_cons (ds_set (i := 3) ND rfl (.inl rfl) (dc_call C_place_on hr (by decide) nog rfl (da_cons (vl 1) (da_cons (vl 2) da_nil)))) (dss_cons (ds_if (dt_cmp od_is (vl 3) de_non (nomark _)) (dss_one (ds_ret (de_gdat rfl h_NO_USE k_NO_USE))) dss_nil) (dss_one (ds_ret (dc_call C_use_on hr (by decide) nog rfl (da_cons (de_ix hr.u1 (de_callTy (cd_dict rfl) rfl B.b_dict bt_dict (da_cons (de_ix hr.u1 (vl 0) de_int (fun _ _ => rfl)) da_nil)) (vl 3) (fun _ _ => rfl)) (da_cons (vl 2) da_nil)))))))
abbrev nm_plain_passing : List Str := ["site", "stays", "word", "most", "base", "k", "total", "steady", "day", "use"]
theorem sc_plain_passing : FnScope nm_plain_passing ["site", "stays", "word", "most", "base"] (defScope (top 32)) := ⟨rfl, rfl, rfl, by decide +kernel, rfl, by decide +kernel, by decide +kernel⟩
theorem c_plain_passing (B : Bl P K mg) (D : Dfn K mg "plain_passing" (top 32)) (C_steady_day : Cal false P w K mg base 1 "steady_day" (top 31) ["site", "stays"] WF.g_steady_day) (C_part_use : Cal false P w K mg base 2 "part_use" (top 30) ["site", "stays", "day"] WF.g_part_use) : Cal false P w K mg base 3 "plain_passing" (top 32) ["site", "stays", "word", "most", "base"] WF.g_plain_passing := by
  obtain ⟨a_COUNT_WORDS, h_COUNT_WORDS, k_COUNT_WORDS⟩ := B.c_COUNT_WORDS
  refine cal_of (m := WF.m_plain_passing) D sc_plain_passing rfl rfl (fun _ _ _ _ _ _ us hl => match us, hl with | [_, _, _, _, _], _ => rfl) fun f cdv A outer s H hr hg => ?_
  have ND := sc_plain_passing.nd
  exact (dss_cons (ds_if (dt_cmp od_lt (vl 3) de_int (nomark _)) (dss_one (ds_ret (vl 4))) dss_nil) (dss_cons (ds_if (dt_cmp (od_eq hr.units) (vl 2) de_str (nomark _)) (dss_one (ds_ret (de_op od_add (de_op od_add (vl 4) (vl 3)) de_int))) dss_nil) (dss_cons (ds_set (i := 5) ND rfl (.inl rfl) (de_indexT (de_gdat rfl h_COUNT_WORDS k_COUNT_WORDS) (vl 2))) (dss_cons (ds_set (i := 6) ND rfl (.inl rfl) de_int) (dss_cons (ds_set (i := 7) ND rfl (.inl rfl) (de_callB (cd_max rfl) rfl B.b_max bt_max (da_cons (vl 4) (da_cons (dc_call C_steady_day hr (by decide) nog rfl (da_cons (vl 0) (da_cons (vl 1) da_nil))) da_nil)))) (dss_cons (ds_for (vs := [8]) PassesOwn.never rfl (di_range2 rfl B.b_range (da_cons (vl 4) (da_cons (vl 7) da_nil))) (dg_name (fun _ => ND) (fun _ => rfl) (fun _ => .inl rfl) (by decide) (fun _ => .inl rfl)) (dss_cons (ds_set (i := 6) ND rfl (.inl rfl) (de_op od_add (vl 6) (de_ix hr.u1 (dc_call C_part_use hr (by decide) nog rfl (da_cons (vl 0) (da_cons (vl 1) (da_cons (vl 8) da_nil)))) (vl 5) (fun _ _ => rfl)))) (dss_one (ds_if (dt_cmp od_gt (vl 6) (vl 3) (nomark _)) (dss_one (ds_ret (de_op od_add (vl 8) de_int))) dss_nil)))) (dss_cons (ds_set (i := 9) ND rfl (.inl rfl) (de_ix hr.u1 (dc_call C_part_use hr (by decide) nog rfl (da_cons (vl 0) (da_cons (vl 1) (da_cons (vl 7) da_nil)))) (vl 5) (fun _ _ => rfl))) (dss_one (ds_ret (de_if (dt_cmp (od_eq hr.units) (vl 9) de_int (nomark _)) de_non (de_op od_add (de_op od_add (vl 7) (de_op od_div (de_op od_sub (vl 3) (vl 6)) (vl 9))) de_int)))))))))))
abbrev nm_first_passing : List Str := ["site", "stays", "limit", "base", "word", "own", "found", "known", "one", "day"]
theorem sc_first_passing : FnScope nm_first_passing ["site", "stays", "limit", "base"] (defScope (top 33)) := ⟨rfl, rfl, rfl, by decide +kernel, rfl, by decide +kernel, by decide +kernel⟩
theorem c_first_passing (B : Bl P K mg) (D : Dfn K mg "first_passing" (top 33)) (C_plain_passing : Cal false P w K mg base 3 "plain_passing" (top 32) ["site", "stays", "word", "most", "base"] WF.g_plain_passing) : ∀ n, Cal false P w K mg base (3 + n) "first_passing" (top 33) ["site", "stays", "limit", "base"] (WF.g_first_passing n)
  | 0 => cal_bad D (fun _ _ _ _ _ _ us hl => match us, hl with | [_, _, _, _], _ => rfl)
  | n + 1 => by
    have C := c_first_passing B D C_plain_passing n
    obtain ⟨a_COUNT_WORDS, h_COUNT_WORDS, k_COUNT_WORDS⟩ := B.c_COUNT_WORDS
    refine cal_of (k := 3 + n) (m := WF.m_first_passing (WF.g_first_passing n)) D sc_first_passing rfl rfl (fun _ _ _ _ _ _ us hl => match us, hl with | [_, _, _, _], _ => rfl) fun f cdv A outer s H hr hg => ?_
    have ND := sc_first_passing.nd
    exact (dss_cons (ds_asg (vs := [4, 5]) (vl 2) (dg_tup (fun _ => rfl) (fun _ => rfl) (dgs_cons (dg_name (fun _ => ND) (fun _ => rfl) (fun _ => .inl rfl) (by decide) (fun _ => .inl rfl)) (dgs_cons (dg_name (fun _ => ND) (fun _ => rfl) (fun _ => .inl rfl) (by decide) (fun _ => .inl rfl)) dgs_nil)))) (dss_cons (ds_if (dt_cmp (od_in hr.u65) (vl 4) (de_gdat rfl h_COUNT_WORDS k_COUNT_WORDS) rfl) (dss_one (ds_ret (dc_call C_plain_passing hr (by omega) nog rfl (da_cons (vc 0) (da_cons (vc 1) (da_cons (vl 4) (da_cons (vl 5) (da_cons (vc 3) da_nil)))))))) dss_nil) (dss_cons (ds_setLc (own := [("one", 8)]) (i := 6) rfl ND rfl rfl (sw_true rfl rfl rfl (by kernel_rfl)) (di_seq (vl 5)) (blkOk_by (by kernel_rfl)) (dg_name (fun _ => ND) (fun _ => rfl) (fun _ => .inl rfl) (by decide) (fun _ => .inr rfl)) (fun _ _ _ _ _ => dts_nil) (fun _ _ _ _ _ => (dc_call C hr (by omega) nog rfl (da_cons (vc 0) (da_cons (vc 1) (da_cons (vl 8) (da_cons (vc 3) da_nil))))))) (dss_cons (ds_setLc (own := [("day", 9)]) (i := 7) rfl ND rfl rfl (sw_true rfl rfl rfl (by kernel_rfl)) (di_seq (vl 6)) (blkOk_by (by kernel_rfl)) (dg_name (fun _ => ND) (fun _ => rfl) (fun _ => .inl rfl) (by decide) (fun _ => .inr rfl)) (fun _ _ _ _ _ => (dts_one (dt_cmp od_isnot (vl 9) de_non (nomark _)))) (fun _ _ _ _ _ => (vl 9))) (dss_cons (ds_if (dt_cmp (od_eq hr.units) (vl 4) de_str (nomark _)) (dss_one (ds_ret (de_if (dt_cmp (od_ne hr.units) (vl 7) (de_lst da_nil) (nomark _)) (de_callB (cd_min rfl) rfl B.b_min bt_min (da_cons (vl 7) da_nil)) de_non))) dss_nil) (dss_one (ds_ret (de_if (dt_cmp (od_eq hr.units) (de_callB cd_len rfl B.b_len bt_len (da_cons (vl 7) da_nil)) (de_callB cd_len rfl B.b_len bt_len (da_cons (vl 6) da_nil)) (nomark _)) (de_callB (cd_max rfl) rfl B.b_max bt_max (da_cons (vl 7) da_nil)) de_non))))))))
abbrev nm_require_usable : List Str := ["truth", "word", "at"]
theorem sc_require_usable : FnScope nm_require_usable ["truth", "word", "at"] (defScope (top 18)) := ⟨rfl, rfl, rfl, by decide +kernel, rfl, by decide +kernel, by decide +kernel⟩
theorem c_require_usable (B : Bl P K mg) (D : Dfn K mg "require_usable" (top 18))  : Cal false P w K mg base 1 "require_usable" (top 18) ["truth", "word", "at"] WF.g_require_usable := by
  refine cal_of (m := WF.m_require_usable) D sc_require_usable rfl rfl (fun _ _ _ _ _ _ us hl => match us, hl with | [_, _, _], _ => rfl) fun f cdv A outer s H hr hg => ?_
  have ND := sc_require_usable.nd
  exact (dss_one (ds_if (dt_not (dt_truth (vl 0))) (dss_one ds_never) dss_nil))
abbrev nm_is_name : List Str := ["thing", "sign"]
theorem sc_is_name : FnScope nm_is_name ["thing"] (defScope (top 8)) := ⟨rfl, rfl, rfl, by decide +kernel, rfl, by decide +kernel, by decide +kernel⟩
theorem c_is_name (B : Bl P K mg) (D : Dfn K mg "is_name" (top 8))  : Cal false P w K mg base 1 "is_name" (top 8) ["thing"] WF.g_is_name := by
  obtain ⟨t_LONGEST_NAME, h_LONGEST_NAME⟩ := B.c_LONGEST_NAME
  obtain ⟨t_LETTERS, h_LETTERS⟩ := B.c_LETTERS
  refine cal_of (m := WF.m_is_name) D sc_is_name rfl rfl (fun _ _ _ _ _ _ us hl => match us, hl with | [_], _ => rfl) fun f cdv A outer s H hr hg => ?_
  have ND := sc_is_name.nd
  exact (dss_cons (ds_if (Dw.dt (dw_or (dt_not (dt_truth (de_isi rfl B.b_isinstance rfl B.b_str bt_str (vl 0)))) (dw_or1 (dt_not (dt_chain od_le od_le de_int (de_callB cd_len rfl B.b_len bt_len (da_cons (vl 0) da_nil)) (de_gint rfl h_LONGEST_NAME) cmp_bool))))) (dss_one (ds_ret de_bl)) dss_nil) (dss_one (ds_ret (de_callB (cd_all rfl) rfl B.b_all bt_all (da_cons (de_lc (own := [("sign", 1)]) rfl ND (di_str (vl 0)) (blkOk_by (by kernel_rfl)) (dg_name (fun _ => ND) (fun _ => rfl) (fun _ => .inl rfl) (by decide) (fun _ => .inr rfl)) (fun _ _ _ _ _ => dts_nil) (fun _ _ _ _ _ => (de_cmp (od_in hr.u65) (vl 1) (de_gstr rfl h_LETTERS) rfl))) da_nil)))))
abbrev nm_index_among : List Str := ["names", "name", "word"]
theorem sc_index_among : FnScope nm_index_among ["names", "name", "word"] (defScope (top 24)) := ⟨rfl, rfl, rfl, by decide +kernel, rfl, by decide +kernel, by decide +kernel⟩
theorem c_index_among (B : Bl P K mg) (D : Dfn K mg "index_among" (top 24)) (C_require_usable : Cal false P w K mg base 1 "require_usable" (top 18) ["truth", "word", "at"] WF.g_require_usable) (C_is_name : Cal false P w K mg base 1 "is_name" (top 8) ["thing"] WF.g_is_name) : Cal false P w K mg base 2 "index_among" (top 24) ["names", "name", "word"] WF.g_index_among := by
  refine cal_of (m := WF.m_index_among) D sc_index_among rfl rfl (fun _ _ _ _ _ _ us hl => match us, hl with | [_, _, _], _ => rfl) fun f cdv A outer s H hr hg => ?_
  have ND := sc_index_among.nd
  exact (dss_cons (ds_expr (dc_call C_require_usable hr (by decide) nog rfl (da_cons (de_and (dc_call C_is_name hr (by decide) nog rfl (da_cons (vl 1) da_nil)) (de_and1 (de_cmp (od_in hr.u65) (vl 1) (vl 0) rfl))) (da_cons (vl 2) (da_cons (de_neg de_int) da_nil))))) (dss_one (ds_ret (de_index hr.u65 (vl 0) (vl 1)))))
abbrev nm_part_names : List Str := ["site", "name", "stays"]
theorem sc_part_names : FnScope nm_part_names ["site"] (defScope (top 23)) := ⟨rfl, rfl, rfl, by decide +kernel, rfl, by decide +kernel, by decide +kernel⟩
theorem c_part_names (B : Bl P K mg) (D : Dfn K mg "part_names" (top 23))  : Cal false P w K mg base 1 "part_names" (top 23) ["site"] WF.g_part_names := by
  refine cal_of (m := WF.m_part_names) D sc_part_names rfl rfl (fun _ _ _ _ _ _ us hl => match us, hl with | [_], _ => rfl) fun f cdv A outer s H hr hg => ?_
  have ND := sc_part_names.nd
  exact (dss_one (ds_ret (de_lc (own := [("name", 1), ("stays", 2)]) rfl ND (di_seq (de_ix hr.u1 (vl 0) de_int (fun _ _ => rfl))) (blkOk_by (by kernel_rfl)) (dg_tup (fun _ => rfl) (fun _ => rfl) (dgs_cons (dg_name (fun _ => ND) (fun _ => rfl) (fun _ => .inl rfl) (by decide) (fun _ => .inr rfl)) (dgs_cons (dg_name (fun _ => ND) (fun _ => rfl) (fun _ => .inl rfl) (by decide) (fun _ => .inr rfl)) dgs_nil))) (fun _ _ _ _ _ => dts_nil) (fun _ _ _ _ _ => (vl 1)))))
abbrev nm_stays_of : List Str := ["site", "part"]
theorem sc_stays_of : FnScope nm_stays_of ["site", "part"] (defScope (top 25)) := ⟨rfl, rfl, rfl, by decide +kernel, rfl, by decide +kernel, by decide +kernel⟩
theorem c_stays_of (B : Bl P K mg) (D : Dfn K mg "stays_of" (top 25)) (C_index_among : Cal false P w K mg base 2 "index_among" (top 24) ["names", "name", "word"] WF.g_index_among) (C_part_names : Cal false P w K mg base 1 "part_names" (top 23) ["site"] WF.g_part_names) : Cal false P w K mg base 3 "stays_of" (top 25) ["site", "part"] WF.g_stays_of := by
  refine cal_of (m := WF.m_stays_of) D sc_stays_of rfl rfl (fun _ _ _ _ _ _ us hl => match us, hl with | [_, _], _ => rfl) fun f cdv A outer s H hr hg => ?_
  have ND := sc_stays_of.nd
  exact (dss_one (ds_ret (de_ix hr.u1 (de_ix hr.u1 (de_ix hr.u1 (vl 0) de_int (fun _ _ => rfl)) (dc_call C_index_among hr (by decide) nog rfl (da_cons (dc_call C_part_names hr (by decide) nog rfl (da_cons (vl 0) da_nil)) (da_cons (vl 1) (da_cons de_str da_nil)))) (fun _ _ => rfl)) de_int (fun _ _ => rfl))))
abbrev nm_lasting : List Str := ["site", "task", "limit", "base", "passing"]
theorem sc_lasting : FnScope nm_lasting ["site", "task", "limit", "base"] (defScope (top 39)) := ⟨rfl, rfl, rfl, by decide +kernel, rfl, by decide +kernel, by decide +kernel⟩
theorem c_lasting (B : Bl P K mg) (D : Dfn K mg "lasting" (top 39)) (C_first_passing : Cal false P w K mg base 15 "first_passing" (top 33) ["site", "stays", "limit", "base"] (WF.g_first_passing 12)) (C_stays_of : Cal false P w K mg base 3 "stays_of" (top 25) ["site", "part"] WF.g_stays_of) : Cal false P w K mg base 16 "lasting" (top 39) ["site", "task", "limit", "base"] WF.g_lasting := by
  refine cal_of (m := WF.m_lasting) D sc_lasting rfl rfl (fun _ _ _ _ _ _ us hl => match us, hl with | [_, _, _, _], _ => rfl) fun f cdv A outer s H hr hg => ?_
  have ND := sc_lasting.nd
  exact (dss_cons (ds_set (i := 4) ND rfl (.inl rfl) (dc_call C_first_passing hr (by decide) nog rfl (da_cons (vl 0) (da_cons (dc_call C_stays_of hr (by decide) nog rfl (da_cons (vl 0) (da_cons (de_ix hr.u1 (vl 1) de_int (fun _ _ => rfl)) da_nil))) (da_cons (vl 2) (da_cons (vl 3) da_nil)))))) (dss_one (ds_ret (de_if (dt_cmp od_is (vl 4) de_non (nomark _)) de_non (de_op od_sub (vl 4) de_int)))))
abbrev nm_inner_pairs : List Str := ["path", "limit", "k", "inner"]
theorem sc_inner_pairs : FnScope nm_inner_pairs ["path", "limit"] (defScope (top 10)) := ⟨rfl, rfl, rfl, by decide +kernel, rfl, by decide +kernel, by decide +kernel⟩
theorem c_inner_pairs (B : Bl P K mg) (D : Dfn K mg "inner_pairs" (top 10))  : Cal false P w K mg base 1 "inner_pairs" (top 10) ["path", "limit"] WF.g_inner_pairs := by
  obtain ⟨a_COUNT_WORDS, h_COUNT_WORDS, k_COUNT_WORDS⟩ := B.c_COUNT_WORDS
  refine cal_of (m := WF.m_inner_pairs) D sc_inner_pairs rfl rfl (fun _ _ _ _ _ _ us hl => match us, hl with | [_, _], _ => rfl) fun f cdv A outer s H hr hg => ?_
  have ND := sc_inner_pairs.nd
  exact (dss_cons (ds_if (dt_cmp (od_in hr.u65) (de_ix hr.u1 (vl 1) de_int (fun _ _ => rfl)) (de_gdat rfl h_COUNT_WORDS k_COUNT_WORDS) rfl) (dss_one (ds_ret (de_lst da_nil))) dss_nil) (dss_one (ds_ret (de_lcP (own := [("k", 2), ("inner", 3)]) rfl ND (dip_enA rfl B.b_enumerate (da_cons (de_ix hr.u1 (vl 1) de_int (fun _ _ => rfl)) da_nil)) (blkOk_by (by kernel_rfl)) (dgp_tup (fun _ => rfl) (fun _ => rfl) (dgs_cons (dg_name (fun _ => ND) (fun _ => rfl) (fun _ => .inl rfl) (by decide) (fun _ => .inr rfl)) (dgs_cons (dg_name (fun _ => ND) (fun _ => rfl) (fun _ => .inl rfl) (by decide) (fun _ => .inr rfl)) dgs_nil))) (fun _ _ _ _ _ => dts_nil) (fun _ _ _ _ _ => (de_tup (da_cons (de_tup (da_star (vc 0) (da_cons (vl 2) da_nil))) (da_cons (vl 3) da_nil))))))))
abbrev nm_all_pairs : List Str := ["limit", "found", "waiting", "path", "part"]
theorem sc_all_pairs : FnScope nm_all_pairs ["limit"] (defScope (top 19)) := ⟨rfl, rfl, rfl, by decide +kernel, rfl, by decide +kernel, by decide +kernel⟩
theorem c_all_pairs (B : Bl P K mg) (D : Dfn K mg "all_pairs" (top 19)) (C_inner_pairs : Cal false P w K mg base 1 "inner_pairs" (top 10) ["path", "limit"] WF.g_inner_pairs) : Cal false P w K mg base 2 "all_pairs" (top 19) ["limit"] WF.g_all_pairs := by
  refine cal_of (m := WF.m_all_pairs) D sc_all_pairs rfl rfl (fun _ _ _ _ _ _ us hl => match us, hl with | [_], _ => rfl) fun f cdv A outer s H hr hg => ?_
  have ND := sc_all_pairs.nd
  exact (dss_cons (ds_own (i := 1) ND rfl (.inl rfl) da_nil) (dss_cons (ds_own (i := 2) ND rfl (.inl rfl) (da_cons (de_tup (da_cons (de_tup da_nil) (da_cons (vl 0) da_nil))) da_nil)) (dss_cons (ds_while (fun _ _ => 1000) PassesOwn.never (dt_cmp od_gt (de_lenO rfl (.inl rfl) rfl B.b_len) de_int (nomark _)) (dss_cons (ds_pop (vs := [3, 4]) rfl (.inl rfl) (dg_tup (fun _ => rfl) (fun _ => rfl) (dgs_cons (dg_name (fun _ => ND) (fun _ => rfl) (fun _ => .inl rfl) (by decide) (fun _ => .inl rfl)) (dgs_cons (dg_name (fun _ => ND) (fun _ => rfl) (fun _ => .inl rfl) (by decide) (fun _ => .inl rfl)) dgs_nil)))) (dss_cons (ds_append rfl (.inl rfl) (de_tup (da_cons (vl 3) (da_cons (vl 4) da_nil)))) (dss_one (ds_extend rfl (.inl rfl) (de_rev (dc_call C_inner_pairs hr (by decide) nog rfl (da_cons (vl 3) (da_cons (vl 4) da_nil))))))))) (dss_frz 2 (dss_frz 1 (dss_one (ds_ret (vl 1))))))))
abbrev nm_number_for : List Str := ["word", "numbers"]
theorem sc_number_for : FnScope nm_number_for ["word", "numbers"] (defScope (top 20)) := ⟨rfl, rfl, rfl, by decide +kernel, rfl, by decide +kernel, by decide +kernel⟩
theorem c_number_for (B : Bl P K mg) (D : Dfn K mg "number_for" (top 20))  : Cal false P w K mg base 1 "number_for" (top 20) ["word", "numbers"] WF.g_number_for := by
  obtain ⟨a_COUNT_WORDS, h_COUNT_WORDS, k_COUNT_WORDS⟩ := B.c_COUNT_WORDS
  refine cal_of (m := WF.m_number_for) D sc_number_for rfl rfl (fun _ _ _ _ _ _ us hl => match us, hl with | [_, _], _ => rfl) fun f cdv A outer s H hr hg => ?_
  have ND := sc_number_for.nd
  exact (dss_one (ds_ret (de_ix hr.u1 (vl 1) (de_indexT (de_gdat rfl h_COUNT_WORDS k_COUNT_WORDS) (vl 0)) (fun _ _ => rfl))))
abbrev nm_widened : List Str := ["limit", "slack", "made", "path", "part", "word", "rest", "k"]
theorem sc_widened : FnScope nm_widened ["limit", "slack"] (defScope (top 21)) := ⟨rfl, rfl, rfl, by decide +kernel, rfl, by decide +kernel, by decide +kernel⟩
theorem c_widened (B : Bl P K mg) (D : Dfn K mg "widened" (top 21)) (C_all_pairs : Cal false P w K mg base 2 "all_pairs" (top 19) ["limit"] WF.g_all_pairs) (C_number_for : Cal false P w K mg base 1 "number_for" (top 20) ["word", "numbers"] WF.g_number_for) : Cal false P w K mg base 3 "widened" (top 21) ["limit", "slack"] WF.g_widened := by
  obtain ⟨a_COUNT_WORDS, h_COUNT_WORDS, k_COUNT_WORDS⟩ := B.c_COUNT_WORDS
  refine Cal.pure <| cal_of (m := WF.m_widened) D sc_widened rfl rfl (fun _ _ _ _ _ _ us hl => match us, hl with | [_, _], _ => rfl) fun f cdv A outer s H hr hg => ?_
  have ND := sc_widened.nd
  exact (dss_cons (ds_set (i := 2) ND rfl (.inr rfl) de_map0) (dss_cons (ds_for (vs := [3, 4]) PassesOwn.never rfl (di_seq (de_rev (dc_call C_all_pairs hr (by decide) nog rfl (da_cons (vl 0) da_nil)))) (dg_tup (fun _ => rfl) (fun _ => rfl) (dgs_cons (dg_name (fun _ => ND) (fun _ => rfl) (fun _ => .inr rfl) (by decide) (fun _ => .inl rfl)) (dgs_cons (dg_name (fun _ => ND) (fun _ => rfl) (fun _ => .inl rfl) (by decide) (fun _ => .inl rfl)) dgs_nil))) (dss_cons (ds_asg (vs := [5, 6]) (vl 4) (dg_tup (fun _ => rfl) (fun _ => rfl) (dgs_cons (dg_name (fun _ => ND) (fun _ => rfl) (fun _ => .inl rfl) (by decide) (fun _ => .inl rfl)) (dgs_cons (dg_name (fun _ => ND) (fun _ => rfl) (fun _ => .inl rfl) (by decide) (fun _ => .inl rfl)) dgs_nil)))) (dss_one (ds_if (dt_cmp (od_in hr.u65) (vl 5) (de_gdat rfl h_COUNT_WORDS k_COUNT_WORDS) rfl) (dss_one (ds_putT hr.u1 (vc 2) (vc 3) (de_tup (da_cons (vl 5) (da_cons (de_op od_add (vl 6) (dc_call C_number_for hr (by decide) nog rfl (da_cons (vl 5) (da_cons (vl 1) da_nil)))) da_nil))))) (dss_one (ds_putT hr.u1 (vc 2) (vc 3) (de_tup (da_cons (vl 5) (da_cons (de_callTy cd_tuple rfl B.b_tuple bt_tuple (da_cons (de_lc (own := [("k", 7)]) rfl ND (di_range1 rfl B.b_range (da_cons (de_callB cd_len rfl B.b_len bt_len (da_cons (vl 6) da_nil)) da_nil)) (blkOk_by (by kernel_rfl)) (dg_name (fun _ => ND) (fun _ => rfl) (fun _ => .inl rfl) (by decide) (fun _ => .inr rfl)) (fun _ _ _ _ _ => dts_nil) (fun _ _ _ _ _ => (de_ixT hr.u1 (vc 2) (de_op od_add (vc 3) (de_tup (da_cons (vl 7) da_nil))) (fun _ _ => rfl)))) da_nil)) da_nil))))))))) (dss_one (ds_ret (de_ixT hr.u1 (vc 2) (de_tup da_nil) (fun _ _ => rfl))))))
abbrev nm_task_late : List Str := ["site", "task", "base"]
theorem sc_task_late : FnScope nm_task_late ["site", "task", "base"] (defScope (top 41)) := ⟨rfl, rfl, rfl, by decide +kernel, rfl, by decide +kernel, by decide +kernel⟩
theorem c_task_late (B : Bl P K mg) (D : Dfn K mg "task_late" (top 41)) (C_lasting : Cal false P w K mg base 16 "lasting" (top 39) ["site", "task", "limit", "base"] WF.g_lasting) (C_widened : Cal false P w K mg base 3 "widened" (top 21) ["limit", "slack"] WF.g_widened) : Cal false P w K mg base 17 "task_late" (top 41) ["site", "task", "base"] WF.g_task_late := by
  refine cal_of (m := WF.m_task_late) D sc_task_late rfl rfl (fun _ _ _ _ _ _ us hl => match us, hl with | [_, _, _], _ => rfl) fun f cdv A outer s H hr hg => ?_
  have ND := sc_task_late.nd
  exact (dss_one (ds_ret (dc_call C_lasting hr (by decide) nog rfl (da_cons (vl 0) (da_cons (vl 1) (da_cons (dc_call C_widened hr (by decide) nog rfl (da_cons (de_ix hr.u1 (vl 1) de_int (fun _ _ => rfl)) (da_cons (de_ix hr.u1 (vl 1) de_int (fun _ _ => rfl)) da_nil))) (da_cons (vl 2) da_nil)))))))
abbrev nm_task_early : List Str := ["site", "task", "base", "lessened", "reached", "late", "days", "own"]
theorem sc_task_early : FnScope nm_task_early ["site", "task", "base"] (defScope (top 42)) := ⟨rfl, rfl, rfl, by decide +kernel, rfl, by decide +kernel, by decide +kernel⟩
theorem c_task_early (B : Bl P K mg) (D : Dfn K mg "task_early" (top 42)) (C_moved_limit : Cal false P w K mg base 12 "moved_limit" (top 38) ["limit", "steps"] (WF.g_moved_limit 12)) (C_first_passing : Cal false P w K mg base 15 "first_passing" (top 33) ["site", "stays", "limit", "base"] (WF.g_first_passing 12)) (C_stays_of : Cal false P w K mg base 3 "stays_of" (top 25) ["site", "part"] WF.g_stays_of) (C_task_late : Cal false P w K mg base 17 "task_late" (top 41) ["site", "task", "base"] WF.g_task_late) : Cal false P w K mg base 18 "task_early" (top 42) ["site", "task", "base"] WF.g_task_early := by
  refine cal_of (m := WF.m_task_early) D sc_task_early rfl rfl (fun _ _ _ _ _ _ us hl => match us, hl with | [_, _, _], _ => rfl) fun f cdv A outer s H hr hg => ?_
  have ND := sc_task_early.nd
  exact (dss_cons (ds_set (i := 3) ND rfl (.inl rfl) (dc_call C_moved_limit hr (by decide) nog rfl (da_cons (de_ix hr.u1 (vl 1) de_int (fun _ _ => rfl)) (da_cons (de_callTy cd_tuple rfl B.b_tuple bt_tuple (da_cons (de_lc (own := [("own", 7)]) rfl ND (di_seq (de_ix hr.u1 (vl 1) de_int (fun _ _ => rfl))) (blkOk_by (by kernel_rfl)) (dg_name (fun _ => ND) (fun _ => rfl) (fun _ => .inl rfl) (by decide) (fun _ => .inr rfl)) (fun _ _ _ _ _ => dts_nil) (fun _ _ _ _ _ => (de_op od_sub (de_op od_sub de_int (vl 7)) de_int))) da_nil)) da_nil)))) (dss_cons (ds_par (i := 4) (j := 5) rfl ND rfl rfl (by decide) rfl rfl (da_cons (dc_call C_first_passing hr (by decide) nog rfl (da_cons (vl 0) (da_cons (dc_call C_stays_of hr (by decide) nog rfl (da_cons (vl 0) (da_cons (de_ix hr.u1 (vl 1) de_int (fun _ _ => rfl)) da_nil))) (da_cons (vl 3) (da_cons (vl 2) da_nil))))) (da_cons (dc_call C_task_late hr (by decide) nog rfl (da_cons (vl 0) (da_cons (vl 1) (da_cons (vl 2) da_nil)))) da_nil)) rfl) (dss_cons (ds_set (i := 6) ND rfl (.inl rfl) (de_if (dt_cmp od_isnot (vl 4) de_non (nomark _)) (de_lst (da_cons (de_callB (cd_max rfl) rfl B.b_max bt_max (da_cons (de_op od_add (vl 2) de_int) (da_cons (vl 4) da_nil))) da_nil)) (de_lst da_nil))) (dss_cons (ds_set (i := 6) ND rfl (.inl rfl) (de_if (dt_cmp od_isnot (vl 5) de_non (nomark _)) (de_op od_add (vl 6) (de_lst (da_cons (vl 5) da_nil))) (vl 6))) (dss_one (ds_ret (de_if (dt_cmp (od_ne hr.units) (vl 6) (de_lst da_nil) (nomark _)) (de_callB (cd_min rfl) rfl B.b_min bt_min (da_cons (vl 6) da_nil)) de_non)))))))
abbrev nm_task_named : List Str := ["site", "name", "machines", "parts", "tasks", "known", "task"]
theorem sc_task_named : FnScope nm_task_named ["site", "name"] (defScope (top 37)) := ⟨rfl, rfl, rfl, by decide +kernel, rfl, by decide +kernel, by decide +kernel⟩
theorem c_task_named (B : Bl P K mg) (D : Dfn K mg "task_named" (top 37)) (C_require_usable : Cal false P w K mg base 1 "require_usable" (top 18) ["truth", "word", "at"] WF.g_require_usable) : Cal false P w K mg base 2 "task_named" (top 37) ["site", "name"] WF.g_task_named := by
  refine cal_of (m := WF.m_task_named) D sc_task_named rfl rfl (fun _ _ _ _ _ _ us hl => match us, hl with | [_, _], _ => rfl) fun f cdv A outer s H hr hg => ?_
  have ND := sc_task_named.nd
  exact (dss_cons (ds_asg (vs := [2, 3, 4]) (vl 0) (dg_tup (fun _ => rfl) (fun _ => rfl) (dgs_cons (dg_name (fun _ => ND) (fun _ => rfl) (fun _ => .inl rfl) (by decide) (fun _ => .inl rfl)) (dgs_cons (dg_name (fun _ => ND) (fun _ => rfl) (fun _ => .inl rfl) (by decide) (fun _ => .inl rfl)) (dgs_cons (dg_name (fun _ => ND) (fun _ => rfl) (fun _ => .inl rfl) (by decide) (fun _ => .inl rfl)) dgs_nil))))) (dss_cons (ds_setDc (own := [("task", 6)]) (i := 5) rfl ND rfl rfl (swd_true rfl rfl rfl (by kernel_rfl)) (di_seq (vl 4)) (blkOk_by (by kernel_rfl)) (dg_name (fun _ => ND) (fun _ => rfl) (fun _ => .inl rfl) (by decide) (fun _ => .inr rfl)) (fun _ _ _ _ _ => dts_nil) (fun _ _ _ _ _ => (de_ix hr.u1 (vl 6) de_int (fun _ _ => rfl))) (fun _ _ _ _ _ => (vl 6))) (dss_cons (ds_expr (dc_call C_require_usable hr (by decide) nog rfl (da_cons (de_and (de_isi rfl B.b_isinstance rfl B.b_str bt_str (vl 1)) (de_and1 (de_cmp (od_inD hr.u1) (vl 1) (vl 5) rfl))) (da_cons de_str (da_cons (de_neg de_int) da_nil))))) (dss_one (ds_ret (de_ix hr.u1 (vl 5) (vl 1) (fun _ _ => rfl)))))))
abbrev nm_is_integer : List Str := ["thing"]
theorem sc_is_integer : FnScope nm_is_integer ["thing"] (defScope (top 5)) := ⟨rfl, rfl, rfl, by decide +kernel, rfl, by decide +kernel, by decide +kernel⟩
theorem c_is_integer (B : Bl P K mg) (D : Dfn K mg "is_integer" (top 5))  : Cal false P w K mg base 1 "is_integer" (top 5) ["thing"] WF.g_is_integer := by
  refine cal_of (m := WF.m_is_integer) D sc_is_integer rfl rfl (fun _ _ _ _ _ _ us hl => match us, hl with | [_], _ => rfl) fun f cdv A outer s H hr hg => ?_
  have ND := sc_is_integer.nd
  exact (dss_one (ds_ret (de_and (de_isi rfl B.b_isinstance rfl B.b_int bt_int (vl 0)) (de_and1 (de_not (de_isi rfl B.b_isinstance rfl B.b_bool bt_bool (vl 0)))))))
abbrev nm_is_number : List Str := ["thing"]
theorem sc_is_number : FnScope nm_is_number ["thing"] (defScope (top 6)) := ⟨rfl, rfl, rfl, by decide +kernel, rfl, by decide +kernel, by decide +kernel⟩
theorem c_is_number (B : Bl P K mg) (D : Dfn K mg "is_number" (top 6)) (C_is_integer : Cal false P w K mg base 1 "is_integer" (top 5) ["thing"] WF.g_is_integer) : Cal false P w K mg base 2 "is_number" (top 6) ["thing"] WF.g_is_number := by
  refine cal_of (m := WF.m_is_number) D sc_is_number rfl rfl (fun _ _ _ _ _ _ us hl => match us, hl with | [_], _ => rfl) fun f cdv A outer s H hr hg => ?_
  have ND := sc_is_number.nd
  exact (dss_one (ds_ret (de_and (dc_call C_is_integer hr (by decide) nog rfl (da_cons (vl 0) da_nil)) (de_and1 (de_cmp od_ge (vl 0) de_int (nomark _))))))
abbrev nm_named_base : List Str := ["site", "name", "base", "task"]
theorem sc_named_base : FnScope nm_named_base ["site", "name", "base"] (defScope (top 43)) := ⟨rfl, rfl, rfl, by decide +kernel, rfl, by decide +kernel, by decide +kernel⟩
theorem c_named_base (B : Bl P K mg) (D : Dfn K mg "named_base" (top 43)) (C_task_named : Cal false P w K mg base 2 "task_named" (top 37) ["site", "name"] WF.g_task_named) (C_require_usable : Cal false P w K mg base 1 "require_usable" (top 18) ["truth", "word", "at"] WF.g_require_usable) (C_is_number : Cal false P w K mg base 2 "is_number" (top 6) ["thing"] WF.g_is_number) : Cal false P w K mg base 3 "named_base" (top 43) ["site", "name", "base"] WF.g_named_base := by
  refine cal_of (m := WF.m_named_base) D sc_named_base rfl rfl (fun _ _ _ _ _ _ us hl => match us, hl with | [_, _, _], _ => rfl) fun f cdv A outer s H hr hg => ?_
  have ND := sc_named_base.nd
  exact (dss_cons (ds_set (i := 3) ND rfl (.inl rfl) (dc_call C_task_named hr (by decide) nog rfl (da_cons (vl 0) (da_cons (vl 1) da_nil)))) (dss_cons (ds_expr (dc_call C_require_usable hr (by decide) nog rfl (da_cons (dc_call C_is_number hr (by decide) nog rfl (da_cons (vl 2) da_nil)) (da_cons de_str (da_cons (de_neg de_int) da_nil))))) (dss_one (ds_ret (vl 3)))))
abbrev nm_early_day : List Str := ["site", "name", "base"]
theorem sc_early_day : FnScope nm_early_day ["site", "name", "base"] (defScope (top 46)) := ⟨rfl, rfl, rfl, by decide +kernel, rfl, by decide +kernel, by decide +kernel⟩
theorem c_early_day (B : Bl P K mg) (D : Dfn K mg "early_day" (top 46)) (C_task_early : Cal false P w K mg base 18 "task_early" (top 42) ["site", "task", "base"] WF.g_task_early) (C_named_base : Cal false P w K mg base 3 "named_base" (top 43) ["site", "name", "base"] WF.g_named_base) : Cal false P w K mg base 19 "early_day" (top 46) ["site", "name", "base"] WF.g_early_day := by
  refine cal_of (m := WF.m_early_day) D sc_early_day rfl rfl (fun _ _ _ _ _ _ us hl => match us, hl with | [_, _, _], _ => rfl) fun f cdv A outer s H hr hg => ?_
  have ND := sc_early_day.nd
  exact (dss_one (ds_ret (dc_call C_task_early hr (by decide) nog rfl (da_cons (vl 0) (da_cons (dc_call C_named_base hr (by decide) nog rfl (da_cons (vl 0) (da_cons (vl 1) (da_cons (vl 2) da_nil)))) (da_cons (vl 2) da_nil))))))
abbrev nm_task_due : List Str := ["site", "task", "base"]
theorem sc_task_due : FnScope nm_task_due ["site", "task", "base"] (defScope (top 40)) := ⟨rfl, rfl, rfl, by decide +kernel, rfl, by decide +kernel, by decide +kernel⟩
theorem c_task_due (B : Bl P K mg) (D : Dfn K mg "task_due" (top 40)) (C_lasting : Cal false P w K mg base 16 "lasting" (top 39) ["site", "task", "limit", "base"] WF.g_lasting) : Cal false P w K mg base 17 "task_due" (top 40) ["site", "task", "base"] WF.g_task_due := by
  refine cal_of (m := WF.m_task_due) D sc_task_due rfl rfl (fun _ _ _ _ _ _ us hl => match us, hl with | [_, _, _], _ => rfl) fun f cdv A outer s H hr hg => ?_
  have ND := sc_task_due.nd
  exact (dss_one (ds_ret (dc_call C_lasting hr (by decide) nog rfl (da_cons (vl 0) (da_cons (vl 1) (da_cons (de_ix hr.u1 (vl 1) de_int (fun _ _ => rfl)) (da_cons (vl 2) da_nil)))))))
abbrev nm_due_day : List Str := ["site", "name", "base"]
theorem sc_due_day : FnScope nm_due_day ["site", "name", "base"] (defScope (top 44)) := ⟨rfl, rfl, rfl, by decide +kernel, rfl, by decide +kernel, by decide +kernel⟩
theorem c_due_day (B : Bl P K mg) (D : Dfn K mg "due_day" (top 44)) (C_task_due : Cal false P w K mg base 17 "task_due" (top 40) ["site", "task", "base"] WF.g_task_due) (C_named_base : Cal false P w K mg base 3 "named_base" (top 43) ["site", "name", "base"] WF.g_named_base) : Cal false P w K mg base 18 "due_day" (top 44) ["site", "name", "base"] WF.g_due_day := by
  refine cal_of (m := WF.m_due_day) D sc_due_day rfl rfl (fun _ _ _ _ _ _ us hl => match us, hl with | [_, _, _], _ => rfl) fun f cdv A outer s H hr hg => ?_
  have ND := sc_due_day.nd
  exact (dss_one (ds_ret (dc_call C_task_due hr (by decide) nog rfl (da_cons (vl 0) (da_cons (dc_call C_named_base hr (by decide) nog rfl (da_cons (vl 0) (da_cons (vl 1) (da_cons (vl 2) da_nil)))) (da_cons (vl 2) da_nil))))))
abbrev nm_late_day : List Str := ["site", "name", "base"]
theorem sc_late_day : FnScope nm_late_day ["site", "name", "base"] (defScope (top 45)) := ⟨rfl, rfl, rfl, by decide +kernel, rfl, by decide +kernel, by decide +kernel⟩
theorem c_late_day (B : Bl P K mg) (D : Dfn K mg "late_day" (top 45)) (C_task_late : Cal false P w K mg base 17 "task_late" (top 41) ["site", "task", "base"] WF.g_task_late) (C_named_base : Cal false P w K mg base 3 "named_base" (top 43) ["site", "name", "base"] WF.g_named_base) : Cal false P w K mg base 18 "late_day" (top 45) ["site", "name", "base"] WF.g_late_day := by
  refine cal_of (m := WF.m_late_day) D sc_late_day rfl rfl (fun _ _ _ _ _ _ us hl => match us, hl with | [_, _, _], _ => rfl) fun f cdv A outer s H hr hg => ?_
  have ND := sc_late_day.nd
  exact (dss_one (ds_ret (dc_call C_task_late hr (by decide) nog rfl (da_cons (vl 0) (da_cons (dc_call C_named_base hr (by decide) nog rfl (da_cons (vl 0) (da_cons (vl 1) (da_cons (vl 2) da_nil)))) (da_cons (vl 2) da_nil))))))
abbrev nm__law_three : List Str := ["_law_plot_here", "_law_name", "_law_root", "_law_ask"]
theorem sc__law_three : FnScope nm__law_three ["_law_plot_here", "_law_name", "_law_root"] (defScope (top 60)) := ⟨rfl, rfl, rfl, by decide +kernel, rfl, by decide +kernel, by decide +kernel⟩
theorem c__law_three (B : Bl P K mg) (D : Dfn K mg "_law_three" (top 60)) (C_early_day : Cal false P w K mg base 19 "early_day" (top 46) ["site", "name", "base"] WF.g_early_day) (C_due_day : Cal false P w K mg base 18 "due_day" (top 44) ["site", "name", "base"] WF.g_due_day) (C_late_day : Cal false P w K mg base 18 "late_day" (top 45) ["site", "name", "base"] WF.g_late_day) (C__law_most : Cal false P w K mg base 1 "_law_most" (top 59) ["_law_some"] WF.g_most_k27) : Cal false P w K mg base 20 "_law_three" (top 60) ["_law_plot_here", "_law_name", "_law_root"] WF.g_three_k28 := by
  obtain ⟨a_early_day, hm_early_day⟩ := Cal.at_ C_early_day
  obtain ⟨a_due_day, hm_due_day⟩ := Cal.at_ C_due_day
  obtain ⟨a_late_day, hm_late_day⟩ := Cal.at_ C_late_day
  refine cal_of (m := WF.m_three_k28) D sc__law_three rfl rfl (fun _ _ _ _ _ _ us hl => match us, hl with | [_, _, _], _ => rfl) fun f cdv A outer s H hr hg => ?_
  have ND := sc__law_three.nd
  exact (dss_one (ds_ret (de_fns (own := [("_law_ask", 3)]) (i := 3) (L := [(a_early_day, (mCall WF.g_most_k27 (aCons (mCall WF.g_early_day (aCons (mV 0) (aCons (mV 1) (aCons (mV 2) aNil)))) aNil))), (a_due_day, (mCall WF.g_most_k27 (aCons (mCall WF.g_due_day (aCons (mV 0) (aCons (mV 1) (aCons (mV 2) aNil)))) aNil))), (a_late_day, (mCall WF.g_most_k27 (aCons (mCall WF.g_late_day (aCons (mV 0) (aCons (mV 1) (aCons (mV 2) aNil)))) aNil)))]) rfl ND (fns_cons rfl hm_early_day (fns_cons rfl hm_due_day (fns_cons rfl hm_late_day fns_nil))) (blkOk_by (by kernel_rfl)) rfl (by decide) (fun _ _ _ _ _ => pg_name ND rfl (.inl rfl) (.inr rfl)) (List.forall_mem_cons.mpr ⟨fun _ _ _ _ _ => (deF_call C__law_most hr (by decide) nog rfl (daF_one (deF_held C_early_day hm_early_day hr (by decide) nog rfl (.inl rfl) (da_cons (vc 0) (da_cons (vc 1) (da_cons (vc 2) da_nil)))))), (List.forall_mem_cons.mpr ⟨fun _ _ _ _ _ => (deF_call C__law_most hr (by decide) nog rfl (daF_one (deF_held C_due_day hm_due_day hr (by decide) nog rfl (.inl rfl) (da_cons (vc 0) (da_cons (vc 1) (da_cons (vc 2) da_nil)))))), (List.forall_mem_cons.mpr ⟨fun _ _ _ _ _ => (deF_call C__law_most hr (by decide) nog rfl (daF_one (deF_held C_late_day hm_late_day hr (by decide) nog rfl (.inl rfl) (da_cons (vc 0) (da_cons (vc 1) (da_cons (vc 2) da_nil)))))), (fun _ h => nomatch h)⟩)⟩)⟩))))
abbrev nm_task_window : List Str := ["site", "task", "base", "first", "late"]
theorem sc_task_window : FnScope nm_task_window ["site", "task", "base"] (defScope (top 47)) := ⟨rfl, rfl, rfl, by decide +kernel, rfl, by decide +kernel, by decide +kernel⟩
theorem c_task_window (B : Bl P K mg) (D : Dfn K mg "task_window" (top 47)) (C_task_due : Cal false P w K mg base 17 "task_due" (top 40) ["site", "task", "base"] WF.g_task_due) (C_task_early : Cal false P w K mg base 18 "task_early" (top 42) ["site", "task", "base"] WF.g_task_early) (C_task_late : Cal false P w K mg base 17 "task_late" (top 41) ["site", "task", "base"] WF.g_task_late) : Cal false P w K mg base 19 "task_window" (top 47) ["site", "task", "base"] WF.g_task_window := by
  obtain ⟨t_KEPT, h_KEPT⟩ := B.c_KEPT
  refine cal_of (m := WF.m_task_window) D sc_task_window rfl rfl (fun _ _ _ _ _ _ us hl => match us, hl with | [_, _, _], _ => rfl) fun f cdv A outer s H hr hg => ?_
  have ND := sc_task_window.nd
  exact (dss_cons (ds_if (Dw.dt (dw_or (dt_cmp (od_ne hr.units) (de_ix hr.u1 (vl 1) de_int (fun _ _ => rfl)) (de_gstr rfl h_KEPT) (nomark _)) (dw_or1 (dt_cmp od_is (dc_call C_task_due hr (by decide) nog rfl (da_cons (vl 0) (da_cons (vl 1) (da_cons (vl 2) da_nil)))) de_non (nomark _))))) (dss_one (ds_ret de_non)) dss_nil) (dss_cons (ds_par (i := 3) (j := 4) rfl ND rfl rfl (by decide) rfl rfl (da_cons (de_callB (cd_max rfl) rfl B.b_max bt_max (da_cons (de_op od_add (vl 2) de_int) (da_cons (dc_call C_task_early hr (by decide) nog rfl (da_cons (vl 0) (da_cons (vl 1) (da_cons (vl 2) da_nil)))) da_nil))) (da_cons (dc_call C_task_late hr (by decide) nog rfl (da_cons (vl 0) (da_cons (vl 1) (da_cons (vl 2) da_nil)))) da_nil)) rfl) (dss_one (ds_ret (de_if (Dw.dt (dw_and (dt_cmp od_isnot (vl 4) de_non (nomark _)) (dw_and1 (dt_cmp od_lt (vl 4) (vl 3) (nomark _))))) de_non (de_tup (da_cons (vl 3) (da_cons (vl 4) da_nil))))))))
abbrev nm_window_of : List Str := ["site", "name", "base"]
theorem sc_window_of : FnScope nm_window_of ["site", "name", "base"] (defScope (top 48)) := ⟨rfl, rfl, rfl, by decide +kernel, rfl, by decide +kernel, by decide +kernel⟩
theorem c_window_of (B : Bl P K mg) (D : Dfn K mg "window_of" (top 48)) (C_task_window : Cal false P w K mg base 19 "task_window" (top 47) ["site", "task", "base"] WF.g_task_window) (C_named_base : Cal false P w K mg base 3 "named_base" (top 43) ["site", "name", "base"] WF.g_named_base) : Cal false P w K mg base 20 "window_of" (top 48) ["site", "name", "base"] WF.g_window_of := by
  refine cal_of (m := WF.m_window_of) D sc_window_of rfl rfl (fun _ _ _ _ _ _ us hl => match us, hl with | [_, _, _], _ => rfl) fun f cdv A outer s H hr hg => ?_
  have ND := sc_window_of.nd
  exact (dss_one (ds_ret (dc_call C_task_window hr (by decide) nog rfl (da_cons (vl 0) (da_cons (dc_call C_named_base hr (by decide) nog rfl (da_cons (vl 0) (da_cons (vl 1) (da_cons (vl 2) da_nil)))) (da_cons (vl 2) da_nil))))))
abbrev nm__law_before : List Str := ["_law_at"]
theorem sc__law_before : FnScope nm__law_before ["_law_at"] (defScope (top 55)) := ⟨rfl, rfl, rfl, by decide +kernel, rfl, by decide +kernel, by decide +kernel⟩
theorem c__law_before (B : Bl P K mg) (D : Dfn K mg "_law_before" (top 55))  : Cal false P w K mg base 1 "_law_before" (top 55) ["_law_at"] WF.g_before_k19 := by
  refine cal_of (m := WF.m_before_k19) D sc__law_before rfl rfl (fun _ _ _ _ _ _ us hl => match us, hl with | [_], _ => rfl) fun f cdv A outer s H hr hg => ?_
  have ND := sc__law_before.nd
  exact (dss_one (ds_ret (de_if (dt_cmp od_is (vl 0) de_non (nomark _)) de_non (de_op od_sub (vl 0) de_int))))
abbrev nm_limit_word : List Str := ["thing"]
theorem sc_limit_word : FnScope nm_limit_word ["thing"] (defScope (top 9)) := ⟨rfl, rfl, rfl, by decide +kernel, rfl, by decide +kernel, by decide +kernel⟩
theorem c_limit_word (B : Bl P K mg) (D : Dfn K mg "limit_word" (top 9))  : Cal false P w K mg base 1 "limit_word" (top 9) ["thing"] WF.g_limit_word := by
  obtain ⟨a_COUNT_WORDS, h_COUNT_WORDS, k_COUNT_WORDS⟩ := B.c_COUNT_WORDS
  obtain ⟨a_JOINING_WORDS, h_JOINING_WORDS, k_JOINING_WORDS⟩ := B.c_JOINING_WORDS
  refine cal_of (m := WF.m_limit_word) D sc_limit_word rfl rfl (fun _ _ _ _ _ _ us hl => match us, hl with | [_], _ => rfl) fun f cdv A outer s H hr hg => ?_
  have ND := sc_limit_word.nd
  exact (dss_cons (ds_if (Dw.dt (dw_or (dt_not (dt_truth (de_isi rfl B.b_isinstance rfl B.b_tuple bt_tuple (vl 0)))) (dw_or (dt_cmp (od_ne hr.units) (de_callB cd_len rfl B.b_len bt_len (da_cons (vl 0) da_nil)) de_int (nomark _)) (dw_or1 (dt_not (dt_truth (de_isi rfl B.b_isinstance rfl B.b_str bt_str (de_ix hr.u1 (vl 0) de_int (fun _ _ => rfl))))))))) (dss_one (ds_ret de_non)) dss_nil) (dss_one (ds_ret (de_if (Dw.dt (dw_or (dt_cmp (od_in hr.u65) (de_ix hr.u1 (vl 0) de_int (fun _ _ => rfl)) (de_gdat rfl h_COUNT_WORDS k_COUNT_WORDS) rfl) (dw_or1 (dt_cmp (od_in hr.u65) (de_ix hr.u1 (vl 0) de_int (fun _ _ => rfl)) (de_gdat rfl h_JOINING_WORDS k_JOINING_WORDS) rfl)))) (de_ix hr.u1 (vl 0) de_int (fun _ _ => rfl)) de_non))))
abbrev nm_is_amount : List Str := ["thing"]
theorem sc_is_amount : FnScope nm_is_amount ["thing"] (defScope (top 7)) := ⟨rfl, rfl, rfl, by decide +kernel, rfl, by decide +kernel, by decide +kernel⟩
theorem c_is_amount (B : Bl P K mg) (D : Dfn K mg "is_amount" (top 7)) (C_is_integer : Cal false P w K mg base 1 "is_integer" (top 5) ["thing"] WF.g_is_integer) : Cal false P w K mg base 2 "is_amount" (top 7) ["thing"] WF.g_is_amount := by
  refine cal_of (m := WF.m_is_amount) D sc_is_amount rfl rfl (fun _ _ _ _ _ _ us hl => match us, hl with | [_], _ => rfl) fun f cdv A outer s H hr hg => ?_
  have ND := sc_is_amount.nd
  exact (dss_one (ds_ret (de_and (dc_call C_is_integer hr (by decide) nog rfl (da_cons (vl 0) da_nil)) (de_and1 (de_cmp od_ge (vl 0) de_int (nomark _))))))
abbrev nm_limit_fault : List Str := ["thing", "waiting", "path", "limit", "word"]
theorem sc_limit_fault : FnScope nm_limit_fault ["thing"] (defScope (top 11)) := ⟨rfl, rfl, rfl, by decide +kernel, rfl, by decide +kernel, by decide +kernel⟩
theorem c_limit_fault (B : Bl P K mg) (D : Dfn K mg "limit_fault" (top 11)) (C_limit_word : Cal false P w K mg base 1 "limit_word" (top 9) ["thing"] WF.g_limit_word) (C_is_amount : Cal false P w K mg base 2 "is_amount" (top 7) ["thing"] WF.g_is_amount) (C_inner_pairs : Cal false P w K mg base 1 "inner_pairs" (top 10) ["path", "limit"] WF.g_inner_pairs) : Cal false P w K mg base 3 "limit_fault" (top 11) ["thing"] WF.g_limit_fault := by
  obtain ⟨a_COUNT_WORDS, h_COUNT_WORDS, k_COUNT_WORDS⟩ := B.c_COUNT_WORDS
  refine cal_of (m := WF.m_limit_fault) D sc_limit_fault rfl rfl (fun _ _ _ _ _ _ us hl => match us, hl with | [_], _ => rfl) fun f cdv A outer s H hr hg => ?_
  have ND := sc_limit_fault.nd
  exact (dss_cons (ds_own (i := 1) ND rfl (.inl rfl) (da_cons (de_tup (da_cons (de_tup da_nil) (da_cons (vl 0) da_nil))) da_nil)) (dss_cons (ds_while (fun _ _ => 1000) PassesOwn.never (dt_cmp od_gt (de_lenO rfl (.inl rfl) rfl B.b_len) de_int (nomark _)) (dss_cons (ds_pop (vs := [2, 3]) rfl (.inl rfl) (dg_tup (fun _ => rfl) (fun _ => rfl) (dgs_cons (dg_name (fun _ => ND) (fun _ => rfl) (fun _ => .inl rfl) (by decide) (fun _ => .inl rfl)) (dgs_cons (dg_name (fun _ => ND) (fun _ => rfl) (fun _ => .inl rfl) (by decide) (fun _ => .inl rfl)) dgs_nil)))) (dss_cons (ds_set (i := 4) ND rfl (.inl rfl) (dc_call C_limit_word hr (by decide) nog rfl (da_cons (vl 3) da_nil))) (dss_cons (ds_if (dt_cmp od_is (vl 4) de_non (nomark _)) (dss_one (ds_ret (de_tup (da_cons de_str (da_cons (vl 2) da_nil))))) dss_nil) (dss_one (ds_if (dt_cmp (od_in hr.u65) (vl 4) (de_gdat rfl h_COUNT_WORDS k_COUNT_WORDS) rfl) (dss_one (ds_if (dt_not (dt_truth (dc_call C_is_amount hr (by decide) nog rfl (da_cons (de_ix hr.u1 (vl 3) de_int (fun _ _ => rfl)) da_nil)))) (dss_one (ds_ret (de_tup (da_cons de_str (da_cons (vl 2) da_nil))))) dss_nil)) (dss_one (ds_if (Dw.dt (dw_or (dt_not (dt_truth (de_isi rfl B.b_isinstance rfl B.b_tuple bt_tuple (de_ix hr.u1 (vl 3) de_int (fun _ _ => rfl))))) (dw_or1 (dt_cmp (od_eq hr.units) (de_callB cd_len rfl B.b_len bt_len (da_cons (de_ix hr.u1 (vl 3) de_int (fun _ _ => rfl)) da_nil)) de_int (nomark _))))) (dss_one (ds_ret (de_tup (da_cons de_str (da_cons (vl 2) da_nil))))) (dss_one (ds_extend rfl (.inl rfl) (de_rev (dc_call C_inner_pairs hr (by decide) nog rfl (da_cons (vl 2) (da_cons (vl 3) da_nil)))))))))))))) (dss_frz 1 (dss_one (ds_ret de_non)))))
abbrev nm_is_limit : List Str := ["thing"]
theorem sc_is_limit : FnScope nm_is_limit ["thing"] (defScope (top 12)) := ⟨rfl, rfl, rfl, by decide +kernel, rfl, by decide +kernel, by decide +kernel⟩
theorem c_is_limit (B : Bl P K mg) (D : Dfn K mg "is_limit" (top 12)) (C_limit_fault : Cal false P w K mg base 3 "limit_fault" (top 11) ["thing"] WF.g_limit_fault) : Cal false P w K mg base 4 "is_limit" (top 12) ["thing"] WF.g_is_limit := by
  refine cal_of (m := WF.m_is_limit) D sc_is_limit rfl rfl (fun _ _ _ _ _ _ us hl => match us, hl with | [_], _ => rfl) fun f cdv A outer s H hr hg => ?_
  have ND := sc_is_limit.nd
  exact (dss_one (ds_ret (de_cmp od_is (dc_call C_limit_fault hr (by decide) nog rfl (da_cons (vl 0) da_nil)) de_non (nomark _))))
abbrev nm_passing_day : List Str := ["site", "part", "limit", "base", "stays"]
theorem sc_passing_day : FnScope nm_passing_day ["site", "part", "limit", "base"] (defScope (top 34)) := ⟨rfl, rfl, rfl, by decide +kernel, rfl, by decide +kernel, by decide +kernel⟩
theorem c_passing_day (B : Bl P K mg) (D : Dfn K mg "passing_day" (top 34)) (C_stays_of : Cal false P w K mg base 3 "stays_of" (top 25) ["site", "part"] WF.g_stays_of) (C_require_usable : Cal false P w K mg base 1 "require_usable" (top 18) ["truth", "word", "at"] WF.g_require_usable) (C_is_limit : Cal false P w K mg base 4 "is_limit" (top 12) ["thing"] WF.g_is_limit) (C_is_number : Cal false P w K mg base 2 "is_number" (top 6) ["thing"] WF.g_is_number) (C_first_passing : Cal false P w K mg base 15 "first_passing" (top 33) ["site", "stays", "limit", "base"] (WF.g_first_passing 12)) : Cal false P w K mg base 16 "passing_day" (top 34) ["site", "part", "limit", "base"] WF.g_passing_day := by
  refine cal_of (m := WF.m_passing_day) D sc_passing_day rfl rfl (fun _ _ _ _ _ _ us hl => match us, hl with | [_, _, _, _], _ => rfl) fun f cdv A outer s H hr hg => ?_
  have ND := sc_passing_day.nd
  exact (dss_cons (ds_set (i := 4) ND rfl (.inl rfl) (dc_call C_stays_of hr (by decide) nog rfl (da_cons (vl 0) (da_cons (vl 1) da_nil)))) (dss_cons (ds_expr (dc_call C_require_usable hr (by decide) nog rfl (da_cons (dc_call C_is_limit hr (by decide) nog rfl (da_cons (vl 2) da_nil)) (da_cons de_str (da_cons (de_neg de_int) da_nil))))) (dss_cons (ds_expr (dc_call C_require_usable hr (by decide) nog rfl (da_cons (dc_call C_is_number hr (by decide) nog rfl (da_cons (vl 3) da_nil)) (da_cons de_str (da_cons (de_neg de_int) da_nil))))) (dss_one (ds_ret (dc_call C_first_passing hr (by decide) nog rfl (da_cons (vl 0) (da_cons (vl 4) (da_cons (vl 2) (da_cons (vl 3) da_nil))))))))))
abbrev nm__law_shifted : List Str := ["_law_rule_here", "_law_adds", "_law_word", "_law_more", "_law_one"]
theorem sc__law_shifted : FnScope nm__law_shifted ["_law_rule_here", "_law_adds"] (defScope (top 54)) := ⟨rfl, rfl, rfl, by decide +kernel, rfl, by decide +kernel, by decide +kernel⟩
theorem c__law_shifted (B : Bl P K mg) (D : Dfn K mg "_law_shifted" (top 54))  : ∀ n, Cal false P w K mg base (0 + n) "_law_shifted" (top 54) ["_law_rule_here", "_law_adds"] (WF.g_shifted_k19 n)
  | 0 => cal_bad D (fun _ _ _ _ _ _ us hl => match us, hl with | [_, _], _ => rfl)
  | n + 1 => by
    have C := c__law_shifted B D  n
    refine cal_of (k := 0 + n) (m := WF.m_shifted_k19 (WF.g_shifted_k19 n)) D sc__law_shifted rfl rfl (fun _ _ _ _ _ _ us hl => match us, hl with | [_, _], _ => rfl) fun f cdv A outer s H hr hg => ?_
    have ND := sc__law_shifted.nd
    exact (dss_cons (ds_asg (vs := [2, 3]) (vl 0) (dg_tup (fun _ => rfl) (fun _ => rfl) (dgs_cons (dg_name (fun _ => ND) (fun _ => rfl) (fun _ => .inl rfl) (by decide) (fun _ => .inl rfl)) (dgs_cons (dg_name (fun _ => ND) (fun _ => rfl) (fun _ => .inl rfl) (by decide) (fun _ => .inl rfl)) dgs_nil)))) (dss_cons (ds_if (dt_cmp (od_in hr.u65) (vl 2) (de_tup (da_cons de_str (da_cons de_str da_nil))) rfl) (dss_one (ds_ret (de_tup (da_cons (vl 2) (da_cons (de_callTy cd_tuple rfl B.b_tuple bt_tuple (da_cons (de_lc (own := [("_law_one", 4)]) rfl ND (di_seq (vl 3)) (blkOk_by (by kernel_rfl)) (dg_name (fun _ => ND) (fun _ => rfl) (fun _ => .inl rfl) (by decide) (fun _ => .inr rfl)) (fun _ _ _ _ _ => dts_nil) (fun _ _ _ _ _ => (dc_call C hr (by omega) nog rfl (da_cons (vl 4) (da_cons (vc 1) da_nil))))) da_nil)) da_nil))))) dss_nil) (dss_one (ds_ret (de_tup (da_cons (vl 2) (da_cons (de_op od_add (vl 3) (de_ix hr.u1 (vc 1) (de_index hr.u65 (de_lst (da_cons de_str (da_cons de_str (da_cons de_str da_nil)))) (vl 2)) (fun _ _ => rfl))) da_nil)))))))
abbrev nm__law_ends_right : List Str := ["_law_plot_here", "_law_job", "_law_root", "_law_early", "_law_due", "_law_late", "_law_span"]
theorem sc__law_ends_right : FnScope nm__law_ends_right ["_law_plot_here", "_law_job", "_law_root"] (defScope (top 61)) := ⟨rfl, rfl, rfl, by decide +kernel, rfl, by decide +kernel, by decide +kernel⟩
theorem c__law_ends_right (B : Bl P K mg) (D : Dfn K mg "_law_ends_right" (top 61)) (C__law_three : Cal false P w K mg base 20 "_law_three" (top 60) ["_law_plot_here", "_law_name", "_law_root"] WF.g_three_k28) (C__law_most : Cal false P w K mg base 1 "_law_most" (top 59) ["_law_some"] WF.g_most_k27) (C__law_before : Cal false P w K mg base 1 "_law_before" (top 55) ["_law_at"] WF.g_before_k19) (C_passing_day : Cal false P w K mg base 16 "passing_day" (top 34) ["site", "part", "limit", "base"] WF.g_passing_day) (C__law_shifted : Cal false P w K mg base 12 "_law_shifted" (top 54) ["_law_rule_here", "_law_adds"] (WF.g_shifted_k19 12)) (C_window_of : Cal false P w K mg base 20 "window_of" (top 48) ["site", "name", "base"] WF.g_window_of) : Cal false P w K mg base 21 "_law_ends_right" (top 61) ["_law_plot_here", "_law_job", "_law_root"] WF.g_ends_right_k28 := by
  refine cal_of (m := WF.m_ends_right_k28) D sc__law_ends_right rfl rfl (fun _ _ _ _ _ _ us hl => match us, hl with | [_, _, _], _ => rfl) fun f cdv A outer s H hr hg => ?_
  have ND := sc__law_ends_right.nd
  exact (dss_cons (ds_asg (vs := [3, 4, 5]) (dc_call C__law_three hr (by decide) nog rfl (da_cons (vl 0) (da_cons (de_ix hr.u1 (vl 1) de_int (fun _ _ => rfl)) (da_cons (vl 2) da_nil)))) (dg_lst (fun _ => rfl) (fun _ => rfl) (dgs_cons (dg_name (fun _ => ND) (fun _ => rfl) (fun _ => .inl rfl) (by decide) (fun _ => .inl rfl)) (dgs_cons (dg_name (fun _ => ND) (fun _ => rfl) (fun _ => .inl rfl) (by decide) (fun _ => .inl rfl)) (dgs_cons (dg_name (fun _ => ND) (fun _ => rfl) (fun _ => .inl rfl) (by decide) (fun _ => .inl rfl)) dgs_nil))))) (dss_cons (ds_if (dt_cmp (od_ne hr.units) (vl 4) (dc_call C__law_most hr (by decide) nog rfl (da_cons (dc_call C__law_before hr (by decide) nog rfl (da_cons (dc_call C_passing_day hr (by decide) nog rfl (da_cons (vl 0) (da_cons (de_ix hr.u1 (vl 1) de_int (fun _ _ => rfl)) (da_cons (de_ix hr.u1 (vl 1) de_int (fun _ _ => rfl)) (da_cons (vl 2) da_nil))))) da_nil)) da_nil)) (nomark _)) (dss_one (ds_ret de_bl)) dss_nil) (dss_cons (ds_if (dt_cmp (od_ne hr.units) (vl 5) (dc_call C__law_most hr (by decide) nog rfl (da_cons (dc_call C__law_before hr (by decide) nog rfl (da_cons (dc_call C_passing_day hr (by decide) nog rfl (da_cons (vl 0) (da_cons (de_ix hr.u1 (vl 1) de_int (fun _ _ => rfl)) (da_cons (dc_call C__law_shifted hr (by decide) nog rfl (da_cons (de_ix hr.u1 (vl 1) de_int (fun _ _ => rfl)) (da_cons (de_ix hr.u1 (vl 1) de_int (fun _ _ => rfl)) da_nil))) (da_cons (vl 2) da_nil))))) da_nil)) da_nil)) (nomark _)) (dss_one (ds_ret de_bl)) dss_nil) (dss_cons (ds_if (Dw.dt (dw_or (dt_cmp od_lt (de_callB (cd_min3 rfl) rfl B.b_min bt_min (da_cons (vl 3) (da_cons (vl 4) (da_cons (vl 5) da_nil)))) (vl 2) (nomark _)) (dw_or (dt_cmp od_gt (vl 3) (vl 5) (nomark _)) (dw_or1 (dt_cmp od_gt (vl 4) (vl 5) (nomark _)))))) (dss_one (ds_ret de_bl)) dss_nil) (dss_cons (ds_set (i := 6) ND rfl (.inl rfl) (dc_call C_window_of hr (by decide) nog rfl (da_cons (vl 0) (da_cons (de_ix hr.u1 (vl 1) de_int (fun _ _ => rfl)) (da_cons (vl 2) da_nil))))) (dss_cons (ds_if (Dw.dt (dw_or (dt_cmp (od_eq hr.units) (de_ix hr.u1 (vl 1) de_int (fun _ _ => rfl)) de_str (nomark _)) (dw_or (dt_cmp (od_eq hr.units) (vl 4) (de_op od_pow de_int de_int) (nomark _)) (dw_or1 (dt_cmp (od_eq hr.units) (vl 5) (vl 2) (nomark _)))))) (dss_one (ds_ret (de_cmp od_is (vl 6) de_non (nomark _)))) dss_nil) (dss_one (ds_ret (de_cmp (od_eq hr.units) (vl 6) (de_tup (da_cons (vl 3) (da_cons (de_if (dt_cmp (od_eq hr.units) (vl 5) (de_op od_pow de_int de_int) (nomark _)) de_non (vl 5)) da_nil))) (nomark _))))))))))
abbrev nm__law_with : List Str := ["_law_plot_here", "_law_k", "_law_job"]
theorem sc__law_with : FnScope nm__law_with ["_law_plot_here", "_law_k", "_law_job"] (defScope (top 62)) := ⟨rfl, rfl, rfl, by decide +kernel, rfl, by decide +kernel, by decide +kernel⟩
theorem c__law_with (B : Bl P K mg) (D : Dfn K mg "_law_with" (top 62))  : Cal false P w K mg base 1 "_law_with" (top 62) ["_law_plot_here", "_law_k", "_law_job"] WF.g_with_k28 := by
  refine cal_of (m := WF.m_with_k28) D sc__law_with rfl rfl (fun _ _ _ _ _ _ us hl => match us, hl with | [_, _, _], _ => rfl) fun f cdv A outer s H hr hg => ?_
  have ND := sc__law_with.nd
  exact (dss_one (ds_ret (de_op od_add (de_slice (vl 0) do_none (do_some de_int)) (de_tup (da_cons (de_op od_add (de_op od_add (de_slice (de_ix hr.u1 (vl 0) de_int (fun _ _ => rfl)) do_none (do_some (vl 1))) (de_tup (da_cons (vl 2) da_nil))) (de_slice (de_ix hr.u1 (vl 0) de_int (fun _ _ => rfl)) (do_some (de_op od_add (vl 1) de_int)) do_none)) da_nil)))))
abbrev nm_windows_of : List Str := ["site", "name", "upto", "task", "base", "due"]
theorem sc_windows_of : GScope nm_windows_of ["site", "name", "upto"] (defScope (top 49)) := ⟨rfl, rfl, rfl, by decide +kernel, rfl, by decide +kernel, by decide +kernel⟩
theorem y_windows_of (B : Bl P K mg) (D : Dfn K mg "windows_of" (top 49)) (C_task_named : Cal false P w K mg base 2 "task_named" (top 37) ["site", "name"] WF.g_task_named) (C_require_usable : Cal false P w K mg base 1 "require_usable" (top 18) ["truth", "word", "at"] WF.g_require_usable) (C_is_number : Cal false P w K mg base 2 "is_number" (top 6) ["thing"] WF.g_is_number) (C_task_due : Cal false P w K mg base 17 "task_due" (top 40) ["site", "task", "base"] WF.g_task_due) (C_task_early : Cal false P w K mg base 18 "task_early" (top 42) ["site", "task", "base"] WF.g_task_early) (C_task_late : Cal false P w K mg base 17 "task_late" (top 41) ["site", "task", "base"] WF.g_task_late) : CalG P w K mg base 19 "windows_of" (top 49) ["site", "name", "upto"] WF.g_windows_of := by
  refine calG_of (m := WF.m_windows_of) D sc_windows_of rfl rfl (fun _ _ _ _ _ _ us hl => match us, hl with | [_, _, _], _ => rfl) fun f cdv A outer s H E pn hr => ?_
  have ND := sc_windows_of.nd
  exact (yss_cons (ys_plain (ds_set (i := 3) ND rfl (.inl rfl) (dc_call C_task_named hr (by decide) nog rfl (da_cons (vl 0) (da_cons (vl 1) da_nil))))) (yss_cons (ys_plain (ds_expr (dc_call C_require_usable hr (by decide) nog rfl (da_cons (dc_call C_is_number hr (by decide) nog rfl (da_cons (vl 2) da_nil)) (da_cons de_str (da_cons (de_neg de_int) da_nil)))))) (yss_cons (ys_plain (ds_set (i := 4) ND rfl (.inl rfl) de_int)) (yss_cons (ys_while (fun _ _ => 1000) owns_gcx (Dw.dt (dw_and (dt_cmp od_isnot (vl 4) de_non (nomark _)) (dw_and1 (dt_cmp od_le (vl 4) (vl 2) (nomark _))))) (yss_cons (ys_plain (ds_set (i := 5) ND rfl (.inl rfl) (dc_call C_task_due hr (by decide) nog rfl (da_cons (vl 0) (da_cons (vl 3) (da_cons (vl 4) da_nil)))))) (yss_cons (ys_yield (de_tup (da_cons (vl 4) (da_cons (dc_call C_task_early hr (by decide) nog rfl (da_cons (vl 0) (da_cons (vl 3) (da_cons (vl 4) da_nil)))) (da_cons (dc_call C_task_late hr (by decide) nog rfl (da_cons (vl 0) (da_cons (vl 3) (da_cons (vl 4) da_nil)))) (da_cons (vl 5) da_nil)))))) (yss_cons (ys_plain (ds_set (i := 4) ND rfl (.inl rfl) (de_if (Dw.dt (dw_and (dt_cmp od_isnot (vl 5) de_non (nomark _)) (dw_and1 (dt_cmp od_gt (vl 5) (vl 4) (nomark _))))) (vl 5) de_non))) yss_nil)))) yss_nil))))
abbrev nm__law_agrees : List Str := ["_law_feed_here", "_law_plot_here", "_law_k", "_law_job", "_law_root", "_law_days_now", "_law_after", "_law_busy", "_law_early", "_law_plain", "_law_wide", "_law_lines", "_law_p", "_law_line", "_law_name", "_law_uses", "_law_hours", "_law_cycles", "_law_one", "_law_other", "_law_at"]
theorem sc__law_agrees : FnScope nm__law_agrees ["_law_feed_here", "_law_plot_here", "_law_k"] (defScope (top 63)) := ⟨rfl, rfl, rfl, by decide +kernel, rfl, by decide +kernel, by decide +kernel⟩
theorem c__law_agrees (B : Bl P K mg) (D : Dfn K mg "_law_agrees" (top 63)) (C__law_draw : Cal false P w K mg base 1 "_law_draw" (top 52) ["_law_feed_here", "_law_many"] WF.g_draw_k17) (C__law_three : Cal false P w K mg base 20 "_law_three" (top 60) ["_law_plot_here", "_law_name", "_law_root"] WF.g_three_k28) (C__law_ends_right : Cal false P w K mg base 21 "_law_ends_right" (top 61) ["_law_plot_here", "_law_job", "_law_root"] WF.g_ends_right_k28) (C__law_with : Cal false P w K mg base 1 "_law_with" (top 62) ["_law_plot_here", "_law_k", "_law_job"] WF.g_with_k28) (Y_windows_of : CalG P w K mg base 19 "windows_of" (top 49) ["site", "name", "upto"] WF.g_windows_of) (C__law_most : Cal false P w K mg base 1 "_law_most" (top 59) ["_law_some"] WF.g_most_k27) : Cal false P w K mg base 23 "_law_agrees" (top 63) ["_law_feed_here", "_law_plot_here", "_law_k"] WF.g_agrees_k28 := by
  refine cal_of (m := WF.m_agrees_k28) D sc__law_agrees rfl rfl (fun _ _ _ _ _ _ us hl => match us, hl with | [_, _, _], _ => rfl) fun f cdv A outer s H hr hg => ?_
  have ND := sc__law_agrees.nd
  exact (dss_cons (ds_par (i := 3) (j := 4) rfl ND rfl rfl (by decide) rfl rfl (da_cons (de_ix hr.u1 (de_ix hr.u1 (vl 1) de_int (fun _ _ => rfl)) (vl 2) (fun _ _ => rfl)) (da_cons (dc_call C__law_draw hr (by decide) nog rfl (da_cons (vl 0) (da_cons de_int da_nil))) da_nil)) rfl) (dss_cons (ds_set (i := 5) ND rfl (.inl rfl) (dc_call C__law_three hr (by decide) nog rfl (da_cons (vl 1) (da_cons (de_ix hr.u1 (vl 3) de_int (fun _ _ => rfl)) (da_cons (vl 4) da_nil))))) (dss_cons (ds_if (dt_not (dt_truth (dc_call C__law_ends_right hr (by decide) nog rfl (da_cons (vl 1) (da_cons (vl 3) (da_cons (vl 4) da_nil)))))) (dss_one (ds_ret de_bl)) dss_nil) (dss_cons (ds_set (i := 6) ND rfl (.inl rfl) (dc_call C__law_three hr (by decide) nog rfl (da_cons (vl 1) (da_cons (de_ix hr.u1 (vl 3) de_int (fun _ _ => rfl)) (da_cons (de_op od_add (de_op od_add (vl 4) de_int) (dc_call C__law_draw hr (by decide) nog rfl (da_cons (vl 0) (da_cons de_int da_nil)))) da_nil))))) (dss_cons (ds_set (i := 7) ND rfl (.inl rfl) (de_callTy cd_tuple rfl B.b_tuple bt_tuple (da_cons (de_lc (own := [("_law_name", 14), ("_law_uses", 15)]) rfl ND (di_seq (de_ix hr.u1 (vl 1) de_int (fun _ _ => rfl))) (blkOk_by (by kernel_rfl)) (dg_tup (fun _ => rfl) (fun _ => rfl) (dgs_cons (dg_name (fun _ => ND) (fun _ => rfl) (fun _ => .inl rfl) (by decide) (fun _ => .inr rfl)) (dgs_cons (dg_name (fun _ => ND) (fun _ => rfl) (fun _ => .inl rfl) (by decide) (fun _ => .inr rfl)) dgs_nil))) (fun _ _ _ _ _ => dts_nil) (fun _ _ _ _ _ => (de_tup (da_cons (vl 14) (da_cons (de_callTy cd_tuple rfl B.b_tuple bt_tuple (da_cons (de_lc (own := [("_law_hours", 16), ("_law_cycles", 17)]) rfl ND (di_seq (vl 15)) (blkOk_by (by kernel_rfl)) (dg_tup (fun _ => rfl) (fun _ => rfl) (dgs_cons (dg_name (fun _ => ND) (fun _ => rfl) (fun _ => .inl rfl) (by decide) (fun _ => .inr rfl)) (dgs_cons (dg_name (fun _ => ND) (fun _ => rfl) (fun _ => .inl rfl) (by decide) (fun _ => .inr rfl)) dgs_nil))) (fun _ _ _ _ _ => dts_nil) (fun _ _ _ _ _ => (de_tup (da_cons (de_op od_add (vl 16) de_int) (da_cons (de_op od_add (vl 17) de_int) da_nil))))) da_nil)) da_nil))))) da_nil))) (dss_cons (ds_set (i := 8) ND rfl (.inl rfl) (dc_call C__law_three hr (by decide) nog rfl (da_cons (de_op od_add (de_tup (da_cons (vl 7) da_nil)) (de_slice (vl 1) (do_some de_int) do_none)) (da_cons (de_ix hr.u1 (vl 3) de_int (fun _ _ => rfl)) (da_cons (vl 4) da_nil))))) (dss_cons (ds_if (dt_cmp (od_ne hr.units) (de_lcP (own := [("_law_one", 18), ("_law_other", 19)]) rfl ND (dip_zip rfl B.b_zip (da_cons (vl 5) (da_cons (vl 6) da_nil))) (blkOk_by (by kernel_rfl)) (dgp_tup (fun _ => rfl) (fun _ => rfl) (dgs_cons (dg_name (fun _ => ND) (fun _ => rfl) (fun _ => .inl rfl) (by decide) (fun _ => .inr rfl)) (dgs_cons (dg_name (fun _ => ND) (fun _ => rfl) (fun _ => .inl rfl) (by decide) (fun _ => .inr rfl)) dgs_nil))) (fun _ _ _ _ _ => (dts_one (dt_cmp od_lt (vl 19) (vl 18) (nomark _)))) (fun _ _ _ _ _ => de_int)) (de_lst da_nil) (nomark _)) (dss_one (ds_ret de_bl)) dss_nil) (dss_cons (ds_if (dt_cmp (od_ne hr.units) (de_lcP (own := [("_law_one", 18), ("_law_other", 19)]) rfl ND (dip_zip rfl B.b_zip (da_cons (vl 5) (da_cons (vl 8) da_nil))) (blkOk_by (by kernel_rfl)) (dgp_tup (fun _ => rfl) (fun _ => rfl) (dgs_cons (dg_name (fun _ => ND) (fun _ => rfl) (fun _ => .inl rfl) (by decide) (fun _ => .inr rfl)) (dgs_cons (dg_name (fun _ => ND) (fun _ => rfl) (fun _ => .inl rfl) (by decide) (fun _ => .inr rfl)) dgs_nil))) (fun _ _ _ _ _ => (dts_one (dt_cmp od_gt (vl 19) (vl 18) (nomark _)))) (fun _ _ _ _ _ => de_int)) (de_lst da_nil) (nomark _)) (dss_one (ds_ret de_bl)) dss_nil) (dss_cons (ds_set (i := 9) ND rfl (.inl rfl) (dc_call C__law_three hr (by decide) nog rfl (da_cons (dc_call C__law_with hr (by decide) nog rfl (da_cons (vl 1) (da_cons (vl 2) (da_cons (de_op od_add (de_slice (vl 3) do_none (do_some de_int)) (de_tup (da_cons (de_tup (da_cons de_int (da_cons de_int (da_cons de_int da_nil)))) da_nil))) da_nil)))) (da_cons (de_ix hr.u1 (vl 3) de_int (fun _ _ => rfl)) (da_cons (vl 4) da_nil))))) (dss_cons (ds_set (i := 10) ND rfl (.inl rfl) (dc_call C__law_three hr (by decide) nog rfl (da_cons (dc_call C__law_with hr (by decide) nog rfl (da_cons (vl 1) (da_cons (vl 2) (da_cons (de_op od_add (de_slice (vl 3) do_none (do_some de_int)) (de_tup (da_cons (de_callTy cd_tuple rfl B.b_tuple bt_tuple (da_cons (de_lc (own := [("_law_one", 18)]) rfl ND (di_seq (de_ix hr.u1 (vl 3) de_int (fun _ _ => rfl))) (blkOk_by (by kernel_rfl)) (dg_name (fun _ => ND) (fun _ => rfl) (fun _ => .inl rfl) (by decide) (fun _ => .inr rfl)) (fun _ _ _ _ _ => dts_nil) (fun _ _ _ _ _ => (de_op od_add (vl 18) de_int))) da_nil)) da_nil))) da_nil)))) (da_cons (de_ix hr.u1 (vl 3) de_int (fun _ _ => rfl)) (da_cons (vl 4) da_nil))))) (dss_cons (ds_if (Dw.dt (dw_or (dt_cmp (od_ne hr.units) (de_ix hr.u1 (vl 9) de_int (fun _ _ => rfl)) (de_ix hr.u1 (vl 9) de_int (fun _ _ => rfl)) (nomark _)) (dw_or (dt_cmp (od_ne hr.units) (de_ix hr.u1 (vl 9) de_int (fun _ _ => rfl)) (de_ix hr.u1 (vl 5) de_int (fun _ _ => rfl)) (nomark _)) (dw_or1 (dt_cmp od_lt (de_ix hr.u1 (vl 10) de_int (fun _ _ => rfl)) (de_ix hr.u1 (vl 5) de_int (fun _ _ => rfl)) (nomark _)))))) (dss_one (ds_ret de_bl)) dss_nil) (dss_cons (ds_set (i := 11) ND rfl (.inl rfl) (de_listG Y_windows_of hr (by decide) rfl rfl B.b_list bt_list (da_cons (vl 1) (da_cons (de_ix hr.u1 (vl 3) de_int (fun _ _ => rfl)) (da_cons de_int da_nil))))) (dss_cons (ds_forP (vs := [12, 13]) PassesOwn.never rfl (dip_enA rfl B.b_enumerate (da_cons (vl 11) da_nil)) (dgp_tup (fun _ => rfl) (fun _ => rfl) (dgs_cons (dg_name (fun _ => ND) (fun _ => rfl) (fun _ => .inl rfl) (by decide) (fun _ => .inl rfl)) (dgs_cons (dg_name (fun _ => ND) (fun _ => rfl) (fun _ => .inl rfl) (by decide) (fun _ => .inl rfl)) dgs_nil))) (dss_cons (ds_if (dt_cmp (od_ne hr.units) (de_ix hr.u1 (vl 13) de_int (fun _ _ => rfl)) (de_if (dt_cmp od_gt (vl 12) de_int (nomark _)) (de_ix hr.u1 (de_ix hr.u1 (vl 11) (de_op od_sub (vl 12) de_int) (fun _ _ => rfl)) de_int (fun _ _ => rfl)) de_int) (nomark _)) (dss_one (ds_ret de_bl)) dss_nil) (dss_one (ds_if (dt_cmp (od_ne hr.units) (de_lc (own := [("_law_at", 20)]) rfl ND (di_seq (de_tup (da_cons (de_ix hr.u1 (vl 13) de_int (fun _ _ => rfl)) (da_cons (de_ix hr.u1 (vl 13) de_int (fun _ _ => rfl)) (da_cons (de_ix hr.u1 (vl 13) de_int (fun _ _ => rfl)) da_nil))))) (blkOk_by (by kernel_rfl)) (dg_name (fun _ => ND) (fun _ => rfl) (fun _ => .inl rfl) (by decide) (fun _ => .inr rfl)) (fun _ _ _ _ _ => dts_nil) (fun _ _ _ _ _ => (dc_call C__law_most hr (by decide) nog rfl (da_cons (vl 20) da_nil)))) (dc_call C__law_three hr (by decide) nog rfl (da_cons (vl 1) (da_cons (de_ix hr.u1 (vl 3) de_int (fun _ _ => rfl)) (da_cons (de_ix hr.u1 (vl 13) de_int (fun _ _ => rfl)) da_nil)))) (nomark _)) (dss_one (ds_ret de_bl)) dss_nil)))) (dss_one (ds_ret de_bl)))))))))))))))
abbrev nm_law : List Str := ["_law_script", "_law_feed_here", "_law_turn", "_law_plot_here", "_law_k"]
theorem sc_law : FnScope nm_law ["_law_script"] (defScope (top 64)) := ⟨rfl, rfl, rfl, by decide +kernel, rfl, by decide +kernel, by decide +kernel⟩
theorem c_law (B : Bl P K mg) (D : Dfn K mg "law" (top 64)) (C__law_feed : Cal false P w K mg base 1 "_law_feed" (top 51) ["_law_script"] WF.g_feed_k17) (C__law_plot : Cal false P w K mg base 7 "_law_plot" (top 58) ["_law_feed_here", "_law_most_here"] WF.g_plot_k17) (C__law_agrees : Cal false P w K mg base 23 "_law_agrees" (top 63) ["_law_feed_here", "_law_plot_here", "_law_k"] WF.g_agrees_k28) : Cal false P w K mg base 24 "law" (top 64) ["_law_script"] WF.g_law_k28 := by
  refine cal_of (m := WF.m_law_k28) D sc_law rfl rfl (fun _ _ _ _ _ _ us hl => match us, hl with | [_], _ => rfl) fun f cdv A outer s H hr hg => ?_
  have ND := sc_law.nd
  exact (dss_cons (ds_set (i := 1) ND rfl (.inr rfl) (dc_call C__law_feed hr (by decide) nog rfl (da_cons (vl 0) da_nil))) (dss_cons (ds_for (vs := [2]) PassesOwn.never rfl (di_range1 rfl B.b_range (da_cons de_int da_nil)) (dg_name (fun _ => ND) (fun _ => rfl) (fun _ => .inl rfl) (by decide) (fun _ => .inl rfl)) (dss_cons (ds_set (i := 3) ND rfl (.inr rfl) (dc_call C__law_plot hr (by decide) nog rfl (da_cons (vc 1) (da_cons de_int da_nil)))) (dss_one (ds_if (dt_cmp (od_ne hr.units) (de_lc (own := [("_law_k", 4)]) rfl ND (di_range1 rfl B.b_range (da_cons (de_callB cd_len rfl B.b_len bt_len (da_cons (de_ix hr.u1 (vc 3) de_int (fun _ _ => rfl)) da_nil)) da_nil)) (blkOk_by (by kernel_rfl)) (dg_name (fun _ => ND) (fun _ => rfl) (fun _ => .inl rfl) (by decide) (fun _ => .inr rfl)) (fun _ _ _ _ _ => (dts_one (dt_not (dt_truth (dc_call C__law_agrees hr (by decide) nog rfl (da_cons (vc 1) (da_cons (vc 3) (da_cons (vl 4) da_nil)))))))) (fun _ _ _ _ _ => (vl 4))) (de_lst da_nil) (nomark _)) (dss_one (ds_ret de_bl)) dss_nil)))) (dss_one (ds_ret de_bl))))
end
end K28
namespace PL
open PySem PySem.Spec PyProof.Rows L2 DL
abbrev Us := List (Int × Int)
abbrev Sy := List (Int × Option Str)
inductive CW where
  | hours
  | cycles
  | days
  deriving DecidableEq
def CW.str : CW → Str
  | .hours => "hours"
  | .cycles => "cycles"
  | .days => "days"
inductive Lim where
  | one (w : CW) (n : Int)
  | join (later : Bool) (ls : List Lim)
structure Job where
  nm : Str
  pt : Str
  wy : Str
  lim : Lim
  sl : Int × Int × Int
structure Site where
  mc : List (Str × Us)
  parts : List (Str × Sy)
  jobs : List Job
def sumF (f : Int → Int) (lo : Int) (n : Nat) : Int := ((List.range n).map fun i => f (lo + (i : Nat))).sum
theorem sumF_zero {f : Int → Int} {lo : Int} : sumF f lo 0 = 0 := rfl
theorem sumF_succ {f : Int → Int} {lo : Int} {n : Nat} : sumF f lo (n + 1) = sumF f lo n + f (lo + n) := by
  unfold sumF
  rw [List.range_succ, List.map_append, List.sum_append]
  simp
theorem sumF_bd {f : Int → Int} {lo : Int} {B : Int} (h : ∀ d, 0 ≤ f d ∧ f d < B) : ∀ n : Nat, 0 ≤ sumF f lo n ∧ sumF f lo n ≤ B * n
  | 0 => by simp [sumF_zero]
  | n + 1 => by
    rw [sumF_succ]
    have h1 := sumF_bd h n (lo := lo)
    have h2 := h (lo + n)
    have e : B * ((n + 1 : Nat) : Int) = B * n + B := by rw [Int.natCast_add, Int.mul_add]; simp
    rw [e]
    omega
theorem sumF_add {f : Int → Int} {lo : Int} {n : Nat} : ∀ m : Nat, sumF f lo (n + m) = sumF f lo n + sumF f (lo + n) m
  | 0 => by simp [sumF_zero]
  | m + 1 => by
    rw [← Nat.add_assoc, sumF_succ, sumF_succ, sumF_add m, Int.natCast_add]
    rw [← Int.add_assoc, ← Int.add_assoc]
theorem sumF_const {f : Int → Int} {s k : Int} (h : ∀ d, s ≤ d → f d = k) : ∀ n : Nat, sumF f s n = n * k
  | 0 => by simp [sumF_zero]
  | n + 1 => by
    rw [sumF_succ, sumF_const h n, h (s + n) (by omega), Int.natCast_add, Int.add_mul]
    simp
abbrev Uf := Int → CW → Int
structure UF (u : Uf) (s : Int) : Prop where
  pos : ∀ d w, 0 ≤ u d w
  bd : ∀ d w, u d w < 1000
  day : ∀ d, u d .days = 1
  std : ∀ d w, s ≤ d → u d w = u s w
def cnt (u : Uf) (b d : Int) (w : CW) : Int := sumF (fun i => u i w) b (d - b).toNat
section
variable {u : Uf} {s b d m : Int} {w : CW}
theorem cnt_self : cnt u b b w = 0 := by
  unfold cnt
  rw [Int.sub_self]
  rfl
theorem cnt_add (h1 : b ≤ m) (h2 : m ≤ d) : cnt u b d w = cnt u b m w + cnt u m d w := by
  unfold cnt
  have e : (d - b).toNat = (m - b).toNat + (d - m).toNat := by omega
  rw [e, sumF_add, show b + ((m - b).toNat : Int) = m from by omega]
theorem cnt_nn (U : UF u s) : 0 ≤ cnt u b d w := (sumF_bd (B := 1000) (fun i => ⟨U.pos i w, U.bd i w⟩) _).1
theorem cnt_mono (U : UF u s) {d' : Int} (h : d ≤ d') : cnt u b d w ≤ cnt u b d' w := by
  by_cases hb : b ≤ d
  · rw [cnt_add (m := d) hb h]
    have := cnt_nn U (b := d) (d := d') (w := w)
    omega
  · have : cnt u b d w = 0 := by
      unfold cnt
      rw [show (d - b).toNat = 0 from by omega]
      rfl
    rw [this]
    exact cnt_nn U
theorem cnt_base (U : UF u s) {b' : Int} (h : b ≤ b') : cnt u b' d w ≤ cnt u b d w := by
  by_cases hb : b' ≤ d
  · rw [cnt_add (m := b') h hb]
    have := cnt_nn U (b := b) (d := b') (w := w)
    omega
  · have : cnt u b' d w = 0 := by
      unfold cnt
      rw [show (d - b').toNat = 0 from by omega]
      rfl
    rw [this]
    exact cnt_nn U
theorem cnt_succ (h : b ≤ d) : cnt u b (d + 1) w = cnt u b d w + u d w := by
  rw [cnt_add (m := d) h (by omega)]
  unfold cnt
  rw [show (d + 1 - d).toNat = 0 + 1 from by omega, sumF_succ, sumF_zero]
  simp
theorem cnt_std (U : UF u s) (h1 : s ≤ b) (h2 : b ≤ d) : cnt u b d w = (d - b) * u b w := by
  unfold cnt
  rw [sumF_const (k := u b w) (fun d hd => by rw [U.std d w (by omega), U.std b w h1])]
  rw [show (((d - b).toNat : Nat) : Int) = d - b from by omega]
theorem cnt_days (U : UF u s) (h : b ≤ d) : cnt u b d .days = d - b := by
  unfold cnt
  rw [sumF_const (k := 1) (fun d _ => U.day d)]
  omega
end
mutual
def passes : Lim → (CW → Int) → Bool
  | .one w n, c => decide (n < c w)
  | .join false ls, c => passAny ls c
  | .join true ls, c => passAll ls c
def passAny : List Lim → (CW → Int) → Bool
  | [], _ => false
  | l :: ls, c => passes l c || passAny ls c
def passAll : List Lim → (CW → Int) → Bool
  | [], _ => true
  | l :: ls, c => passes l c && passAll ls c
end
mutual
theorem passes_mono {c c' : CW → Int} (h : ∀ w, c w ≤ c' w) : ∀ l : Lim, passes l c = true → passes l c' = true
  | .one w n, p => by
    simp only [passes, decide_eq_true_eq] at p ⊢
    have := h w
    omega
  | .join false ls, p => by
    simp only [passes] at p ⊢
    exact passAny_mono h ls p
  | .join true ls, p => by
    simp only [passes] at p ⊢
    exact passAll_mono h ls p
theorem passAny_mono {c c' : CW → Int} (h : ∀ w, c w ≤ c' w) : ∀ l : List Lim, passAny l c = true → passAny l c' = true
  | [], p => by cases p
  | l :: ls, p => by
    simp only [passAny, Bool.or_eq_true] at p ⊢
    exact p.imp (passes_mono h l) (passAny_mono h ls)
theorem passAll_mono {c c' : CW → Int} (h : ∀ w, c w ≤ c' w) : ∀ l : List Lim, passAll l c = true → passAll l c' = true
  | [], p => rfl
  | l :: ls, p => by
    simp only [passAll, Bool.and_eq_true] at p ⊢
    exact ⟨passes_mono h l p.1, passAll_mono h ls p.2⟩
end
theorem passAny_iff {c : CW → Int} : ∀ ls : List Lim, passAny ls c = ls.any (passes · c)
  | [] => rfl
  | l :: ls => by simp only [passAny, List.any_cons, passAny_iff ls]
theorem passAll_iff {c : CW → Int} : ∀ ls : List Lim, passAll ls c = ls.all (passes · c)
  | [] => rfl
  | l :: ls => by simp only [passAll, List.all_cons, passAll_iff ls]
mutual
def numsLe (M : Int) : Lim → Prop
  | .one _ n => n ≤ M
  | .join _ ls => numsLeAll M ls
def numsLeAll (M : Int) : List Lim → Prop
  | [] => True
  | l :: ls => numsLe M l ∧ numsLeAll M ls
end
mutual
theorem late_enough {u : Uf} {s b M : Int} (U : UF u s) (hM0 : 0 ≤ M) {E d : Int} (hE : max b s + M + 1 ≤ E) : ∀ l : Lim, numsLe M l → passes l (cnt u b d) = true → passes l (cnt u b E) = true
  | .one w n, hM, p => by
    simp only [passes, decide_eq_true_eq, numsLe] at p hM ⊢
    by_cases h1 : d ≤ E
    · have := cnt_mono U (b := b) (w := w) h1
      omega
    · have hS : max b s ≤ E := by omega
      have hbS : b ≤ max b s := Int.le_max_left ..
      have hsS : s ≤ max b s := Int.le_max_right ..
      generalize max b s = T at *
      have e1 := cnt_add (u := u) (w := w) (b := b) (m := T) (d := E) hbS hS
      have e2 := cnt_add (u := u) (w := w) (b := b) (m := T) (d := d) hbS (by omega)
      rw [cnt_std U hsS (by omega)] at e1 e2
      have hp := U.pos T w
      have hc := cnt_nn U (b := b) (d := T) (w := w)
      rcases Int.lt_or_eq_of_le hp with h | h
      · have : (E - T) * 1 ≤ (E - T) * u T w := Int.mul_le_mul_of_nonneg_left (by omega) (by omega)
        omega
      · rw [← h, Int.mul_zero] at e1 e2
        omega
  | .join false ls, hM, p => by
    simp only [passes, numsLe] at p hM ⊢
    exact late_any U hM0 hE ls hM p
  | .join true ls, hM, p => by
    simp only [passes, numsLe] at p hM ⊢
    exact late_all U hM0 hE ls hM p
theorem late_any {u : Uf} {s b M : Int} (U : UF u s) (hM0 : 0 ≤ M) {E d : Int} (hE : max b s + M + 1 ≤ E) : ∀ l : List Lim, numsLeAll M l → passAny l (cnt u b d) = true → passAny l (cnt u b E) = true
  | [], _, p => by cases p
  | l :: ls, hM, p => by
    simp only [passAny, Bool.or_eq_true, numsLeAll] at p hM ⊢
    exact p.imp (late_enough U hM0 hE l hM.1) (late_any U hM0 hE ls hM.2)
theorem late_all {u : Uf} {s b M : Int} (U : UF u s) (hM0 : 0 ≤ M) {E d : Int} (hE : max b s + M + 1 ≤ E) : ∀ l : List Lim, numsLeAll M l → passAll l (cnt u b d) = true → passAll l (cnt u b E) = true
  | [], _, p => rfl
  | l :: ls, hM, p => by
    simp only [passAll, Bool.and_eq_true, numsLeAll] at p hM ⊢
    exact ⟨late_enough U hM0 hE l hM.1 p.1, late_all U hM0 hE ls hM.2 p.2⟩
end
def IsFirst (P : Int → Bool) (b : Int) : Option Int → Prop
  | some d => b ≤ d ∧ P d = true ∧ ∀ d', b ≤ d' → d' < d → P d' = false
  | none => ∀ d, b ≤ d → P d = false
theorem IsFirst.uniq {P : Int → Bool} {b : Int} : ∀ {r r' : Option Int}, IsFirst P b r → IsFirst P b r' → r = r'
  | none, none, _, _ => rfl
  | none, some d, h, h' => by have := h d h'.1; rw [h'.2.1] at this; cases this
  | some d, none, h', h => by have := h d h'.1; rw [h'.2.1] at this; cases this
  | some d, some d', h, h' => by
    rcases Int.lt_trichotomy d d' with e | e | e
    · have := h'.2.2 d h.1 e; rw [h.2.1] at this; cases this
    · rw [e]
    · have := h.2.2 d' h'.1 e; rw [h'.2.1] at this; cases this
open Classical in
noncomputable def firstOf (P : Int → Bool) (b : Int) : Option Int := if h : ∃ r, IsFirst P b r then choose h else none
theorem firstOf_eq {P : Int → Bool} {b : Int} {r : Option Int} (h : IsFirst P b r) : firstOf P b = r := by
  unfold firstOf
  rw [dif_pos ⟨r, h⟩]
  exact IsFirst.uniq (Classical.choose_spec ⟨r, h⟩) h
theorem first_ex (P : Int → Bool) (b : Int) : ∃ r, IsFirst P b r := by
  have step : ∀ n : Nat, (∀ d, b ≤ d → d < b + n → P d = false) ∨ ∃ r, IsFirst P b r := by
    intro n
    induction n with
    | zero => exact .inl fun d h1 h2 => by omega
    | succ n ih =>
      rcases ih with ih | ih
      · cases h : P (b + n) with
        | true => exact .inr ⟨some (b + n), by omega, h, fun d' h1 h2 => ih d' h1 h2⟩
        | false =>
          refine .inl fun d h1 h2 => ?_
          by_cases e : d = b + n
          · rw [e]; exact h
          · exact ih d h1 (by omega)
      · exact .inr ih
  by_cases h : ∃ r, IsFirst P b r
  · exact h
  · refine ⟨none, fun d hd => ?_⟩
    rcases step ((d - b).toNat + 1) with q | q
    · exact q d hd (by omega)
    · exact absurd q h
theorem firstOf_spec (P : Int → Bool) (b : Int) : IsFirst P b (firstOf P b) := by
  obtain ⟨r, h⟩ := first_ex P b
  rw [firstOf_eq h]
  exact h
noncomputable def fp (u : Uf) (l : Lim) (b : Int) : Option Int := firstOf (fun d => passes l (cnt u b d)) b
theorem fp_spec (u : Uf) (l : Lim) (b : Int) : IsFirst (fun d => passes l (cnt u b d)) b (fp u l b) := firstOf_spec _ _
theorem pp_in {u : Uf} {s b n d : Int} {w : CW} (U : UF u s) (hb : b ≤ d) (h1 : cnt u b d w ≤ n) (h2 : n < cnt u b (d + 1) w) : fp u (.one w n) b = some (d + 1) := by
  refine firstOf_eq ⟨by omega, by simpa only [passes, decide_eq_true_eq] using h2, fun d' _ h => ?_⟩
  simp only [passes, decide_eq_false_iff_not]
  have := cnt_mono U (b := b) (w := w) (show d' ≤ d by omega)
  omega
theorem pp_neg {u : Uf} {b n : Int} {w : CW} (hn : n < 0) : fp u (.one w n) b = some b := by
  refine firstOf_eq ⟨Int.le_refl _, ?_, fun d' _ h => by omega⟩
  simp only [passes, decide_eq_true_eq, cnt_self]
  exact hn
theorem pp_days {u : Uf} {s b n : Int} (U : UF u s) (hn : 0 ≤ n) : fp u (.one .days n) b = some (b + n + 1) := by
  refine firstOf_eq ⟨by omega, ?_, fun d' h1 h => ?_⟩
  · simp only [passes, decide_eq_true_eq]
    rw [cnt_days U (by omega)]
    omega
  · simp only [passes, decide_eq_false_iff_not]
    rw [cnt_days U h1]
    omega
theorem pp_end {u : Uf} {s b n T : Int} {w : CW} (U : UF u s) (hb : b ≤ T) (hs : s ≤ T) (h : cnt u b T w ≤ n) : fp u (.one w n) b = if u T w = 0 then none else some (T + (n - cnt u b T w) / u T w + 1) := by
  have hp := U.pos T w
  have e : ∀ d, T ≤ d → cnt u b d w = cnt u b T w + (d - T) * u T w := fun d hd => by rw [cnt_add (m := T) hb hd, cnt_std U hs hd]
  split
  · rename_i h0
    refine firstOf_eq fun d hd => ?_
    simp only [passes, decide_eq_false_iff_not]
    by_cases q : T ≤ d
    · rw [e d q, h0, Int.mul_zero]
      omega
    · have := cnt_mono U (b := b) (w := w) (show d ≤ T by omega)
      omega
  · rename_i h0
    have hk : 0 < u T w := by omega
    have key : ∀ y : Int, (n - cnt u b T w) / u T w < y ↔ n - cnt u b T w < y * u T w := fun y => Int.ediv_lt_iff_lt_mul hk
    have hq : 0 ≤ (n - cnt u b T w) / u T w := Int.ediv_nonneg (by omega) hp
    refine firstOf_eq ⟨by omega, ?_, fun d' h1 h2 => ?_⟩
    · simp only [passes, decide_eq_true_eq]
      rw [e _ (by omega)]
      have := (key (T + (n - cnt u b T w) / u T w + 1 - T)).1 (by omega)
      omega
    · simp only [passes, decide_eq_false_iff_not]
      by_cases q : T ≤ d'
      · rw [e d' q]
        have := fun z => (key (d' - T)).2 z
        omega
      · have := cnt_mono U (b := b) (w := w) (show d' ≤ T by omega)
        omega
def minO : List (Option Int) → Option Int
  | [] => none
  | none :: r => minO r
  | some d :: r => match minO r with
    | none => some d
    | some e => some (if e < d then e else d)
def maxO : List (Option Int) → Option Int
  | [] => none
  | [x] => x
  | x :: r => match x, maxO r with
    | some d, some e => some (if e > d then e else d)
    | _, _ => none
theorem fp_any {u : Uf} {b : Int} : ∀ ls : List Lim, IsFirst (fun d => passAny ls (cnt u b d)) b (minO (ls.map fun l => fp u l b))
  | [] => fun d _ => rfl
  | l :: ls => by
    have ih := fp_any (u := u) (b := b) ls
    have h := fp_spec u l b
    simp only [List.map_cons]
    cases hl : fp u l b with
    | none =>
      rw [hl] at h
      simp only [minO]
      cases hr : minO (ls.map fun l => fp u l b) with
      | none =>
        rw [hr] at ih
        intro d hd
        have h1 := h d hd
        have h2 := ih d hd
        simp only at h1 h2
        simp only [passAny, h1, h2]
        rfl
      | some e =>
        rw [hr] at ih
        refine ⟨ih.1, ?_, fun d h1 h2 => ?_⟩
        · have := ih.2.1
          simp only at this
          simp only [passAny, this, Bool.or_true]
        · have h3 := h d h1
          have h4 := ih.2.2 d h1 h2
          simp only at h3 h4
          simp only [passAny, h3, h4]
          rfl
    | some d0 =>
      rw [hl] at h
      simp only [minO]
      cases hr : minO (ls.map fun l => fp u l b) with
      | none =>
        rw [hr] at ih
        refine ⟨h.1, ?_, fun d h1 h2 => ?_⟩
        · have := h.2.1
          simp only at this
          simp only [passAny, this, Bool.true_or]
        · have h3 := h.2.2 d h1 h2
          have h4 := ih d h1
          simp only at h3 h4
          simp only [passAny, h3, h4]
          rfl
      | some e =>
        rw [hr] at ih
        by_cases he : e < d0
        · simp only [if_pos he]
          refine ⟨ih.1, ?_, fun d h1 h2 => ?_⟩
          · have := ih.2.1
            simp only at this
            simp only [passAny, this, Bool.or_true]
          · have h3 := h.2.2 d h1 (by omega)
            have h4 := ih.2.2 d h1 h2
            simp only at h3 h4
            simp only [passAny, h3, h4]
            rfl
        · simp only [if_neg he]
          refine ⟨h.1, ?_, fun d h1 h2 => ?_⟩
          · have := h.2.1
            simp only at this
            simp only [passAny, this, Bool.true_or]
          · have h3 := h.2.2 d h1 h2
            have h4 := ih.2.2 d h1 (by omega)
            simp only at h3 h4
            simp only [passAny, h3, h4]
            rfl
theorem fp_up {u : Uf} {s b d0 d : Int} {l : Lim} (U : UF u s) (h : fp u l b = some d0) (hd : d0 ≤ d) : passes l (cnt u b d) = true := by
  have := fp_spec u l b
  rw [h] at this
  exact passes_mono (fun w => cnt_mono U hd) l this.2.1
theorem fp_all {u : Uf} {s b : Int} (U : UF u s) : ∀ ls : List Lim, ls ≠ [] → IsFirst (fun d => passAll ls (cnt u b d)) b (maxO (ls.map fun l => fp u l b))
  | [], h => absurd rfl h
  | [l], _ => by
    have h := fp_spec u l b
    simp only [List.map_cons, List.map_nil, maxO]
    have e : (fun d => passAll [l] (cnt u b d)) = fun d => passes l (cnt u b d) := by
      funext d
      simp only [passAll, Bool.and_true]
    rw [e]
    exact h
  | l :: l2 :: ls, _ => by
    have ih := fp_all (u := u) (b := b) U (l2 :: ls) (List.cons_ne_nil _ _)
    have h := fp_spec u l b
    rw [List.map_cons, List.map_cons]
    rw [List.map_cons] at ih
    unfold maxO
    generalize hL : (l2 :: ls) = L at ih
    have e : ∀ d, passAll (l :: L) (cnt u b d) = (passes l (cnt u b d) && passAll L (cnt u b d)) := fun d => by simp only [passAll]
    have up : ∀ d0 d, maxO (fp u l2 b :: ls.map fun l => fp u l b) = some d0 → d0 ≤ d → passAll L (cnt u b d) = true := fun d0 d q hd => by
      rw [q] at ih
      exact passAll_mono (fun w => cnt_mono U hd) L ih.2.1
    cases hl : fp u l b with
    | none =>
      rw [hl] at h
      simp only
      intro d hd
      have := h d hd
      simp only at this
      simp only [e, this, Bool.false_and]
    | some d0 =>
      have hup := fun d => fp_up (d := d) U hl
      rw [hl] at h
      cases hr : maxO (fp u l2 b :: ls.map fun l => fp u l b) with
      | none =>
        rw [hr] at ih
        simp only
        intro d hd
        have := ih d hd
        simp only at this
        simp only [e, this, Bool.and_false]
      | some d1 =>
        have hup1 := fun d => up d1 d hr
        rw [hr] at ih
        simp only
        by_cases he : d1 > d0
        · simp only [if_pos he]
          refine ⟨ih.1, ?_, fun d h1 h2 => ?_⟩
          · have h3 := hup d1 (by omega)
            have h4 := hup1 d1 (by omega)
            simp only [e, h3, h4]
            rfl
          · have := ih.2.2 d h1 h2
            simp only at this
            simp only [e, this, Bool.and_false]
        · simp only [if_neg he]
          refine ⟨h.1, ?_, fun d h1 h2 => ?_⟩
          · have h3 := hup d0 (by omega)
            have h4 := hup1 d0 (by omega)
            simp only [e, h3, h4]
            rfl
          · have := h.2.2 d h1 h2
            simp only at this
            simp only [e, this, Bool.false_and]
theorem fp_first {u : Uf} {b : Int} {ls : List Lim} : fp u (.join false ls) b = minO (ls.map fun l => fp u l b) := by
  refine firstOf_eq ?_
  simp only [passes]
  exact fp_any ls
theorem fp_later {u : Uf} {s b : Int} {ls : List Lim} (U : UF u s) (h : ls ≠ []) : fp u (.join true ls) b = maxO (ls.map fun l => fp u l b) := by
  refine firstOf_eq ?_
  simp only [passes]
  exact fp_all U ls h
theorem fp_near {u : Uf} {s b M d : Int} {l : Lim} (U : UF u s) (hM0 : 0 ≤ M) (hM : numsLe M l) (h : fp u l b = some d) : b ≤ d ∧ d ≤ max b s + M + 1 := by
  have q := fp_spec u l b
  rw [h] at q
  refine ⟨q.1, ?_⟩
  by_cases e : d ≤ max b s + M + 1
  · exact e
  · have h1 := late_enough U hM0 (E := max b s + M + 1) (d := d) (by omega) l hM q.2.1
    have h2 := q.2.2 (max b s + M + 1) (by omega) (by omega)
    simp only at h2
    rw [h1] at h2
    cases h2
end PL
namespace DL
open PySem PySem.Spec PyProof.Rows L2
section
variable {N : Ev → Sto → Prop} {Rt : Wd → Sto → Prop} {ρ : Ev} {S : Sto} {Q : Wd → Sto → Prop} {Qs : List Wd → Sto → Prop}
theorem w_enA' {f : Mx} (h : wpE (f ρ S) fun w S1 => wpO (itemsD w) fun ys => Qs (enumD 0 ys) S1) : wpE (iEnumA (aCons f aNil) ρ S) Qs := w_enA h
theorem w_star' {f : Mx} {fs : Ma} (h : wpE (f ρ S) fun w S1 => wpO (itemsD w) fun xs => wpE (fs ρ S1) fun ys S2 => Qs (xs ++ ys) S2) : wpE (aStar f fs ρ S) Qs := w_star h
theorem w_map0 (h : Q (oW S.length) (S ++ [.tdc []])) : wpE (mMap0 ρ S) Q := h
theorem w_ixT {fa fb : Mx} (h : wpE (fa ρ S) fun x S1 => wpE (fb ρ S1) fun y S2 => wpO (recGetT S2 x y) fun w => Q w S2) : wpE (mIxT fa fb ρ S) Q := by
  unfold mIxT
  simp only [wpE_bnd]
  refine wpE_mono h fun x S1 h => wpE_mono h fun y S2 ⟨w, e, q⟩ => ?_
  rw [e]
  exact q
theorem w_putT {fo fk f : Mx} (h : wpE (f ρ S) fun w S1 => wpE (fo ρ S1) fun o S2 => wpE (fk ρ S2) fun k S3 => wpO (recPutT S3 o k w) fun S4 => N ρ S4) : wpS (sPutT fo fk f ρ S) N Rt := by
  unfold sPutT
  obtain ⟨w, S1, e1, q⟩ := wpE_ex.1 h
  obtain ⟨o, S2, e2, q⟩ := wpE_ex.1 q
  obtain ⟨k, S3, e3, q⟩ := wpE_ex.1 q
  obtain ⟨S4, e4, q⟩ := q
  simp only [e1, e2, e3, sOf_ok, e4]
  exact q
theorem w_dc {vs : List Nat} {fi : Mi} {g : Mg} {t : Mt} {fk fv : Mx} (h : wpE (fi ρ S) fun ws S1 => wpE (dcLoop g t fk fv (wipeE ρ vs) ws [] S1) fun acc S2 => Q (.dict acc) S2) : wpE (mDc vs fi g t fk fv ρ S) Q := by
  unfold mDc
  simp only [wpE_bnd, wpE_ok]
  exact h
theorem dc_map {α : Type} {g : Mg} {fk fv : Mx} {ρ : Ev} {S : Sto} {enc : α → Wd} {key : α → Str} {out : α → Wd} : ∀ (xs ys : List α), ((ys ++ xs).map key).Nodup → ys.length + xs.length ≤ sizeLine →
    (∀ x ∈ xs, ∃ ρ1, g (enc x) ρ = some ρ1 ∧ fk ρ1 S = .ok (.str (key x)) S ∧ fv ρ1 S = .ok (out x) S) → dcLoop g tTrue fk fv ρ (xs.map enc) (ys.map fun y => (.str (key y), out y)) S = .ok ((ys ++ xs).map fun y => (.str (key y), out y)) S
  | [], ys, _, _, _ => by simp [dcLoop]
  | x :: xs, ys, nd, hl, h => by
    obtain ⟨ρ1, e1, e2, e3⟩ := h x (List.mem_cons_self ..)
    simp only [List.map_cons, List.length_cons] at hl ⊢
    unfold dcLoop
    rw [e1]
    simp only [tTrue, R.bnd_ok, if_true, e2, e3]
    rw [if_pos ⟨by rw [List.length_map]; omega, rfl⟩]
    have hn : ((ys.map fun y => ((PyData.str (key y) : Wd), out y)).any fun q => PyData.eqv q.1 (.str (key x))) = false := by
      rw [List.any_eq_false]
      intro q hq
      obtain ⟨y, hy, rfl⟩ := List.mem_map.1 hq
      simp only [PyData.eqv]
      intro z
      have z : key y = key x := by simpa using z
      rw [List.map_append, List.map_cons] at nd
      exact (List.nodup_append.1 nd).2.2 _ (List.mem_map_of_mem hy) _ (List.mem_cons_self ..) z
    have hp : putD (ys.map fun y => ((PyData.str (key y) : Wd), out y)) (.str (key x)) (out x) = (ys ++ [x]).map fun y => (.str (key y), out y) := by
      simp only [putD, hn, Bool.false_eq_true, if_false, List.map_append, List.map_cons, List.map_nil]
    rw [hp, dc_map xs (ys ++ [x]) (by simpa using nd) (by simp; omega) fun y hy => h y (List.mem_cons_of_mem _ hy)]
    simp
def listD : Wd → Option (List Wd)
  | .list ws => some ws
  | _ => none
theorem listD_some {w : Wd} {ws : List Wd} (h : listD w = some ws) : w = .list ws := by
  unfold listD at h
  split at h
  · cases h; rfl
  · cases h
theorem w_ext' {i : Nat} {f : Mx} {ws : List Wd} (h : ρ[i]? = some (some (.own ws))) (q : wpE (f ρ S) fun w S1 => wpO (listD w) fun zs => ws.length + zs.length ≤ sizeLine ∧ N (ρ.set i (some (.own (ws ++ zs)))) S1) : wpS (sExt i f ρ S) N Rt :=
  w_ext h (wpE_mono q fun _ _ ⟨zs, e, a, b⟩ => ⟨zs, listD_some e, a, b⟩)
end
theorem wp_wh {N : Ev → Sto → Prop} {Rt : Wd → Sto → Prop} {t : Mt} {m : Ms} (I : Nat → Ev → Sto → Prop) (hs : ∀ n ρ S, I (n + 1) ρ S → wpE (t ρ S) fun b S1 => if b = true then wpS (m ρ S1) (fun ρ2 S2 => I n ρ2 S2) Rt else N ρ S1) (h0 : ∀ ρ S, ¬ I 0 ρ S) :
    ∀ (n : Nat) (ρ : Ev) (S : Sto), I n ρ S → wpS (whLoop t m n ρ S) N Rt
  | 0, ρ, S, h => absurd h (h0 ρ S)
  | n + 1, ρ, S, h => by
    refine w_whS (wpE_mono (hs n ρ S h) fun b S1 h1 => ?_)
    cases b with
    | false => exact h1
    | true => exact wpS_mono (show wpS _ _ _ from h1) (fun ρ2 S2 h2 => wp_wh I hs h0 n ρ2 S2 h2) fun _ _ z => z
def wpF (g : Mg) (m : Ms) (N : Ev → Sto → Prop) (Rt : Wd → Sto → Prop) : List Wd → Ev → Sto → Prop
  | [], ρ, S => N ρ S
  | w :: r, ρ, S => ∃ ρ1, g w ρ = some ρ1 ∧ wpS (m ρ1 S) (fun ρ2 S2 => wpF g m N Rt r ρ2 S2) Rt
theorem wpF_for {N : Ev → Sto → Prop} {Rt : Wd → Sto → Prop} {g : Mg} {m : Ms} : ∀ (xs : List Wd) (ρ : Ev) (S : Sto), wpF g m N Rt xs ρ S → wpS (forLoop g m xs ρ S) N Rt
  | [], ρ, S, h => h
  | x :: xs, ρ, S, ⟨ρ1, e, h⟩ => w_forC e (wpS_mono h (fun ρ2 S2 h2 => wpF_for xs ρ2 S2 h2) fun _ _ h => h)
theorem wpF_app {N : Ev → Sto → Prop} {Rt : Wd → Sto → Prop} {g : Mg} {m : Ms} : ∀ (xs ys : List Wd) (ρ : Ev) (S : Sto), wpF g m (fun ρ' S' => wpF g m N Rt ys ρ' S') Rt xs ρ S → wpF g m N Rt (xs ++ ys) ρ S
  | [], ys, ρ, S, h => h
  | x :: xs, ys, ρ, S, ⟨ρ1, e, h⟩ => ⟨ρ1, e, wpS_mono h (fun ρ2 S2 h2 => wpF_app xs ys ρ2 S2 h2) fun _ _ h => h⟩
theorem wp_forT {N : Ev → Sto → Prop} {Rt : Wd → Sto → Prop} {g : Mg} {m : Ms} {α : Type} (enc : α → Wd) (xs : List α) (I : Ev → Sto → Prop) (hs : ∀ x ∈ xs, ∀ ρ S, I ρ S → ∃ ρ1, g (enc x) ρ = some ρ1 ∧ wpS (m ρ1 S) I Rt) (he : ∀ ρ S, I ρ S → N ρ S) (ρ : Ev) (S : Sto) (h : I ρ S) : wpS (forLoop g m (xs.map enc) ρ S) N Rt := by
  refine wp_for (I := fun r ρ S => I ρ S ∧ ∃ ys, (∀ y ∈ ys, y ∈ xs) ∧ r = ys.map enc) ?_ (fun ρ S h => he ρ S h.1) _ _ _ ⟨h, xs, fun _ h => h, rfl⟩
  rintro w r ρ S ⟨h, ys, hy, e⟩
  cases ys with
  | nil => cases e
  | cons y ys =>
    cases e
    obtain ⟨ρ1, e1, h1⟩ := hs y (hy y (List.mem_cons_self ..)) ρ S h
    exact ⟨ρ1, e1, wpS_mono h1 (fun ρ2 S2 h2 => ⟨h2, ys, fun z hz => hy z (List.mem_cons_of_mem _ hz), rfl⟩) fun _ _ h => h⟩
theorem wp_forI {N : Ev → Sto → Prop} {Rt : Wd → Sto → Prop} {g : Mg} {m : Ms} {ws : List Wd} (I : Ev → Sto → Prop) (hs : ∀ x ∈ ws, ∀ ρ S, I ρ S → ∃ ρ1, g x ρ = some ρ1 ∧ wpS (m ρ1 S) I Rt) (he : ∀ ρ S, I ρ S → N ρ S) (ρ : Ev) (S : Sto) (h : I ρ S) : wpS (forLoop g m ws ρ S) N Rt := by
  have := wp_forT id ws I hs he ρ S h
  rw [List.map_id] at this
  exact this
theorem wpX_ok {α : Type} {x : R α} {a : α} {S : Sto} (h : wpE x fun w S' => w = a ∧ S' = S) : x = .ok a S := by
  obtain ⟨w, S1, e, rfl, rfl⟩ := wpE_ex.1 h
  exact e
theorem siz : 1000 ≤ sizeLine := by decide
theorem eqv_str {x y : Str} : PyData.eqv (.str x) (.str y) = (x == y) := by simp [PyData.eqv]
def prK {α : Type} (e : α → Wd) (p : Str × α) : Wd × Wd := (.str p.1, e p.2)
def prT {α : Type} (e : α → Wd) (p : Str × α) : Wd := .tuple [.str p.1, e p.2]
section
variable {α : Type} {e : α → Wd}
theorem pairs_T : ∀ l : List (Str × α), pairsD (l.map (prT e)) = some (l.map (prK e))
  | [] => rfl
  | p :: l => by
    simp only [List.map_cons, prT, pairsD, keyD, if_true, pairs_T l]
    rfl
theorem merge_T : ∀ (l m : List (Str × α)), ((m ++ l).map (·.1)).Nodup → mergeD (m.map (prK e)) (l.map (prK e)) = (m ++ l).map (prK e)
  | [], m, _ => by simp [mergeD]
  | p :: l, m, nd => by
    have hn : ((m.map (prK e)).any fun q => PyData.eqv q.1 (prK e p).1) = false := by
      rw [List.any_eq_false]
      intro q hq
      obtain ⟨p', hp', rfl⟩ := List.mem_map.1 hq
      simp only [prK, eqv_str]
      intro z
      have z := eq_of_beq z
      simp only [List.map_append, List.map_cons] at nd
      exact (List.nodup_append.1 nd).2.2 p'.1 (List.mem_map_of_mem hp') p.1 (List.mem_cons_self ..) z
    have : mergeD (m.map (prK e)) ((p :: l).map (prK e)) = mergeD ((m ++ [p]).map (prK e)) (l.map (prK e)) := by
      simp only [mergeD, List.map_cons, List.foldl_cons, putD, hn, Bool.false_eq_true, if_false, List.map_append, List.map_nil]
    rw [this, merge_T l (m ++ [p]) (by simpa using nd)]
    simp
theorem look_T : ∀ (l : List (Str × α)) (p : Str × α), (l.map (·.1)).Nodup → p ∈ l → lookD (l.map (prK e)) (.str p.1) = some (e p.2)
  | [], _, _, h => by cases h
  | q :: l, p, nd, h => by
    simp only [List.map_cons, List.nodup_cons] at nd ⊢
    unfold prK lookD
    rw [eqv_str]
    by_cases z : q.1 = p.1
    · rw [if_pos (by simpa using z)]
      rcases List.mem_cons.1 h with rfl | h
      · rfl
      · exact absurd (List.mem_map_of_mem h) (z ▸ nd.1)
    · rw [if_neg (by simpa using z)]
      rcases List.mem_cons.1 h with rfl | h
      · exact absurd rfl z
      · exact look_T l p nd.2 h
theorem dict_T {l : List (Str × α)} (nd : (l.map (·.1)).Nodup) : gDict [.tuple (l.map (prT e))] = some (.dict (l.map (prK e))) := by
  simp only [gDict, pairs_T, Option.map_some]
  rw [show ([] : List (Wd × Wd)) = ([] : List (Str × α)).map (prK e) from rfl, merge_T l [] (by simpa using nd)]
  rfl
theorem find_T : ∀ (l : List (Str × α)) (n : Nat) (p : Str × α), (l.map (·.1)).Nodup → p ∈ l → ∃ i, findD (.str p.1) (l.map fun p => .str p.1) n = some (n + i) ∧ l[i]? = some p
  | [], _, _, _, h => by cases h
  | q :: l, n, p, nd, h => by
    simp only [List.map_cons, List.nodup_cons] at nd ⊢
    unfold findD
    rw [eqv_str]
    by_cases z : q.1 = p.1
    · rw [if_pos (by simpa using z)]
      refine ⟨0, rfl, ?_⟩
      rcases List.mem_cons.1 h with rfl | h
      · rfl
      · exact absurd (List.mem_map_of_mem h) (z ▸ nd.1)
    · rw [if_neg (by simpa using z)]
      rcases List.mem_cons.1 h with rfl | h
      · exact absurd rfl z
      · obtain ⟨i, h1, h2⟩ := find_T l (n + 1) p nd.2 h
        exact ⟨i + 1, by rw [h1]; congr 1; omega, h2⟩
end
theorem atI_end {α : Type} {xs : List α} {l : α} (h : xs.getLast? = some l) : atI xs (-1) = some l := by
  obtain ⟨i, rfl⟩ := List.getLast?_eq_some_iff.1 h
  exact atI_last _ _
theorem Sz.sub {n k : Nat} {d : Wd} {xs : List Wd} (h : Sz n (k + 1) (.tuple xs)) (hd : d ∈ xs) : Sz n k d := by
  have hs := h.sh
  have hc := h.cl
  have hdp := h.dp
  have hl := h.ls
  have hw := h.wt
  simp only [PyData.showable, PyData.canLay0, PyData.depth, PyData.leavesShort, PyData.weight] at hs hc hdp hl hw
  clear h
  induction xs with
  | nil => cases hd
  | cons x xs ih =>
    simp only [PyData.showableAll, PyData.canLayAll0, PyData.depthAll, PyData.leavesShortAll, PyData.weightAll, Bool.and_eq_true] at hs hc hdp hl hw
    rcases List.mem_cons.1 hd with rfl | hd
    · exact ⟨hs.1, hc.1, by omega, hl.1, by omega⟩
    · exact ih hd hs.2 hc.2 (by omega) hl.2 (by omega)
instance {n k : Nat} {d : Wd} : Decidable (Sz n k d) := decidable_of_iff (d.showable = true ∧ d.canLay0 = true ∧ d.depth ≤ k ∧ d.leavesShort 13 = true ∧ d.weight ≤ n) ⟨fun ⟨a, b, c, e, f⟩ => ⟨a, b, c, e, f⟩, fun ⟨a, b, c, e, f⟩ => ⟨a, b, c, e, f⟩⟩
theorem mem2 {P : Wd → Prop} {a b : Wd} (ha : P a) (hb : P b) : ∀ x ∈ [a, b], P x := by
  intro x hx
  simp only [List.mem_cons, List.mem_nil_iff, or_false] at hx
  rcases hx with rfl | rfl
  · exact ha
  · exact hb
theorem mem3 {P : Wd → Prop} {a b c : Wd} (ha : P a) (hb : P b) (hc : P c) : ∀ x ∈ [a, b, c], P x := by
  intro x hx
  simp only [List.mem_cons, List.mem_nil_iff, or_false] at hx
  rcases hx with rfl | rfl | rfl
  · exact ha
  · exact hb
  · exact hc
theorem szName {x : Str} (h : PyData.strOk x = true) (hl : x.cps.size ≤ 30) : Sz 30 0 (.str x) := Sz.str h hl
end DL
namespace DL
open PySem PySem.Spec PyProof.Rows L2
class Stp (G : Prop) (H : outParam Prop) : Prop where
  prf : H → G
theorem zq14 {G H : Prop} [s : Stp G H] (h : H) : G := s.prf h
section
variable {N : Ev → Sto → Prop} {Rt : Wd → Sto → Prop} {ρ : Ev} {S : Sto} {Q : Wd → Sto → Prop} {Qb : Bool → Sto → Prop} {Qs : List Wd → Sto → Prop} {Qo : Option Int → Sto → Prop}
instance iw_set {i : Nat} {f : Mx} : Stp (wpS (sSet i f ρ S) N Rt) (wpE (f ρ S) fun w S1 => N (ρ.set i (some (.val w))) S1) := ⟨w_set⟩
instance iw_ret {f : Mx} : Stp (wpS (sRet f ρ S) N Rt) (wpE (f ρ S) Rt) := ⟨w_ret⟩
instance iw_expr {f : Mx} : Stp (wpS (sExpr f ρ S) N Rt) (wpE (f ρ S) fun _ S1 => N ρ S1) := ⟨w_expr⟩
instance iw_ifS {t : Mt} {m m' : Ms} : Stp (wpS (sIf t m m' ρ S) N Rt) (wpE (t ρ S) fun b S1 => if b = true then wpS (m ρ S1) N Rt else wpS (m' ρ S1) N Rt) := ⟨w_ifS⟩
instance iw_asg {g : Mg} {f : Mx} : Stp (wpS (sAsg g f ρ S) N Rt) (wpE (f ρ S) fun w S1 => wpO (g w ρ) fun ρ' => N ρ' S1) := ⟨w_asg⟩
instance iw_own {i : Nat} {fs : Ma} : Stp (wpS (sOwn i fs ρ S) N Rt) (wpE (fs ρ S) fun ws S1 => ws.length ≤ sizeLine ∧ N (ρ.set i (some (.own ws))) S1) := ⟨w_own⟩
instance iw_par {i j : Nat} {f g : Mx} : Stp (wpS (sPar i j (aCons f (aCons g aNil)) ρ S) N Rt) (wpE (f ρ S) fun v S1 => wpE (g ρ S1) fun w S2 => N ((ρ.set i (some (.val v))).set j (some (.val w))) S2) := ⟨w_par⟩
instance iw_parO {i j : Nat} {f : Mx} : Stp (wpS (sParO i j f ρ S) N Rt) (wpE (f ρ S) fun w S1 => N ((ρ.set j (some (.val w))).set i (some (.own []))) S1) := ⟨w_parO⟩
instance iw_frz {i : Nat} {m : Ms} : Stp (wpS (sFrz i m ρ S) N Rt) (wpS (m (frzE i ρ) S) N Rt) := ⟨w_frz⟩
instance iw_nil  : Stp (wpS (sNil ρ S) N Rt) (N ρ S) := ⟨w_nil⟩
instance iw_for {fi : Mi} {g : Mg} {m : Ms} : Stp (wpS (sFor fi g m ρ S) N Rt) (wpE (fi ρ S) fun ws S1 => wpS (forLoop g m ws ρ S1) N Rt) := ⟨w_for⟩
instance iw_C {w : Wd} : Stp (wpE (mC w ρ S) Q) (Q w S) := ⟨w_C⟩
instance iw_bin {g : Wd → Wd → Option Wd} {fa fb : Mx} : Stp (wpE (mBin g fa fb ρ S) Q) (wpE (fa ρ S) fun x S1 => wpE (fb ρ S1) fun y S2 => wpO (g x y) fun w => Q w S2) := ⟨w_bin⟩
instance iw_un {g : Wd → Option Wd} {fa : Mx} : Stp (wpE (mUn g fa ρ S) Q) (wpE (fa ρ S) fun x S1 => wpO (g x) fun w => Q w S1) := ⟨w_un⟩
instance iw_CB {g : List Wd → Option Wd} {fs : Ma} : Stp (wpE (mCB g fs ρ S) Q) (wpE (fs ρ S) fun x S1 => wpO (g x) fun w => Q w S1) := ⟨w_CB⟩
instance iw_ix {fa fb : Mx} : Stp (wpE (mIx fa fb ρ S) Q) (wpE (fa ρ S) fun x S1 => wpE (fb ρ S1) fun y S2 => wpO (gIx S2 x y) fun w => Q w S2) := ⟨w_ix⟩
instance iw_and {fa fb : Mx} : Stp (wpE (mAnd fa fb ρ S) Q) (wpE (fa ρ S) fun x S1 => wpO (truD x) fun b => if b = true then wpE (fb ρ S1) Q else Q x S1) := ⟨w_and⟩
instance iw_not {fa : Mx} : Stp (wpE (mNot fa ρ S) Q) (wpE (fa ρ S) fun x S1 => wpO (truD x) fun b => Q (.bool (!b)) S1) := ⟨w_not⟩
instance iw_if {t : Mt} {fa fb : Mx} : Stp (wpE (mIf t fa fb ρ S) Q) (wpE (t ρ S) fun b S1 => if b = true then wpE (fa ρ S1) Q else wpE (fb ρ S1) Q) := ⟨w_if⟩
instance iw_tru {f : Mx} : Stp (wpE (mTru f ρ S) Qb) (wpE (f ρ S) fun x S1 => wpO (truD x) fun b => Qb b S1) := ⟨w_tru⟩
instance iw_andT {t u : Mt} : Stp (wpE (mAndT t u ρ S) Qb) (wpE (t ρ S) fun b S1 => if b = true then wpE (u ρ S1) Qb else Qb false S1) := ⟨w_andT⟩
instance iw_orT {t u : Mt} : Stp (wpE (mOrT t u ρ S) Qb) (wpE (t ρ S) fun b S1 => if b = true then Qb true S1 else wpE (u ρ S1) Qb) := ⟨w_orT⟩
instance iw_notT {t : Mt} : Stp (wpE (mNotT t ρ S) Qb) (wpE (t ρ S) fun b S1 => Qb (!b) S1) := ⟨w_notT⟩
instance iw_true  : Stp (wpE (tTrue ρ S) Qb) (Qb true S) := ⟨w_true⟩
instance iw_aNil  : Stp (wpE (aNil ρ S) Qs) (Qs [] S) := ⟨w_aNil⟩
instance iw_aCons {f : Mx} {fs : Ma} : Stp (wpE (aCons f fs ρ S) Qs) (wpE (f ρ S) fun x S1 => wpE (fs ρ S1) fun xs S2 => Qs (x :: xs) S2) := ⟨w_aCons⟩
instance iw_lst {fs : Ma} : Stp (wpE (mLst fs ρ S) Q) (wpE (fs ρ S) fun ws S1 => ws.length ≤ sizeLine ∧ Q (.list ws) S1) := ⟨w_lst⟩
instance iw_tup {fs : Ma} : Stp (wpE (mTup fs ρ S) Q) (wpE (fs ρ S) fun ws S1 => ws.length ≤ sizeLine ∧ Q (.tuple ws) S1) := ⟨w_tup⟩
instance iw_oNone  : Stp (wpE (oNone ρ S) Qo) (Qo none S) := ⟨w_oNone⟩
instance iw_oSome {f : Mx} : Stp (wpE (oSome f ρ S) Qo) (wpE (f ρ S) fun w S1 => ∃ i, w = .int i ∧ Qo (some i) S1) := ⟨w_oSome⟩
instance iw_sl {f : Mx} {lo hi : Mo} : Stp (wpE (mSl f lo hi ρ S) Q) (wpE (f ρ S) fun x S1 => wpE (lo ρ S1) fun l S2 => wpE (hi ρ S2) fun u S3 => wpO (gSl l u x) fun w => Q w S3) := ⟨w_sl⟩
instance iw_rec {names : List Str} {fs : Ma} : Stp (wpE (mRec names fs ρ S) Q) (wpE (fs ρ S) fun ws S1 => Q (oW S1.length) (S1 ++ [.dct (names.zip ws)])) := ⟨w_rec⟩
instance iw_call {g : Gd} {fs : Ma} : Stp (wpE (mCall g fs ρ S) Q) (wpE (fs ρ S) fun ws S1 => wpE (g ws S1) Q) := ⟨w_call⟩
instance iw_lc {vs : List Nat} {fi : Mi} {g : Mg} {t : Mt} {fe : Mx} : Stp (wpE (mLc vs fi g t fe ρ S) Q) (wpE (fi ρ S) fun ws S1 => wpE (lcLoop g t fe (wipeE ρ vs) ws [] S1) fun acc S2 => Q (.list acc) S2) := ⟨w_lc⟩
instance iw_iSeq {f : Mx} : Stp (wpE (iSeq f ρ S) Qs) (wpE (f ρ S) fun w S1 => wpO (itemsD w) fun ws => Qs ws S1) := ⟨w_iSeq⟩
instance iw_range1 {f : Mx} : Stp (wpE (iRange1 (aCons f aNil) ρ S) Qs) (wpE (f ρ S) fun w S1 => ∃ j, w = .int j ∧ (-(2 ^ 62) ≤ j ∧ j < 2 ^ 62) ∧ Qs (rangeD 0 j.toNat) S1) := ⟨w_range1⟩
instance iw_range2 {f f' : Mx} : Stp (wpE (iRange2 (aCons f (aCons f' aNil)) ρ S) Qs) (wpE (f ρ S) fun w S1 => wpE (f' ρ S1) fun w' S2 => ∃ i j, w = .int i ∧ w' = .int j ∧ ((-(2 ^ 62) ≤ i ∧ i < 2 ^ 62) ∧ -(2 ^ 62) ≤ j ∧ j < 2 ^ 62) ∧ Qs (rangeD i (j - i).toNat) S2) := ⟨w_range2⟩
instance iw_iStr {f : Mx} : Stp (wpE (iStr f ρ S) Qs) (wpE (f ρ S) fun w S1 => ∃ y, w = .str y ∧ Qs (signsD y) S1) := ⟨w_iStr⟩
instance iw_ok {α : Type} {a : α} {Q : α → Sto → Prop} : Stp (wpE (.ok a S) Q) (Q a S) := ⟨w_ok⟩
instance iw_t {A B : Prop} : Stp (if true = true then A else B) (A) := ⟨w_t⟩
instance iw_f {A B : Prop} : Stp (if false = true then A else B) (B) := ⟨w_f⟩
instance iwf_turn {c : List Int} {a l t i : Int} {S0 : Sto} {k : Sto → Prop} : Stp (oW 0 = oW 0 ∧ wpO (recPut (feedR c a l t :: S0) 0 "turn" (.int i)) k) (k (feedR c a l i :: S0)) := ⟨wf_turn⟩
instance iwf_left {c : List Int} {a l t i : Int} {S0 : Sto} {k : Sto → Prop} : Stp (oW 0 = oW 0 ∧ wpO (recPut (feedR c a l t :: S0) 0 "left" (.int i)) k) (k (feedR c a i t :: S0)) := ⟨wf_left⟩
instance iwf_at {c : List Int} {a l t i : Int} {S0 : Sto} {k : Sto → Prop} : Stp (oW 0 = oW 0 ∧ wpO (recPut (feedR c a l t :: S0) 0 "at" (.int i)) k) (k (feedR c i l t :: S0)) := ⟨wf_at⟩
instance iwo_cells {k : Wd → Prop} {c : List Int} : Stp (wpO (gEq (.list (c.map PyData.int)) (.list [])) k) (k (.bool c.isEmpty)) := ⟨wo_cells⟩
instance iwo_le {i j : Int} {k : Wd → Prop} : Stp (wpO (gLe (.int i) (.int j)) k) (k (.bool (decide (i ≤ j)))) := ⟨wo_le⟩
instance iwo_lt {i j : Int} {k : Wd → Prop} : Stp (wpO (gLt (.int i) (.int j)) k) (k (.bool (decide (i < j)))) := ⟨wo_lt⟩
instance iwo_ge {i j : Int} {k : Wd → Prop} : Stp (wpO (gGe (.int i) (.int j)) k) (k (.bool (decide (j ≤ i)))) := ⟨wo_ge⟩
instance iwo_gt {i j : Int} {k : Wd → Prop} : Stp (wpO (gGt (.int i) (.int j)) k) (k (.bool (decide (j < i)))) := ⟨wo_gt⟩
instance iwo_eqi {i j : Int} {k : Wd → Prop} : Stp (wpO (gEq (.int i) (.int j)) k) (k (.bool (decide (i = j)))) := ⟨wo_eqi⟩
instance iwo_nei {i j : Int} {k : Wd → Prop} : Stp (wpO (gNe (.int i) (.int j)) k) (k (.bool (!decide (i = j)))) := ⟨wo_nei⟩
instance iw_enAp {f : Mx} : Stp (wpE (iEnumA (aCons f aNil) ρ S) Qs) (wpE (f ρ S) fun w S1 => wpO (itemsD w) fun ys => Qs (enumD 0 ys) S1) := ⟨w_enA'⟩
instance iw_starp {f : Mx} {fs : Ma} : Stp (wpE (aStar f fs ρ S) Qs) (wpE (f ρ S) fun w S1 => wpO (itemsD w) fun xs => wpE (fs ρ S1) fun ys S2 => Qs (xs ++ ys) S2) := ⟨w_star'⟩
instance iw_wh {t : Mt} {m : Ms} {fuel : Ev → Sto → Nat} : Stp (wpS (sWhile fuel t m ρ S) N Rt) (wpS (whLoop t m (fuel ρ S) ρ S) N Rt) := ⟨w_wh⟩
instance iw_map0  : Stp (wpE (mMap0 ρ S) Q) (Q (oW S.length) (S ++ [.tdc []])) := ⟨w_map0⟩
instance iw_ixT {fa fb : Mx} : Stp (wpE (mIxT fa fb ρ S) Q) (wpE (fa ρ S) fun x S1 => wpE (fb ρ S1) fun y S2 => wpO (recGetT S2 x y) fun w => Q w S2) := ⟨w_ixT⟩
instance iw_putT {fo fk f : Mx} : Stp (wpS (sPutT fo fk f ρ S) N Rt) (wpE (f ρ S) fun w S1 => wpE (fo ρ S1) fun o S2 => wpE (fk ρ S2) fun k S3 => wpO (recPutT S3 o k w) fun S4 => N ρ S4) := ⟨w_putT⟩
instance iw_dc {vs : List Nat} {fi : Mi} {g : Mg} {t : Mt} {fk fv : Mx} : Stp (wpE (mDc vs fi g t fk fv ρ S) Q) (wpE (fi ρ S) fun ws S1 => wpE (dcLoop g t fk fv (wipeE ρ vs) ws [] S1) fun acc S2 => Q (.dict acc) S2) := ⟨w_dc⟩
theorem zq11 {i : Nat} {w : Wd} (h : Q w S) (e : ρ[i]? = some (some (.val w)) := by with_unfolding_all rfl) : wpE (mV i ρ S) Q := w_V e h
theorem zq0 {i : Nat} {f : Mx} {ws : List Wd} (q : wpE (f ρ S) fun w S1 => ws.length < sizeLine ∧ N (ρ.set i (some (.own (ws ++ [w])))) S1) (h : ρ[i]? = some (some (.own ws)) := by with_unfolding_all rfl) : wpS (sApp i f ρ S) N Rt := w_app h q
theorem zq8 {fo : Mx} {x : Str} {f : Mx} (h : wpE (f ρ S) fun w S1 => wpE (fo ρ S1) fun o S2 => o = oW 0 ∧ wpO (recPut S2 0 x w) fun S3 => N ρ S3) : wpS (sPut fo x f ρ S) N Rt := w_put h
theorem zq10 {b : Bool} {A B : Prop} (h : A) (e : b = true := by with_unfolding_all rfl) : if b = true then A else B := w_bt e h
theorem zq3 {b : Bool} {A B : Prop} (h : B) (e : b = false := by with_unfolding_all rfl) : if b = true then A else B := w_bf e h
theorem zq5 {A : Prop} {ws : List Wd} (h : A) (e : decide (ws.length ≤ sizeLine) = true := by with_unfolding_all rfl) : ws.length ≤ sizeLine ∧ A := w_len h e
theorem zq6 {i j : Int} {k : Wd → Prop} (q : k (.int (i % j))) (h : 0 < j := by with_unfolding_all first | assumption | decide | omega) : wpO (gMod (.int i) (.int j)) k := wo_mod h q
theorem zq1 {i j : Int} {k : Wd → Prop} (q : k (.int (i / j))) (h : 0 < j := by with_unfolding_all first | assumption | decide | omega) (h1 : j < 1073741824 := by with_unfolding_all first | assumption | decide | omega) : wpO (gDiv (.int i) (.int j)) k := wo_div h h1 q
theorem zq13 {i j : Int} {k : Wd → Prop} (q : k (.int (i * j))) (h : (-(2 ^ 64) < i ∧ i < 2 ^ 64) ∨ (-(2 ^ 64) < j ∧ j < 2 ^ 64) := by with_unfolding_all first | exact Or.inl ⟨by decide, by decide⟩ | exact Or.inr ⟨by decide, by decide⟩ | exact Or.inl ⟨by omega, by omega⟩ | exact Or.inr ⟨by omega, by omega⟩) : wpO (gMul (.int i) (.int j)) k := wo_mul h q
theorem zq12 {i j : Int} {k : Wd → Prop} (q : k (.int (i ^ j.toNat))) (h : 0 ≤ j ∧ j ≤ 1000000 ∧ i.natAbs < 2 ^ 64 := by with_unfolding_all exact ⟨by decide, by decide, by first | decide | omega⟩) : wpO (gPow (.int i) (.int j)) k := wo_pow h q
theorem zq7 {i : Nat} {ws : List Wd} (q : Q (.int ws.length) S) (h : ρ[i]? = some (some (.own ws)) := by with_unfolding_all rfl) : wpE (mLenO i ρ S) Q := w_lenO h q
theorem zq2 {i : Nat} {f : Mx} {ws : List Wd} (q : wpE (f ρ S) fun w S1 => wpO (listD w) fun zs => ws.length + zs.length ≤ sizeLine ∧ N (ρ.set i (some (.own (ws ++ zs)))) S1) (h : ρ[i]? = some (some (.own ws)) := by with_unfolding_all rfl) : wpS (sExt i f ρ S) N Rt := w_ext' h q
theorem zq9 {α : Type} {o : Option α} {w : α} {k : α → Prop} (q : k w) (h : o = some w := by with_unfolding_all rfl) : wpO o k := ⟨w, h, q⟩
theorem zq4 {i : Int} {k : Int → Prop} (h : k i) : ∃ j, (PyData.int i : Wd) = .int j ∧ k j := ⟨i, rfl, h⟩
end
end DL
namespace PL
open PySem PySem.Spec PyProof.Rows L2 DL
def oS : Option Str → Wd
  | none => .none
  | some x => .str x
def oI : Option Int → Wd
  | none => .none
  | some x => .int x
def encU (u : Int × Int) : Wd := .tuple [.int u.1, .int u.2]
def encUs (us : Us) : Wd := .tuple (us.map encU)
def encS (s : Int × Option Str) : Wd := .tuple [.int s.1, oS s.2]
def encSy (st : Sy) : Wd := .tuple (st.map encS)
abbrev encP : Str × Sy → Wd := prT encSy
abbrev encM : Str × Us → Wd := prT encUs
def jw : Bool → Str
  | false => "first"
  | true => "later"
mutual
def encL : Lim → Wd
  | .one w n => .tuple [.str w.str, .int n]
  | .join b ls => .tuple [.str (jw b), .tuple (encLs ls)]
def encLs : List Lim → List Wd
  | [] => []
  | l :: ls => encL l :: encLs ls
end
theorem encLs_map : ∀ ls : List Lim, encLs ls = ls.map encL
  | [] => rfl
  | l :: ls => by simp only [encLs, List.map_cons, encLs_map ls]
theorem encL_join {b : Bool} {ls : List Lim} : encL (.join b ls) = .tuple [.str (jw b), .tuple (ls.map encL)] := by rw [encL, encLs_map]
def encSl (a : Int × Int × Int) : Wd := .tuple [.int a.1, .int a.2.1, .int a.2.2]
def encJ (j : Job) : Wd := .tuple [.str j.nm, .str j.pt, .str j.wy, encL j.lim, encSl j.sl]
def encSite (s : Site) : Wd := .tuple [.tuple (s.mc.map encM), .tuple (s.parts.map encP), .tuple (s.jobs.map encJ)]
def LimB (lo hi : Int) : Nat → Lim → Prop
  | _, .one _ n => lo ≤ n ∧ n ≤ hi
  | 0, .join _ _ => False
  | k + 1, .join _ ls => ls ≠ [] ∧ ls.length ≤ 10 ∧ ∀ l ∈ ls, LimB lo hi k l
theorem LimB.mono {lo hi lo' hi' : Int} (h1 : lo' ≤ lo) (h2 : hi ≤ hi') : ∀ {k k' : Nat} {l : Lim}, k ≤ k' → LimB lo hi k l → LimB lo' hi' k' l
  | _, _, .one w n, _, h => by
    unfold LimB at h ⊢
    exact ⟨by omega, by omega⟩
  | 0, _, .join _ _, _, h => by
    unfold LimB at h
    exact h.elim
  | k + 1, 0, .join _ _, hk, _ => by omega
  | k + 1, k' + 1, .join b ls, hk, h => by
    unfold LimB at h ⊢
    exact ⟨h.1, h.2.1, fun l hl => LimB.mono h1 h2 (by omega) (h.2.2 l hl)⟩
theorem LimB.one_ {lo hi n : Int} {w : CW} {k : Nat} (h : LimB lo hi k (.one w n)) : lo ≤ n ∧ n ≤ hi := by unfold LimB at h; exact h
theorem LimB.join_ {lo hi : Int} {b : Bool} {ls : List Lim} {k : Nat} (h : LimB lo hi k (.join b ls)) : ∃ k', k = k' + 1 ∧ ls ≠ [] ∧ ls.length ≤ 10 ∧ ∀ l ∈ ls, LimB lo hi k' l := by
  cases k with
  | zero => unfold LimB at h; exact h.elim
  | succ k => unfold LimB at h; exact ⟨k, rfl, h⟩
theorem LimB.mk_one {lo hi n : Int} {w : CW} {k : Nat} (h : lo ≤ n ∧ n ≤ hi) : LimB lo hi k (.one w n) := by unfold LimB; exact h
theorem LimB.mk_join {lo hi : Int} {b : Bool} {ls : List Lim} {k : Nat} (h0 : ls ≠ []) (h1 : ls.length ≤ 10) (h : ∀ l ∈ ls, LimB lo hi k l) : LimB lo hi (k + 1) (.join b ls) := by unfold LimB; exact ⟨h0, h1, h⟩
theorem numsLeAll_of {M : Int} : ∀ {ls : List Lim}, (∀ l ∈ ls, numsLe M l) → numsLeAll M ls
  | [], _ => by simp only [numsLeAll]
  | l :: ls, h => by
    simp only [numsLeAll]
    exact ⟨h l (List.mem_cons_self ..), numsLeAll_of fun x hx => h x (List.mem_cons_of_mem _ hx)⟩
theorem LimB.nums {lo hi : Int} : ∀ {k : Nat} {l : Lim}, LimB lo hi k l → numsLe hi l
  | _, .one w n, h => by
    simp only [numsLe]
    exact h.one_.2
  | 0, .join _ _, h => by
    unfold LimB at h
    exact h.elim
  | k + 1, .join b ls, h => by
    unfold LimB at h
    simp only [numsLe]
    exact numsLeAll_of fun l hl => LimB.nums (h.2.2 l hl)
def usAt (us : Us) (d : Int) : Int × Int := us.getD (if (us.length : Int) - 1 < d then (us.length : Int) - 1 else d).toNat (0, 0)
def plc (st : Sy) (d : Int) : Option Str := (((st.filter fun s => decide (s.1 ≤ d)).map (·.2)).getLast?).join
def useD (U : Str → Us) (st : Sy) (d : Int) : Int × Int := match plc st d with
  | none => (0, 0)
  | some x => usAt (U x) d
def steady (U : Str → Us) (st : Sy) : Int := match st.getLast? with
  | some (b, none) => b
  | some (b, some x) => if ((U x).length : Int) - 1 > b then ((U x).length : Int) - 1 else b
  | none => 0
structure UsOk (us : Us) : Prop where
  ne : us ≠ []
  le : us.length ≤ 100
  bd : ∀ u ∈ us, (0 ≤ u.1 ∧ u.1 < 1000) ∧ 0 ≤ u.2 ∧ u.2 < 1000
instance {us : Us} : Decidable (UsOk us) := decidable_of_iff (us ≠ [] ∧ us.length ≤ 100 ∧ ∀ u ∈ us, (0 ≤ u.1 ∧ u.1 < 1000) ∧ 0 ≤ u.2 ∧ u.2 < 1000) ⟨fun ⟨a, b, c⟩ => ⟨a, b, c⟩, fun ⟨a, b, c⟩ => ⟨a, b, c⟩⟩
def Site.U (s : Site) (x : Str) : Us := (s.mc.lookup x).getD []
structure StOkP (s : Site) (st : Sy) : Prop where
  hd : ∃ p r, st = (0, p) :: r
  ln : st.length ≤ 1000
  up : ∀ q ∈ st, ∀ l, st.getLast? = some l → q.1 ≤ l.1
  nn : ∀ q ∈ st, 0 ≤ q.1 ∧ q.1 ≤ 1000
  us : ∀ q ∈ st, ∀ x, q.2 = some x → x ∈ s.mc.map (·.1)
section
variable {s : Site} {st : Sy} {d : Int}
theorem lookup_mem {α : Type} : ∀ {l : List (Str × α)} {x : Str}, x ∈ l.map (·.1) → ∃ u, l.lookup x = some u ∧ (x, u) ∈ l
  | [], _, h => by cases h
  | (y, v) :: l, x, h => by
    by_cases e : x = y
    · subst e
      exact ⟨v, by simp [List.lookup], List.mem_cons_self ..⟩
    · have h' : x ∈ l.map (·.1) := by
        simp only [List.map_cons, List.mem_cons] at h
        exact h.resolve_left e
      obtain ⟨u, h1, h2⟩ := lookup_mem h'
      refine ⟨u, ?_, List.mem_cons_of_mem _ h2⟩
      rw [List.lookup]
      have : (x == y) = false := by simpa using e
      rw [this]
      exact h1
theorem Site.U_mem (hu : ∀ m ∈ s.mc, UsOk m.2) {x : Str} (h : x ∈ s.mc.map (·.1)) : (x, s.U x) ∈ s.mc ∧ UsOk (s.U x) := by
  obtain ⟨u, h1, h2⟩ := lookup_mem h
  unfold Site.U
  rw [h1]
  exact ⟨h2, hu _ h2⟩
theorem plc_mem {x : Str} (h : plc st d = some x) : ∃ q ∈ st, q.2 = some x := by
  unfold plc at h
  cases hl : ((st.filter fun s => decide (s.1 ≤ d)).map (·.2)).getLast? with
  | none => rw [hl] at h; cases h
  | some p =>
    rw [hl] at h
    have := List.mem_of_getLast? hl
    obtain ⟨s, hs, e⟩ := List.mem_map.1 this
    exact ⟨s, (List.mem_filter.1 hs).1, by rw [e]; exact h⟩
theorem filter_all (h : ∀ s ∈ st, s.1 ≤ d) : st.filter (fun s => decide (s.1 ≤ d)) = st := List.filter_eq_self.2 fun s hs => decide_eq_true (h s hs)
theorem StOkP.ne (h : StOkP s st) : st ≠ [] := by
  obtain ⟨p, r, e⟩ := h.hd
  rw [e]
  exact List.cons_ne_nil _ _
theorem StOkP.last (h : StOkP s st) : ∃ l, st.getLast? = some l ∧ l ∈ st := ⟨_, List.getLast?_eq_some_getLast h.ne, List.getLast_mem _⟩
theorem steady_bd (h : StOkP s st) (hu : ∀ m ∈ s.mc, UsOk m.2) : 0 ≤ steady s.U st ∧ steady s.U st ≤ 1000 := by
  obtain ⟨l, hl, hm⟩ := h.last
  have hn := h.nn l hm
  unfold steady
  rw [hl]
  obtain ⟨b, p⟩ := l
  cases p with
  | none => exact hn
  | some x =>
    have := (Site.U_mem hu (h.us _ hm x rfl)).2.le
    simp only
    simp only at hn
    split <;> omega
theorem use_steady (h : StOkP s st) (hu : ∀ m ∈ s.mc, UsOk m.2) (hd : steady s.U st ≤ d) : useD s.U st d = useD s.U st (steady s.U st) := by
  obtain ⟨l, hl, hm⟩ := h.last
  have hb : l.1 ≤ steady s.U st := by
    unfold steady
    rw [hl]
    obtain ⟨b, p⟩ := l
    cases p with
    | none => exact Int.le_refl _
    | some x => simp only; split <;> omega
  have hp : ∀ d', steady s.U st ≤ d' → plc st d' = l.2 := fun d' h' => by
    unfold plc
    rw [filter_all fun q hq => by have := h.up q hq l hl; omega, List.getLast?_map, hl]
    rfl
  unfold useD
  rw [hp d hd, hp _ (Int.le_refl _)]
  obtain ⟨b, p⟩ := l
  cases p with
  | none => rfl
  | some x =>
    simp only
    have hx := (Site.U_mem hu (h.us _ hm x rfl)).2
    have h1 : 0 < (s.U x).length := List.length_pos_iff.2 hx.ne
    have h2 : ((s.U x).length : Int) - 1 ≤ steady s.U st := by
      unfold steady
      rw [hl]
      simp only
      split <;> omega
    unfold usAt
    have e1 : (if ((s.U x).length : Int) - 1 < d then ((s.U x).length : Int) - 1 else d) = ((s.U x).length : Int) - 1 := by split <;> omega
    have e2 : (if ((s.U x).length : Int) - 1 < steady s.U st then ((s.U x).length : Int) - 1 else steady s.U st) = ((s.U x).length : Int) - 1 := by split <;> omega
    rw [e1, e2]
theorem useBd {us : Us} (h : UsOk us) (d : Int) : (0 ≤ (usAt us d).1 ∧ (usAt us d).1 < 1000) ∧ 0 ≤ (usAt us d).2 ∧ (usAt us d).2 < 1000 := by
  unfold usAt
  rw [List.getD_eq_getElem?_getD]
  cases e : us[(if (us.length : Int) - 1 < d then (us.length : Int) - 1 else d).toNat]? with
  | none => decide
  | some u => exact h.bd u (List.mem_of_getElem? e)
theorem useDBd (h : StOkP s st) (hu : ∀ m ∈ s.mc, UsOk m.2) (d : Int) : (0 ≤ (useD s.U st d).1 ∧ (useD s.U st d).1 < 1000) ∧ 0 ≤ (useD s.U st d).2 ∧ (useD s.U st d).2 < 1000 := by
  unfold useD
  cases hx : plc st d with
  | none => simp only; decide
  | some x =>
    obtain ⟨q, hq, e⟩ := plc_mem hx
    exact useBd (Site.U_mem hu (h.us q hq x e)).2 d
def useF (U : Str → Us) (st : Sy) : Uf := fun d w => match w with
  | .hours => (useD U st d).1
  | .cycles => (useD U st d).2
  | .days => 1
theorem useF_ok (h : StOkP s st) (hu : ∀ m ∈ s.mc, UsOk m.2) : UF (useF s.U st) (steady s.U st) := by
  refine ⟨fun d w => ?_, fun d w => ?_, fun d => rfl, fun d w hd => ?_⟩
  · have := useDBd h hu d
    cases w <;> simp only [useF] <;> omega
  · have := useDBd h hu d
    cases w <;> simp only [useF] <;> omega
  · cases w <;> simp only [useF] <;> rw [use_steady h hu hd]
end
end PL
namespace WF
open PySem PySem.Spec PyProof.Rows L2 DL
end WF
namespace WF
open PySem PySem.Spec PyProof.Rows L2 DL
end WF
namespace WF
open PySem PySem.Spec PyProof.Rows L2 DL PL
def NameOk (x : Str) : Prop := ∀ S, g_is_name [.str x] S = .ok (.bool true) S
structure SiteOk (s : Site) : Prop where
  mnd : (s.mc.map (·.1)).Nodup
  mus : ∀ m ∈ s.mc, UsOk m.2
  mln : s.mc.length ≤ 1000
  pnd : (s.parts.map (·.1)).Nodup
  pln : s.parts.length ≤ 1000
  pst : ∀ p ∈ s.parts, StOkP s p.2
  pnm : ∀ p ∈ s.parts, NameOk p.1
  sz : Sz (2 ^ 18) 20 (encSite s)
section
variable {s : Site} {S : Sto} {st : Sy} {d lo hi : Int} {p : Str × Sy}
theorem SiteOk.uf (h : SiteOk s) (hp : p ∈ s.parts) : UF (useF s.U p.2) (steady s.U p.2) := useF_ok (h.pst p hp) h.mus
theorem part_names_eq (h : s.parts.length ≤ 1000) : g_part_names [encSite s] S = .ok (.list (s.parts.map fun p => .str p.1)) S := by
  refine wpR_ok (w_def rfl ?_)
  unfold m_part_names encSite
  (repeat (first | with_reducible refine zq15 ?_ | (with_reducible first | refine zq14 ?_ | refine zq11 ?_ | refine zq10 ?_ | refine zq3 ?_ | refine zq4 ?_ | refine zq5 ?_ | refine zq0 ?_ | refine zq8 ?_ | refine zq6 ?_ | refine zq1 ?_ | refine zq13 ?_ | refine zq12 ?_ | refine zq7 ?_ | refine zq2 ?_ | refine zq9 ?_)))
  exact lc_map (out := fun p => .str p.1) s.parts (by have := siz; omega) (fun x hx => ⟨_, rfl, rfl⟩) ⟨rfl, rfl⟩
theorem place_on_eq (h : StOkP s st) (hd : 0 ≤ d) : g_place_on [encSy st, .int d] S = .ok (oS (plc st d)) S := by
  refine wpR_ok (w_def rfl ?_)
  unfold m_place_on encSy
  (repeat (first | with_reducible refine zq15 ?_ | (with_reducible first | refine zq14 ?_ | refine zq11 ?_ | refine zq10 ?_ | refine zq3 ?_ | refine zq4 ?_ | refine zq5 ?_ | refine zq0 ?_ | refine zq8 ?_ | refine zq6 ?_ | refine zq1 ?_ | refine zq13 ?_ | refine zq12 ?_ | refine zq7 ?_ | refine zq2 ?_ | refine zq9 ?_)))
  refine w_eq (lc_pure (p := fun s => decide (s.1 ≤ d)) (out := fun s => oS s.2) st [] (by have := siz; have := h.ln; simp; omega) fun x hx => ⟨_, rfl, rfl, fun _ => rfl⟩) ?_
  (repeat (first | with_reducible refine zq15 ?_ | (with_reducible first | refine zq14 ?_ | refine zq11 ?_ | refine zq10 ?_ | refine zq3 ?_ | refine zq4 ?_ | refine zq5 ?_ | refine zq0 ?_ | refine zq8 ?_ | refine zq6 ?_ | refine zq1 ?_ | refine zq13 ?_ | refine zq12 ?_ | refine zq7 ?_ | refine zq2 ?_ | refine zq9 ?_)))
  have hne : st.filter (fun s => decide (s.1 ≤ d)) ≠ [] := by
    obtain ⟨p, r, e⟩ := h.hd
    rw [e]
    simp [hd]
  unfold plc
  generalize st.filter (fun s => decide (s.1 ≤ d)) = fs at hne
  obtain ⟨i, l, e⟩ : ∃ i l, fs = i ++ [l] := ⟨_, _, (List.dropLast_concat_getLast hne).symm⟩
  subst e
  refine ⟨oS l.2, ?_, ?_⟩
  · simp only [List.map_append, List.map_cons, List.map_nil, List.nil_append, gIx]
    exact atI_last _ _
  · simp
theorem use_on_eq {us : Us} (h : UsOk us) (hd : 0 ≤ d) : g_use_on [encUs us, .int d] S = .ok (encU (usAt us d)) S := by
  refine wpR_ok (w_def rfl ?_)
  unfold m_use_on encUs
  (repeat (first | with_reducible refine zq15 ?_ | (with_reducible first | refine zq14 ?_ | refine zq11 ?_ | refine zq10 ?_ | refine zq3 ?_ | refine zq4 ?_ | refine zq5 ?_ | refine zq0 ?_ | refine zq8 ?_ | refine zq6 ?_ | refine zq1 ?_ | refine zq13 ?_ | refine zq12 ?_ | refine zq7 ?_ | refine zq2 ?_ | refine zq9 ?_)))
  have hl : 0 < us.length := List.length_pos_iff.2 h.ne
  unfold usAt
  simp only [List.length_map]
  have h0 : 0 ≤ (if (us.length : Int) - 1 < d then (us.length : Int) - 1 else d) := by split <;> omega
  have h1 : (if (us.length : Int) - 1 < d then (us.length : Int) - 1 else d) < us.length := by split <;> omega
  generalize (if (us.length : Int) - 1 < d then (us.length : Int) - 1 else d) = i at h0 h1
  refine wpO_rfl (atI_in h0 (by simpa using h1)) ?_
  simp only [List.getElem_map, and_true]
  rw [List.getD_eq_getElem?_getD, List.getElem?_eq_getElem (by omega)]
  rfl
theorem mc_look (h : SiteOk s) {x : Str} (hx : x ∈ s.mc.map (·.1)) {S : Sto} : gIx S (.dict (s.mc.map (prK encUs))) (.str x) = some (encUs (s.U x)) :=
  gIx_look (look_T s.mc (x, s.U x) h.mnd (Site.U_mem h.mus hx).1)
theorem part_use_eq (h : SiteOk s) (hs : StOkP s st) (hd : 0 ≤ d) : g_part_use [encSite s, encSy st, .int d] S = .ok (encU (useD s.U st d)) S := by
  refine wpR_ok (w_def rfl ?_)
  unfold m_part_use
  (repeat (first | with_reducible refine zq15 ?_ | (with_reducible first | refine zq14 ?_ | refine zq11 ?_ | refine zq10 ?_ | refine zq3 ?_ | refine zq4 ?_ | refine zq5 ?_ | refine zq0 ?_ | refine zq8 ?_ | refine zq6 ?_ | refine zq1 ?_ | refine zq13 ?_ | refine zq12 ?_ | refine zq7 ?_ | refine zq2 ?_ | refine zq9 ?_)))
  refine w_eq (place_on_eq hs hd) ?_
  unfold useD
  cases hx : plc st d with
  | none =>
    (repeat (first | with_reducible refine zq15 ?_ | (with_reducible first | refine zq14 ?_ | refine zq11 ?_ | refine zq10 ?_ | refine zq3 ?_ | refine zq4 ?_ | refine zq5 ?_ | refine zq0 ?_ | refine zq8 ?_ | refine zq6 ?_ | refine zq1 ?_ | refine zq13 ?_ | refine zq12 ?_ | refine zq7 ?_ | refine zq2 ?_ | refine zq9 ?_)))
    exact ⟨rfl, rfl⟩
  | some x =>
    obtain ⟨q, hq, e⟩ := plc_mem hx
    have h1 := hs.us q hq x e
    (repeat (first | with_reducible refine zq15 ?_ | (with_reducible first | refine zq14 ?_ | refine zq11 ?_ | refine zq10 ?_ | refine zq3 ?_ | refine zq4 ?_ | refine zq5 ?_ | refine zq0 ?_ | refine zq8 ?_ | refine zq6 ?_ | refine zq1 ?_ | refine zq13 ?_ | refine zq12 ?_ | refine zq7 ?_ | refine zq2 ?_ | refine zq9 ?_)))
    refine wpO_rfl (dict_T (e := encUs) h.mnd) ?_
    (repeat (first | with_reducible refine zq15 ?_ | (with_reducible first | refine zq14 ?_ | refine zq11 ?_ | refine zq10 ?_ | refine zq3 ?_ | refine zq4 ?_ | refine zq5 ?_ | refine zq0 ?_ | refine zq8 ?_ | refine zq6 ?_ | refine zq1 ?_ | refine zq13 ?_ | refine zq12 ?_ | refine zq7 ?_ | refine zq2 ?_ | refine zq9 ?_)))
    refine wpO_rfl (mc_look h h1) ?_
    (repeat (first | with_reducible refine zq15 ?_ | (with_reducible first | refine zq14 ?_ | refine zq11 ?_ | refine zq10 ?_ | refine zq3 ?_ | refine zq4 ?_ | refine zq5 ?_ | refine zq0 ?_ | refine zq8 ?_ | refine zq6 ?_ | refine zq1 ?_ | refine zq13 ?_ | refine zq12 ?_ | refine zq7 ?_ | refine zq2 ?_ | refine zq9 ?_)))
    exact w_eq (use_on_eq (Site.U_mem h.mus h1).2 hd) ⟨rfl, rfl⟩
theorem steady_day_eq (h : SiteOk s) (hs : StOkP s st) : g_steady_day [encSite s, encSy st] S = .ok (.int (steady s.U st)) S := by
  refine wpR_ok (w_def rfl ?_)
  unfold m_steady_day
  (repeat (first | with_reducible refine zq15 ?_ | (with_reducible first | refine zq14 ?_ | refine zq11 ?_ | refine zq10 ?_ | refine zq3 ?_ | refine zq4 ?_ | refine zq5 ?_ | refine zq0 ?_ | refine zq8 ?_ | refine zq6 ?_ | refine zq1 ?_ | refine zq13 ?_ | refine zq12 ?_ | refine zq7 ?_ | refine zq2 ?_ | refine zq9 ?_)))
  obtain ⟨l, hl, hm⟩ := hs.last
  have hl2 : (st.map encS).getLast? = some (encS l) := by rw [List.getLast?_map, hl]; rfl
  refine wpO_rfl (atI_end hl2) ?_
  obtain ⟨b, p⟩ := l
  unfold steady
  rw [hl]
  cases p with
  | none =>
    (repeat (first | with_reducible refine zq15 ?_ | (with_reducible first | refine zq14 ?_ | refine zq11 ?_ | refine zq10 ?_ | refine zq3 ?_ | refine zq4 ?_ | refine zq5 ?_ | refine zq0 ?_ | refine zq8 ?_ | refine zq6 ?_ | refine zq1 ?_ | refine zq13 ?_ | refine zq12 ?_ | refine zq7 ?_ | refine zq2 ?_ | refine zq9 ?_)))
    exact ⟨rfl, rfl⟩
  | some x =>
    have h1 := hs.us _ hm x rfl
    (repeat (first | with_reducible refine zq15 ?_ | (with_reducible first | refine zq14 ?_ | refine zq11 ?_ | refine zq10 ?_ | refine zq3 ?_ | refine zq4 ?_ | refine zq5 ?_ | refine zq0 ?_ | refine zq8 ?_ | refine zq6 ?_ | refine zq1 ?_ | refine zq13 ?_ | refine zq12 ?_ | refine zq7 ?_ | refine zq2 ?_ | refine zq9 ?_)))
    refine wpO_rfl (dict_T (e := encUs) h.mnd) ?_
    (repeat (first | with_reducible refine zq15 ?_ | (with_reducible first | refine zq14 ?_ | refine zq11 ?_ | refine zq10 ?_ | refine zq3 ?_ | refine zq4 ?_ | refine zq5 ?_ | refine zq0 ?_ | refine zq8 ?_ | refine zq6 ?_ | refine zq1 ?_ | refine zq13 ?_ | refine zq12 ?_ | refine zq7 ?_ | refine zq2 ?_ | refine zq9 ?_)))
    refine wpO_rfl (mc_look h h1) ?_
    (repeat (first | with_reducible refine zq15 ?_ | (with_reducible first | refine zq14 ?_ | refine zq11 ?_ | refine zq10 ?_ | refine zq3 ?_ | refine zq4 ?_ | refine zq5 ?_ | refine zq0 ?_ | refine zq8 ?_ | refine zq6 ?_ | refine zq1 ?_ | refine zq13 ?_ | refine zq12 ?_ | refine zq7 ?_ | refine zq2 ?_ | refine zq9 ?_)))
    refine ⟨?_, rfl⟩
    simp only [List.length_map]
theorem names_shaped (h : SiteOk s) : SeqAt.shaped (.list (s.parts.map fun p => .str p.1)) = true := by
  have hs : ∀ x ∈ s.parts.map (fun p : Str × Sy => (PyData.str p.1 : Wd)), Sz (2 ^ 18) 17 x := fun x hx => by
    obtain ⟨p, hp, rfl⟩ := List.mem_map.1 hx
    have h1 : Sz (2 ^ 18) 19 (.tuple (s.parts.map encP)) := Sz.sub (k := 19) h.sz (by simp)
    have h2 : Sz (2 ^ 18) 18 (encP p) := Sz.sub (k := 18) h1 (List.mem_map_of_mem hp)
    exact Sz.sub (k := 17) h2 (by simp)
  exact (Sz.lst hs (Nat.le_refl _) (Nat.le_refl _)).shaped (by decide)
theorem name_shaped (h : SiteOk s) (hp : p ∈ s.parts) : SeqAt.shaped (.str p.1) = true := by
  have h1 : Sz (2 ^ 18) 19 (.tuple (s.parts.map encP)) := Sz.sub (k := 19) h.sz (by simp)
  have h2 : Sz (2 ^ 18) 18 (encP p) := Sz.sub (k := 18) h1 (List.mem_map_of_mem hp)
  have h3 : Sz (2 ^ 18) 17 (.str p.1) := Sz.sub (k := 17) h2 (by simp)
  exact h3.shaped (by decide)
theorem require_eq {w1 w2 : Wd} : g_require_usable [.bool true, w1, w2] S = .ok .none S := rfl
theorem index_eq (h : SiteOk s) (hp : p ∈ s.parts) {w1 : Wd} {i : Nat} (hi : findD (.str p.1) (s.parts.map fun p => .str p.1) 0 = some i) : g_index_among [.list (s.parts.map fun p => .str p.1), .str p.1, w1] S = .ok (.int i) S := by
  refine wpR_ok (w_def rfl ?_)
  unfold m_index_among
  (repeat (first | with_reducible refine zq15 ?_ | (with_reducible first | refine zq14 ?_ | refine zq11 ?_ | refine zq10 ?_ | refine zq3 ?_ | refine zq4 ?_ | refine zq5 ?_ | refine zq0 ?_ | refine zq8 ?_ | refine zq6 ?_ | refine zq1 ?_ | refine zq13 ?_ | refine zq12 ?_ | refine zq7 ?_ | refine zq2 ?_ | refine zq9 ?_)))
  refine w_eq (h.pnm p hp S) ?_
  (repeat (first | with_reducible refine zq15 ?_ | (with_reducible first | refine zq14 ?_ | refine zq11 ?_ | refine zq10 ?_ | refine zq3 ?_ | refine zq4 ?_ | refine zq5 ?_ | refine zq0 ?_ | refine zq8 ?_ | refine zq6 ?_ | refine zq1 ?_ | refine zq13 ?_ | refine zq12 ?_ | refine zq7 ?_ | refine zq2 ?_ | refine zq9 ?_)))
  refine wpO_rfl (w := .bool true) ?_ ?_
  · simp only [gIn]
    rw [if_pos ⟨name_shaped h hp, names_shaped h⟩]
    congr 2
    rw [List.any_eq_true]
    exact ⟨.str p.1, List.mem_map_of_mem (f := fun p : Str × Sy => (PyData.str p.1 : Wd)) hp, by rw [eqv_str]; exact beq_self_eq_true _⟩
  (repeat (first | with_reducible refine zq15 ?_ | (with_reducible first | refine zq14 ?_ | refine zq11 ?_ | refine zq10 ?_ | refine zq3 ?_ | refine zq4 ?_ | refine zq5 ?_ | refine zq0 ?_ | refine zq8 ?_ | refine zq6 ?_ | refine zq1 ?_ | refine zq13 ?_ | refine zq12 ?_ | refine zq7 ?_ | refine zq2 ?_ | refine zq9 ?_)))
  refine w_eq require_eq ?_
  (repeat (first | with_reducible refine zq15 ?_ | (with_reducible first | refine zq14 ?_ | refine zq11 ?_ | refine zq10 ?_ | refine zq3 ?_ | refine zq4 ?_ | refine zq5 ?_ | refine zq0 ?_ | refine zq8 ?_ | refine zq6 ?_ | refine zq1 ?_ | refine zq13 ?_ | refine zq12 ?_ | refine zq7 ?_ | refine zq2 ?_ | refine zq9 ?_)))
  refine wpO_rfl (w := .int i) ?_ ⟨rfl, rfl⟩
  simp only [gIndex]
  rw [if_pos ⟨names_shaped h, name_shaped h hp⟩, hi]
  rfl
theorem stays_of_eq (h : SiteOk s) (hp : p ∈ s.parts) : g_stays_of [encSite s, .str p.1] S = .ok (encSy p.2) S := by
  obtain ⟨i, h1, h2⟩ := find_T s.parts 0 p h.pnd hp
  rw [Nat.zero_add] at h1
  refine wpR_ok (w_def rfl ?_)
  unfold m_stays_of
  (repeat (first | with_reducible refine zq15 ?_ | (with_reducible first | refine zq14 ?_ | refine zq11 ?_ | refine zq10 ?_ | refine zq3 ?_ | refine zq4 ?_ | refine zq5 ?_ | refine zq0 ?_ | refine zq8 ?_ | refine zq6 ?_ | refine zq1 ?_ | refine zq13 ?_ | refine zq12 ?_ | refine zq7 ?_ | refine zq2 ?_ | refine zq9 ?_)))
  refine w_eq (part_names_eq h.pln) ?_
  (repeat (first | with_reducible refine zq15 ?_ | (with_reducible first | refine zq14 ?_ | refine zq11 ?_ | refine zq10 ?_ | refine zq3 ?_ | refine zq4 ?_ | refine zq5 ?_ | refine zq0 ?_ | refine zq8 ?_ | refine zq6 ?_ | refine zq1 ?_ | refine zq13 ?_ | refine zq12 ?_ | refine zq7 ?_ | refine zq2 ?_ | refine zq9 ?_)))
  refine w_eq (index_eq h hp h1) ?_
  have hl : i < s.parts.length := (List.getElem?_eq_some_iff.1 h2).1
  refine wpO_rfl (atI_in (Int.natCast_nonneg _) (by simpa using hl)) ?_
  have : s.parts[i] = p := (List.getElem?_eq_some_iff.1 h2).2
  simp only [List.getElem_map, Int.toNat_natCast, this]
  (repeat (first | with_reducible refine zq15 ?_ | (with_reducible first | refine zq14 ?_ | refine zq11 ?_ | refine zq10 ?_ | refine zq3 ?_ | refine zq4 ?_ | refine zq5 ?_ | refine zq0 ?_ | refine zq8 ?_ | refine zq6 ?_ | refine zq1 ?_ | refine zq13 ?_ | refine zq12 ?_ | refine zq7 ?_ | refine zq2 ?_ | refine zq9 ?_)))
  exact ⟨rfl, rfl⟩
theorem is_number_eq {i : Int} (h : 0 ≤ i) : g_is_number [.int i] S = .ok (.bool true) S := by
  refine wpR_ok (w_def rfl ?_)
  unfold m_is_number
  (repeat (first | with_reducible refine zq15 ?_ | (with_reducible first | refine zq14 ?_ | refine zq11 ?_ | refine zq10 ?_ | refine zq3 ?_ | refine zq4 ?_ | refine zq5 ?_ | refine zq0 ?_ | refine zq8 ?_ | refine zq6 ?_ | refine zq1 ?_ | refine zq13 ?_ | refine zq12 ?_ | refine zq7 ?_ | refine zq2 ?_ | refine zq9 ?_)))
  refine w_eq (a := .bool true) (S' := S) rfl ?_
  (repeat (first | with_reducible refine zq15 ?_ | (with_reducible first | refine zq14 ?_ | refine zq11 ?_ | refine zq10 ?_ | refine zq3 ?_ | refine zq4 ?_ | refine zq5 ?_ | refine zq0 ?_ | refine zq8 ?_ | refine zq6 ?_ | refine zq1 ?_ | refine zq13 ?_ | refine zq12 ?_ | refine zq7 ?_ | refine zq2 ?_ | refine zq9 ?_)))
  rw [decide_eq_true h]
  exact ⟨rfl, rfl⟩
theorem part_use_ix {w : CW} (hw : w ≠ .days) {k : Wd → Prop} (q : k (.int (useF s.U st d w))) :
    wpO (gIx S (encU (useD s.U st d)) (.int (if w = .hours then 0 else 1))) k := by
  cases w with
  | hours => exact ⟨_, rfl, q⟩
  | cycles => exact ⟨_, rfl, q⟩
  | days => exact absurd rfl hw
theorem plain_passing_eq (h : SiteOk s) (hs : StOkP s st) {n b : Int} {w : CW} (hb : 0 ≤ b) (hb1 : b ≤ 2000) : g_plain_passing [encSite s, encSy st, .str w.str, .int n, .int b] S = .ok (oI (fp (useF s.U st) (.one w n) b)) S := by
  have hu := useF_ok hs h.mus
  refine wpR_ok (w_def rfl ?_)
  unfold m_plain_passing
  (repeat (first | with_reducible refine zq15 ?_ | (with_reducible first | refine zq14 ?_ | refine zq11 ?_ | refine zq10 ?_ | refine zq3 ?_ | refine zq4 ?_ | refine zq5 ?_ | refine zq0 ?_ | refine zq8 ?_ | refine zq6 ?_ | refine zq1 ?_ | refine zq13 ?_ | refine zq12 ?_ | refine zq7 ?_ | refine zq2 ?_ | refine zq9 ?_)))
  refine w_b (fun hn => ?_) (fun hn => ?_)
  · (repeat (first | with_reducible refine zq15 ?_ | (with_reducible first | refine zq14 ?_ | refine zq11 ?_ | refine zq10 ?_ | refine zq3 ?_ | refine zq4 ?_ | refine zq5 ?_ | refine zq0 ?_ | refine zq8 ?_ | refine zq6 ?_ | refine zq1 ?_ | refine zq13 ?_ | refine zq12 ?_ | refine zq7 ?_ | refine zq2 ?_ | refine zq9 ?_)))
    rw [pp_neg (of_decide_eq_true hn)]
    exact ⟨rfl, rfl⟩
  have hn0 : 0 ≤ n := by have := of_decide_eq_false hn; omega
  (repeat (first | with_reducible refine zq15 ?_ | (with_reducible first | refine zq14 ?_ | refine zq11 ?_ | refine zq10 ?_ | refine zq3 ?_ | refine zq4 ?_ | refine zq5 ?_ | refine zq0 ?_ | refine zq8 ?_ | refine zq6 ?_ | refine zq1 ?_ | refine zq13 ?_ | refine zq12 ?_ | refine zq7 ?_ | refine zq2 ?_ | refine zq9 ?_)))
  by_cases hd : w = .days
  · subst hd
    (repeat (first | with_reducible refine zq15 ?_ | (with_reducible first | refine zq14 ?_ | refine zq11 ?_ | refine zq10 ?_ | refine zq3 ?_ | refine zq4 ?_ | refine zq5 ?_ | refine zq0 ?_ | refine zq8 ?_ | refine zq6 ?_ | refine zq1 ?_ | refine zq13 ?_ | refine zq12 ?_ | refine zq7 ?_ | refine zq2 ?_ | refine zq9 ?_)))
    rw [pp_days hu hn0]
    exact ⟨rfl, rfl⟩
  refine w_bf (by cases w <;> first | exact (hd rfl).elim | rfl) ?_
  (repeat (first | with_reducible refine zq15 ?_ | (with_reducible first | refine zq14 ?_ | refine zq11 ?_ | refine zq10 ?_ | refine zq3 ?_ | refine zq4 ?_ | refine zq5 ?_ | refine zq0 ?_ | refine zq8 ?_ | refine zq6 ?_ | refine zq1 ?_ | refine zq13 ?_ | refine zq12 ?_ | refine zq7 ?_ | refine zq2 ?_ | refine zq9 ?_)))
  refine wpO_rfl (w := .int (if w = .hours then 0 else 1)) (by cases w <;> first | exact (hd rfl).elim | rfl) ?_
  (repeat (first | with_reducible refine zq15 ?_ | (with_reducible first | refine zq14 ?_ | refine zq11 ?_ | refine zq10 ?_ | refine zq3 ?_ | refine zq4 ?_ | refine zq5 ?_ | refine zq0 ?_ | refine zq8 ?_ | refine zq6 ?_ | refine zq1 ?_ | refine zq13 ?_ | refine zq12 ?_ | refine zq7 ?_ | refine zq2 ?_ | refine zq9 ?_)))
  refine w_eq (steady_day_eq h hs) ?_
  (repeat (first | with_reducible refine zq15 ?_ | (with_reducible first | refine zq14 ?_ | refine zq11 ?_ | refine zq10 ?_ | refine zq3 ?_ | refine zq4 ?_ | refine zq5 ?_ | refine zq0 ?_ | refine zq8 ?_ | refine zq6 ?_ | refine zq1 ?_ | refine zq13 ?_ | refine zq12 ?_ | refine zq7 ?_ | refine zq2 ?_ | refine zq9 ?_)))
  generalize hT : (if steady s.U st > b then steady s.U st else b) = T
  have hT0 : b ≤ T ∧ steady s.U st ≤ T ∧ T ≤ 2000 := by
    have := steady_bd hs h.mus
    subst hT
    split <;> omega
  obtain ⟨hT1, hT2, hT3⟩ := hT0
  refine ⟨b, T, rfl, rfl, by omega, ?_⟩
  refine wp_for (I := fun r ρ S' => S' = S ∧ ∃ (i : Nat) (x : Option Sl), b + i + r.length = T ∧ r = rangeD (b + i) r.length ∧ cnt (useF s.U st) b (b + i) w ≤ n ∧
    ρ = [some (.val (encSite s)), some (.val (encSy st)), some (.val (.str w.str)), some (.val (.int n)), some (.val (.int b)), some (.val (.int (if w = .hours then 0 else 1))), some (.val (.int (cnt (useF s.U st) b (b + i) w))), some (.val (.int T)), x, none]) ?_ ?_ _ _ _
    ⟨rfl, 0, none, by simp [rangeD]; omega, by simp [rangeD], by rw [show b + ((0 : Nat) : Int) = b by omega, cnt_self]; exact hn0, by rw [show b + ((0 : Nat) : Int) = b by omega, cnt_self]; rfl⟩
  · rintro x r ρ S' ⟨rfl, i, y, hl, hr, hc, rfl⟩
    simp only [List.length_cons] at hl hr
    have hx : x = .int (b + i) ∧ r = rangeD (b + (i + 1 : Nat)) r.length := by
      unfold rangeD at hr
      rw [List.range_succ_eq_map, List.map_cons, List.map_map] at hr
      injection hr with h1 h2
      refine ⟨by rw [h1]; congr 1; simp, ?_⟩
      rw [h2]
      unfold rangeD
      simp only [List.length_map, List.length_range]
      refine List.map_congr_left fun j _ => ?_
      simp only [Function.comp]
      congr 1
      omega
    obtain ⟨rfl, hr2⟩ := hx
    refine ⟨_, rfl, ?_⟩
    (repeat (first | with_reducible refine zq15 ?_ | (with_reducible first | refine zq14 ?_ | refine zq11 ?_ | refine zq10 ?_ | refine zq3 ?_ | refine zq4 ?_ | refine zq5 ?_ | refine zq0 ?_ | refine zq8 ?_ | refine zq6 ?_ | refine zq1 ?_ | refine zq13 ?_ | refine zq12 ?_ | refine zq7 ?_ | refine zq2 ?_ | refine zq9 ?_)))
    refine w_eq (part_use_eq h hs (by omega)) ?_
    (repeat (first | with_reducible refine zq15 ?_ | (with_reducible first | refine zq14 ?_ | refine zq11 ?_ | refine zq10 ?_ | refine zq3 ?_ | refine zq4 ?_ | refine zq5 ?_ | refine zq0 ?_ | refine zq8 ?_ | refine zq6 ?_ | refine zq1 ?_ | refine zq13 ?_ | refine zq12 ?_ | refine zq7 ?_ | refine zq2 ?_ | refine zq9 ?_)))
    refine part_use_ix hd ?_
    (repeat (first | with_reducible refine zq15 ?_ | (with_reducible first | refine zq14 ?_ | refine zq11 ?_ | refine zq10 ?_ | refine zq3 ?_ | refine zq4 ?_ | refine zq5 ?_ | refine zq0 ?_ | refine zq8 ?_ | refine zq6 ?_ | refine zq1 ?_ | refine zq13 ?_ | refine zq12 ?_ | refine zq7 ?_ | refine zq2 ?_ | refine zq9 ?_)))
    have hsu := cnt_succ (u := useF s.U st) (b := b) (d := b + i) (w := w) (by omega)
    refine w_b (fun hg => ?_) (fun hg => ?_)
    · (repeat (first | with_reducible refine zq15 ?_ | (with_reducible first | refine zq14 ?_ | refine zq11 ?_ | refine zq10 ?_ | refine zq3 ?_ | refine zq4 ?_ | refine zq5 ?_ | refine zq0 ?_ | refine zq8 ?_ | refine zq6 ?_ | refine zq1 ?_ | refine zq13 ?_ | refine zq12 ?_ | refine zq7 ?_ | refine zq2 ?_ | refine zq9 ?_)))
      have hg := of_decide_eq_true hg
      rw [pp_in hu (d := b + i) (by omega) hc (by omega)]
      exact ⟨rfl, rfl⟩
    · (repeat (first | with_reducible refine zq15 ?_ | (with_reducible first | refine zq14 ?_ | refine zq11 ?_ | refine zq10 ?_ | refine zq3 ?_ | refine zq4 ?_ | refine zq5 ?_ | refine zq0 ?_ | refine zq8 ?_ | refine zq6 ?_ | refine zq1 ?_ | refine zq13 ?_ | refine zq12 ?_ | refine zq7 ?_ | refine zq2 ?_ | refine zq9 ?_)))
      have hg := of_decide_eq_false hg
      refine ⟨rfl, i + 1, some (.val (.int (b + i))), by omega, hr2, ?_, ?_⟩
      · rw [show b + ((i + 1 : Nat) : Int) = b + i + 1 by omega, hsu]
        omega
      · rw [show b + ((i + 1 : Nat) : Int) = b + i + 1 by omega, hsu]
        rfl
  · rintro ρ S' ⟨rfl, i, y, hl, hr, hc, rfl⟩
    have hi : b + i = T := by simpa using hl
    rw [hi] at hc ⊢
    (repeat (first | with_reducible refine zq15 ?_ | (with_reducible first | refine zq14 ?_ | refine zq11 ?_ | refine zq10 ?_ | refine zq3 ?_ | refine zq4 ?_ | refine zq5 ?_ | refine zq0 ?_ | refine zq8 ?_ | refine zq6 ?_ | refine zq1 ?_ | refine zq13 ?_ | refine zq12 ?_ | refine zq7 ?_ | refine zq2 ?_ | refine zq9 ?_)))
    refine w_eq (part_use_eq h hs (by omega)) ?_
    (repeat (first | with_reducible refine zq15 ?_ | (with_reducible first | refine zq14 ?_ | refine zq11 ?_ | refine zq10 ?_ | refine zq3 ?_ | refine zq4 ?_ | refine zq5 ?_ | refine zq0 ?_ | refine zq8 ?_ | refine zq6 ?_ | refine zq1 ?_ | refine zq13 ?_ | refine zq12 ?_ | refine zq7 ?_ | refine zq2 ?_ | refine zq9 ?_)))
    refine part_use_ix hd ?_
    (repeat (first | with_reducible refine zq15 ?_ | (with_reducible first | refine zq14 ?_ | refine zq11 ?_ | refine zq10 ?_ | refine zq3 ?_ | refine zq4 ?_ | refine zq5 ?_ | refine zq0 ?_ | refine zq8 ?_ | refine zq6 ?_ | refine zq1 ?_ | refine zq13 ?_ | refine zq12 ?_ | refine zq7 ?_ | refine zq2 ?_ | refine zq9 ?_)))
    rw [pp_end hu hT1 hT2 hc]
    have hp := hu.pos T w
    have hp1 := hu.bd T w
    refine w_b (fun hg => ?_) (fun hg => ?_)
    · (repeat (first | with_reducible refine zq15 ?_ | (with_reducible first | refine zq14 ?_ | refine zq11 ?_ | refine zq10 ?_ | refine zq3 ?_ | refine zq4 ?_ | refine zq5 ?_ | refine zq0 ?_ | refine zq8 ?_ | refine zq6 ?_ | refine zq1 ?_ | refine zq13 ?_ | refine zq12 ?_ | refine zq7 ?_ | refine zq2 ?_ | refine zq9 ?_)))
      rw [if_pos (of_decide_eq_true hg)]
      exact ⟨rfl, rfl⟩
    · have hg := of_decide_eq_false hg
      rw [if_neg hg]
      (repeat (first | with_reducible refine zq15 ?_ | (with_reducible first | refine zq14 ?_ | refine zq11 ?_ | refine zq10 ?_ | refine zq3 ?_ | refine zq4 ?_ | refine zq5 ?_ | refine zq0 ?_ | refine zq8 ?_ | refine zq6 ?_ | refine zq1 ?_ | refine zq13 ?_ | refine zq12 ?_ | refine zq7 ?_ | refine zq2 ?_ | refine zq9 ?_)))
      exact ⟨rfl, rfl⟩
end
end WF
namespace PL
open PySem PySem.Spec PyProof.Rows L2 DL
mutual
def szL : Lim → Nat
  | .one _ _ => 1
  | .join _ ls => 1 + szLs ls
def szLs : List Lim → Nat
  | [] => 0
  | l :: ls => szL l + szLs ls
end
def wordL : Lim → Str
  | .one w _ => w.str
  | .join b _ => jw b
def en : Nat → List Lim → List (Nat × Lim)
  | _, [] => []
  | n, l :: ls => (n, l) :: en (n + 1) ls
theorem en_len : ∀ (n : Nat) (ls : List Lim), (en n ls).length = ls.length
  | _, [] => rfl
  | n, l :: ls => by simp only [en, List.length_cons, en_len]
theorem en_mem : ∀ (n : Nat) (ls : List Lim) (p : Nat × Lim), p ∈ en n ls → p.2 ∈ ls
  | _, [], _, h => by cases h
  | n, l :: ls, p, h => by
    rcases List.mem_cons.1 h with rfl | h
    · exact List.mem_cons_self ..
    · exact List.mem_cons_of_mem _ (en_mem _ ls p h)
theorem en_sum : ∀ (n : Nat) (ls : List Lim), ((en n ls).map fun p => szL p.2).sum = szLs ls
  | _, [] => rfl
  | n, l :: ls => by simp only [en, List.map_cons, List.sum_cons, en_sum, szLs]
theorem en_enum : ∀ (n : Nat) (ls : List Lim), enumD n (ls.map encL) = (en n ls).map fun p => .tuple [.int (p.1 : Nat), encL p.2]
  | _, [] => rfl
  | n, l :: ls => by
    simp only [en, List.map_cons, enumD, en_enum (n + 1) ls]
theorem szL_pos : ∀ l : Lim, 1 ≤ szL l
  | .one _ _ => Nat.le_refl _
  | .join _ ls => by simp only [szL]; omega
theorem maxL_ne : ∀ (l : List Int), l ≠ [] → maxL l ≠ none
  | [], h => absurd rfl h
  | [x], _ => by simp [maxL]
  | x :: y :: r, _ => by
    rw [maxL]
    · simp only [ne_eq, Option.map_eq_none_iff]
      exact maxL_ne (y :: r) (List.cons_ne_nil _ _)
    · intro z; cases z
theorem minL_ne : ∀ (l : List Int), l ≠ [] → minL l ≠ none
  | [], h => absurd rfl h
  | [x], _ => by simp [minL]
  | x :: y :: r, _ => by
    rw [minL]
    · simp only [ne_eq, Option.map_eq_none_iff]
      exact minL_ne (y :: r) (List.cons_ne_nil _ _)
    · intro z; cases z
theorem minL_cons {x y : Int} {r : List Int} : minL (x :: y :: r) = (minL (y :: r)).map fun z => if z < x then z else x := rfl
theorem maxL_cons {x y : Int} {r : List Int} : maxL (x :: y :: r) = (maxL (y :: r)).map fun z => if x < z then z else x := rfl
theorem minO_known : ∀ xs : List (Option Int), minO xs = minL (xs.filterMap id)
  | [] => rfl
  | none :: r => by simp only [minO, List.filterMap_cons, id, minO_known r]
  | some d :: r => by
    simp only [minO, List.filterMap_cons, id, minO_known r]
    cases h : r.filterMap id with
    | nil => rfl
    | cons e es =>
      rw [minL_cons]
      cases hm : minL (e :: es) with
      | none => exact absurd hm (minL_ne _ (List.cons_ne_nil _ _))
      | some k => rfl
theorem maxO_all : ∀ ks : List Int, maxO (ks.map some) = maxL ks
  | [] => rfl
  | [x] => rfl
  | x :: y :: r => by
    have ih := maxO_all (y :: r)
    simp only [List.map_cons] at ih ⊢
    unfold maxO
    rw [ih, maxL_cons]
    cases hm : maxL (y :: r) with
    | none => exact absurd hm (maxL_ne _ (List.cons_ne_nil _ _))
    | some k => rfl
theorem maxO_none : ∀ xs : List (Option Int), none ∈ xs → maxO xs = none
  | [], h => by cases h
  | [x], h => by rw [List.mem_singleton.1 h]; rfl
  | x :: y :: r, h => by
    unfold maxO
    rcases List.mem_cons.1 h with h | h
    · rw [← h]
    · rw [maxO_none (y :: r) h]
      cases x <;> rfl
theorem ints_int : ∀ l : List Int, intsD (l.map PyData.int) = some l
  | [] => rfl
  | x :: l => by simp only [List.map_cons, intsD, ints_int l, Option.map_some]
theorem gMin_int {l : List Int} : gMin [.list (l.map PyData.int)] = (minL l).map PyData.int := by simp only [gMin, ints_int, Option.bind_some]
theorem gMax_int {l : List Int} : gMax [.list (l.map PyData.int)] = (maxL l).map PyData.int := by simp only [gMax, ints_int, Option.bind_some]
theorem known_len : ∀ xs : List (Option Int), (xs.filterMap id).length ≤ xs.length ∧ ((xs.filterMap id).length = xs.length → xs = (xs.filterMap id).map some) ∧ ((xs.filterMap id).length ≠ xs.length → none ∈ xs)
  | [] => ⟨Nat.le_refl _, fun _ => rfl, fun h => absurd rfl h⟩
  | none :: r => by
    have ⟨h1, h2, h3⟩ := known_len r
    simp only [List.filterMap_cons, id, List.length_cons]
    exact ⟨by omega, fun h => by omega, fun _ => List.mem_cons_self ..⟩
  | some x :: r => by
    have ⟨h1, h2, h3⟩ := known_len r
    simp only [List.filterMap_cons, id, List.length_cons, List.map_cons]
    exact ⟨by omega, fun h => by rw [← h2 (by omega)], fun h => List.mem_cons_of_mem _ (h3 (by omega))⟩
theorem known_map : ∀ xs : List (Option Int), (xs.filter Option.isSome).map oI = (xs.filterMap id).map PyData.int
  | [] => rfl
  | none :: r => by simp [known_map r]
  | some x :: r => by simp [known_map r, oI]
end PL
namespace WF
open PySem PySem.Spec PyProof.Rows L2 DL PL
section
variable {s : Site} {S : Sto} {st : Sy} {b : Int} {p : Str × Sy}
theorem limit_word_eq {l : Lim} : g_limit_word [encL l] S = .ok (.str (wordL l)) S := by
  refine wpR_ok (w_def rfl ?_)
  unfold m_limit_word
  cases l with
  | one w n =>
    cases w <;> (unfold encL; (repeat (first | with_reducible refine zq15 ?_ | (with_reducible first | refine zq14 ?_ | refine zq11 ?_ | refine zq10 ?_ | refine zq3 ?_ | refine zq4 ?_ | refine zq5 ?_ | refine zq0 ?_ | refine zq8 ?_ | refine zq6 ?_ | refine zq1 ?_ | refine zq13 ?_ | refine zq12 ?_ | refine zq7 ?_ | refine zq2 ?_ | refine zq9 ?_))); exact ⟨rfl, rfl⟩)
  | join b ls =>
    cases b <;> (rw [encL_join]; (repeat (first | with_reducible refine zq15 ?_ | (with_reducible first | refine zq14 ?_ | refine zq11 ?_ | refine zq10 ?_ | refine zq3 ?_ | refine zq4 ?_ | refine zq5 ?_ | refine zq0 ?_ | refine zq8 ?_ | refine zq6 ?_ | refine zq1 ?_ | refine zq13 ?_ | refine zq12 ?_ | refine zq7 ?_ | refine zq2 ?_ | refine zq9 ?_))); exact ⟨rfl, rfl⟩)
theorem inner_pairs_eq {path : List Wd} {c : Bool} {ls : List Lim} (hp : path.length + 1 ≤ sizeLine) (hl : ls.length ≤ sizeLine) : g_inner_pairs [.tuple path, encL (.join c ls)] S = .ok (.list ((en 0 ls).map fun q => .tuple [.tuple (path ++ [.int (q.1 : Nat)]), encL q.2])) S := by
  refine wpR_ok (w_def rfl ?_)
  unfold m_inner_pairs
  rw [encL_join]
  (repeat (first | with_reducible refine zq15 ?_ | (with_reducible first | refine zq14 ?_ | refine zq11 ?_ | refine zq10 ?_ | refine zq3 ?_ | refine zq4 ?_ | refine zq5 ?_ | refine zq0 ?_ | refine zq8 ?_ | refine zq6 ?_ | refine zq1 ?_ | refine zq13 ?_ | refine zq12 ?_ | refine zq7 ?_ | refine zq2 ?_ | refine zq9 ?_)))
  refine w_bf (by cases c <;> rfl) ?_
  (repeat (first | with_reducible refine zq15 ?_ | (with_reducible first | refine zq14 ?_ | refine zq11 ?_ | refine zq10 ?_ | refine zq3 ?_ | refine zq4 ?_ | refine zq5 ?_ | refine zq0 ?_ | refine zq8 ?_ | refine zq6 ?_ | refine zq1 ?_ | refine zq13 ?_ | refine zq12 ?_ | refine zq7 ?_ | refine zq2 ?_ | refine zq9 ?_)))
  rw [en_enum]
  refine lc_map (out := fun q => .tuple [.tuple (path ++ [.int (q.1 : Nat)]), encL q.2]) (en 0 ls) (by rw [en_len]; exact hl) (fun q hq => ⟨_, rfl, wpX_ok ?_⟩) ⟨rfl, rfl⟩
  (repeat (with_reducible first | refine zq14 ?_ | refine zq11 ?_ | refine zq10 ?_ | refine zq3 ?_ | refine zq4 ?_ | refine zq5 ?_ | refine zq0 ?_ | refine zq8 ?_ | refine zq6 ?_ | refine zq1 ?_ | refine zq13 ?_ | refine zq12 ?_ | refine zq7 ?_ | refine zq2 ?_ | refine zq9 ?_))
  refine ⟨by simpa using hp, ?_⟩
  (repeat (with_reducible first | refine zq14 ?_ | refine zq11 ?_ | refine zq10 ?_ | refine zq3 ?_ | refine zq4 ?_ | refine zq5 ?_ | refine zq0 ?_ | refine zq8 ?_ | refine zq6 ?_ | refine zq1 ?_ | refine zq13 ?_ | refine zq12 ?_ | refine zq7 ?_ | refine zq2 ?_ | refine zq9 ?_))
  exact ⟨rfl, rfl⟩
theorem is_amount_eq {i : Int} (h : 1 ≤ i) : g_is_amount [.int i] S = .ok (.bool true) S := by
  refine wpR_ok (w_def rfl ?_)
  unfold m_is_amount
  (repeat (first | with_reducible refine zq15 ?_ | (with_reducible first | refine zq14 ?_ | refine zq11 ?_ | refine zq10 ?_ | refine zq3 ?_ | refine zq4 ?_ | refine zq5 ?_ | refine zq0 ?_ | refine zq8 ?_ | refine zq6 ?_ | refine zq1 ?_ | refine zq13 ?_ | refine zq12 ?_ | refine zq7 ?_ | refine zq2 ?_ | refine zq9 ?_)))
  refine w_eq (a := .bool true) (S' := S) rfl ?_
  (repeat (first | with_reducible refine zq15 ?_ | (with_reducible first | refine zq14 ?_ | refine zq11 ?_ | refine zq10 ?_ | refine zq3 ?_ | refine zq4 ?_ | refine zq5 ?_ | refine zq0 ?_ | refine zq8 ?_ | refine zq6 ?_ | refine zq1 ?_ | refine zq13 ?_ | refine zq12 ?_ | refine zq7 ?_ | refine zq2 ?_ | refine zq9 ?_)))
  rw [decide_eq_true h]
  exact ⟨rfl, rfl⟩
def encW (q : List Wd × Lim) : Wd := .tuple [.tuple q.1, encL q.2]
structure LimOk (hi : Int) (k : Nat) (l : Lim) : Prop where
  b : LimB 1 hi k l
  z : szL l ≤ 500
  d : k ≤ 50
theorem limit_fault_eq {l : Lim} {hi : Int} {k : Nat} (h : LimOk hi k l) : g_limit_fault [encL l] S = .ok .none S := by
  have hz := siz
  refine wpR_ok (w_def rfl ?_)
  unfold m_limit_fault
  (repeat (first | with_reducible refine zq15 ?_ | (with_reducible first | refine zq14 ?_ | refine zq11 ?_ | refine zq10 ?_ | refine zq3 ?_ | refine zq4 ?_ | refine zq5 ?_ | refine zq0 ?_ | refine zq8 ?_ | refine zq6 ?_ | refine zq1 ?_ | refine zq13 ?_ | refine zq12 ?_ | refine zq7 ?_ | refine zq2 ?_ | refine zq9 ?_)))
  refine wp_wh (I := fun n ρ S' => S' = S ∧ ∃ (its : List (List Wd × Lim)) (x2 x3 x4 : Option Sl), (its.map fun q => szL q.2).sum < n ∧ n ≤ 1000 ∧ (∀ q ∈ its, ∃ k, LimB 1 hi k q.2 ∧ q.1.length + k ≤ 100) ∧
    ρ = [some (.val (encL l)), some (.own (its.map encW)), x2, x3, x4]) ?_ ?_ _ _ _ ⟨rfl, [([], l)], none, none, none, by have := h.z; simp; omega, Nat.le_refl _, ?_, rfl⟩
  · rintro n ρ S' ⟨rfl, its, x2, x3, x4, hs, hn, hq, rfl⟩
    have hlen : its.length ≤ (its.map fun q => szL q.2).sum := by
      clear hq hs
      induction its with
      | nil => exact Nat.le_refl _
      | cons q its ih =>
        have := szL_pos q.2
        simp only [List.length_cons, List.map_cons, List.sum_cons]
        omega
    (repeat (with_reducible first | refine zq14 ?_ | refine zq11 ?_ | refine zq10 ?_ | refine zq3 ?_ | refine zq4 ?_ | refine zq5 ?_ | refine zq0 ?_ | refine zq8 ?_ | refine zq6 ?_ | refine zq1 ?_ | refine zq13 ?_ | refine zq12 ?_ | refine zq7 ?_ | refine zq2 ?_ | refine zq9 ?_))
    rcases List.eq_nil_or_concat its with rfl | ⟨init, q, rfl⟩
    · (repeat (first | with_reducible refine zq15 ?_ | (with_reducible first | refine zq14 ?_ | refine zq11 ?_ | refine zq10 ?_ | refine zq3 ?_ | refine zq4 ?_ | refine zq5 ?_ | refine zq0 ?_ | refine zq8 ?_ | refine zq6 ?_ | refine zq1 ?_ | refine zq13 ?_ | refine zq12 ?_ | refine zq7 ?_ | refine zq2 ?_ | refine zq9 ?_)))
      exact ⟨rfl, rfl⟩
    simp only [List.concat_eq_append] at *
    refine w_bt (by simp) ?_
    refine zq15 ?_
    refine w_pop (ws := init.map encW) (w := encW q) (by simp) ?_
    obtain ⟨path, l1⟩ := q
    obtain ⟨k1, hB, hk1⟩ := hq (path, l1) (by simp)
    have hq' : ∀ q ∈ init, ∃ k, LimB 1 hi k q.2 ∧ q.1.length + k ≤ 100 := fun q h => hq q (by simp [h])
    simp only [List.map_append, List.sum_append, List.map_cons, List.map_nil, List.sum_cons, List.sum_nil, Nat.add_zero] at hs hlen
    simp only at hB hk1
    (repeat (first | with_reducible refine zq15 ?_ | (with_reducible first | refine zq14 ?_ | refine zq11 ?_ | refine zq10 ?_ | refine zq3 ?_ | refine zq4 ?_ | refine zq5 ?_ | refine zq0 ?_ | refine zq8 ?_ | refine zq6 ?_ | refine zq1 ?_ | refine zq13 ?_ | refine zq12 ?_ | refine zq7 ?_ | refine zq2 ?_ | refine zq9 ?_)))
    refine w_eq limit_word_eq ?_
    cases l1 with
    | one w n1 =>
      have hb := hB.one_
      (repeat (first | with_reducible refine zq15 ?_ | (with_reducible first | refine zq14 ?_ | refine zq11 ?_ | refine zq10 ?_ | refine zq3 ?_ | refine zq4 ?_ | refine zq5 ?_ | refine zq0 ?_ | refine zq8 ?_ | refine zq6 ?_ | refine zq1 ?_ | refine zq13 ?_ | refine zq12 ?_ | refine zq7 ?_ | refine zq2 ?_ | refine zq9 ?_)))
      refine w_bt (by cases w <;> rfl) ?_
      (repeat (first | with_reducible refine zq15 ?_ | (with_reducible first | refine zq14 ?_ | refine zq11 ?_ | refine zq10 ?_ | refine zq3 ?_ | refine zq4 ?_ | refine zq5 ?_ | refine zq0 ?_ | refine zq8 ?_ | refine zq6 ?_ | refine zq1 ?_ | refine zq13 ?_ | refine zq12 ?_ | refine zq7 ?_ | refine zq2 ?_ | refine zq9 ?_)))
      refine w_eq (is_amount_eq hb.1) ?_
      (repeat (first | with_reducible refine zq15 ?_ | (with_reducible first | refine zq14 ?_ | refine zq11 ?_ | refine zq10 ?_ | refine zq3 ?_ | refine zq4 ?_ | refine zq5 ?_ | refine zq0 ?_ | refine zq8 ?_ | refine zq6 ?_ | refine zq1 ?_ | refine zq13 ?_ | refine zq12 ?_ | refine zq7 ?_ | refine zq2 ?_ | refine zq9 ?_)))
      simp only [szL] at hs
      exact ⟨rfl, init, _, _, _, by omega, by omega, hq', rfl⟩
    | join c ls =>
      obtain ⟨k2, rfl, hne, hle, hall⟩ := hB.join_
      simp only [szL] at hs hlen
      have hz2 : 2000 ≤ sizeLine := by decide
      (repeat (first | with_reducible refine zq15 ?_ | (with_reducible first | refine zq14 ?_ | refine zq11 ?_ | refine zq10 ?_ | refine zq3 ?_ | refine zq4 ?_ | refine zq5 ?_ | refine zq0 ?_ | refine zq8 ?_ | refine zq6 ?_ | refine zq1 ?_ | refine zq13 ?_ | refine zq12 ?_ | refine zq7 ?_ | refine zq2 ?_ | refine zq9 ?_)))
      refine w_bf (by cases c <;> rfl) ?_
      rw [encL_join]
      (repeat (first | with_reducible refine zq15 ?_ | (with_reducible first | refine zq14 ?_ | refine zq11 ?_ | refine zq10 ?_ | refine zq3 ?_ | refine zq4 ?_ | refine zq5 ?_ | refine zq0 ?_ | refine zq8 ?_ | refine zq6 ?_ | refine zq1 ?_ | refine zq13 ?_ | refine zq12 ?_ | refine zq7 ?_ | refine zq2 ?_ | refine zq9 ?_)))
      refine w_bf (by simpa using hne) ?_
      (repeat (first | with_reducible refine zq15 ?_ | (with_reducible first | refine zq14 ?_ | refine zq11 ?_ | refine zq10 ?_ | refine zq3 ?_ | refine zq4 ?_ | refine zq5 ?_ | refine zq0 ?_ | refine zq8 ?_ | refine zq6 ?_ | refine zq1 ?_ | refine zq13 ?_ | refine zq12 ?_ | refine zq7 ?_ | refine zq2 ?_ | refine zq9 ?_)))
      rw [← encL_join]
      refine w_eq (inner_pairs_eq (by show path.length + 1 ≤ sizeLine; omega) (by omega)) ?_
      (repeat (first | with_reducible refine zq15 ?_ | (with_reducible first | refine zq14 ?_ | refine zq11 ?_ | refine zq10 ?_ | refine zq3 ?_ | refine zq4 ?_ | refine zq5 ?_ | refine zq0 ?_ | refine zq8 ?_ | refine zq6 ?_ | refine zq1 ?_ | refine zq13 ?_ | refine zq12 ?_ | refine zq7 ?_ | refine zq2 ?_ | refine zq9 ?_)))
      refine ⟨by simp only [List.length_map, List.length_reverse, en_len]; simp only [List.length_append, List.length_singleton] at hlen; omega, ?_⟩
      refine ⟨rfl, init ++ ((en 0 ls).map fun q => (path ++ [.int (q.1 : Nat)], q.2)).reverse, some (.val (.tuple path)), some (.val (encL (.join c ls))), some (.val (.str (jw c))), ?_, by omega, ?_, ?_⟩
      · rw [List.map_append, List.sum_append, List.map_reverse, List.sum_reverse, List.map_map]
        have := en_sum 0 ls
        simp only [Function.comp_def]
        omega
      · intro q hq
        rcases List.mem_append.1 hq with hq | hq
        · exact hq' q hq
        · obtain ⟨e, he, rfl⟩ := List.mem_map.1 (List.mem_reverse.1 hq)
          exact ⟨k2, hall _ (en_mem 0 ls e he), by simp; omega⟩
      · simp only [List.map_append, List.map_reverse, List.map_map]
        rfl
  · rintro ρ S' ⟨rfl, its, x2, x3, x4, hs, hn, hq, rfl⟩
    omega
  · intro q hq
    rw [List.mem_singleton.1 hq]
    exact ⟨k, h.b, by have := h.d; simp; omega⟩
theorem is_limit_eq {l : Lim} {hi : Int} {k : Nat} (h : LimOk hi k l) : g_is_limit [encL l] S = .ok (.bool true) S := by
  refine wpR_ok (w_def rfl ?_)
  unfold m_is_limit
  (repeat (first | with_reducible refine zq15 ?_ | (with_reducible first | refine zq14 ?_ | refine zq11 ?_ | refine zq10 ?_ | refine zq3 ?_ | refine zq4 ?_ | refine zq5 ?_ | refine zq0 ?_ | refine zq8 ?_ | refine zq6 ?_ | refine zq1 ?_ | refine zq13 ?_ | refine zq12 ?_ | refine zq7 ?_ | refine zq2 ?_ | refine zq9 ?_)))
  refine w_eq (limit_fault_eq h) ?_
  (repeat (first | with_reducible refine zq15 ?_ | (with_reducible first | refine zq14 ?_ | refine zq11 ?_ | refine zq10 ?_ | refine zq3 ?_ | refine zq4 ?_ | refine zq5 ?_ | refine zq0 ?_ | refine zq8 ?_ | refine zq6 ?_ | refine zq1 ?_ | refine zq13 ?_ | refine zq12 ?_ | refine zq7 ?_ | refine zq2 ?_ | refine zq9 ?_)))
  exact ⟨rfl, rfl⟩
theorem first_passing_eq (h : SiteOk s) (hs : StOkP s st) (hb : 0 ≤ b) (hb1 : b ≤ 2000) {lo hi : Int} : ∀ (k n : Nat) (l : Lim) (S : Sto), LimB lo hi k l → k < n → g_first_passing n [encSite s, encSy st, encL l, .int b] S = .ok (oI (fp (useF s.U st) l b)) S := by
  have hu := useF_ok hs h.mus
  have hz := siz
  intro k
  induction k with
  | zero =>
    intro n l S hl hn
    obtain ⟨n, rfl⟩ : ∃ n', n = n' + 1 := ⟨n - 1, by omega⟩
    cases l with
    | join c ls => obtain ⟨_, e, _⟩ := hl.join_; cases e
    | one w i =>
      refine wpR_ok (w_def rfl ?_)
      unfold m_first_passing
      (repeat (first | with_reducible refine zq15 ?_ | (with_reducible first | refine zq14 ?_ | refine zq11 ?_ | refine zq10 ?_ | refine zq3 ?_ | refine zq4 ?_ | refine zq5 ?_ | refine zq0 ?_ | refine zq8 ?_ | refine zq6 ?_ | refine zq1 ?_ | refine zq13 ?_ | refine zq12 ?_ | refine zq7 ?_ | refine zq2 ?_ | refine zq9 ?_)))
      refine w_bt (by cases w <;> rfl) ?_
      (repeat (first | with_reducible refine zq15 ?_ | (with_reducible first | refine zq14 ?_ | refine zq11 ?_ | refine zq10 ?_ | refine zq3 ?_ | refine zq4 ?_ | refine zq5 ?_ | refine zq0 ?_ | refine zq8 ?_ | refine zq6 ?_ | refine zq1 ?_ | refine zq13 ?_ | refine zq12 ?_ | refine zq7 ?_ | refine zq2 ?_ | refine zq9 ?_)))
      exact w_eq (plain_passing_eq h hs hb hb1) ⟨rfl, rfl⟩
  | succ k ih =>
    intro n l S hl hn
    obtain ⟨n, rfl⟩ : ∃ n', n = n' + 1 := ⟨n - 1, by omega⟩
    refine wpR_ok (w_def rfl ?_)
    unfold m_first_passing
    cases l with
    | one w i =>
      (repeat (first | with_reducible refine zq15 ?_ | (with_reducible first | refine zq14 ?_ | refine zq11 ?_ | refine zq10 ?_ | refine zq3 ?_ | refine zq4 ?_ | refine zq5 ?_ | refine zq0 ?_ | refine zq8 ?_ | refine zq6 ?_ | refine zq1 ?_ | refine zq13 ?_ | refine zq12 ?_ | refine zq7 ?_ | refine zq2 ?_ | refine zq9 ?_)))
      refine w_bt (by cases w <;> rfl) ?_
      (repeat (first | with_reducible refine zq15 ?_ | (with_reducible first | refine zq14 ?_ | refine zq11 ?_ | refine zq10 ?_ | refine zq3 ?_ | refine zq4 ?_ | refine zq5 ?_ | refine zq0 ?_ | refine zq8 ?_ | refine zq6 ?_ | refine zq1 ?_ | refine zq13 ?_ | refine zq12 ?_ | refine zq7 ?_ | refine zq2 ?_ | refine zq9 ?_)))
      exact w_eq (plain_passing_eq h hs hb hb1) ⟨rfl, rfl⟩
    | join c ls =>
      obtain ⟨k2, e, hne, hle, hall⟩ := hl.join_
      cases e
      rw [encL_join]
      (repeat (first | with_reducible refine zq15 ?_ | (with_reducible first | refine zq14 ?_ | refine zq11 ?_ | refine zq10 ?_ | refine zq3 ?_ | refine zq4 ?_ | refine zq5 ?_ | refine zq0 ?_ | refine zq8 ?_ | refine zq6 ?_ | refine zq1 ?_ | refine zq13 ?_ | refine zq12 ?_ | refine zq7 ?_ | refine zq2 ?_ | refine zq9 ?_)))
      refine w_bf (by cases c <;> rfl) ?_
      (repeat (first | with_reducible refine zq15 ?_ | (with_reducible first | refine zq14 ?_ | refine zq11 ?_ | refine zq10 ?_ | refine zq3 ?_ | refine zq4 ?_ | refine zq5 ?_ | refine zq0 ?_ | refine zq8 ?_ | refine zq6 ?_ | refine zq1 ?_ | refine zq13 ?_ | refine zq12 ?_ | refine zq7 ?_ | refine zq2 ?_ | refine zq9 ?_)))
      refine lc_map (enc := encL) (out := fun l => oI (fp (useF s.U st) l b)) ls (by omega) (fun l hl => ⟨_, rfl, wpX_ok ?_⟩) ?_
      · (repeat (with_reducible first | refine zq14 ?_ | refine zq11 ?_ | refine zq10 ?_ | refine zq3 ?_ | refine zq4 ?_ | refine zq5 ?_ | refine zq0 ?_ | refine zq8 ?_ | refine zq6 ?_ | refine zq1 ?_ | refine zq13 ?_ | refine zq12 ?_ | refine zq7 ?_ | refine zq2 ?_ | refine zq9 ?_))
        exact w_eq (ih n l S (hall l hl) (by omega)) ⟨rfl, rfl⟩
      (repeat (first | with_reducible refine zq15 ?_ | (with_reducible first | refine zq14 ?_ | refine zq11 ?_ | refine zq10 ?_ | refine zq3 ?_ | refine zq4 ?_ | refine zq5 ?_ | refine zq0 ?_ | refine zq8 ?_ | refine zq6 ?_ | refine zq1 ?_ | refine zq13 ?_ | refine zq12 ?_ | refine zq7 ?_ | refine zq2 ?_ | refine zq9 ?_)))
      have e1 : (ls.map fun l => oI (fp (useF s.U st) l b)) = (ls.map fun l => fp (useF s.U st) l b).map oI := by rw [List.map_map]; rfl
      rw [e1]
      generalize hxs : (ls.map fun l => fp (useF s.U st) l b) = xs
      have hxl : xs.length ≤ 10 := by rw [← hxs, List.length_map]; exact hle
      have hxn : xs ≠ [] := by rw [← hxs]; simpa using hne
      refine w_eq (lc_pure (enc := oI) (p := Option.isSome) (out := oI) xs [] (by simp; omega) fun x hx => ⟨_, rfl, by cases x <;> rfl, fun _ => rfl⟩) ?_
      rw [List.nil_append, known_map]
      obtain ⟨hk1, hk2, hk3⟩ := known_len xs
      cases c with
      | false =>
        (repeat (first | with_reducible refine zq15 ?_ | (with_reducible first | refine zq14 ?_ | refine zq11 ?_ | refine zq10 ?_ | refine zq3 ?_ | refine zq4 ?_ | refine zq5 ?_ | refine zq0 ?_ | refine zq8 ?_ | refine zq6 ?_ | refine zq1 ?_ | refine zq13 ?_ | refine zq12 ?_ | refine zq7 ?_ | refine zq2 ?_ | refine zq9 ?_)))
        refine wpO_rfl gNe_cells ?_
        rw [fp_first, hxs, minO_known]
        cases hkn : xs.filterMap id with
        | nil =>
          (repeat (first | with_reducible refine zq15 ?_ | (with_reducible first | refine zq14 ?_ | refine zq11 ?_ | refine zq10 ?_ | refine zq3 ?_ | refine zq4 ?_ | refine zq5 ?_ | refine zq0 ?_ | refine zq8 ?_ | refine zq6 ?_ | refine zq1 ?_ | refine zq13 ?_ | refine zq12 ?_ | refine zq7 ?_ | refine zq2 ?_ | refine zq9 ?_)))
          exact ⟨rfl, rfl⟩
        | cons y ys =>
          (repeat (first | with_reducible refine zq15 ?_ | (with_reducible first | refine zq14 ?_ | refine zq11 ?_ | refine zq10 ?_ | refine zq3 ?_ | refine zq4 ?_ | refine zq5 ?_ | refine zq0 ?_ | refine zq8 ?_ | refine zq6 ?_ | refine zq1 ?_ | refine zq13 ?_ | refine zq12 ?_ | refine zq7 ?_ | refine zq2 ?_ | refine zq9 ?_)))
          cases hm : minL (y :: ys) with
          | none => exact absurd hm (minL_ne _ (List.cons_ne_nil _ _))
          | some m =>
            refine wpO_rfl (w := PyData.int m) (by rw [gMin_int, hm]; rfl) ⟨rfl, rfl⟩
      | true =>
        (repeat (first | with_reducible refine zq15 ?_ | (with_reducible first | refine zq14 ?_ | refine zq11 ?_ | refine zq10 ?_ | refine zq3 ?_ | refine zq4 ?_ | refine zq5 ?_ | refine zq0 ?_ | refine zq8 ?_ | refine zq6 ?_ | refine zq1 ?_ | refine zq13 ?_ | refine zq12 ?_ | refine zq7 ?_ | refine zq2 ?_ | refine zq9 ?_)))
        rw [fp_later hu hne, hxs]
        simp only [List.length_map]
        by_cases hq : (xs.filterMap id).length = xs.length
        · refine w_bt (by rw [decide_eq_true_eq]; omega) ?_
          have hks := hk2 hq
          generalize hks0 : xs.filterMap id = ks at hq hks
          rw [hks, maxO_all]
          have hkn : ks ≠ [] := by rintro rfl; exact hxn (by simpa using hks)
          (repeat (first | with_reducible refine zq15 ?_ | (with_reducible first | refine zq14 ?_ | refine zq11 ?_ | refine zq10 ?_ | refine zq3 ?_ | refine zq4 ?_ | refine zq5 ?_ | refine zq0 ?_ | refine zq8 ?_ | refine zq6 ?_ | refine zq1 ?_ | refine zq13 ?_ | refine zq12 ?_ | refine zq7 ?_ | refine zq2 ?_ | refine zq9 ?_)))
          cases hm : maxL ks with
          | none => exact absurd hm (maxL_ne _ hkn)
          | some m =>
            refine wpO_rfl (w := PyData.int m) (by rw [gMax_int, hm]; rfl) ⟨rfl, rfl⟩
        · refine w_bf (by rw [decide_eq_false_iff_not]; omega) ?_
          rw [maxO_none xs (hk3 hq)]
          (repeat (first | with_reducible refine zq15 ?_ | (with_reducible first | refine zq14 ?_ | refine zq11 ?_ | refine zq10 ?_ | refine zq3 ?_ | refine zq4 ?_ | refine zq5 ?_ | refine zq0 ?_ | refine zq8 ?_ | refine zq6 ?_ | refine zq1 ?_ | refine zq13 ?_ | refine zq12 ?_ | refine zq7 ?_ | refine zq2 ?_ | refine zq9 ?_)))
          exact ⟨rfl, rfl⟩
theorem passing_day_eq (h : SiteOk s) (hp : p ∈ s.parts) (hb : 0 ≤ b) (hb1 : b ≤ 2000) {hi : Int} {k : Nat} {l : Lim} (hl : LimOk hi k l) (hk : k < 12) : g_passing_day [encSite s, .str p.1, encL l, .int b] S = .ok (oI (fp (useF s.U p.2) l b)) S := by
  refine wpR_ok (w_def rfl ?_)
  unfold m_passing_day
  (repeat (first | with_reducible refine zq15 ?_ | (with_reducible first | refine zq14 ?_ | refine zq11 ?_ | refine zq10 ?_ | refine zq3 ?_ | refine zq4 ?_ | refine zq5 ?_ | refine zq0 ?_ | refine zq8 ?_ | refine zq6 ?_ | refine zq1 ?_ | refine zq13 ?_ | refine zq12 ?_ | refine zq7 ?_ | refine zq2 ?_ | refine zq9 ?_)))
  refine w_eq (stays_of_eq h hp) ?_
  (repeat (first | with_reducible refine zq15 ?_ | (with_reducible first | refine zq14 ?_ | refine zq11 ?_ | refine zq10 ?_ | refine zq3 ?_ | refine zq4 ?_ | refine zq5 ?_ | refine zq0 ?_ | refine zq8 ?_ | refine zq6 ?_ | refine zq1 ?_ | refine zq13 ?_ | refine zq12 ?_ | refine zq7 ?_ | refine zq2 ?_ | refine zq9 ?_)))
  refine w_eq (is_limit_eq hl) ?_
  (repeat (first | with_reducible refine zq15 ?_ | (with_reducible first | refine zq14 ?_ | refine zq11 ?_ | refine zq10 ?_ | refine zq3 ?_ | refine zq4 ?_ | refine zq5 ?_ | refine zq0 ?_ | refine zq8 ?_ | refine zq6 ?_ | refine zq1 ?_ | refine zq13 ?_ | refine zq12 ?_ | refine zq7 ?_ | refine zq2 ?_ | refine zq9 ?_)))
  refine w_eq require_eq ?_
  (repeat (first | with_reducible refine zq15 ?_ | (with_reducible first | refine zq14 ?_ | refine zq11 ?_ | refine zq10 ?_ | refine zq3 ?_ | refine zq4 ?_ | refine zq5 ?_ | refine zq0 ?_ | refine zq8 ?_ | refine zq6 ?_ | refine zq1 ?_ | refine zq13 ?_ | refine zq12 ?_ | refine zq7 ?_ | refine zq2 ?_ | refine zq9 ?_)))
  refine w_eq (is_number_eq hb) ?_
  (repeat (first | with_reducible refine zq15 ?_ | (with_reducible first | refine zq14 ?_ | refine zq11 ?_ | refine zq10 ?_ | refine zq3 ?_ | refine zq4 ?_ | refine zq5 ?_ | refine zq0 ?_ | refine zq8 ?_ | refine zq6 ?_ | refine zq1 ?_ | refine zq13 ?_ | refine zq12 ?_ | refine zq7 ?_ | refine zq2 ?_ | refine zq9 ?_)))
  refine w_eq require_eq ?_
  (repeat (first | with_reducible refine zq15 ?_ | (with_reducible first | refine zq14 ?_ | refine zq11 ?_ | refine zq10 ?_ | refine zq3 ?_ | refine zq4 ?_ | refine zq5 ?_ | refine zq0 ?_ | refine zq8 ?_ | refine zq6 ?_ | refine zq1 ?_ | refine zq13 ?_ | refine zq12 ?_ | refine zq7 ?_ | refine zq2 ?_ | refine zq9 ?_)))
  exact w_eq (first_passing_eq h (h.pst p hp) hb hb1 k 12 l S hl.b hk) ⟨rfl, rfl⟩
end
end WF
namespace PL
open PySem PySem.Spec PyProof.Rows L2 DL
def Weaker (l l' : Lim) : Prop := ∀ c, passes l c = true → passes l' c = true
mutual
def shiftL (a : CW → Int) : Lim → Lim
  | .one w n => .one w (n + a w)
  | .join b ls => .join b (shiftLs a ls)
def shiftLs (a : CW → Int) : List Lim → List Lim
  | [] => []
  | l :: ls => shiftL a l :: shiftLs a ls
end
theorem shiftLs_map {a : CW → Int} : ∀ ls : List Lim, shiftLs a ls = ls.map (shiftL a)
  | [] => rfl
  | l :: ls => by simp only [shiftLs, List.map_cons, shiftLs_map ls]
theorem shiftL_join {a : CW → Int} {b : Bool} {ls : List Lim} : shiftL a (.join b ls) = .join b (ls.map (shiftL a)) := by rw [shiftL, shiftLs_map]
mutual
theorem passes_shift {a c : CW → Int} : ∀ l : Lim, passes (shiftL a l) c = passes l fun w => c w - a w
  | .one w n => by
    simp only [shiftL, passes]
    congr 1
    exact propext ⟨fun h => by omega, fun h => by omega⟩
  | .join false ls => by simp only [shiftL, passes, passAny_shift ls]
  | .join true ls => by simp only [shiftL, passes, passAll_shift ls]
theorem passAny_shift {a c : CW → Int} : ∀ ls : List Lim, passAny (shiftLs a ls) c = passAny ls fun w => c w - a w
  | [] => rfl
  | l :: ls => by simp only [shiftLs, passAny, passes_shift l, passAny_shift ls]
theorem passAll_shift {a c : CW → Int} : ∀ ls : List Lim, passAll (shiftLs a ls) c = passAll ls fun w => c w - a w
  | [] => rfl
  | l :: ls => by simp only [shiftLs, passAll, passes_shift l, passAll_shift ls]
end
theorem shift_weaker {a : CW → Int} (h : ∀ w, 0 ≤ a w) (l : Lim) : Weaker (shiftL a l) l := fun c p => by
  rw [passes_shift] at p
  exact passes_mono (fun w => by have := h w; omega) l p
theorem LimB.shift {a : CW → Int} {lo hi lo' hi' : Int} (h : ∀ w, lo' ≤ lo + a w ∧ hi + a w ≤ hi') : ∀ {k : Nat} {l : Lim}, LimB lo hi k l → LimB lo' hi' k (shiftL a l)
  | _, .one w n, q => by
    have := q.one_
    have := h w
    rw [shiftL]
    exact LimB.mk_one ⟨by omega, by omega⟩
  | 0, .join _ _, q => by
    unfold LimB at q
    exact q.elim
  | k + 1, .join b ls, q => by
    unfold LimB at q
    rw [shiftL_join]
    refine LimB.mk_join (by simpa using q.1) (by simpa using q.2.1) fun l hl => ?_
    obtain ⟨l', hl', rfl⟩ := List.mem_map.1 hl
    exact LimB.shift h (q.2.2 l' hl')
mutual
theorem szL_shift {a : CW → Int} : ∀ l : Lim, szL (shiftL a l) = szL l
  | .one _ _ => by simp only [shiftL, szL]
  | .join _ ls => by simp only [shiftL, szL, szLs_shift ls]
theorem szLs_shift {a : CW → Int} : ∀ ls : List Lim, szLs (shiftLs a ls) = szLs ls
  | [] => rfl
  | l :: ls => by simp only [shiftLs, szLs, szL_shift l, szLs_shift ls]
end
theorem pass0 {c : CW → Int} (hc : ∀ w, c w ≤ 0) {hi : Int} : ∀ {k : Nat} {l : Lim}, LimB 0 hi k l → passes l c = false
  | _, .one w n, h => by
    have := h.one_
    have := hc w
    simp only [passes, decide_eq_false_iff_not]
    omega
  | 0, .join _ _, h => by
    unfold LimB at h
    exact h.elim
  | k + 1, .join false ls, h => by
    unfold LimB at h
    simp only [passes, passAny_iff]
    rw [List.any_eq_false]
    intro l hl
    rw [pass0 hc (h.2.2 l hl)]
    decide
  | k + 1, .join true ls, h => by
    unfold LimB at h
    simp only [passes, passAll_iff]
    rw [List.all_eq_false]
    obtain ⟨l, ls', rfl⟩ := List.exists_cons_of_ne_nil h.1
    exact ⟨l, List.mem_cons_self .., by rw [pass0 hc (h.2.2 l (List.mem_cons_self ..))]; decide⟩
theorem fp_gt {u : Uf} {b d hi : Int} {k : Nat} {l : Lim} (h : LimB 0 hi k l) (e : fp u l b = some d) : b < d := by
  have q := fp_spec u l b
  rw [e] at q
  rcases Int.lt_or_eq_of_le q.1 with z | z
  · exact z
  · have p : passes l (cnt u b d) = true := q.2.1
    rw [← z, pass0 (c := cnt u b b) (fun w => by rw [cnt_self]; exact Int.le_refl _) h] at p
    cases p
def leO : Option Int → Option Int → Prop
  | _, none => True
  | none, some _ => False
  | some a, some b => a ≤ b
theorem fp_le {u u' : Uf} {l l' : Lim} {b b' : Int} (hb : b ≤ b') (h : ∀ d, b' ≤ d → passes l' (cnt u' b' d) = true → passes l (cnt u b d) = true) : leO (fp u l b) (fp u' l' b') := by
  have q := fp_spec u l b
  have q' := fp_spec u' l' b'
  cases e' : fp u' l' b' with
  | none => cases fp u l b <;> trivial
  | some d' =>
    rw [e'] at q'
    have p := h d' q'.1 q'.2.1
    cases e : fp u l b with
    | none =>
      rw [e] at q
      have := q d' (by have := q'.1; omega)
      simp only [p] at this
      cases this
    | some d =>
      rw [e] at q
      show d ≤ d'
      rcases Int.lt_or_le d' d with z | z
      · have := q.2.2 d' (by have := q'.1; omega) z
        simp only [p] at this
        cases this
      · exact z
theorem fp_weaker {u : Uf} {b : Int} {l l' : Lim} (h : Weaker l' l) : leO (fp u l b) (fp u l' b) := fp_le (Int.le_refl _) fun d _ p => h _ p
def topO (o : Option Int) : Int := o.getD 1000000000
theorem topO_le {a b : Option Int} (h : leO a b) (ha : ∀ d, a = some d → d ≤ 1000000000) : topO a ≤ topO b := by
  cases b with
  | none =>
    cases a with
    | none => exact Int.le_refl _
    | some d => exact ha d rfl
  | some e =>
    cases a with
    | none => exact h.elim
    | some d => exact h
end PL
namespace DL
open PySem PySem.Spec PyProof.Rows L2
theorem gNe_same {x : Wd} (h : SeqAt.shaped x = true) (hx : PyData.eqv x x = true) : gNe x x = some (.bool false) := by
  unfold gNe
  split
  · simp
  · rw [if_pos ⟨h, h⟩, hx]
    rfl
theorem gEq_same {x : Wd} (h : SeqAt.shaped x = true) (hx : PyData.eqv x x = true) : gEq x x = some (.bool true) := by
  unfold gEq
  split
  · simp
  · rw [if_pos ⟨h, h⟩, hx]
end DL
namespace PL
open PySem PySem.Spec PyProof.Rows L2 DL
mutual
def apL (p : List Int) : Lim → List (List Int × Lim)
  | .one w n => [(p, .one w n)]
  | .join b ls => (p, .join b ls) :: apLs p 0 ls
def apLs (p : List Int) : Nat → List Lim → List (List Int × Lim)
  | _, [] => []
  | k, l :: ls => apL (p ++ [(k : Int)]) l ++ apLs p (k + 1) ls
end
mutual
theorem apL_len : ∀ (p : List Int) (l : Lim), (apL p l).length = szL l
  | p, .one w n => by simp only [apL, szL]; rfl
  | p, .join b ls => by simp only [apL, szL, List.length_cons, apLs_len p 0 ls]; omega
theorem apLs_len : ∀ (p : List Int) (k : Nat) (ls : List Lim), (apLs p k ls).length = szLs ls
  | p, _, [] => by simp only [apLs, szLs]; rfl
  | p, k, l :: ls => by simp only [apLs, szLs, List.length_append, apL_len _ l, apLs_len p (k + 1) ls]
end
def encA (q : List Int × Lim) : Wd := .tuple [.tuple (q.1.map .int), encL q.2]
theorem look_put_same {k : List Int} {w : Wd} : ∀ {M : List (List Int × Wd)}, lookT k (putT k w M) = some w := by
  intro M
  unfold putT
  split
  · rename_i h
    induction M with
    | nil => cases h
    | cons q M ih =>
      obtain ⟨k', d⟩ := q
      rw [List.map_cons]
      unfold lookT
      by_cases c : k' = k
      · rw [if_pos c, if_pos c]
      · rw [if_neg c]
        simp only
        rw [if_neg c]
        refine ih ?_
        rw [List.any_cons, decide_eq_false c, Bool.false_or] at h
        exact h
  · rename_i h
    induction M with
    | nil => simp [lookT]
    | cons q M ih =>
      obtain ⟨k', d⟩ := q
      rw [List.any_cons] at h
      have c : ¬ k' = k := fun c => h (by rw [decide_eq_true c]; rfl)
      rw [List.cons_append]
      unfold lookT
      rw [if_neg c]
      exact ih fun z => h (by rw [z, Bool.or_true])
theorem look_put_ne {k k2 : List Int} {w : Wd} (hne : k2 ≠ k) : ∀ {M : List (List Int × Wd)}, lookT k2 (putT k w M) = lookT k2 M := by
  intro M
  unfold putT
  split
  · rename_i hh
    clear hh
    induction M with
    | nil => rfl
    | cons q M ih =>
      obtain ⟨k', d⟩ := q
      rw [List.map_cons]
      by_cases c : k' = k
      · rw [if_pos c]
        unfold lookT
        rw [if_neg (fun z => hne (z.symm.trans c)), if_neg (fun z => hne (z.symm.trans c))]
        exact ih
      · rw [if_neg c]
        unfold lookT
        rw [ih]
  · rename_i hh
    clear hh
    induction M with
    | nil => simp [lookT, Ne.symm hne]
    | cons q M ih =>
      obtain ⟨k', d⟩ := q
      rw [List.cons_append]
      unfold lookT
      rw [ih]
theorem put_len (k : List Int) (w : Wd) (M : List (List Int × Wd)) : (putT k w M).length ≤ M.length + 1 := by
  unfold putT
  split
  · rw [List.length_map]; omega
  · rw [List.length_append]; exact Nat.le_refl _
theorem len_szLs : ∀ ls : List Lim, ls.length ≤ szLs ls
  | [] => Nat.zero_le _
  | l :: ls => by
    have h1 := szL_pos l
    have h2 := len_szLs ls
    simp only [List.length_cons, szLs]
    omega
def Pre (p q : List Int) : Prop := ∃ r, q = p ++ r
theorem pre_refl {p : List Int} : Pre p p := ⟨[], by simp⟩
theorem pre_down {p q : List Int} {k : Int} (h : Pre (p ++ [k]) q) : Pre p q := by
  obtain ⟨r, rfl⟩ := h
  exact ⟨k :: r, by simp⟩
theorem pre_other {p q : List Int} {k j : Int} (hkj : k ≠ j) (h : Pre (p ++ [k]) (p ++ [j] ++ q)) : False := by
  obtain ⟨r, h⟩ := h
  rw [List.append_assoc, List.append_assoc] at h
  have h := List.append_cancel_left h
  simp only [List.cons_append, List.nil_append] at h
  injection h with h1 _
  exact hkj h1.symm
section
variable {g : Mg} {m : Ms} {Rt : Wd → Sto → Prop} {val : Lim → Wd} {I : List (List Int × Wd) → Ev → Sto → Prop}
mutual
theorem tree_one (h1 : ∀ p w n M ρ S, M.length ≤ 900 → I M ρ S → ∃ ρ1, g (encA (p, .one w n)) ρ = some ρ1 ∧ wpS (m ρ1 S) (fun ρ2 S2 => I (putT p (val (.one w n)) M) ρ2 S2) Rt)
    (h2 : ∀ p b ls M ρ S, M.length ≤ 900 → ls.length ≤ 500 → p.length ≤ 500 → I M ρ S → (∀ (k : Nat) (l : Lim), ls[k]? = some l → lookT (p ++ [(k : Int)]) M = some (val l)) → ∃ ρ1, g (encA (p, .join b ls)) ρ = some ρ1 ∧ wpS (m ρ1 S) (fun ρ2 S2 => I (putT p (val (.join b ls)) M) ρ2 S2) Rt) :
    ∀ (x : Lim) (p : List Int) (M : List (List Int × Wd)) (ρ : Ev) (S : Sto) (N : Ev → Sto → Prop), M.length + szL x ≤ 900 → p.length + szL x ≤ 500 → I M ρ S →
      (∀ M' ρ' S', I M' ρ' S' → lookT p M' = some (val x) → (∀ q, ¬ Pre p q → lookT q M' = lookT q M) → M'.length ≤ M.length + szL x → N ρ' S') → wpF g m N Rt (((apL p x).reverse).map encA) ρ S
  | .one w n, p, M, ρ, S, N, hM, hp, hI, q => by
    simp only [apL, List.reverse_cons, List.reverse_nil, List.nil_append, List.map_cons, List.map_nil]
    simp only [szL] at hM hp q
    obtain ⟨ρ1, e, h⟩ := h1 p w n M ρ S (by omega) hI
    refine ⟨ρ1, e, wpS_mono h (fun ρ2 S2 h => ?_) fun _ _ h => h⟩
    exact q _ ρ2 S2 h look_put_same (fun q hq => look_put_ne fun e => hq (by rw [e]; exact pre_refl)) (put_len _ _ _)
  | .join b ls, p, M, ρ, S, N, hM, hp, hI, q => by
    simp only [apL, List.reverse_cons, List.map_append, List.map_cons, List.map_nil]
    simp only [szL] at hM hp q
    have hll := len_szLs ls
    refine wpF_app _ _ _ _ (tree_all h1 h2 ls p 0 M ρ S _ (by omega) (by omega) hI fun M' ρ' S' hI' hk hq hl => ?_)
    obtain ⟨ρ1, e, h⟩ := h2 p b ls M' ρ' S' (by omega) (by omega) (by omega) hI' fun k l hl => by have := hk k l hl; rwa [Nat.zero_add] at this
    refine ⟨ρ1, e, wpS_mono h (fun ρ2 S2 h => ?_) fun _ _ h => h⟩
    refine q _ ρ2 S2 h look_put_same (fun r hr => ?_) (by have := put_len p (val (.join b ls)) M'; omega)
    rw [look_put_ne fun e => hr (by rw [e]; exact pre_refl)]
    exact hq r fun j hj => hr (pre_down hj)
theorem tree_all (h1 : ∀ p w n M ρ S, M.length ≤ 900 → I M ρ S → ∃ ρ1, g (encA (p, .one w n)) ρ = some ρ1 ∧ wpS (m ρ1 S) (fun ρ2 S2 => I (putT p (val (.one w n)) M) ρ2 S2) Rt)
    (h2 : ∀ p b ls M ρ S, M.length ≤ 900 → ls.length ≤ 500 → p.length ≤ 500 → I M ρ S → (∀ (k : Nat) (l : Lim), ls[k]? = some l → lookT (p ++ [(k : Int)]) M = some (val l)) → ∃ ρ1, g (encA (p, .join b ls)) ρ = some ρ1 ∧ wpS (m ρ1 S) (fun ρ2 S2 => I (putT p (val (.join b ls)) M) ρ2 S2) Rt) :
    ∀ (ls : List Lim) (p : List Int) (j : Nat) (M : List (List Int × Wd)) (ρ : Ev) (S : Sto) (N : Ev → Sto → Prop), M.length + szLs ls ≤ 900 → p.length + 1 + szLs ls ≤ 500 → I M ρ S →
      (∀ M' ρ' S', I M' ρ' S' → (∀ (k : Nat) (l : Lim), ls[k]? = some l → lookT (p ++ [((j + k : Nat) : Int)]) M' = some (val l)) → (∀ q, (∀ i : Int, ¬ Pre (p ++ [i]) q) → lookT q M' = lookT q M) → M'.length ≤ M.length + szLs ls → N ρ' S') → wpF g m N Rt (((apLs p j ls).reverse).map encA) ρ S
  | [], p, j, M, ρ, S, N, hM, hp, hI, q => by
    simp only [apLs, List.reverse_nil, List.map_nil]
    exact q M ρ S hI (fun k l h => by simp at h) (fun _ _ => rfl) (by simp only [szLs]; omega)
  | l :: ls, p, j, M, ρ, S, N, hM, hp, hI, q => by
    simp only [apLs, List.reverse_append, List.map_append]
    simp only [szLs] at hM hp q
    have hz := szL_pos l
    refine wpF_app _ _ _ _ (tree_all h1 h2 ls p (j + 1) M ρ S _ (by omega) (by omega) hI fun M1 ρ1 S1 hI1 hk1 hq1 hl1 => ?_)
    refine tree_one h1 h2 l (p ++ [(j : Int)]) M1 ρ1 S1 N (by omega) (by simp; omega) hI1 fun M2 ρ2 S2 hI2 hk2 hq2 hl2 => ?_
    refine q M2 ρ2 S2 hI2 (fun k x hx => ?_) (fun r hr => ?_) (by omega)
    · cases k with
      | zero =>
        rw [List.getElem?_cons_zero] at hx
        cases hx
        exact hk2
      | succ k =>
        rw [List.getElem?_cons_succ] at hx
        have := hk1 k x hx
        rw [show j + 1 + k = j + (k + 1) by omega] at this
        rw [hq2 _ fun z => ?_]
        · exact this
        · have z' : Pre (p ++ [(j : Int)]) (p ++ [((j + (k + 1) : Nat) : Int)] ++ []) := by rw [List.append_nil]; exact z
          exact pre_other (by omega) z'
    · rw [hq2 r (hr _)]
      exact hq1 r hr
end
end
end PL
namespace PL
open PySem PySem.Spec PyProof.Rows L2 DL
def flatA (its : List (List Int × Lim)) : List (List Int × Lim) := its.flatMap fun q => apL q.1 q.2
def kids (p : List Int) (n : Nat) (ls : List Lim) : List (List Int × Lim) := (en n ls).map fun q => (p ++ [(q.1 : Int)], q.2)
theorem flat_kids (p : List Int) : ∀ (n : Nat) (ls : List Lim), flatA (kids p n ls) = apLs p n ls
  | _, [] => rfl
  | n, l :: ls => by
    have ih := flat_kids p (n + 1) ls
    unfold flatA kids at ih ⊢
    simp only [en, List.map_cons, List.flatMap_cons, apLs, ih]
theorem kids_sum (p : List Int) (ls : List Lim) : ((kids p 0 ls).map fun q => szL q.2).sum = szLs ls := by
  unfold kids
  rw [List.map_map]
  exact en_sum 0 ls
theorem kids_len (p : List Int) (ls : List Lim) : (kids p 0 ls).length = ls.length := by
  unfold kids
  rw [List.length_map, en_len]
theorem szL_mem : ∀ (ls : List Lim) (l : Lim), l ∈ ls → szL l ≤ szLs ls
  | [], _, h => by cases h
  | y :: ls, l, h => by
    simp only [szLs]
    rcases List.mem_cons.1 h with e | h
    · rw [e]; omega
    · have := szL_mem ls l h; omega
mutual
theorem canLay_encL : ∀ l : Lim, (encL l).canLay0 = true
  | .one w n => by
    have : PyData.strOk w.str = true := by cases w <;> decide +kernel
    simp only [encL, PyData.canLay0, PyData.canLayAll0, this, Bool.and_true]
  | .join b ls => by
    have h0 : PyData.strOk (jw b) = true := by cases b <;> decide +kernel
    unfold encL
    have := canLay_encLs ls
    simp only [PyData.canLay0, PyData.canLayAll0, this, h0, Bool.and_true]
theorem canLay_encLs : ∀ ls : List Lim, PyData.canLayAll0 (encLs ls) = true
  | [] => rfl
  | l :: ls => by simp only [encLs, PyData.canLayAll0, canLay_encL l, canLay_encLs ls]; rfl
end
theorem map_range_get {α β : Type} {f : Nat → β} {g : α → β} {ls : List α} (h : ∀ k x, ls[k]? = some x → f k = g x) : (List.range ls.length).map f = ls.map g := by
  refine List.ext_getElem? fun k => ?_
  rw [List.getElem?_map, List.getElem?_map]
  by_cases c : k < ls.length
  · rw [List.getElem?_eq_getElem c, List.getElem?_range c]
    simp only [Option.map_some]
    rw [h k ls[k] (List.getElem?_eq_getElem c)]
  · rw [List.getElem?_eq_none (show (List.range ls.length).length ≤ k by simp; omega), List.getElem?_eq_none (show ls.length ≤ k by omega)]
    rfl
def tri (a : Int × Int × Int) : CW → Int
  | .hours => a.1
  | .cycles => a.2.1
  | .days => a.2.2
def negS (a : Int × Int × Int) : Int × Int × Int := (0 - a.1 - 1, 0 - a.2.1 - 1, 0 - a.2.2 - 1)
noncomputable section
def dueD (u : Uf) (j : Job) (b : Int) : Option Int := (fp u j.lim b).map (· - 1)
def lateD (u : Uf) (j : Job) (b : Int) : Option Int := (fp u (shiftL (tri j.sl) j.lim) b).map (· - 1)
def reachD (u : Uf) (j : Job) (b : Int) : Option Int := fp u (shiftL (tri (negS j.sl)) j.lim) b
def earlyD (u : Uf) (j : Job) (b : Int) : Option Int := match reachD u j b, lateD u j b with
  | none, none => none
  | some r, none => some (if r > b + 1 then r else b + 1)
  | none, some l => some l
  | some r, some l => some (if l < (if r > b + 1 then r else b + 1) then l else (if r > b + 1 then r else b + 1))
end
structure JobOk (s : Site) (j : Job) (hi : Int) (k : Nat) : Prop where
  lim : LimB 1 hi k j.lim
  z : szL j.lim ≤ 400
  k8 : k < 11
  sl : (0 ≤ j.sl.1 ∧ j.sl.1 ≤ 500) ∧ (0 ≤ j.sl.2.1 ∧ j.sl.2.1 ≤ 500) ∧ 0 ≤ j.sl.2.2 ∧ j.sl.2.2 ≤ 500
  pt : ∃ st, (j.pt, st) ∈ s.parts
  hi0 : 0 ≤ hi ∧ hi ≤ 500
end PL
namespace WF
open PySem PySem.Spec PyProof.Rows L2 DL PL
section
variable {s : Site} {S : Sto} {b : Int} {p : Str × Sy} {j : Job}
theorem inner_one_eq {w1 : Wd} {w : CW} {n : Int} : g_inner_pairs [w1, encL (.one w n)] S = .ok (.list []) S := by
  refine wpR_ok (w_def rfl ?_)
  unfold m_inner_pairs
  cases w <;> (unfold encL; (repeat (first | with_reducible refine zq15 ?_ | (with_reducible first | refine zq14 ?_ | refine zq11 ?_ | refine zq10 ?_ | refine zq3 ?_ | refine zq4 ?_ | refine zq5 ?_ | refine zq0 ?_ | refine zq8 ?_ | refine zq6 ?_ | refine zq1 ?_ | refine zq13 ?_ | refine zq12 ?_ | refine zq7 ?_ | refine zq2 ?_ | refine zq9 ?_))); exact ⟨rfl, rfl⟩)
theorem inner_join_eq {q : List Int} {c : Bool} {ls : List Lim} (hp : q.length + 1 ≤ sizeLine) (hl : ls.length ≤ sizeLine) : g_inner_pairs [.tuple (q.map .int), encL (.join c ls)] S = .ok (.list ((kids q 0 ls).map encA)) S := by
  rw [inner_pairs_eq (by simpa using hp) hl]
  unfold kids
  rw [List.map_map]
  congr 2
  refine List.map_congr_left fun x _ => ?_
  simp [encA]
theorem all_pairs_eq {l : Lim} (h : szL l ≤ 500) : g_all_pairs [encL l] S = .ok (.list ((apL [] l).map encA)) S := by
  have hz : 2000 ≤ sizeLine := by decide
  refine wpR_ok (w_def rfl ?_)
  unfold m_all_pairs
  (repeat (first | with_reducible refine zq15 ?_ | (with_reducible first | refine zq14 ?_ | refine zq11 ?_ | refine zq10 ?_ | refine zq3 ?_ | refine zq4 ?_ | refine zq5 ?_ | refine zq0 ?_ | refine zq8 ?_ | refine zq6 ?_ | refine zq1 ?_ | refine zq13 ?_ | refine zq12 ?_ | refine zq7 ?_ | refine zq2 ?_ | refine zq9 ?_)))
  refine wp_wh (I := fun n ρ S' => S' = S ∧ ∃ (done its : List (List Int × Lim)) (x3 x4 : Option Sl), (its.map fun q => szL q.2).sum < n ∧ n ≤ 1000 ∧ done ++ flatA its.reverse = apL [] l ∧ (∀ q ∈ its, q.1.length + szL q.2 ≤ 501) ∧
    ρ = [some (.val (encL l)), some (.own (done.map encA)), some (.own (its.map encA)), x3, x4]) ?_ ?_ _ _ _ ⟨rfl, [], [([], l)], none, none, by simp; omega, Nat.le_refl _, by simp [flatA], by simp; omega, rfl⟩
  · rintro n ρ S' ⟨rfl, done, its, x3, x4, hs, hn, hd, hq, rfl⟩
    (repeat (with_reducible first | refine zq14 ?_ | refine zq11 ?_ | refine zq10 ?_ | refine zq3 ?_ | refine zq4 ?_ | refine zq5 ?_ | refine zq0 ?_ | refine zq8 ?_ | refine zq6 ?_ | refine zq1 ?_ | refine zq13 ?_ | refine zq12 ?_ | refine zq7 ?_ | refine zq2 ?_ | refine zq9 ?_))
    rcases List.eq_nil_or_concat its with rfl | ⟨init, q, rfl⟩
    · (repeat (first | with_reducible refine zq15 ?_ | (with_reducible first | refine zq14 ?_ | refine zq11 ?_ | refine zq10 ?_ | refine zq3 ?_ | refine zq4 ?_ | refine zq5 ?_ | refine zq0 ?_ | refine zq8 ?_ | refine zq6 ?_ | refine zq1 ?_ | refine zq13 ?_ | refine zq12 ?_ | refine zq7 ?_ | refine zq2 ?_ | refine zq9 ?_)))
      simp only [List.reverse_nil, flatA, List.flatMap_nil, List.append_nil] at hd
      rw [← hd]
      exact ⟨rfl, rfl⟩
    simp only [List.concat_eq_append] at *
    refine w_bt (by simp) ?_
    refine zq15 ?_
    refine w_pop (ws := init.map encA) (w := encA q) (by simp) ?_
    obtain ⟨path, x⟩ := q
    have hq0 := hq (path, x) (by simp)
    have hlen := congrArg List.length hd
    rw [List.length_append, apL_len] at hlen
    simp only [List.map_append, List.sum_append, List.map_cons, List.map_nil, List.sum_cons, List.sum_nil, Nat.add_zero] at hs
    have hil : init.length ≤ (init.map fun q => szL q.2).sum := by
      clear hs hn hd hq hq0 hlen
      induction init with
      | nil => exact Nat.le_refl _
      | cons q its ih =>
        have := szL_pos q.2
        simp only [List.length_cons, List.map_cons, List.sum_cons]
        omega
    simp only [List.reverse_append, List.reverse_cons, List.reverse_nil, List.nil_append, List.cons_append] at hd
    have hq' : ∀ q ∈ init, q.1.length + szL q.2 ≤ 501 := fun q h => hq q (by simp [h])
    (repeat (first | with_reducible refine zq15 ?_ | (with_reducible first | refine zq14 ?_ | refine zq11 ?_ | refine zq10 ?_ | refine zq3 ?_ | refine zq4 ?_ | refine zq5 ?_ | refine zq0 ?_ | refine zq8 ?_ | refine zq6 ?_ | refine zq1 ?_ | refine zq13 ?_ | refine zq12 ?_ | refine zq7 ?_ | refine zq2 ?_ | refine zq9 ?_)))
    refine ⟨by simp only [List.length_map]; omega, ?_⟩
    (repeat (first | with_reducible refine zq15 ?_ | (with_reducible first | refine zq14 ?_ | refine zq11 ?_ | refine zq10 ?_ | refine zq3 ?_ | refine zq4 ?_ | refine zq5 ?_ | refine zq0 ?_ | refine zq8 ?_ | refine zq6 ?_ | refine zq1 ?_ | refine zq13 ?_ | refine zq12 ?_ | refine zq7 ?_ | refine zq2 ?_ | refine zq9 ?_)))
    cases x with
    | one w n1 =>
      simp only [szL] at hs
      refine w_eq inner_one_eq ?_
      (repeat (first | with_reducible refine zq15 ?_ | (with_reducible first | refine zq14 ?_ | refine zq11 ?_ | refine zq10 ?_ | refine zq3 ?_ | refine zq4 ?_ | refine zq5 ?_ | refine zq0 ?_ | refine zq8 ?_ | refine zq6 ?_ | refine zq1 ?_ | refine zq13 ?_ | refine zq12 ?_ | refine zq7 ?_ | refine zq2 ?_ | refine zq9 ?_)))
      refine ⟨by simp; omega, rfl, done ++ [(path, .one w n1)], init, some (.val (.tuple (path.map .int))), some (.val (encL (.one w n1))), by omega, by omega, ?_, hq', ?_⟩
      · rw [← hd]
        simp [flatA, apL]
      · simp only [List.map_append, List.reverse_nil, List.append_nil]
        rfl
    | join c ls =>
      simp only [szL] at hs hq0
      have hll := len_szLs ls
      refine w_eq (inner_join_eq (by show path.length + 1 ≤ sizeLine; omega) (by omega)) ?_
      (repeat (first | with_reducible refine zq15 ?_ | (with_reducible first | refine zq14 ?_ | refine zq11 ?_ | refine zq10 ?_ | refine zq3 ?_ | refine zq4 ?_ | refine zq5 ?_ | refine zq0 ?_ | refine zq8 ?_ | refine zq6 ?_ | refine zq1 ?_ | refine zq13 ?_ | refine zq12 ?_ | refine zq7 ?_ | refine zq2 ?_ | refine zq9 ?_)))
      refine ⟨by simp only [List.length_map, List.length_reverse, kids_len]; omega, rfl, done ++ [(path, .join c ls)], init ++ (kids path 0 ls).reverse, some (.val (.tuple (path.map .int))), some (.val (encL (.join c ls))), ?_, by omega, ?_, ?_, ?_⟩
      · rw [List.map_append, List.sum_append, List.map_reverse, List.sum_reverse, kids_sum]
        omega
      · rw [← hd]
        rw [List.reverse_append, List.reverse_reverse]
        have := flat_kids path 0 ls
        unfold flatA at this ⊢
        rw [List.flatMap_append, this]
        simp [apL]
      · intro q hq
        rcases List.mem_append.1 hq with hq | hq
        · exact hq' q hq
        · unfold kids at hq
          obtain ⟨e, he, rfl⟩ := List.mem_map.1 (List.mem_reverse.1 hq)
          have hm := en_mem 0 ls e he
          have hle : szL e.2 ≤ szLs ls := szL_mem ls e.2 hm
          simp only [List.length_append, List.length_singleton]
          omega
      · simp only [List.map_append, List.map_reverse]
        rfl
  · rintro ρ S' ⟨rfl, done, its, x3, x4, hs, hn, hd, hq, rfl⟩
    omega
theorem number_for_eq {w : CW} {a : Int × Int × Int} : g_number_for [.str w.str, encSl a] S = .ok (.int (tri a w)) S := by
  refine wpR_ok (w_def rfl ?_)
  unfold m_number_for
  cases w <;> ((repeat (first | with_reducible refine zq15 ?_ | (with_reducible first | refine zq14 ?_ | refine zq11 ?_ | refine zq10 ?_ | refine zq3 ?_ | refine zq4 ?_ | refine zq5 ?_ | refine zq0 ?_ | refine zq8 ?_ | refine zq6 ?_ | refine zq1 ?_ | refine zq13 ?_ | refine zq12 ?_ | refine zq7 ?_ | refine zq2 ?_ | refine zq9 ?_))); exact ⟨rfl, rfl⟩)
theorem getT0 {M : List (List Int × Wd)} {k : List Int} {w : Wd} (h : lookT k M = some w) : recGetT [.tdc M] (oW 0) (.tuple (k.map .int)) = some w := by
  unfold recGetT
  simp only [ints_int]
  exact h
theorem putT0 {M : List (List Int × Wd)} {k : List Int} {w : Wd} (h : M.length < sizeLine) : recPutT [.tdc M] (oW 0) (.tuple (k.map .int)) w = some [.tdc (putT k w M)] := by
  unfold recPutT
  simp only [ints_int]
  show (if M.length < sizeLine then _ else none) = _
  rw [if_pos h]
  rfl
theorem widened_eq {l : Lim} {a : Int × Int × Int} (h : szL l ≤ 400) : g_widened [encL l, encSl a] S = .ok (encL (shiftL (tri a) l)) S := by
  have hz : 2000 ≤ sizeLine := by decide
  suffices hw : ∃ S', runDef 8 2 m_widened [encL l, encSl a] [] = .ok (encL (shiftL (tri a) l)) S' by
    obtain ⟨S', e⟩ := hw
    refine pureG_eq e ?_ (bnd_lay _ (canLay_encL _))
    simp only [bndAll, bnd_lay _ (canLay_encL l)]
    rfl
  suffices hw : wpE (runDef 8 2 m_widened [encL l, encSl a] []) fun w _ => w = encL (shiftL (tri a) l) by
    obtain ⟨w, S', e, rfl⟩ := wpE_ex.1 hw
    exact ⟨S', e⟩
  refine w_def rfl ?_
  unfold m_widened
  refine zq15 ?_
  (repeat (with_reducible first | refine zq14 ?_ | refine zq11 ?_ | refine zq10 ?_ | refine zq3 ?_ | refine zq4 ?_ | refine zq5 ?_ | refine zq0 ?_ | refine zq8 ?_ | refine zq6 ?_ | refine zq1 ?_ | refine zq13 ?_ | refine zq12 ?_ | refine zq7 ?_ | refine zq2 ?_ | refine zq9 ?_))
  refine w_seqJ (fun ρ S => ∃ M x3 x4 x5 x6, S = [.tdc M] ∧ lookT [] M = some (encL (shiftL (tri a) l)) ∧ ρ = [some (.val (encL l)), some (.val (encSl a)), some (.val (oW 0)), x3, x4, x5, x6, none]) ?_ ?_
  · (repeat (with_reducible first | refine zq14 ?_ | refine zq11 ?_ | refine zq10 ?_ | refine zq3 ?_ | refine zq4 ?_ | refine zq5 ?_ | refine zq0 ?_ | refine zq8 ?_ | refine zq6 ?_ | refine zq1 ?_ | refine zq13 ?_ | refine zq12 ?_ | refine zq7 ?_ | refine zq2 ?_ | refine zq9 ?_))
    refine w_eq (all_pairs_eq (by omega)) ?_
    (repeat (with_reducible first | refine zq14 ?_ | refine zq11 ?_ | refine zq10 ?_ | refine zq3 ?_ | refine zq4 ?_ | refine zq5 ?_ | refine zq0 ?_ | refine zq8 ?_ | refine zq6 ?_ | refine zq1 ?_ | refine zq13 ?_ | refine zq12 ?_ | refine zq7 ?_ | refine zq2 ?_ | refine zq9 ?_))
    rw [← List.map_reverse]
    refine wpF_for _ _ _ (tree_one (val := fun x => encL (shiftL (tri a) x)) (I := fun M ρ S => S = [.tdc M] ∧ ∃ x3 x4 x5 x6, ρ = [some (.val (encL l)), some (.val (encSl a)), some (.val (oW 0)), x3, x4, x5, x6, none]) ?_ ?_ l [] [] _ _ _ (by simp; omega) (by simp; omega) ⟨rfl, none, none, none, none, rfl⟩ ?_)
    · rintro q w n M ρ S hM ⟨rfl, x3, x4, x5, x6, rfl⟩
      refine ⟨_, rfl, ?_⟩
      (repeat (first | with_reducible refine zq15 ?_ | (with_reducible first | refine zq14 ?_ | refine zq11 ?_ | refine zq10 ?_ | refine zq3 ?_ | refine zq4 ?_ | refine zq5 ?_ | refine zq0 ?_ | refine zq8 ?_ | refine zq6 ?_ | refine zq1 ?_ | refine zq13 ?_ | refine zq12 ?_ | refine zq7 ?_ | refine zq2 ?_ | refine zq9 ?_)))
      refine w_bt (by cases w <;> rfl) ?_
      (repeat (first | with_reducible refine zq15 ?_ | (with_reducible first | refine zq14 ?_ | refine zq11 ?_ | refine zq10 ?_ | refine zq3 ?_ | refine zq4 ?_ | refine zq5 ?_ | refine zq0 ?_ | refine zq8 ?_ | refine zq6 ?_ | refine zq1 ?_ | refine zq13 ?_ | refine zq12 ?_ | refine zq7 ?_ | refine zq2 ?_ | refine zq9 ?_)))
      refine w_eq number_for_eq ?_
      (repeat (first | with_reducible refine zq15 ?_ | (with_reducible first | refine zq14 ?_ | refine zq11 ?_ | refine zq10 ?_ | refine zq3 ?_ | refine zq4 ?_ | refine zq5 ?_ | refine zq0 ?_ | refine zq8 ?_ | refine zq6 ?_ | refine zq1 ?_ | refine zq13 ?_ | refine zq12 ?_ | refine zq7 ?_ | refine zq2 ?_ | refine zq9 ?_)))
      refine wpO_rfl (putT0 (by omega)) ?_
      refine ⟨?_, some (.val (.tuple (q.map .int))), some (.val (encL (.one w n))), some (.val (.str w.str)), some (.val (.int n)), rfl⟩
      simp only [shiftL, encL]
    · rintro q c ls M ρ S hM hl hq ⟨rfl, x3, x4, x5, x6, rfl⟩ hk
      refine ⟨[some (.val (encL l)), some (.val (encSl a)), some (.val (oW 0)), some (.val (.tuple (q.map .int))), some (.val (.tuple [.str (jw c), .tuple (ls.map encL)])), x5, x6, none], by rw [← encL_join]; rfl, ?_⟩
      (repeat (first | with_reducible refine zq15 ?_ | (with_reducible first | refine zq14 ?_ | refine zq11 ?_ | refine zq10 ?_ | refine zq3 ?_ | refine zq4 ?_ | refine zq5 ?_ | refine zq0 ?_ | refine zq8 ?_ | refine zq6 ?_ | refine zq1 ?_ | refine zq13 ?_ | refine zq12 ?_ | refine zq7 ?_ | refine zq2 ?_ | refine zq9 ?_)))
      refine w_bf (by cases c <;> rfl) ?_
      (repeat (first | with_reducible refine zq15 ?_ | (with_reducible first | refine zq14 ?_ | refine zq11 ?_ | refine zq10 ?_ | refine zq3 ?_ | refine zq4 ?_ | refine zq5 ?_ | refine zq0 ?_ | refine zq8 ?_ | refine zq6 ?_ | refine zq1 ?_ | refine zq13 ?_ | refine zq12 ?_ | refine zq7 ?_ | refine zq2 ?_ | refine zq9 ?_)))
      simp only [List.length_map]
      refine ⟨by omega, ?_⟩
      refine lc_map (enc := fun i : Nat => .int (0 + (i : Int))) (out := fun i : Nat => encL (shiftL (tri a) (ls.getD i (.one .days 0)))) (List.range ((ls.length : Int)).toNat) (by simp; omega) (fun i hi => ⟨_, rfl, wpX_ok ?_⟩) ?_
      · (repeat (with_reducible first | refine zq14 ?_ | refine zq11 ?_ | refine zq10 ?_ | refine zq3 ?_ | refine zq4 ?_ | refine zq5 ?_ | refine zq0 ?_ | refine zq8 ?_ | refine zq6 ?_ | refine zq1 ?_ | refine zq13 ?_ | refine zq12 ?_ | refine zq7 ?_ | refine zq2 ?_ | refine zq9 ?_))
        have hi : i < ls.length := by simpa using hi
        refine wpO_rfl (w := PyData.tuple ((q ++ [(i : Int)]).map .int)) (by simp only [gAdd, List.length_map, List.length_singleton]; rw [if_pos (by omega)]; simp) ?_
        (repeat (with_reducible first | refine zq14 ?_ | refine zq11 ?_ | refine zq10 ?_ | refine zq3 ?_ | refine zq4 ?_ | refine zq5 ?_ | refine zq0 ?_ | refine zq8 ?_ | refine zq6 ?_ | refine zq1 ?_ | refine zq13 ?_ | refine zq12 ?_ | refine zq7 ?_ | refine zq2 ?_ | refine zq9 ?_))
        have := hk i ls[i] (List.getElem?_eq_getElem hi)
        refine wpO_rfl (getT0 this) ?_
        rw [List.getD_eq_getElem?_getD, List.getElem?_eq_getElem hi]
        exact ⟨rfl, rfl⟩
      rw [Int.toNat_natCast, map_range_get (g := fun x => encL (shiftL (tri a) x)) fun k x hx => by rw [List.getD_eq_getElem?_getD, hx]; rfl]
      (repeat (first | with_reducible refine zq15 ?_ | (with_reducible first | refine zq14 ?_ | refine zq11 ?_ | refine zq10 ?_ | refine zq3 ?_ | refine zq4 ?_ | refine zq5 ?_ | refine zq0 ?_ | refine zq8 ?_ | refine zq6 ?_ | refine zq1 ?_ | refine zq13 ?_ | refine zq12 ?_ | refine zq7 ?_ | refine zq2 ?_ | refine zq9 ?_)))
      refine wpO_rfl (putT0 (by omega)) ?_
      refine ⟨?_, _, _, _, _, rfl⟩
      rw [shiftL_join, encL_join, List.map_map]
      rfl
    · rintro M' ρ' S' ⟨rfl, x3, x4, x5, x6, rfl⟩ hk _ _
      exact ⟨M', x3, x4, x5, x6, rfl, hk, rfl⟩
  · rintro ρ S ⟨M, x3, x4, x5, x6, rfl, hk, rfl⟩
    (repeat (with_reducible first | refine zq14 ?_ | refine zq11 ?_ | refine zq10 ?_ | refine zq3 ?_ | refine zq4 ?_ | refine zq5 ?_ | refine zq0 ?_ | refine zq8 ?_ | refine zq6 ?_ | refine zq1 ?_ | refine zq13 ?_ | refine zq12 ?_ | refine zq7 ?_ | refine zq2 ?_ | refine zq9 ?_))
    exact ⟨_, getT0 (k := []) hk, rfl⟩
end
end WF
namespace PL
open PySem PySem.Spec PyProof.Rows L2 DL
noncomputable section
def lateOk (o : Option Int) (b : Int) : Bool := match o with
  | none => true
  | some l => decide (b < l)
def windD (u : Uf) (j : Job) (b : Int) : Option (Int × Option Int) := if j.wy = ("kept" : Str) ∧ (dueD u j b).isSome = true ∧ lateOk (lateD u j b) b = true then (earlyD u j b).map fun e => (e, lateD u j b) else none
def encWin : Option (Int × Option Int) → Wd
  | none => .none
  | some (e, l) => .tuple [.int e, oI l]
end
theorem early_gt {u : Uf} {j : Job} {b e : Int} (h1 : earlyD u j b = some e) (h2 : lateOk (lateD u j b) b = true) : b < e := by
  unfold earlyD at h1
  unfold lateOk at h2
  cases hr : reachD u j b with
  | none =>
    rw [hr] at h1
    cases hl : lateD u j b with
    | none => rw [hl] at h1; cases h1
    | some l => rw [hl] at h1 h2; cases h1; exact of_decide_eq_true h2
  | some r =>
    rw [hr] at h1
    cases hl : lateD u j b with
    | none => rw [hl] at h1; cases h1; split <;> omega
    | some l =>
      rw [hl] at h1 h2
      cases h1
      have := of_decide_eq_true h2
      split <;> split <;> omega
end PL
namespace WF
open PySem PySem.Spec PyProof.Rows L2 DL PL
section
variable {s : Site} {S : Sto} {b : Int} {p : Str × Sy} {j : Job}
theorem moved_limit_eq {a : Int × Int × Int} {lo hi : Int} : ∀ (k n : Nat) (l : Lim) (S : Sto), LimB lo hi k l → k < n → g_moved_limit n [encL l, encSl a] S = .ok (encL (shiftL (tri a) l)) S := by
  have hz := siz
  intro k
  have one : ∀ (n : Nat) (w : CW) (i : Int) (S : Sto), g_moved_limit (n + 1) [encL (.one w i), encSl a] S = .ok (encL (shiftL (tri a) (.one w i))) S := fun n w i S => by
    refine wpR_ok (w_def rfl ?_)
    unfold m_moved_limit
    cases w <;> (unfold encL shiftL; (repeat (first | with_reducible refine zq15 ?_ | (with_reducible first | refine zq14 ?_ | refine zq11 ?_ | refine zq10 ?_ | refine zq3 ?_ | refine zq4 ?_ | refine zq5 ?_ | refine zq0 ?_ | refine zq8 ?_ | refine zq6 ?_ | refine zq1 ?_ | refine zq13 ?_ | refine zq12 ?_ | refine zq7 ?_ | refine zq2 ?_ | refine zq9 ?_))); exact ⟨rfl, rfl⟩)
  induction k with
  | zero =>
    intro n l S hl hn
    obtain ⟨n, rfl⟩ : ∃ n', n = n' + 1 := ⟨n - 1, by omega⟩
    cases l with
    | join c ls => obtain ⟨_, e, _⟩ := hl.join_; cases e
    | one w i => exact one n w i S
  | succ k ih =>
    intro n l S hl hn
    obtain ⟨n, rfl⟩ : ∃ n', n = n' + 1 := ⟨n - 1, by omega⟩
    cases l with
    | one w i => exact one n w i S
    | join e ls =>
      obtain ⟨k2, e2, hne, hle, hall⟩ := hl.join_
      cases e2
      refine wpR_ok (w_def rfl ?_)
      unfold m_moved_limit
      rw [encL_join, shiftL_join, encL_join]
      (repeat (first | with_reducible refine zq15 ?_ | (with_reducible first | refine zq14 ?_ | refine zq11 ?_ | refine zq10 ?_ | refine zq3 ?_ | refine zq4 ?_ | refine zq5 ?_ | refine zq0 ?_ | refine zq8 ?_ | refine zq6 ?_ | refine zq1 ?_ | refine zq13 ?_ | refine zq12 ?_ | refine zq7 ?_ | refine zq2 ?_ | refine zq9 ?_)))
      refine w_bf (by cases e <;> rfl) ?_
      (repeat (first | with_reducible refine zq15 ?_ | (with_reducible first | refine zq14 ?_ | refine zq11 ?_ | refine zq10 ?_ | refine zq3 ?_ | refine zq4 ?_ | refine zq5 ?_ | refine zq0 ?_ | refine zq8 ?_ | refine zq6 ?_ | refine zq1 ?_ | refine zq13 ?_ | refine zq12 ?_ | refine zq7 ?_ | refine zq2 ?_ | refine zq9 ?_)))
      refine lc_map (enc := encL) (out := fun l => encL (shiftL (tri a) l)) ls (by omega) (fun l hl => ⟨_, rfl, wpX_ok ?_⟩) ?_
      · (repeat (with_reducible first | refine zq14 ?_ | refine zq11 ?_ | refine zq10 ?_ | refine zq3 ?_ | refine zq4 ?_ | refine zq5 ?_ | refine zq0 ?_ | refine zq8 ?_ | refine zq6 ?_ | refine zq1 ?_ | refine zq13 ?_ | refine zq12 ?_ | refine zq7 ?_ | refine zq2 ?_ | refine zq9 ?_))
        exact w_eq (ih n l S (hall l hl) (by omega)) ⟨rfl, rfl⟩
      (repeat (first | with_reducible refine zq15 ?_ | (with_reducible first | refine zq14 ?_ | refine zq11 ?_ | refine zq10 ?_ | refine zq3 ?_ | refine zq4 ?_ | refine zq5 ?_ | refine zq0 ?_ | refine zq8 ?_ | refine zq6 ?_ | refine zq1 ?_ | refine zq13 ?_ | refine zq12 ?_ | refine zq7 ?_ | refine zq2 ?_ | refine zq9 ?_)))
      rw [List.map_map]
      exact ⟨rfl, rfl⟩
theorem look_J : ∀ (l : List Job) (j : Job), (l.map (·.nm)).Nodup → j ∈ l → lookD (l.map fun j => (.str j.nm, encJ j)) (.str j.nm) = some (encJ j)
  | [], _, _, h => by cases h
  | q :: l, j, nd, h => by
    simp only [List.map_cons, List.nodup_cons] at nd ⊢
    unfold lookD
    rw [eqv_str]
    by_cases z : q.nm = j.nm
    · rw [if_pos (by simpa using z)]
      rcases List.mem_cons.1 h with rfl | h
      · rfl
      · exact absurd (List.mem_map_of_mem (f := fun j : Job => j.nm) h) (z ▸ nd.1)
    · rw [if_neg (by simpa using z)]
      rcases List.mem_cons.1 h with rfl | h
      · exact absurd rfl z
      · exact look_J l j nd.2 h
theorem gInD_J {l : List Job} {x : Str} : gInD (.str x) (.dict (l.map fun j => (.str j.nm, encJ j))) = some (.bool (lookD (l.map fun j => (.str j.nm, encJ j)) (.str x)).isSome) := by
  cases l <;> rfl
structure JobsOk (s : Site) (hi : Int) (k : Nat) : Prop where
  nd : (s.jobs.map (·.nm)).Nodup
  ln : s.jobs.length ≤ 1000
  ok : ∀ j ∈ s.jobs, JobOk s j hi k
theorem task_named_eq (nd : (s.jobs.map (·.nm)).Nodup) (ln : s.jobs.length ≤ 1000) (hj : j ∈ s.jobs) : g_task_named [encSite s, .str j.nm] S = .ok (encJ j) S := by
  have hz := siz
  refine wpR_ok (w_def rfl ?_)
  unfold m_task_named
  (repeat (first | with_reducible refine zq15 ?_ | (with_reducible first | refine zq14 ?_ | refine zq11 ?_ | refine zq10 ?_ | refine zq3 ?_ | refine zq4 ?_ | refine zq5 ?_ | refine zq0 ?_ | refine zq8 ?_ | refine zq6 ?_ | refine zq1 ?_ | refine zq13 ?_ | refine zq12 ?_ | refine zq7 ?_ | refine zq2 ?_ | refine zq9 ?_)))
  refine w_eq (dc_map (enc := encJ) (key := fun j => j.nm) (out := encJ) s.jobs [] (by simpa using nd) (by simp; omega) fun x hx => ⟨_, rfl, rfl, rfl⟩) ?_
  (repeat (first | with_reducible refine zq15 ?_ | (with_reducible first | refine zq14 ?_ | refine zq11 ?_ | refine zq10 ?_ | refine zq3 ?_ | refine zq4 ?_ | refine zq5 ?_ | refine zq0 ?_ | refine zq8 ?_ | refine zq6 ?_ | refine zq1 ?_ | refine zq13 ?_ | refine zq12 ?_ | refine zq7 ?_ | refine zq2 ?_ | refine zq9 ?_)))
  rw [List.nil_append]
  refine wpO_rfl (by rw [gInD_J, look_J s.jobs j nd hj]) ?_
  (repeat (first | with_reducible refine zq15 ?_ | (with_reducible first | refine zq14 ?_ | refine zq11 ?_ | refine zq10 ?_ | refine zq3 ?_ | refine zq4 ?_ | refine zq5 ?_ | refine zq0 ?_ | refine zq8 ?_ | refine zq6 ?_ | refine zq1 ?_ | refine zq13 ?_ | refine zq12 ?_ | refine zq7 ?_ | refine zq2 ?_ | refine zq9 ?_)))
  refine w_eq require_eq ?_
  (repeat (first | with_reducible refine zq15 ?_ | (with_reducible first | refine zq14 ?_ | refine zq11 ?_ | refine zq10 ?_ | refine zq3 ?_ | refine zq4 ?_ | refine zq5 ?_ | refine zq0 ?_ | refine zq8 ?_ | refine zq6 ?_ | refine zq1 ?_ | refine zq13 ?_ | refine zq12 ?_ | refine zq7 ?_ | refine zq2 ?_ | refine zq9 ?_)))
  refine wpO_rfl (gIx_look (look_J s.jobs j nd hj)) ?_
  exact ⟨rfl, rfl⟩
theorem lasting_eq (h : SiteOk s) {st : Sy} (hp : (j.pt, st) ∈ s.parts) (hb : 0 ≤ b) (hb1 : b ≤ 2000) {lo hi : Int} {k : Nat} {l : Lim} (hl : LimB lo hi k l) (hk : k < 12) : g_lasting [encSite s, encJ j, encL l, .int b] S = .ok (oI ((fp (useF s.U st) l b).map (· - 1))) S := by
  refine wpR_ok (w_def rfl ?_)
  unfold m_lasting
  (repeat (first | with_reducible refine zq15 ?_ | (with_reducible first | refine zq14 ?_ | refine zq11 ?_ | refine zq10 ?_ | refine zq3 ?_ | refine zq4 ?_ | refine zq5 ?_ | refine zq0 ?_ | refine zq8 ?_ | refine zq6 ?_ | refine zq1 ?_ | refine zq13 ?_ | refine zq12 ?_ | refine zq7 ?_ | refine zq2 ?_ | refine zq9 ?_)))
  refine w_eq (stays_of_eq (p := (j.pt, st)) h hp) ?_
  (repeat (first | with_reducible refine zq15 ?_ | (with_reducible first | refine zq14 ?_ | refine zq11 ?_ | refine zq10 ?_ | refine zq3 ?_ | refine zq4 ?_ | refine zq5 ?_ | refine zq0 ?_ | refine zq8 ?_ | refine zq6 ?_ | refine zq1 ?_ | refine zq13 ?_ | refine zq12 ?_ | refine zq7 ?_ | refine zq2 ?_ | refine zq9 ?_)))
  refine w_eq (first_passing_eq h (h.pst _ hp) hb hb1 k 12 l S hl hk) ?_
  (repeat (first | with_reducible refine zq15 ?_ | (with_reducible first | refine zq14 ?_ | refine zq11 ?_ | refine zq10 ?_ | refine zq3 ?_ | refine zq4 ?_ | refine zq5 ?_ | refine zq0 ?_ | refine zq8 ?_ | refine zq6 ?_ | refine zq1 ?_ | refine zq13 ?_ | refine zq12 ?_ | refine zq7 ?_ | refine zq2 ?_ | refine zq9 ?_)))
  cases fp (useF s.U st) l b with
  | none => (repeat (first | with_reducible refine zq15 ?_ | (with_reducible first | refine zq14 ?_ | refine zq11 ?_ | refine zq10 ?_ | refine zq3 ?_ | refine zq4 ?_ | refine zq5 ?_ | refine zq0 ?_ | refine zq8 ?_ | refine zq6 ?_ | refine zq1 ?_ | refine zq13 ?_ | refine zq12 ?_ | refine zq7 ?_ | refine zq2 ?_ | refine zq9 ?_))); exact ⟨rfl, rfl⟩
  | some d => (repeat (first | with_reducible refine zq15 ?_ | (with_reducible first | refine zq14 ?_ | refine zq11 ?_ | refine zq10 ?_ | refine zq3 ?_ | refine zq4 ?_ | refine zq5 ?_ | refine zq0 ?_ | refine zq8 ?_ | refine zq6 ?_ | refine zq1 ?_ | refine zq13 ?_ | refine zq12 ?_ | refine zq7 ?_ | refine zq2 ?_ | refine zq9 ?_))); exact ⟨rfl, rfl⟩
theorem _root_.PL.JobOk.lw {hi : Int} {k : Nat} (h : JobOk s j hi k) : LimB 1 (hi + 500) k (shiftL (tri j.sl) j.lim) := h.lim.shift fun w => by
  have := h.sl
  cases w <;> simp only [tri] <;> omega
theorem _root_.PL.JobOk.ln {hi : Int} {k : Nat} (h : JobOk s j hi k) : LimB (-500) hi k (shiftL (tri (negS j.sl)) j.lim) := h.lim.shift fun w => by
  have := h.sl
  cases w <;> simp only [tri, negS] <;> omega
theorem task_due_eq (h : SiteOk s) {hi : Int} {k : Nat} (hj : JobOk s j hi k) {st : Sy} (hp : (j.pt, st) ∈ s.parts) (hb : 0 ≤ b) (hb1 : b ≤ 2000) : g_task_due [encSite s, encJ j, .int b] S = .ok (oI (dueD (useF s.U st) j b)) S := by
  refine wpR_ok (w_def rfl ?_)
  unfold m_task_due
  (repeat (first | with_reducible refine zq15 ?_ | (with_reducible first | refine zq14 ?_ | refine zq11 ?_ | refine zq10 ?_ | refine zq3 ?_ | refine zq4 ?_ | refine zq5 ?_ | refine zq0 ?_ | refine zq8 ?_ | refine zq6 ?_ | refine zq1 ?_ | refine zq13 ?_ | refine zq12 ?_ | refine zq7 ?_ | refine zq2 ?_ | refine zq9 ?_)))
  exact w_eq (lasting_eq h hp hb hb1 hj.lim (by have := hj.k8; omega)) ⟨rfl, rfl⟩
theorem task_late_eq (h : SiteOk s) {hi : Int} {k : Nat} (hj : JobOk s j hi k) {st : Sy} (hp : (j.pt, st) ∈ s.parts) (hb : 0 ≤ b) (hb1 : b ≤ 2000) : g_task_late [encSite s, encJ j, .int b] S = .ok (oI (lateD (useF s.U st) j b)) S := by
  refine wpR_ok (w_def rfl ?_)
  unfold m_task_late
  (repeat (first | with_reducible refine zq15 ?_ | (with_reducible first | refine zq14 ?_ | refine zq11 ?_ | refine zq10 ?_ | refine zq3 ?_ | refine zq4 ?_ | refine zq5 ?_ | refine zq0 ?_ | refine zq8 ?_ | refine zq6 ?_ | refine zq1 ?_ | refine zq13 ?_ | refine zq12 ?_ | refine zq7 ?_ | refine zq2 ?_ | refine zq9 ?_)))
  refine w_eq (widened_eq hj.z) ?_
  (repeat (first | with_reducible refine zq15 ?_ | (with_reducible first | refine zq14 ?_ | refine zq11 ?_ | refine zq10 ?_ | refine zq3 ?_ | refine zq4 ?_ | refine zq5 ?_ | refine zq0 ?_ | refine zq8 ?_ | refine zq6 ?_ | refine zq1 ?_ | refine zq13 ?_ | refine zq12 ?_ | refine zq7 ?_ | refine zq2 ?_ | refine zq9 ?_)))
  exact w_eq (lasting_eq h hp hb hb1 hj.lw (by have := hj.k8; omega)) ⟨rfl, rfl⟩
theorem neg3 {a : Int × Int × Int} {g : Mg} {fe : Mx} {ρ : Ev} {Q : List Wd → Sto → Prop} (h : ∀ i : Int, ∃ ρ1, g (.int i) ρ = some ρ1 ∧ fe ρ1 S = .ok (.int (0 - i - 1)) S) (q : Q [.int (0 - a.1 - 1), .int (0 - a.2.1 - 1), .int (0 - a.2.2 - 1)] S) :
    wpE (lcLoop g tTrue fe ρ [.int a.1, .int a.2.1, .int a.2.2] [] S) Q := by
  have hz := siz
  have := lc_map (g := g) (fe := fe) (ρ := ρ) (S := S) (enc := PyData.int) (out := fun i => PyData.int (0 - i - 1)) (Q := Q) [a.1, a.2.1, a.2.2] (by simp; omega) (fun i _ => h i) q
  exact this
theorem task_early_eq (h : SiteOk s) {hi : Int} {k : Nat} (hj : JobOk s j hi k) {st : Sy} (hp : (j.pt, st) ∈ s.parts) (hb : 0 ≤ b) (hb1 : b ≤ 2000) : g_task_early [encSite s, encJ j, .int b] S = .ok (oI (earlyD (useF s.U st) j b)) S := by
  have hk := hj.k8
  refine wpR_ok (w_def rfl ?_)
  unfold m_task_early
  (repeat (first | with_reducible refine zq15 ?_ | (with_reducible first | refine zq14 ?_ | refine zq11 ?_ | refine zq10 ?_ | refine zq3 ?_ | refine zq4 ?_ | refine zq5 ?_ | refine zq0 ?_ | refine zq8 ?_ | refine zq6 ?_ | refine zq1 ?_ | refine zq13 ?_ | refine zq12 ?_ | refine zq7 ?_ | refine zq2 ?_ | refine zq9 ?_)))
  refine neg3 (fun i => ⟨_, rfl, rfl⟩) ?_
  (repeat (first | with_reducible refine zq15 ?_ | (with_reducible first | refine zq14 ?_ | refine zq11 ?_ | refine zq10 ?_ | refine zq3 ?_ | refine zq4 ?_ | refine zq5 ?_ | refine zq0 ?_ | refine zq8 ?_ | refine zq6 ?_ | refine zq1 ?_ | refine zq13 ?_ | refine zq12 ?_ | refine zq7 ?_ | refine zq2 ?_ | refine zq9 ?_)))
  refine w_eq (moved_limit_eq (a := negS j.sl) k 12 j.lim S hj.lim (by omega)) ?_
  (repeat (first | with_reducible refine zq15 ?_ | (with_reducible first | refine zq14 ?_ | refine zq11 ?_ | refine zq10 ?_ | refine zq3 ?_ | refine zq4 ?_ | refine zq5 ?_ | refine zq0 ?_ | refine zq8 ?_ | refine zq6 ?_ | refine zq1 ?_ | refine zq13 ?_ | refine zq12 ?_ | refine zq7 ?_ | refine zq2 ?_ | refine zq9 ?_)))
  refine w_eq (stays_of_eq (p := (j.pt, st)) h hp) ?_
  (repeat (first | with_reducible refine zq15 ?_ | (with_reducible first | refine zq14 ?_ | refine zq11 ?_ | refine zq10 ?_ | refine zq3 ?_ | refine zq4 ?_ | refine zq5 ?_ | refine zq0 ?_ | refine zq8 ?_ | refine zq6 ?_ | refine zq1 ?_ | refine zq13 ?_ | refine zq12 ?_ | refine zq7 ?_ | refine zq2 ?_ | refine zq9 ?_)))
  refine w_eq (first_passing_eq h (h.pst _ hp) hb hb1 k 12 _ S hj.ln (by omega)) ?_
  (repeat (first | with_reducible refine zq15 ?_ | (with_reducible first | refine zq14 ?_ | refine zq11 ?_ | refine zq10 ?_ | refine zq3 ?_ | refine zq4 ?_ | refine zq5 ?_ | refine zq0 ?_ | refine zq8 ?_ | refine zq6 ?_ | refine zq1 ?_ | refine zq13 ?_ | refine zq12 ?_ | refine zq7 ?_ | refine zq2 ?_ | refine zq9 ?_)))
  refine w_eq (task_late_eq h hj hp hb hb1) ?_
  (repeat (first | with_reducible refine zq15 ?_ | (with_reducible first | refine zq14 ?_ | refine zq11 ?_ | refine zq10 ?_ | refine zq3 ?_ | refine zq4 ?_ | refine zq5 ?_ | refine zq0 ?_ | refine zq8 ?_ | refine zq6 ?_ | refine zq1 ?_ | refine zq13 ?_ | refine zq12 ?_ | refine zq7 ?_ | refine zq2 ?_ | refine zq9 ?_)))
  unfold earlyD reachD
  cases fp (useF s.U st) (shiftL (tri (negS j.sl)) j.lim) b with
  | none =>
    cases lateD (useF s.U st) j b with
    | none => (repeat (first | with_reducible refine zq15 ?_ | (with_reducible first | refine zq14 ?_ | refine zq11 ?_ | refine zq10 ?_ | refine zq3 ?_ | refine zq4 ?_ | refine zq5 ?_ | refine zq0 ?_ | refine zq8 ?_ | refine zq6 ?_ | refine zq1 ?_ | refine zq13 ?_ | refine zq12 ?_ | refine zq7 ?_ | refine zq2 ?_ | refine zq9 ?_))); exact ⟨rfl, rfl⟩
    | some l => (repeat (first | with_reducible refine zq15 ?_ | (with_reducible first | refine zq14 ?_ | refine zq11 ?_ | refine zq10 ?_ | refine zq3 ?_ | refine zq4 ?_ | refine zq5 ?_ | refine zq0 ?_ | refine zq8 ?_ | refine zq6 ?_ | refine zq1 ?_ | refine zq13 ?_ | refine zq12 ?_ | refine zq7 ?_ | refine zq2 ?_ | refine zq9 ?_))); exact ⟨rfl, rfl⟩
  | some r =>
    cases lateD (useF s.U st) j b with
    | none => (repeat (first | with_reducible refine zq15 ?_ | (with_reducible first | refine zq14 ?_ | refine zq11 ?_ | refine zq10 ?_ | refine zq3 ?_ | refine zq4 ?_ | refine zq5 ?_ | refine zq0 ?_ | refine zq8 ?_ | refine zq6 ?_ | refine zq1 ?_ | refine zq13 ?_ | refine zq12 ?_ | refine zq7 ?_ | refine zq2 ?_ | refine zq9 ?_))); exact ⟨rfl, rfl⟩
    | some l => (repeat (first | with_reducible refine zq15 ?_ | (with_reducible first | refine zq14 ?_ | refine zq11 ?_ | refine zq10 ?_ | refine zq3 ?_ | refine zq4 ?_ | refine zq5 ?_ | refine zq0 ?_ | refine zq8 ?_ | refine zq6 ?_ | refine zq1 ?_ | refine zq13 ?_ | refine zq12 ?_ | refine zq7 ?_ | refine zq2 ?_ | refine zq9 ?_))); exact ⟨rfl, rfl⟩
theorem named_base_eq (nd : (s.jobs.map (·.nm)).Nodup) (ln : s.jobs.length ≤ 1000) (hj : j ∈ s.jobs) (hb : 0 ≤ b) : g_named_base [encSite s, .str j.nm, .int b] S = .ok (encJ j) S := by
  refine wpR_ok (w_def rfl ?_)
  unfold m_named_base
  (repeat (first | with_reducible refine zq15 ?_ | (with_reducible first | refine zq14 ?_ | refine zq11 ?_ | refine zq10 ?_ | refine zq3 ?_ | refine zq4 ?_ | refine zq5 ?_ | refine zq0 ?_ | refine zq8 ?_ | refine zq6 ?_ | refine zq1 ?_ | refine zq13 ?_ | refine zq12 ?_ | refine zq7 ?_ | refine zq2 ?_ | refine zq9 ?_)))
  refine w_eq (task_named_eq nd ln hj) ?_
  (repeat (first | with_reducible refine zq15 ?_ | (with_reducible first | refine zq14 ?_ | refine zq11 ?_ | refine zq10 ?_ | refine zq3 ?_ | refine zq4 ?_ | refine zq5 ?_ | refine zq0 ?_ | refine zq8 ?_ | refine zq6 ?_ | refine zq1 ?_ | refine zq13 ?_ | refine zq12 ?_ | refine zq7 ?_ | refine zq2 ?_ | refine zq9 ?_)))
  refine w_eq (is_number_eq hb) ?_
  (repeat (first | with_reducible refine zq15 ?_ | (with_reducible first | refine zq14 ?_ | refine zq11 ?_ | refine zq10 ?_ | refine zq3 ?_ | refine zq4 ?_ | refine zq5 ?_ | refine zq0 ?_ | refine zq8 ?_ | refine zq6 ?_ | refine zq1 ?_ | refine zq13 ?_ | refine zq12 ?_ | refine zq7 ?_ | refine zq2 ?_ | refine zq9 ?_)))
  refine w_eq require_eq ?_
  (repeat (first | with_reducible refine zq15 ?_ | (with_reducible first | refine zq14 ?_ | refine zq11 ?_ | refine zq10 ?_ | refine zq3 ?_ | refine zq4 ?_ | refine zq5 ?_ | refine zq0 ?_ | refine zq8 ?_ | refine zq6 ?_ | refine zq1 ?_ | refine zq13 ?_ | refine zq12 ?_ | refine zq7 ?_ | refine zq2 ?_ | refine zq9 ?_)))
  exact ⟨rfl, rfl⟩
theorem due_day_eq (h : SiteOk s) {hi : Int} {k : Nat} (hs : JobsOk s hi k) (hj : j ∈ s.jobs) {st : Sy} (hp : (j.pt, st) ∈ s.parts) (hb : 0 ≤ b) (hb1 : b ≤ 2000) : g_due_day [encSite s, .str j.nm, .int b] S = .ok (oI (dueD (useF s.U st) j b)) S := by
  refine wpR_ok (w_def rfl ?_)
  unfold m_due_day
  (repeat (first | with_reducible refine zq15 ?_ | (with_reducible first | refine zq14 ?_ | refine zq11 ?_ | refine zq10 ?_ | refine zq3 ?_ | refine zq4 ?_ | refine zq5 ?_ | refine zq0 ?_ | refine zq8 ?_ | refine zq6 ?_ | refine zq1 ?_ | refine zq13 ?_ | refine zq12 ?_ | refine zq7 ?_ | refine zq2 ?_ | refine zq9 ?_)))
  refine w_eq (named_base_eq hs.nd hs.ln hj hb) ?_
  (repeat (first | with_reducible refine zq15 ?_ | (with_reducible first | refine zq14 ?_ | refine zq11 ?_ | refine zq10 ?_ | refine zq3 ?_ | refine zq4 ?_ | refine zq5 ?_ | refine zq0 ?_ | refine zq8 ?_ | refine zq6 ?_ | refine zq1 ?_ | refine zq13 ?_ | refine zq12 ?_ | refine zq7 ?_ | refine zq2 ?_ | refine zq9 ?_)))
  exact w_eq (task_due_eq h (hs.ok j hj) hp hb hb1) ⟨rfl, rfl⟩
theorem late_day_eq (h : SiteOk s) {hi : Int} {k : Nat} (hs : JobsOk s hi k) (hj : j ∈ s.jobs) {st : Sy} (hp : (j.pt, st) ∈ s.parts) (hb : 0 ≤ b) (hb1 : b ≤ 2000) : g_late_day [encSite s, .str j.nm, .int b] S = .ok (oI (lateD (useF s.U st) j b)) S := by
  refine wpR_ok (w_def rfl ?_)
  unfold m_late_day
  (repeat (first | with_reducible refine zq15 ?_ | (with_reducible first | refine zq14 ?_ | refine zq11 ?_ | refine zq10 ?_ | refine zq3 ?_ | refine zq4 ?_ | refine zq5 ?_ | refine zq0 ?_ | refine zq8 ?_ | refine zq6 ?_ | refine zq1 ?_ | refine zq13 ?_ | refine zq12 ?_ | refine zq7 ?_ | refine zq2 ?_ | refine zq9 ?_)))
  refine w_eq (named_base_eq hs.nd hs.ln hj hb) ?_
  (repeat (first | with_reducible refine zq15 ?_ | (with_reducible first | refine zq14 ?_ | refine zq11 ?_ | refine zq10 ?_ | refine zq3 ?_ | refine zq4 ?_ | refine zq5 ?_ | refine zq0 ?_ | refine zq8 ?_ | refine zq6 ?_ | refine zq1 ?_ | refine zq13 ?_ | refine zq12 ?_ | refine zq7 ?_ | refine zq2 ?_ | refine zq9 ?_)))
  exact w_eq (task_late_eq h (hs.ok j hj) hp hb hb1) ⟨rfl, rfl⟩
theorem early_day_eq (h : SiteOk s) {hi : Int} {k : Nat} (hs : JobsOk s hi k) (hj : j ∈ s.jobs) {st : Sy} (hp : (j.pt, st) ∈ s.parts) (hb : 0 ≤ b) (hb1 : b ≤ 2000) : g_early_day [encSite s, .str j.nm, .int b] S = .ok (oI (earlyD (useF s.U st) j b)) S := by
  refine wpR_ok (w_def rfl ?_)
  unfold m_early_day
  (repeat (first | with_reducible refine zq15 ?_ | (with_reducible first | refine zq14 ?_ | refine zq11 ?_ | refine zq10 ?_ | refine zq3 ?_ | refine zq4 ?_ | refine zq5 ?_ | refine zq0 ?_ | refine zq8 ?_ | refine zq6 ?_ | refine zq1 ?_ | refine zq13 ?_ | refine zq12 ?_ | refine zq7 ?_ | refine zq2 ?_ | refine zq9 ?_)))
  refine w_eq (named_base_eq hs.nd hs.ln hj hb) ?_
  (repeat (first | with_reducible refine zq15 ?_ | (with_reducible first | refine zq14 ?_ | refine zq11 ?_ | refine zq10 ?_ | refine zq3 ?_ | refine zq4 ?_ | refine zq5 ?_ | refine zq0 ?_ | refine zq8 ?_ | refine zq6 ?_ | refine zq1 ?_ | refine zq13 ?_ | refine zq12 ?_ | refine zq7 ?_ | refine zq2 ?_ | refine zq9 ?_)))
  exact w_eq (task_early_eq h (hs.ok j hj) hp hb hb1) ⟨rfl, rfl⟩
end
end WF
namespace WF
open PySem PySem.Spec PyProof.Rows L2 DL
end WF
namespace WF
open PySem PySem.Spec PyProof.Rows L2 DL
end WF
namespace WF
open PySem PySem.Spec PyProof.Rows L2 DL
end WF
namespace WF
open PySem PySem.Spec PyProof.Rows L2 DL
end WF
namespace WF
open PySem PySem.Spec PyProof.Rows L2 DL
end WF
namespace WF
open PySem PySem.Spec PyProof.Rows L2 DL
end WF
namespace WF
open PySem PySem.Spec PyProof.Rows L2 DL
end WF
namespace WF
open PySem PySem.Spec PyProof.Rows L2 DL PL
section
variable {s : Site} {S : Sto} {b d : Int} {j : Job} {hi : Int} {k : Nat} {st : Sy}
theorem reach_some (h : SiteOk s) (hj : JobOk s j hi k) (hp : (j.pt, st) ∈ s.parts) {due : Int} (hd : dueD (useF s.U st) j b = some due) : ∃ e, earlyD (useF s.U st) j b = some e := by
  unfold dueD at hd
  obtain ⟨d', e1, rfl⟩ := Option.map_eq_some_iff.1 hd
  have hw : Weaker j.lim (shiftL (tri (negS j.sl)) j.lim) := fun c p => by
    rw [passes_shift]
    refine passes_mono (fun w => ?_) j.lim p
    have := hj.sl
    cases w <;> simp only [tri, negS] <;> omega
  have h1 := fp_weaker (u := useF s.U st) (b := b) hw
  rw [e1] at h1
  cases hr : fp (useF s.U st) (shiftL (tri (negS j.sl)) j.lim) b with
  | none => rw [hr] at h1; exact h1.elim
  | some r =>
    unfold earlyD reachD
    rw [hr]
    cases lateD (useF s.U st) j b with
    | none => exact ⟨_, rfl⟩
    | some l => exact ⟨_, rfl⟩
theorem due_ge (hj : JobOk s j hi k) {due : Int} (hd : dueD (useF s.U st) j b = some due) : b ≤ due := by
  unfold dueD at hd
  obtain ⟨d', e1, rfl⟩ := Option.map_eq_some_iff.1 hd
  have := fp_gt (hj.lim.mono (by decide) (Int.le_refl _) (Nat.le_refl _)) e1
  omega
structure WyOk (j : Job) : Prop where
  wy : j.wy = ("kept" : Str) ∨ j.wy = ("fresh" : Str)
theorem early_le {u : Uf} {e l : Int} (h1 : earlyD u j b = some e) (h2 : lateD u j b = some l) : e ≤ l := by
  unfold earlyD at h1
  rw [h2] at h1
  cases hr : reachD u j b with
  | none => rw [hr] at h1; cases h1; exact Int.le_refl _
  | some r =>
    rw [hr] at h1
    cases h1
    split <;> split <;> omega
theorem task_window_eq (h : SiteOk s) (hj : JobOk s j hi k) (hw : WyOk j) (hp : (j.pt, st) ∈ s.parts) (hb : 0 ≤ b) (hb1 : b ≤ 2000) : g_task_window [encSite s, encJ j, .int b] S = .ok (encWin (windD (useF s.U st) j b)) S := by
  refine wpR_ok (w_def rfl ?_)
  unfold m_task_window
  rcases hw.wy with e | e
  · have e1 : windD (useF s.U st) j b = if (dueD (useF s.U st) j b).isSome = true ∧ lateOk (lateD (useF s.U st) j b) b = true then (earlyD (useF s.U st) j b).map fun e => (e, lateD (useF s.U st) j b) else none := by
      unfold windD
      simp only [e, true_and]
    refine zq15 ?_
    (repeat (with_reducible first | refine zq14 ?_ | refine zq11 ?_ | refine zq10 ?_ | refine zq3 ?_ | refine zq4 ?_ | refine zq5 ?_ | refine zq0 ?_ | refine zq8 ?_ | refine zq6 ?_ | refine zq1 ?_ | refine zq13 ?_ | refine zq12 ?_ | refine zq7 ?_ | refine zq2 ?_ | refine zq9 ?_))
    refine w_bf (by rw [e]; rfl) ?_
    (repeat (with_reducible first | refine zq14 ?_ | refine zq11 ?_ | refine zq10 ?_ | refine zq3 ?_ | refine zq4 ?_ | refine zq5 ?_ | refine zq0 ?_ | refine zq8 ?_ | refine zq6 ?_ | refine zq1 ?_ | refine zq13 ?_ | refine zq12 ?_ | refine zq7 ?_ | refine zq2 ?_ | refine zq9 ?_))
    refine w_eq (task_due_eq h hj hp hb hb1) ?_
    rw [e1]
    cases hd : dueD (useF s.U st) j b with
    | none =>
      (repeat (first | with_reducible refine zq15 ?_ | (with_reducible first | refine zq14 ?_ | refine zq11 ?_ | refine zq10 ?_ | refine zq3 ?_ | refine zq4 ?_ | refine zq5 ?_ | refine zq0 ?_ | refine zq8 ?_ | refine zq6 ?_ | refine zq1 ?_ | refine zq13 ?_ | refine zq12 ?_ | refine zq7 ?_ | refine zq2 ?_ | refine zq9 ?_)))
      exact ⟨rfl, rfl⟩
    | some due =>
      obtain ⟨er, he⟩ := reach_some h hj hp hd
      (repeat (first | with_reducible refine zq15 ?_ | (with_reducible first | refine zq14 ?_ | refine zq11 ?_ | refine zq10 ?_ | refine zq3 ?_ | refine zq4 ?_ | refine zq5 ?_ | refine zq0 ?_ | refine zq8 ?_ | refine zq6 ?_ | refine zq1 ?_ | refine zq13 ?_ | refine zq12 ?_ | refine zq7 ?_ | refine zq2 ?_ | refine zq9 ?_)))
      refine w_eq (task_early_eq h hj hp hb hb1) ?_
      rw [he]
      (repeat (first | with_reducible refine zq15 ?_ | (with_reducible first | refine zq14 ?_ | refine zq11 ?_ | refine zq10 ?_ | refine zq3 ?_ | refine zq4 ?_ | refine zq5 ?_ | refine zq0 ?_ | refine zq8 ?_ | refine zq6 ?_ | refine zq1 ?_ | refine zq13 ?_ | refine zq12 ?_ | refine zq7 ?_ | refine zq2 ?_ | refine zq9 ?_)))
      refine w_eq (task_late_eq h hj hp hb hb1) ?_
      cases hl : lateD (useF s.U st) j b with
      | none =>
        have hg := early_gt he (by rw [hl]; rfl)
        have hm : (if er > b + 1 then er else b + 1) = er := by split <;> omega
        (repeat (first | with_reducible refine zq15 ?_ | (with_reducible first | refine zq14 ?_ | refine zq11 ?_ | refine zq10 ?_ | refine zq3 ?_ | refine zq4 ?_ | refine zq5 ?_ | refine zq0 ?_ | refine zq8 ?_ | refine zq6 ?_ | refine zq1 ?_ | refine zq13 ?_ | refine zq12 ?_ | refine zq7 ?_ | refine zq2 ?_ | refine zq9 ?_)))
        exact ⟨by rw [hm]; rfl, rfl⟩
      | some l =>
        have hle := early_le he hl
        by_cases hbl : b < l
        · have hok : lateOk (some l) b = true := decide_eq_true hbl
          have hg := early_gt he (by rw [hl]; exact hok)
          have hm : (if er > b + 1 then er else b + 1) = er := by split <;> omega
          (repeat (first | with_reducible refine zq15 ?_ | (with_reducible first | refine zq14 ?_ | refine zq11 ?_ | refine zq10 ?_ | refine zq3 ?_ | refine zq4 ?_ | refine zq5 ?_ | refine zq0 ?_ | refine zq8 ?_ | refine zq6 ?_ | refine zq1 ?_ | refine zq13 ?_ | refine zq12 ?_ | refine zq7 ?_ | refine zq2 ?_ | refine zq9 ?_)))
          rw [hm]
          refine w_bf (by rw [decide_eq_false_iff_not]; omega) ?_
          (repeat (first | with_reducible refine zq15 ?_ | (with_reducible first | refine zq14 ?_ | refine zq11 ?_ | refine zq10 ?_ | refine zq3 ?_ | refine zq4 ?_ | refine zq5 ?_ | refine zq0 ?_ | refine zq8 ?_ | refine zq6 ?_ | refine zq1 ?_ | refine zq13 ?_ | refine zq12 ?_ | refine zq7 ?_ | refine zq2 ?_ | refine zq9 ?_)))
          rw [hok]
          exact ⟨rfl, rfl⟩
        · have hok : lateOk (some l) b = false := decide_eq_false hbl
          have hm : (if er > b + 1 then er else b + 1) = b + 1 := by split <;> omega
          (repeat (first | with_reducible refine zq15 ?_ | (with_reducible first | refine zq14 ?_ | refine zq11 ?_ | refine zq10 ?_ | refine zq3 ?_ | refine zq4 ?_ | refine zq5 ?_ | refine zq0 ?_ | refine zq8 ?_ | refine zq6 ?_ | refine zq1 ?_ | refine zq13 ?_ | refine zq12 ?_ | refine zq7 ?_ | refine zq2 ?_ | refine zq9 ?_)))
          rw [hm]
          refine w_bt (by rw [decide_eq_true_eq]; omega) ?_
          (repeat (first | with_reducible refine zq15 ?_ | (with_reducible first | refine zq14 ?_ | refine zq11 ?_ | refine zq10 ?_ | refine zq3 ?_ | refine zq4 ?_ | refine zq5 ?_ | refine zq0 ?_ | refine zq8 ?_ | refine zq6 ?_ | refine zq1 ?_ | refine zq13 ?_ | refine zq12 ?_ | refine zq7 ?_ | refine zq2 ?_ | refine zq9 ?_)))
          rw [hok]
          exact ⟨rfl, rfl⟩
  · have e1 : windD (useF s.U st) j b = none := by
      unfold windD
      rw [if_neg]
      rw [e]
      intro c
      exact absurd c.1 (by decide)
    refine zq15 ?_
    (repeat (with_reducible first | refine zq14 ?_ | refine zq11 ?_ | refine zq10 ?_ | refine zq3 ?_ | refine zq4 ?_ | refine zq5 ?_ | refine zq0 ?_ | refine zq8 ?_ | refine zq6 ?_ | refine zq1 ?_ | refine zq13 ?_ | refine zq12 ?_ | refine zq7 ?_ | refine zq2 ?_ | refine zq9 ?_))
    refine w_bt (by rw [e]; rfl) ?_
    (repeat (with_reducible first | refine zq14 ?_ | refine zq11 ?_ | refine zq10 ?_ | refine zq3 ?_ | refine zq4 ?_ | refine zq5 ?_ | refine zq0 ?_ | refine zq8 ?_ | refine zq6 ?_ | refine zq1 ?_ | refine zq13 ?_ | refine zq12 ?_ | refine zq7 ?_ | refine zq2 ?_ | refine zq9 ?_))
    rw [e1]
    exact ⟨rfl, rfl⟩
end
end WF
namespace PL
open PySem PySem.Spec PyProof.Rows L2 DL
def UseLe (u v : Uf) : Prop := ∀ d w, u d w ≤ v d w
theorem UseLe.refl (u : Uf) : UseLe u u := fun _ _ => Int.le_refl _
theorem UseLe.trans {u v z : Uf} (h : UseLe u v) (k : UseLe v z) : UseLe u z := fun d w => Int.le_trans (h d w) (k d w)
section
variable {u v z : Uf} {s b b' : Int} {j : Job} {l : Lim}
theorem sumF_le {f g : Int → Int} (h : ∀ d, f d ≤ g d) (lo : Int) : ∀ n : Nat, sumF f lo n ≤ sumF g lo n
  | 0 => Int.le_refl _
  | n + 1 => by
    have := sumF_le h lo n
    have := h (lo + n)
    rw [sumF_succ, sumF_succ]
    omega
theorem fp_use (U : UF v s) (h : UseLe u v) (hb : b' ≤ b) : leO (fp v l b') (fp u l b) :=
  fp_le hb fun d _ p => passes_mono (fun w => Int.le_trans (sumF_le (fun i => h i w) _ _) (cnt_base U hb)) l p
theorem leO_pred : ∀ {x y : Option Int}, leO x y → leO (x.map (· - 1)) (y.map (· - 1))
  | _, none, _ => by cases ‹Option Int› <;> trivial
  | none, some _, h => h.elim
  | some a, some c, h => by
    have h : a ≤ c := h
    show a - 1 ≤ c - 1
    omega
theorem due_use (U : UF v s) (h : UseLe u v) (hb : b' ≤ b) : leO (dueD v j b') (dueD u j b) := leO_pred (fp_use U h hb)
theorem late_use (U : UF v s) (h : UseLe u v) (hb : b' ≤ b) : leO (lateD v j b') (lateD u j b) := leO_pred (fp_use U h hb)
theorem early_use (U : UF v s) (h : UseLe u v) (hb : b' ≤ b) : leO (earlyD v j b') (earlyD u j b) := by
  have h1 : leO (reachD v j b') (reachD u j b) := fp_use U h hb
  have h2 := late_use (j := j) U h hb
  unfold earlyD
  cases e1 : reachD u j b with
  | none =>
    cases e2 : lateD u j b with
    | none => cases reachD v j b' <;> cases lateD v j b' <;> trivial
    | some c =>
      rw [e2] at h2
      cases e4 : lateD v j b' with
      | none => rw [e4] at h2; exact h2.elim
      | some c' =>
        rw [e4] at h2
        have h2 : c' ≤ c := h2
        cases reachD v j b' with
        | none => exact h2
        | some r' =>
          show (if c' < (if r' > b' + 1 then r' else b' + 1) then c' else (if r' > b' + 1 then r' else b' + 1)) ≤ c
          split <;> omega
  | some r =>
    rw [e1] at h1
    cases e3 : reachD v j b' with
    | none => rw [e3] at h1; exact h1.elim
    | some r' =>
      rw [e3] at h1
      have h1 : r' ≤ r := h1
      cases e2 : lateD u j b with
      | none =>
        cases lateD v j b' with
        | none =>
          show (if r' > b' + 1 then r' else b' + 1) ≤ (if r > b + 1 then r else b + 1)
          split <;> split <;> omega
        | some c' =>
          show (if c' < (if r' > b' + 1 then r' else b' + 1) then c' else (if r' > b' + 1 then r' else b' + 1)) ≤ (if r > b + 1 then r else b + 1)
          split <;> split <;> split <;> omega
      | some c =>
        rw [e2] at h2
        cases e4 : lateD v j b' with
        | none => rw [e4] at h2; exact h2.elim
        | some c' =>
          rw [e4] at h2
          have h2 : c' ≤ c := h2
          show (if c' < (if r' > b' + 1 then r' else b' + 1) then c' else (if r' > b' + 1 then r' else b' + 1)) ≤ (if c < (if r > b + 1 then r else b + 1) then c else (if r > b + 1 then r else b + 1))
          split <;> split <;> split <;> split <;> omega
noncomputable def kb (u : Uf) (j : Job) : Nat → Int → Option Int
  | 0, b => some b
  | k + 1, b => (dueD u j b).bind (kb u j k)
abbrev Win := Option (Int × Option Int)
noncomputable def kw (u : Uf) (j : Job) (k : Nat) : Win := (kb u j k 0).bind (windD u j)
end
end PL
namespace WF
open PySem PySem.Spec PyProof.Rows L2 DL PL
section
variable {s : Site} {S : Sto} {b d : Int} {j : Job} {hi : Int} {k : Nat} {bs : List Int}
end
end WF
namespace WF
open PySem PySem.Spec PyProof.Rows L2 DL
end WF
namespace WF
open PySem PySem.Spec PyProof.Rows L2 DL
end WF
namespace WF
open PySem PySem.Spec PyProof.Rows L2 DL
end WF
namespace WF
open PySem PySem.Spec PyProof.Rows L2 DL PL
section
variable {s : Site} {S S0 : Sto} {b d : Int} {j : Job} {hi : Int} {k : Nat} {bs : List Int}
end
end WF
namespace WF
open PySem PySem.Spec PyProof.Rows L2 DL
end WF
namespace WF
open PySem PySem.Spec PyProof.Rows L2 DL
end WF
namespace WF
open PySem PySem.Spec PyProof.Rows L2 DL
end WF
namespace WF
open PySem PySem.Spec PyProof.Rows L2 DL
end WF
namespace WF
open PySem PySem.Spec PyProof.Rows L2 DL
end WF
namespace WF
open PySem PySem.Spec PyProof.Rows L2 DL
end WF
namespace WF
open PySem PySem.Spec PyProof.Rows L2 DL
end WF
namespace WF
open PySem PySem.Spec PyProof.Rows L2 DL
end WF
namespace WF
open PySem PySem.Spec PyProof.Rows L2 DL
end WF
namespace WF
open PySem PySem.Spec PyProof.Rows L2 DL
end WF
namespace WF
open PySem PySem.Spec PyProof.Rows L2 DL
end WF
namespace WF
open PySem PySem.Spec PyProof.Rows L2 DL
end WF
namespace WF
open PySem PySem.Spec PyProof.Rows L2 DL
end WF
namespace WF
open PySem PySem.Spec PyProof.Rows L2 DL
end WF
namespace WF
open PySem PySem.Spec PyProof.Rows L2 DL
end WF
namespace WF
open PySem PySem.Spec PyProof.Rows L2 DL
end WF
namespace WF
open PySem PySem.Spec PyProof.Rows L2 DL
end WF
namespace WF
open PySem PySem.Spec PyProof.Rows L2 DL
end WF
namespace WF
open PySem PySem.Spec PyProof.Rows L2 DL
end WF
namespace WF
open PySem PySem.Spec PyProof.Rows L2 DL
end WF
namespace WF
open PySem PySem.Spec PyProof.Rows L2 DL
end WF
namespace WF
open PySem PySem.Spec PyProof.Rows L2 DL
end WF
namespace WF
open PySem PySem.Spec PyProof.Rows L2 DL
end WF
namespace WF
open PySem PySem.Spec PyProof.Rows L2 DL
end WF
namespace WF
open PySem PySem.Spec PyProof.Rows L2 DL
end WF
namespace WF
open PySem PySem.Spec PyProof.Rows L2 DL
end WF
namespace WF
open PySem PySem.Spec PyProof.Rows L2 DL
end WF
namespace PL
open PySem PySem.Spec PyProof.Rows L2 DL
abbrev URun := Us × Us
structure UsLe (a b : Us) : Prop where
  len : a.length = b.length
  le : ∀ (i : Nat) (p q : Int × Int), a[i]? = some p → b[i]? = some q → p.1 ≤ q.1 ∧ p.2 ≤ q.2
structure RunLe (r t : URun) : Prop where
  a : UsLe r.1 t.1
  b : UsLe r.2 t.2
theorem UsLe.refl (a : Us) : UsLe a a := ⟨rfl, fun i p q h1 h2 => by rw [h1] at h2; cases h2; exact ⟨Int.le_refl _, Int.le_refl _⟩⟩
theorem UsLe.trans {a b c : Us} (h : UsLe a b) (k : UsLe b c) : UsLe a c := ⟨h.len.trans k.len, fun i p q h1 h2 => by
  have hl : i < b.length := by rw [← h.len]; exact (List.getElem?_eq_some_iff.1 h1).1
  have e := List.getElem?_eq_getElem hl
  have x1 := h.le i p _ h1 e
  have x2 := k.le i _ q e h2
  omega⟩
theorem RunLe.refl (r : URun) : RunLe r r := ⟨.refl _, .refl _⟩
theorem RunLe.trans {a b c : URun} (h : RunLe a b) (k : RunLe b c) : RunLe a c := ⟨h.a.trans k.a, h.b.trans k.b⟩
theorem UF.far {u : Uf} {s t : Int} (U : UF u s) (h : s ≤ t) : UF u t := ⟨U.pos, U.bd, U.day, fun d w hd => by rw [U.std d w (by omega), U.std t w h]⟩
end PL
namespace WF
open PySem PySem.Spec PyProof.Rows L2 DL PL
section
variable {s : Site} {S : Sto} {b : Int} {j : Job} {hi : Int} {k : Nat} {st : Sy} {r t : URun} {us vs : Us}
theorem range_mem {w : Wd} {n : Nat} (hw : w ∈ rangeD 0 (Int.toNat n)) : ∃ i : Nat, i < n ∧ w = .int i := by
  unfold rangeD at hw
  obtain ⟨i, hi, rfl⟩ := List.mem_map.1 hw
  exact ⟨i, by simpa using hi, by simp⟩
end
end WF
namespace WF
open PySem PySem.Spec PyProof.Rows L2 DL PL
section
variable {s : Site} {S : Sto} {b : Int} {j : Job} {hi : Int} {k : Nat} {st : Sy} {r t : URun}
theorem window_of_eq (h : SiteOk s) (hs : JobsOk s hi k) (hw : WyOk j) (hj : j ∈ s.jobs) (hp : (j.pt, st) ∈ s.parts) (hb : 0 ≤ b) (hb1 : b ≤ 2000) : g_window_of [encSite s, .str j.nm, .int b] S = .ok (encWin (windD (useF s.U st) j b)) S := by
  refine wpR_ok (w_def rfl ?_)
  unfold m_window_of
  (repeat (first | with_reducible refine zq15 ?_ | (with_reducible first | refine zq14 ?_ | refine zq11 ?_ | refine zq10 ?_ | refine zq3 ?_ | refine zq4 ?_ | refine zq5 ?_ | refine zq0 ?_ | refine zq8 ?_ | refine zq6 ?_ | refine zq1 ?_ | refine zq13 ?_ | refine zq12 ?_ | refine zq7 ?_ | refine zq2 ?_ | refine zq9 ?_)))
  refine w_eq (named_base_eq hs.nd hs.ln hj hb) ?_
  (repeat (first | with_reducible refine zq15 ?_ | (with_reducible first | refine zq14 ?_ | refine zq11 ?_ | refine zq10 ?_ | refine zq3 ?_ | refine zq4 ?_ | refine zq5 ?_ | refine zq0 ?_ | refine zq8 ?_ | refine zq6 ?_ | refine zq1 ?_ | refine zq13 ?_ | refine zq12 ?_ | refine zq7 ?_ | refine zq2 ?_ | refine zq9 ?_)))
  refine w_eq (task_window_eq h (hs.ok j hj) hw hp hb hb1) ?_
  exact ⟨rfl, rfl⟩
end
end WF
namespace WF
open PySem PySem.Spec PyProof.Rows L2 DL
theorem draw_k17_wp {S S0 : Sto} {m : Int} {Q : Wd → Sto → Prop} (hS : FeedOk S0 S) (h0 : 0 < m) (h1 : m < 1073741824) (q : ∀ d S', 0 ≤ d → d < m → FeedOk S0 S' → Q (.int d) S') : wpE (g_draw_k17 [oW 0, .int m] S) Q := by
  obtain ⟨c, a, l, t, rfl⟩ := hS
  have fin : ∀ (i : Int) (S' : Sto), FeedOk S0 S' → Q (.int (i % m)) S' := fun i S' h => q _ S' (Int.emod_nonneg _ (by omega)) (Int.emod_lt_of_pos _ h0) h
  refine w_def rfl ?_
  unfold m_draw_k17
  (repeat (first | with_reducible refine zq15 ?_ | (with_reducible first | refine zq14 ?_ | refine zq11 ?_ | refine zq10 ?_ | refine zq3 ?_ | refine zq4 ?_ | refine zq5 ?_ | refine zq0 ?_ | refine zq8 ?_ | refine zq6 ?_ | refine zq1 ?_ | refine zq13 ?_ | refine zq12 ?_ | refine zq7 ?_ | refine zq2 ?_ | refine zq9 ?_)))
  refine w_b (fun hc => ?_) (fun hc => ?_)
  · (repeat (first | with_reducible refine zq15 ?_ | (with_reducible first | refine zq14 ?_ | refine zq11 ?_ | refine zq10 ?_ | refine zq3 ?_ | refine zq4 ?_ | refine zq5 ?_ | refine zq0 ?_ | refine zq8 ?_ | refine zq6 ?_ | refine zq1 ?_ | refine zq13 ?_ | refine zq12 ?_ | refine zq7 ?_ | refine zq2 ?_ | refine zq9 ?_)))
    exact fin _ _ ⟨_, _, _, _, rfl⟩
  have hc1 : 0 < c.length := by
    cases c with
    | nil => cases hc
    | cons _ _ => exact Nat.succ_pos _
  (repeat (first | with_reducible refine zq15 ?_ | (with_reducible first | refine zq14 ?_ | refine zq11 ?_ | refine zq10 ?_ | refine zq3 ?_ | refine zq4 ?_ | refine zq5 ?_ | refine zq0 ?_ | refine zq8 ?_ | refine zq6 ?_ | refine zq1 ?_ | refine zq13 ?_ | refine zq12 ?_ | refine zq7 ?_ | refine zq2 ?_ | refine zq9 ?_)))
  refine w_b (fun hl => ?_) (fun hl => ?_)
  · (repeat (first | with_reducible refine zq15 ?_ | (with_reducible first | refine zq14 ?_ | refine zq11 ?_ | refine zq10 ?_ | refine zq3 ?_ | refine zq4 ?_ | refine zq5 ?_ | refine zq0 ?_ | refine zq8 ?_ | refine zq6 ?_ | refine zq1 ?_ | refine zq13 ?_ | refine zq12 ?_ | refine zq7 ?_ | refine zq2 ?_ | refine zq9 ?_)))
    exact fin _ _ ⟨_, _, _, _, rfl⟩
  (repeat (first | with_reducible refine zq15 ?_ | (with_reducible first | refine zq14 ?_ | refine zq11 ?_ | refine zq10 ?_ | refine zq3 ?_ | refine zq4 ?_ | refine zq5 ?_ | refine zq0 ?_ | refine zq8 ?_ | refine zq6 ?_ | refine zq1 ?_ | refine zq13 ?_ | refine zq12 ?_ | refine zq7 ?_ | refine zq2 ?_ | refine zq9 ?_)))
  refine wo_mod (by simpa using hc1) ?_
  have hx : 0 ≤ a % ((c.map PyData.int).length : Int) := Int.emod_nonneg _ (by rw [List.length_map]; omega)
  have hy : a % ((c.map PyData.int).length : Int) < (c.map PyData.int).length := Int.emod_lt_of_pos _ (by simpa using hc1)
  refine wpO_rfl (atI_in hx hy) ?_
  rw [List.getElem_map]
  generalize c[(a % ((c.map PyData.int).length : Int)).toNat]'_ = z
  (repeat (first | with_reducible refine zq15 ?_ | (with_reducible first | refine zq14 ?_ | refine zq11 ?_ | refine zq10 ?_ | refine zq3 ?_ | refine zq4 ?_ | refine zq5 ?_ | refine zq0 ?_ | refine zq8 ?_ | refine zq6 ?_ | refine zq1 ?_ | refine zq13 ?_ | refine zq12 ?_ | refine zq7 ?_ | refine zq2 ?_ | refine zq9 ?_)))
  refine w_b (fun hl => ?_) (fun hl => ?_)
  · (repeat (first | with_reducible refine zq15 ?_ | (with_reducible first | refine zq14 ?_ | refine zq11 ?_ | refine zq10 ?_ | refine zq3 ?_ | refine zq4 ?_ | refine zq5 ?_ | refine zq0 ?_ | refine zq8 ?_ | refine zq6 ?_ | refine zq1 ?_ | refine zq13 ?_ | refine zq12 ?_ | refine zq7 ?_ | refine zq2 ?_ | refine zq9 ?_)))
    refine w_b (fun hl => ?_) (fun hl => ?_)
    · (repeat (first | with_reducible refine zq15 ?_ | (with_reducible first | refine zq14 ?_ | refine zq11 ?_ | refine zq10 ?_ | refine zq3 ?_ | refine zq4 ?_ | refine zq5 ?_ | refine zq0 ?_ | refine zq8 ?_ | refine zq6 ?_ | refine zq1 ?_ | refine zq13 ?_ | refine zq12 ?_ | refine zq7 ?_ | refine zq2 ?_ | refine zq9 ?_)))
      exact fin _ _ ⟨_, _, _, _, rfl⟩
    · (repeat (first | with_reducible refine zq15 ?_ | (with_reducible first | refine zq14 ?_ | refine zq11 ?_ | refine zq10 ?_ | refine zq3 ?_ | refine zq4 ?_ | refine zq5 ?_ | refine zq0 ?_ | refine zq8 ?_ | refine zq6 ?_ | refine zq1 ?_ | refine zq13 ?_ | refine zq12 ?_ | refine zq7 ?_ | refine zq2 ?_ | refine zq9 ?_)))
      exact fin _ _ ⟨_, _, _, _, rfl⟩
  · (repeat (first | with_reducible refine zq15 ?_ | (with_reducible first | refine zq14 ?_ | refine zq11 ?_ | refine zq10 ?_ | refine zq3 ?_ | refine zq4 ?_ | refine zq5 ?_ | refine zq0 ?_ | refine zq8 ?_ | refine zq6 ?_ | refine zq1 ?_ | refine zq13 ?_ | refine zq12 ?_ | refine zq7 ?_ | refine zq2 ?_ | refine zq9 ?_)))
    exact fin _ _ ⟨_, _, _, _, rfl⟩
section
variable {S S0 : Sto} {Q : Wd → Sto → Prop}
theorem any_k17_wp {ys : List Wd} (hS : FeedOk S0 S) (hn : 0 < ys.length) (hl : ys.length < 1000) (q : ∀ y S', y ∈ ys → FeedOk S0 S' → Q y S') : wpE (g_any_k17 [oW 0, .list ys] S) Q := by
  refine w_def rfl ?_
  unfold m_any_k17
  (repeat (first | with_reducible refine zq15 ?_ | (with_reducible first | refine zq14 ?_ | refine zq11 ?_ | refine zq10 ?_ | refine zq3 ?_ | refine zq4 ?_ | refine zq5 ?_ | refine zq0 ?_ | refine zq8 ?_ | refine zq6 ?_ | refine zq1 ?_ | refine zq13 ?_ | refine zq12 ?_ | refine zq7 ?_ | refine zq2 ?_ | refine zq9 ?_)))
  refine draw_k17_wp hS (by omega) (by omega) fun d S' h0 h1 hS' => ?_
  refine wpO_rfl (atI_in h0 h1) ?_
  exact q _ S' (List.getElem_mem _) hS'
theorem feed_k17_eq {ns : List Int} (h : ns.length ≤ 63) : g_feed_k17 [.list (ns.map PyData.int)] [] = .ok (oW 0) [feedR ns 0 0 0] := by
  have e : DL.cutD (ns.map PyData.int) none (some 63) = ns.map PyData.int := by
    unfold DL.cutD
    have e1 : HT.sIx (ns.map PyData.int).length 0 none = 0 := rfl
    have e2 : HT.sIx (ns.map PyData.int).length (ns.map PyData.int).length (some 63) = (ns.map PyData.int).length := by
      unfold HT.sIx
      simp only [List.length_map]
      rw [if_neg (by decide)]
      show min 63 ns.length = _
      omega
    rw [e1, e2, Nat.sub_zero, List.drop_zero, List.take_length]
  refine wpR_ok (w_def rfl ?_)
  unfold m_feed_k17
  (repeat (first | with_reducible refine zq15 ?_ | (with_reducible first | refine zq14 ?_ | refine zq11 ?_ | refine zq10 ?_ | refine zq3 ?_ | refine zq4 ?_ | refine zq5 ?_ | refine zq0 ?_ | refine zq8 ?_ | refine zq6 ?_ | refine zq1 ?_ | refine zq13 ?_ | refine zq12 ?_ | refine zq7 ?_ | refine zq2 ?_ | refine zq9 ?_)))
  rw [e]
  exact ⟨rfl, rfl⟩
end
end WF
namespace WF
open PySem PySem.Spec PyProof.Rows L2 DL
end WF
namespace WF
open PySem PySem.Spec PyProof.Rows L2 DL
end WF
namespace WF
open PySem PySem.Spec PyProof.Rows L2 DL
end WF
namespace WF
open PySem PySem.Spec PyProof.Rows L2 DL
end WF
namespace WF
open PySem PySem.Spec PyProof.Rows L2 DL
end WF
namespace WF
open PySem PySem.Spec PyProof.Rows L2 DL
end WF
namespace PL
open PySem PySem.Spec PyProof.Rows L2 DL
end PL
namespace WF
open PySem PySem.Spec PyProof.Rows L2 DL PL
section
variable {s : Site} {S : Sto} {st : Sy} {b d : Int} {p : Str × Sy}
end
end WF
namespace WF
open PySem PySem.Spec PyProof.Rows L2 DL PL
section
variable {S S0 : Sto} {Q : Wd → Sto → Prop}
def szr : Nat → Nat
  | 0 => 62
  | n + 1 => 2 * (2 * (szr n + 1) + 1)
def szT : Nat → Nat
  | 0 => 1
  | n + 1 => 1 + 2 * szT n
theorem szr_big : ∀ n, 62 ≤ szr n
  | 0 => Nat.le_refl _
  | n + 1 => by have := szr_big n; simp only [szr]; omega
theorem szT_pos : ∀ n, 1 ≤ szT n
  | 0 => Nat.le_refl _
  | n + 1 => by have := szT_pos n; simp only [szT]; omega
structure RuleG (most : Int) (n : Nat) (l : Lim) : Prop where
  b : LimB 1 most n l
  z : szL l ≤ szT n
  s : Sz (szr n) (2 * n + 1) (encL l)
theorem cw_mem {y : Wd} (hy : y ∈ [(PyData.str "hours" : Wd), .str "cycles", .str "days", .str "days"]) : ∃ w : CW, y = .str w.str := by
  simp only [List.mem_cons, List.mem_nil_iff, or_false] at hy
  rcases hy with rfl | rfl | rfl | rfl
  · exact ⟨.hours, rfl⟩
  · exact ⟨.cycles, rfl⟩
  · exact ⟨.days, rfl⟩
  · exact ⟨.days, rfl⟩
theorem sz_one {w : CW} {n : Int} (h : n.natAbs < 2 ^ 30) : Sz 62 1 (encL (.one w n)) := by
  unfold encL
  refine Sz.tup (n := 30) (k := 0) (m := 2) (n' := 62) (mem2 ?_ (Sz.int h)) (Nat.le_refl _) (by decide)
  cases w <;> exact szName (by decide +kernel) (by decide +kernel)
theorem szLs_le {m : Nat} : ∀ {ls : List Lim}, (∀ l ∈ ls, szL l ≤ m) → szLs ls ≤ ls.length * m
  | [], _ => by simp [szLs]
  | l :: ls, h => by
    have h1 := h l (List.mem_cons_self ..)
    have h2 := szLs_le fun x hx => h x (List.mem_cons_of_mem l hx)
    simp only [szLs, List.length_cons, Nat.succ_mul]
    omega
theorem rule_one {most d : Int} {n : Nat} {w : CW} (h1 : most < 1000) (hd0 : 0 ≤ d) (hd1 : d < most) : RuleG most n (.one w (1 + d)) :=
  ⟨LimB.mk_one ⟨by omega, by omega⟩, by have := szT_pos n; simpa [szL] using this, (sz_one (by omega)).mono (szr_big _) (by omega)⟩
theorem rule_k17_wp {most : Int} (h0 : 0 < most) (h1 : most < 1000) : ∀ (n k : Nat) (S : Sto) (Q : Wd → Sto → Prop), FeedOk S0 S → n < k → (∀ l S', RuleG most n l → FeedOk S0 S' → Q (encL l) S') → wpE (g_rule_k17 k [oW 0, .int n, .int most] S) Q := by
  intro n
  induction n with
  | zero =>
    intro k S Q hS hk q
    obtain ⟨k, rfl⟩ : ∃ k', k = k' + 1 := ⟨k - 1, by omega⟩
    refine w_def rfl ?_
    unfold m_rule_k17
    (repeat (first | with_reducible refine zq15 ?_ | (with_reducible first | refine zq14 ?_ | refine zq11 ?_ | refine zq10 ?_ | refine zq3 ?_ | refine zq4 ?_ | refine zq5 ?_ | refine zq0 ?_ | refine zq8 ?_ | refine zq6 ?_ | refine zq1 ?_ | refine zq13 ?_ | refine zq12 ?_ | refine zq7 ?_ | refine zq2 ?_ | refine zq9 ?_)))
    refine any_k17_wp hS (by decide) (by decide) fun y S' hy hS' => ?_
    obtain ⟨w, rfl⟩ := cw_mem hy
    (repeat (first | with_reducible refine zq15 ?_ | (with_reducible first | refine zq14 ?_ | refine zq11 ?_ | refine zq10 ?_ | refine zq3 ?_ | refine zq4 ?_ | refine zq5 ?_ | refine zq0 ?_ | refine zq8 ?_ | refine zq6 ?_ | refine zq1 ?_ | refine zq13 ?_ | refine zq12 ?_ | refine zq7 ?_ | refine zq2 ?_ | refine zq9 ?_)))
    refine draw_k17_wp hS' h0 (by omega) fun d S' hd0 hd1 hS' => ?_
    (repeat (first | with_reducible refine zq15 ?_ | (with_reducible first | refine zq14 ?_ | refine zq11 ?_ | refine zq10 ?_ | refine zq3 ?_ | refine zq4 ?_ | refine zq5 ?_ | refine zq0 ?_ | refine zq8 ?_ | refine zq6 ?_ | refine zq1 ?_ | refine zq13 ?_ | refine zq12 ?_ | refine zq7 ?_ | refine zq2 ?_ | refine zq9 ?_)))
    exact q (.one w (1 + d)) _ (rule_one h1 hd0 hd1) hS'
  | succ n ih =>
    intro k S Q hS hk q
    obtain ⟨k, rfl⟩ : ∃ k', k = k' + 1 := ⟨k - 1, by omega⟩
    refine w_def rfl ?_
    unfold m_rule_k17
    (repeat (first | with_reducible refine zq15 ?_ | (with_reducible first | refine zq14 ?_ | refine zq11 ?_ | refine zq10 ?_ | refine zq3 ?_ | refine zq4 ?_ | refine zq5 ?_ | refine zq0 ?_ | refine zq8 ?_ | refine zq6 ?_ | refine zq1 ?_ | refine zq13 ?_ | refine zq12 ?_ | refine zq7 ?_ | refine zq2 ?_ | refine zq9 ?_)))
    refine draw_k17_wp hS (by decide) (by decide) fun d S' _ _ hS' => ?_
    (repeat (first | with_reducible refine zq15 ?_ | (with_reducible first | refine zq14 ?_ | refine zq11 ?_ | refine zq10 ?_ | refine zq3 ?_ | refine zq4 ?_ | refine zq5 ?_ | refine zq0 ?_ | refine zq8 ?_ | refine zq6 ?_ | refine zq1 ?_ | refine zq13 ?_ | refine zq12 ?_ | refine zq7 ?_ | refine zq2 ?_ | refine zq9 ?_)))
    refine w_b (fun hd => ?_) (fun hd => ?_)
    · (repeat (first | with_reducible refine zq15 ?_ | (with_reducible first | refine zq14 ?_ | refine zq11 ?_ | refine zq10 ?_ | refine zq3 ?_ | refine zq4 ?_ | refine zq5 ?_ | refine zq0 ?_ | refine zq8 ?_ | refine zq6 ?_ | refine zq1 ?_ | refine zq13 ?_ | refine zq12 ?_ | refine zq7 ?_ | refine zq2 ?_ | refine zq9 ?_)))
      refine any_k17_wp hS' (by decide) (by decide) fun y S' hy hS' => ?_
      obtain ⟨w, rfl⟩ := cw_mem hy
      (repeat (first | with_reducible refine zq15 ?_ | (with_reducible first | refine zq14 ?_ | refine zq11 ?_ | refine zq10 ?_ | refine zq3 ?_ | refine zq4 ?_ | refine zq5 ?_ | refine zq0 ?_ | refine zq8 ?_ | refine zq6 ?_ | refine zq1 ?_ | refine zq13 ?_ | refine zq12 ?_ | refine zq7 ?_ | refine zq2 ?_ | refine zq9 ?_)))
      refine draw_k17_wp hS' h0 (by omega) fun d S' hd0 hd1 hS' => ?_
      (repeat (first | with_reducible refine zq15 ?_ | (with_reducible first | refine zq14 ?_ | refine zq11 ?_ | refine zq10 ?_ | refine zq3 ?_ | refine zq4 ?_ | refine zq5 ?_ | refine zq0 ?_ | refine zq8 ?_ | refine zq6 ?_ | refine zq1 ?_ | refine zq13 ?_ | refine zq12 ?_ | refine zq7 ?_ | refine zq2 ?_ | refine zq9 ?_)))
      exact q (.one w (1 + d)) _ (rule_one h1 hd0 hd1) hS'
    · (repeat (first | with_reducible refine zq15 ?_ | (with_reducible first | refine zq14 ?_ | refine zq11 ?_ | refine zq10 ?_ | refine zq3 ?_ | refine zq4 ?_ | refine zq5 ?_ | refine zq0 ?_ | refine zq8 ?_ | refine zq6 ?_ | refine zq1 ?_ | refine zq13 ?_ | refine zq12 ?_ | refine zq7 ?_ | refine zq2 ?_ | refine zq9 ?_)))
      refine draw_k17_wp hS' (by decide) (by decide) fun d S' hd0 hd1 hS' => ?_
      (repeat (first | with_reducible refine zq15 ?_ | (with_reducible first | refine zq14 ?_ | refine zq11 ?_ | refine zq10 ?_ | refine zq3 ?_ | refine zq4 ?_ | refine zq5 ?_ | refine zq0 ?_ | refine zq8 ?_ | refine zq6 ?_ | refine zq1 ?_ | refine zq13 ?_ | refine zq12 ?_ | refine zq7 ?_ | refine zq2 ?_ | refine zq9 ?_)))
      refine ⟨by omega, ?_⟩
      have hz := siz
      refine wp_lc (I := fun r acc S' => FeedOk S0 S' ∧ ∃ ls : List Lim, acc = ls.map encL ∧ 0 < ls.length + r.length ∧ ls.length + r.length ≤ 2 ∧ ∀ l ∈ ls, RuleG most n l) ?_ ?_ _ _ _ ⟨hS', [], rfl, by simp [rangeD]; omega, by simp [rangeD]; omega, by simp⟩
      · rintro w r acc S' ⟨hS', ls, rfl, hl0, hl, ha⟩
        refine ⟨_, rfl, ?_⟩
        (repeat (first | with_reducible refine zq15 ?_ | (with_reducible first | refine zq14 ?_ | refine zq11 ?_ | refine zq10 ?_ | refine zq3 ?_ | refine zq4 ?_ | refine zq5 ?_ | refine zq0 ?_ | refine zq8 ?_ | refine zq6 ?_ | refine zq1 ?_ | refine zq13 ?_ | refine zq12 ?_ | refine zq7 ?_ | refine zq2 ?_ | refine zq9 ?_)))
        have e : ((n + 1 : Nat) : Int) - 1 = (n : Nat) := by omega
        rw [e]
        simp only [List.length_cons] at hl hl0
        refine ih k S' _ hS' (by omega) fun l S' hw hS' => ⟨by simp; omega, hS', ls ++ [l], by simp, by simp; omega, by simp; omega, ?_⟩
        intro x hx
        rcases List.mem_append.1 hx with hx | hx
        · exact ha x hx
        · rw [List.mem_singleton.1 hx]; exact hw
      · rintro acc S' ⟨hS', ls, rfl, hl0, hl, ha⟩
        simp only [List.length_nil, Nat.add_zero] at hl hl0
        (repeat (first | with_reducible refine zq15 ?_ | (with_reducible first | refine zq14 ?_ | refine zq11 ?_ | refine zq10 ?_ | refine zq3 ?_ | refine zq4 ?_ | refine zq5 ?_ | refine zq0 ?_ | refine zq8 ?_ | refine zq6 ?_ | refine zq1 ?_ | refine zq13 ?_ | refine zq12 ?_ | refine zq7 ?_ | refine zq2 ?_ | refine zq9 ?_)))
        refine any_k17_wp hS' (by decide) (by decide) fun y S' hy hS' => ?_
        have hy : ∃ b, y = .str (jw b) := by
          simp only [List.mem_cons, List.mem_nil_iff, or_false] at hy
          rcases hy with rfl | rfl
          · exact ⟨false, rfl⟩
          · exact ⟨true, rfl⟩
        obtain ⟨b, rfl⟩ := hy
        (repeat (first | with_reducible refine zq15 ?_ | (with_reducible first | refine zq14 ?_ | refine zq11 ?_ | refine zq10 ?_ | refine zq3 ?_ | refine zq4 ?_ | refine zq5 ?_ | refine zq0 ?_ | refine zq8 ?_ | refine zq6 ?_ | refine zq1 ?_ | refine zq13 ?_ | refine zq12 ?_ | refine zq7 ?_ | refine zq2 ?_ | refine zq9 ?_)))
        have q := q (.join b ls) S'
        rw [encL_join] at q
        refine q ⟨LimB.mk_join (List.length_pos_iff.1 hl0) (by omega) fun l hl => (ha l hl).b, ?_, ?_⟩ hS'
        · have h2 := szLs_le fun l hl => (ha l hl).z
          have h3 := Nat.mul_le_mul_right (szT n) hl
          simp only [szL, szT]
          omega
        · rw [encL_join]
          have h1 : Sz (2 * (szr n + 1)) (2 * n + 1 + 1) (.tuple (ls.map encL)) := Sz.tup (fun x hx => by obtain ⟨l, hl, rfl⟩ := List.mem_map.1 hx; exact (ha l hl).s) (by simpa using hl) (Nat.le_refl _)
          refine Sz.tup (n := 2 * (szr n + 1)) (m := 2) (mem2 ?_ h1) (Nat.le_refl _) (Nat.le_refl _)
          cases b <;> exact (szName (by decide +kernel) (by decide +kernel)).mono (by have := szr_big n; omega) (by omega)
structure StG (nm : List Str) (st : Sy) : Prop where
  hd : ∃ p r, st = (0, p) :: r
  ln : st.length ≤ 3
  up : ∀ s ∈ st, ∀ l, st.getLast? = some l → s.1 ≤ l.1
  us : ∀ s ∈ st, ∀ x, s.2 = some x → x ∈ nm
  bd : ∀ s ∈ st, 0 ≤ s.1 ∧ s.1 ≤ 100
  rise : (st.map (·.1)).Pairwise (· < ·)
theorem stays_k17_wp {nm : List Str} (hn : nm = [("lift" : Str)] ∨ nm = [("lift" : Str), ("mill" : Str)]) (hS : FeedOk S0 S) (q : ∀ st S', StG nm st → FeedOk S0 S' → Q (encSy st) S') : wpE (g_stays_k17 [oW 0, .list (nm.map .str)] S) Q := by
  refine w_def rfl ?_
  unfold m_stays_k17
  (repeat (first | with_reducible refine zq15 ?_ | (with_reducible first | refine zq14 ?_ | refine zq11 ?_ | refine zq10 ?_ | refine zq3 ?_ | refine zq4 ?_ | refine zq5 ?_ | refine zq0 ?_ | refine zq8 ?_ | refine zq6 ?_ | refine zq1 ?_ | refine zq13 ?_ | refine zq12 ?_ | refine zq7 ?_ | refine zq2 ?_ | refine zq9 ?_)))
  refine draw_k17_wp hS (by decide) (by decide) fun d S' hd0 hd1 hS' => ?_
  (repeat (first | with_reducible refine zq15 ?_ | (with_reducible first | refine zq14 ?_ | refine zq11 ?_ | refine zq10 ?_ | refine zq3 ?_ | refine zq4 ?_ | refine zq5 ?_ | refine zq0 ?_ | refine zq8 ?_ | refine zq6 ?_ | refine zq1 ?_ | refine zq13 ?_ | refine zq12 ?_ | refine zq7 ?_ | refine zq2 ?_ | refine zq9 ?_)))
  refine ⟨by omega, ?_⟩
  have hz := siz
  refine wp_for (I := fun r ρ S' => FeedOk S0 S' ∧ ∃ (done : Sy) (a : Int) (x : Option Sl), ρ = [some (.val (oW 0)), some (.val (.list (nm.map .str))), some (.own (done.map encS)), some (.val (.int a)), x] ∧ 0 < done.length + r.length ∧ done.length + r.length ≤ 3 ∧ 0 ≤ a ∧ a ≤ 5 * done.length ∧ (done = [] → a = 0) ∧ (done ≠ [] → ∃ p r, done = (0, p) :: r) ∧
    (∀ s ∈ done, s.1 < a ∧ 0 ≤ s.1) ∧ (∀ s ∈ done, ∀ l, done.getLast? = some l → s.1 ≤ l.1) ∧ (∀ s ∈ done, ∀ x, s.2 = some x → x ∈ nm) ∧ (done.map (·.1)).Pairwise (· < ·)) ?_ ?_ _ _ _
    ⟨hS', [], 0, none, rfl, by simp [rangeD]; omega, by simp [rangeD]; omega, by simp, by simp, fun _ => rfl, fun h => absurd rfl h, by simp, by simp, by simp, by simp⟩
  · rintro w r ρ S' ⟨hS', done, a, x, rfl, hl0, hl, ha0, ha, hnil, hne, hlt, hup, hnm, hri⟩
    refine ⟨_, rfl, ?_⟩
    (repeat (first | with_reducible refine zq15 ?_ | (with_reducible first | refine zq14 ?_ | refine zq11 ?_ | refine zq10 ?_ | refine zq3 ?_ | refine zq4 ?_ | refine zq5 ?_ | refine zq0 ?_ | refine zq8 ?_ | refine zq6 ?_ | refine zq1 ?_ | refine zq13 ?_ | refine zq12 ?_ | refine zq7 ?_ | refine zq2 ?_ | refine zq9 ?_)))
    have hmem : ∀ y ∈ (nm ++ nm).map PyData.str ++ [PyData.none], ∃ p : Option Str, y = oS p ∧ ∀ x, p = some x → x ∈ nm := by
      intro y hy
      rcases List.mem_append.1 hy with hy | hy
      · obtain ⟨x, hx, rfl⟩ := List.mem_map.1 hy
        exact ⟨some x, rfl, fun x' e => by cases e; simpa using hx⟩
      · rw [List.mem_singleton.1 hy]
        exact ⟨none, rfl, fun _ e => by cases e⟩
    refine wpO_rfl (w := .list ((nm ++ nm).map PyData.str)) ?_ ?_
    · rcases hn with rfl | rfl <;> rfl
    (repeat (first | with_reducible refine zq15 ?_ | (with_reducible first | refine zq14 ?_ | refine zq11 ?_ | refine zq10 ?_ | refine zq3 ?_ | refine zq4 ?_ | refine zq5 ?_ | refine zq0 ?_ | refine zq8 ?_ | refine zq6 ?_ | refine zq1 ?_ | refine zq13 ?_ | refine zq12 ?_ | refine zq7 ?_ | refine zq2 ?_ | refine zq9 ?_)))
    refine wpO_rfl (w := .list ((nm ++ nm).map PyData.str ++ [PyData.none])) ?_ ?_
    · rcases hn with rfl | rfl <;> rfl
    (repeat (first | with_reducible refine zq15 ?_ | (with_reducible first | refine zq14 ?_ | refine zq11 ?_ | refine zq10 ?_ | refine zq3 ?_ | refine zq4 ?_ | refine zq5 ?_ | refine zq0 ?_ | refine zq8 ?_ | refine zq6 ?_ | refine zq1 ?_ | refine zq13 ?_ | refine zq12 ?_ | refine zq7 ?_ | refine zq2 ?_ | refine zq9 ?_)))
    refine any_k17_wp hS' (by simp; omega) (by rcases hn with rfl | rfl <;> decide) fun y S' hy hS' => ?_
    obtain ⟨p, rfl, hp⟩ := hmem y hy
    simp only [List.length_cons] at hl hl0
    (repeat (first | with_reducible refine zq15 ?_ | (with_reducible first | refine zq14 ?_ | refine zq11 ?_ | refine zq10 ?_ | refine zq3 ?_ | refine zq4 ?_ | refine zq5 ?_ | refine zq0 ?_ | refine zq8 ?_ | refine zq6 ?_ | refine zq1 ?_ | refine zq13 ?_ | refine zq12 ?_ | refine zq7 ?_ | refine zq2 ?_ | refine zq9 ?_)))
    refine ⟨by simp; omega, ?_⟩
    (repeat (first | with_reducible refine zq15 ?_ | (with_reducible first | refine zq14 ?_ | refine zq11 ?_ | refine zq10 ?_ | refine zq3 ?_ | refine zq4 ?_ | refine zq5 ?_ | refine zq0 ?_ | refine zq8 ?_ | refine zq6 ?_ | refine zq1 ?_ | refine zq13 ?_ | refine zq12 ?_ | refine zq7 ?_ | refine zq2 ?_ | refine zq9 ?_)))
    refine draw_k17_wp hS' (by decide) (by decide) fun d S' hd0 hd1 hS' => ?_
    (repeat (first | with_reducible refine zq15 ?_ | (with_reducible first | refine zq14 ?_ | refine zq11 ?_ | refine zq10 ?_ | refine zq3 ?_ | refine zq4 ?_ | refine zq5 ?_ | refine zq0 ?_ | refine zq8 ?_ | refine zq6 ?_ | refine zq1 ?_ | refine zq13 ?_ | refine zq12 ?_ | refine zq7 ?_ | refine zq2 ?_ | refine zq9 ?_)))
    refine ⟨hS', done ++ [(a, p)], a + 1 + d, some (.val w), ?_, by simp; omega, by simp; omega, by omega, by simp; omega, by simp, fun _ => ?_, ?_, ?_, ?_, ?_⟩
    · rw [List.map_append]
      rfl
    · cases done with
      | nil => exact ⟨p, [], by rw [hnil rfl]; rfl⟩
      | cons s done =>
        obtain ⟨p', r', e⟩ := hne (List.cons_ne_nil _ _)
        exact ⟨p', r' ++ [(a, p)], by rw [e]; rfl⟩
    · intro s hs
      rcases List.mem_append.1 hs with hs | hs
      · have := hlt s hs; omega
      · rw [List.mem_singleton.1 hs]; simp only; omega
    · intro s hs l hl
      rw [List.getLast?_append, List.getLast?_singleton] at hl
      cases hl
      rcases List.mem_append.1 hs with hs | hs
      · have := hlt s hs; simp only; omega
      · rw [List.mem_singleton.1 hs]; exact Int.le_refl _
    · intro s hs
      rcases List.mem_append.1 hs with hs | hs
      · exact hnm s hs
      · rw [List.mem_singleton.1 hs]; exact hp
    · rw [List.map_append, List.pairwise_append]
      refine ⟨hri, by simp, fun x hx y hy => ?_⟩
      obtain ⟨z, hz, rfl⟩ := List.mem_map.1 hx
      simp only [List.map_cons, List.map_nil, List.mem_singleton] at hy
      subst hy
      exact (hlt z hz).1
  · rintro ρ S' ⟨hS', done, a, x, rfl, hl0, hl, ha0, ha, hnil, hne, hlt, hup, hnm, hri⟩
    (repeat (first | with_reducible refine zq15 ?_ | (with_reducible first | refine zq14 ?_ | refine zq11 ?_ | refine zq10 ?_ | refine zq3 ?_ | refine zq4 ?_ | refine zq5 ?_ | refine zq0 ?_ | refine zq8 ?_ | refine zq6 ?_ | refine zq1 ?_ | refine zq13 ?_ | refine zq12 ?_ | refine zq7 ?_ | refine zq2 ?_ | refine zq9 ?_)))
    simp only [List.length_nil, Nat.add_zero] at hl hl0
    exact q done S' ⟨hne (by intro e; rw [e] at hl0; exact absurd hl0 (by decide)), hl, hup, hnm, fun s hs => by have := hlt s hs; omega, hri⟩ hS'
theorem nm_pump : NameOk "pump" := fun S => by kernel_rfl
theorem nm_saw : NameOk "saw" := fun S => by kernel_rfl
abbrev NmOk (nm : List Str) : Prop := nm = [("lift" : Str)] ∨ nm = [("lift" : Str), ("mill" : Str)]
abbrev PnOk (nm : List Str) : Prop := nm = [("pump" : Str)] ∨ nm = [("pump" : Str), ("saw" : Str)]
theorem sz_use {us : Us} (h : UsOk us) {u : Int × Int} (hu : u ∈ us) : Sz 62 1 (encU u) := by
  have := h.bd u hu
  exact Sz.tup (n := 30) (k := 0) (m := 2) (mem2 (Sz.int (by omega)) (Sz.int (by omega))) (Nat.le_refl _) (by decide)
theorem sz_nm {nm : List Str} (h : NmOk nm) {x : Str} (hx : x ∈ nm) : Sz 30 0 (.str x) := by
  rcases h with rfl | rfl <;> simp only [List.mem_cons, List.mem_nil_iff, or_false] at hx
  · subst hx; exact szName (by decide +kernel) (by decide +kernel)
  · rcases hx with rfl | rfl <;> exact szName (by decide +kernel) (by decide +kernel)
theorem sz_pn {nm : List Str} (h : PnOk nm) {x : Str} (hx : x ∈ nm) : Sz 30 0 (.str x) := by
  rcases h with rfl | rfl <;> simp only [List.mem_cons, List.mem_nil_iff, or_false] at hx
  · subst hx; exact szName (by decide +kernel) (by decide +kernel)
  · rcases hx with rfl | rfl <;> exact szName (by decide +kernel) (by decide +kernel)
structure JobG (most : Int) (pn : List Str) (j : Job) : Prop where
  pt : j.pt ∈ pn
  wy : j.wy = ("kept" : Str) ∨ j.wy = ("fresh" : Str)
  lim : RuleG most 2 j.lim
  sl : (0 ≤ j.sl.1 ∧ j.sl.1 ≤ 3) ∧ (0 ≤ j.sl.2.1 ∧ j.sl.2.1 ≤ 3) ∧ 0 ≤ j.sl.2.2 ∧ j.sl.2.2 ≤ 3
structure JobW (most : Int) (pn : List Str) (j : Job) : Prop where
  pt : j.pt ∈ pn
  wy : j.wy = ("kept" : Str) ∨ j.wy = ("fresh" : Str)
  lim : RuleG most 2 j.lim
  sl : (0 ≤ j.sl.1 ∧ j.sl.1 ≤ 500) ∧ (0 ≤ j.sl.2.1 ∧ j.sl.2.1 ≤ 500) ∧ 0 ≤ j.sl.2.2 ∧ j.sl.2.2 ≤ 500
theorem JobG.wide {most : Int} {pn : List Str} {j : Job} (h : JobG most pn j) : JobW most pn j := ⟨h.pt, h.wy, h.lim, by have := h.sl; omega⟩
abbrev JnOk (nm : List Str) : Prop := nm = [("clean" : Str)] ∨ nm = [("clean" : Str), ("oil" : Str)] ∨ nm = [("clean" : Str), ("oil" : Str), ("zinc" : Str)]
structure PlotOk (most : Int) (s : Site) : Prop where
  ok : SiteOk s
  mn : NmOk (s.mc.map (·.1))
  mu : ∀ m ∈ s.mc, m.2.length ≤ 3
  pn : PnOk (s.parts.map (·.1))
  ps : ∀ p ∈ s.parts, StG (s.mc.map (·.1)) p.2
  jn : JnOk (s.jobs.map (·.nm))
  jg : ∀ j ∈ s.jobs, JobG most (s.parts.map (·.1)) j
  mb : ∀ m ∈ s.mc, ∀ u ∈ m.2, u.1 ≤ 20 ∧ u.2 ≤ 20
theorem sz_jn {nm : List Str} (h : JnOk nm) {x : Str} (hx : x ∈ nm) : Sz 30 0 (.str x) := by
  rcases h with rfl | rfl | rfl <;> simp only [List.mem_cons, List.mem_nil_iff, or_false] at hx
  · subst hx; exact szName (by decide +kernel) (by decide +kernel)
  · rcases hx with rfl | rfl <;> exact szName (by decide +kernel) (by decide +kernel)
  · rcases hx with rfl | rfl | rfl <;> exact szName (by decide +kernel) (by decide +kernel)
theorem sz_job {most : Int} {pn jn : List Str} {j : Job} (hp : PnOk pn) (hj : JnOk jn) (hjn : j.nm ∈ jn) (h : JobW most pn j) : Sz 5115 6 (encJ j) := by
  have z1 : Sz 1022 5 (.str j.nm) := (sz_jn hj hjn).mono (by decide) (by decide)
  have z2 : Sz 1022 5 (.str j.pt) := (sz_pn hp h.pt).mono (by decide) (by decide)
  have z3 : Sz 1022 5 (.str j.wy) := by
    rcases h.wy with e | e <;> rw [e] <;> exact (szName (by decide +kernel) (by decide +kernel)).mono (by decide) (by decide)
  have hs := h.sl
  have z5 : Sz 1022 5 (encSl j.sl) := (Sz.tup (n := 30) (k := 0) (m := 3) (n' := 93) (mem3 (Sz.int (by omega)) (Sz.int (by omega)) (Sz.int (by omega))) (Nat.le_refl _) (by decide)).mono (by decide) (by decide)
  refine Sz.tup (n := 1022) (k := 5) (m := 5) ?_ (Nat.le_refl _) (by decide)
  intro x hx
  simp only [List.mem_cons, List.mem_nil_iff, or_false] at hx
  rcases hx with rfl | rfl | rfl | rfl | rfl
  · exact z1
  · exact z2
  · exact z3
  · exact h.lim.s
  · exact z5
theorem site_of {most : Int} {s : Site} (hn : NmOk (s.mc.map (·.1))) (hu : ∀ m ∈ s.mc, UsOk m.2 ∧ m.2.length ≤ 3) (hp : PnOk (s.parts.map (·.1))) (hst : ∀ p ∈ s.parts, StG (s.mc.map (·.1)) p.2) (hjn : JnOk (s.jobs.map (·.nm))) (hj : ∀ j ∈ s.jobs, JobW most (s.parts.map (·.1)) j) : SiteOk s := by
  have hml : s.mc.length ≤ 2 := by rcases hn with e | e <;> (have := congrArg List.length e; simp at this; omega)
  have hpl : s.parts.length ≤ 2 := by rcases hp with e | e <;> (have := congrArg List.length e; simp at this; omega)
  have hjl : s.jobs.length ≤ 3 := by rcases hjn with e | e | e <;> (have := congrArg List.length e; simp at this; omega)
  have hsz : Sz (2 ^ 18) 20 (encSite s) := by
    have h1 : Sz 762 4 (.tuple (s.mc.map encM)) := by
      refine Sz.tup (n := 380) (k := 3) (m := 2) ?_ (by simpa using hml) (by decide)
      intro x hx
      obtain ⟨m, hm, rfl⟩ := List.mem_map.1 hx
      refine Sz.tup (n := 189) (k := 2) (m := 2) (mem2 ((sz_nm hn (List.mem_map_of_mem hm)).mono (by decide) (by decide)) ?_) (Nat.le_refl _) (by decide)
      refine Sz.tup (n := 62) (k := 1) (m := 3) ?_ (by simpa using (hu m hm).2) (by decide)
      intro x hx
      obtain ⟨u, hu', rfl⟩ := List.mem_map.1 hx
      exact sz_use (hu m hm).1 hu'
    have h2 : Sz 762 4 (.tuple (s.parts.map encP)) := by
      refine Sz.tup (n := 380) (k := 3) (m := 2) ?_ (by simpa using hpl) (by decide)
      intro x hx
      obtain ⟨p, hm, rfl⟩ := List.mem_map.1 hx
      refine Sz.tup (n := 189) (k := 2) (m := 2) (mem2 ((sz_pn hp (List.mem_map_of_mem hm)).mono (by decide) (by decide)) ?_) (Nat.le_refl _) (by decide)
      refine Sz.tup (n := 62) (k := 1) (m := 3) ?_ (by simpa using (hst p hm).ln) (by decide)
      intro x hx
      obtain ⟨q, hs, rfl⟩ := List.mem_map.1 hx
      have := (hst p hm).bd q hs
      refine Sz.tup (n := 30) (k := 0) (m := 2) (mem2 (Sz.int (by omega)) ?_) (Nat.le_refl _) (by decide)
      cases e : q.2 with
      | none => exact Sz.non.mono (by decide) (by decide)
      | some x => exact sz_nm hn ((hst p hm).us q hs x e)
    have h3 : Sz 15348 7 (.tuple (s.jobs.map encJ)) := by
      refine Sz.tup (n := 5115) (k := 6) (m := 3) ?_ (by simpa using hjl) (by decide)
      intro x hx
      obtain ⟨j, hm, rfl⟩ := List.mem_map.1 hx
      exact sz_job hp hjn (List.mem_map_of_mem (f := fun j : Job => j.nm) hm) (hj j hm)
    exact (Sz.tup (n := 15348) (k := 7) (m := 3) (mem3 (h1.mono (by decide) (by decide)) (h2.mono (by decide) (by decide)) h3) (Nat.le_refl _) (Nat.le_refl _)).mono (by decide) (by decide)
  refine ⟨by rcases hn with e | e <;> rw [e] <;> decide +kernel, fun m hm => (hu m hm).1, by omega, by rcases hp with e | e <;> rw [e] <;> decide +kernel, by omega, fun p hp' => ?_, fun p hp' => ?_, hsz⟩
  · have h := hst p hp'
    exact ⟨h.hd, by have := h.ln; omega, h.up, fun q hq => by have := h.bd q hq; omega, h.us⟩
  · have hm : p.1 ∈ s.parts.map (·.1) := List.mem_map_of_mem hp'
    rcases hp with e | e <;> rw [e] at hm <;> simp only [List.mem_cons, List.mem_nil_iff, or_false] at hm
    · rw [hm]; exact nm_pump
    · rcases hm with e | e <;> rw [e]
      · exact nm_pump
      · exact nm_saw
theorem plot_of {most : Int} {s : Site} (hn : NmOk (s.mc.map (·.1))) (hu : ∀ m ∈ s.mc, (UsOk m.2 ∧ m.2.length ≤ 3) ∧ ∀ u ∈ m.2, u.1 ≤ 20 ∧ u.2 ≤ 20) (hp : PnOk (s.parts.map (·.1))) (hst : ∀ p ∈ s.parts, StG (s.mc.map (·.1)) p.2) (hjn : JnOk (s.jobs.map (·.nm))) (hj : ∀ j ∈ s.jobs, JobG most (s.parts.map (·.1)) j) : PlotOk most s :=
  ⟨site_of hn (fun m hm => (hu m hm).1) hp hst hjn fun j h => (hj j h).wide, hn, fun m hm => (hu m hm).1.2, hp, hst, hjn, hj, fun m hm => (hu m hm).2⟩
theorem cut_nm {d : Int} (h0 : 0 ≤ d) (h1 : d < 2) : ∃ nm, NmOk nm ∧ cutD [.str "lift", .str "mill"] none (some (1 + d)) = nm.map PyData.str := by
  obtain rfl | rfl : d = 0 ∨ d = 1 := by omega
  · exact ⟨_, .inl rfl, rfl⟩
  · exact ⟨_, .inr rfl, rfl⟩
theorem cut_pn {d : Int} (h0 : 0 ≤ d) (h1 : d < 2) : ∃ nm, PnOk nm ∧ cutD [.str "pump", .str "saw"] none (some (1 + d)) = nm.map PyData.str := by
  obtain rfl | rfl : d = 0 ∨ d = 1 := by omega
  · exact ⟨_, .inl rfl, rfl⟩
  · exact ⟨_, .inr rfl, rfl⟩
theorem cut_jn {d : Int} (h0 : 0 ≤ d) (h1 : d < 3) : ∃ nm, JnOk nm ∧ cutD [.str "clean", .str "oil", .str "zinc"] none (some (1 + d)) = nm.map PyData.str := by
  obtain rfl | rfl | rfl : d = 0 ∨ d = 1 ∨ d = 2 := by omega
  · exact ⟨_, .inl rfl, rfl⟩
  · exact ⟨_, .inr (.inl rfl), rfl⟩
  · exact ⟨_, .inr (.inr rfl), rfl⟩
theorem plot_k17_wp {most : Int} (hm0 : 0 < most) (hm1 : most < 1000) (hS : FeedOk S0 S) (q : ∀ s S', PlotOk most s → FeedOk S0 S' → Q (encSite s) S') : wpE (g_plot_k17 [oW 0, .int most] S) Q := by
  have hz := siz
  refine w_def rfl ?_
  unfold m_plot_k17
  (repeat (first | with_reducible refine zq15 ?_ | (with_reducible first | refine zq14 ?_ | refine zq11 ?_ | refine zq10 ?_ | refine zq3 ?_ | refine zq4 ?_ | refine zq5 ?_ | refine zq0 ?_ | refine zq8 ?_ | refine zq6 ?_ | refine zq1 ?_ | refine zq13 ?_ | refine zq12 ?_ | refine zq7 ?_ | refine zq2 ?_ | refine zq9 ?_)))
  refine draw_k17_wp hS (by decide) (by decide) fun d S' hd0 hd1 hS' => ?_
  (repeat (first | with_reducible refine zq15 ?_ | (with_reducible first | refine zq14 ?_ | refine zq11 ?_ | refine zq10 ?_ | refine zq3 ?_ | refine zq4 ?_ | refine zq5 ?_ | refine zq0 ?_ | refine zq8 ?_ | refine zq6 ?_ | refine zq1 ?_ | refine zq13 ?_ | refine zq12 ?_ | refine zq7 ?_ | refine zq2 ?_ | refine zq9 ?_)))
  obtain ⟨nm, hnm, e⟩ := cut_nm hd0 hd1
  rw [e]
  clear e hd0 hd1 d
  have hnl : nm.length ≤ 2 := by rcases hnm with rfl | rfl <;> decide
  refine wp_for (I := fun r ρ S' => FeedOk S0 S' ∧ ∃ (done : List (Str × Us)) (rest : List Str) (x4 x5 : Option Sl), nm = done.map (·.1) ++ rest ∧ r = rest.map PyData.str ∧ (∀ m ∈ done, (UsOk m.2 ∧ m.2.length ≤ 3) ∧ ∀ u ∈ m.2, u.1 ≤ 20 ∧ u.2 ≤ 20) ∧
    ρ = [some (.val (oW 0)), some (.val (.int most)), some (.val (.list (nm.map PyData.str))), some (.own (done.map encM)), x4, x5, none, none, none, none, none, none, none]) ?_ ?_ _ _ _ ⟨hS', [], nm, none, none, rfl, rfl, by simp, rfl⟩
  · rintro w r ρ S' ⟨hS', done, rest, x4, x5, e1, e2, hu, rfl⟩
    cases rest with
    | nil => cases e2
    | cons x rest =>
      cases e2
      have hl : done.length + 1 ≤ 2 := by
        have := congrArg List.length e1
        simp at this
        omega
      refine ⟨_, rfl, ?_⟩
      (repeat (first | with_reducible refine zq15 ?_ | (with_reducible first | refine zq14 ?_ | refine zq11 ?_ | refine zq10 ?_ | refine zq3 ?_ | refine zq4 ?_ | refine zq5 ?_ | refine zq0 ?_ | refine zq8 ?_ | refine zq6 ?_ | refine zq1 ?_ | refine zq13 ?_ | refine zq12 ?_ | refine zq7 ?_ | refine zq2 ?_ | refine zq9 ?_)))
      refine draw_k17_wp hS' (by decide) (by decide) fun d S' hd0 hd1 hS' => ?_
      (repeat (first | with_reducible refine zq15 ?_ | (with_reducible first | refine zq14 ?_ | refine zq11 ?_ | refine zq10 ?_ | refine zq3 ?_ | refine zq4 ?_ | refine zq5 ?_ | refine zq0 ?_ | refine zq8 ?_ | refine zq6 ?_ | refine zq1 ?_ | refine zq13 ?_ | refine zq12 ?_ | refine zq7 ?_ | refine zq2 ?_ | refine zq9 ?_)))
      refine ⟨by omega, ?_⟩
      refine wp_lc (I := fun r acc S' => FeedOk S0 S' ∧ ∃ us : Us, acc = us.map encU ∧ 0 < us.length + r.length ∧ us.length + r.length ≤ 3 ∧ ∀ u ∈ us, (0 ≤ u.1 ∧ u.1 ≤ 20) ∧ 0 ≤ u.2 ∧ u.2 ≤ 20) ?_ ?_ _ _ _ ⟨hS', [], rfl, by simp [rangeD]; omega, by simp [rangeD]; omega, by simp⟩
      · rintro w r acc S' ⟨hS', us, rfl, hl0, hl1, hb⟩
        refine ⟨_, rfl, ?_⟩
        (repeat (first | with_reducible refine zq15 ?_ | (with_reducible first | refine zq14 ?_ | refine zq11 ?_ | refine zq10 ?_ | refine zq3 ?_ | refine zq4 ?_ | refine zq5 ?_ | refine zq0 ?_ | refine zq8 ?_ | refine zq6 ?_ | refine zq1 ?_ | refine zq13 ?_ | refine zq12 ?_ | refine zq7 ?_ | refine zq2 ?_ | refine zq9 ?_)))
        refine draw_k17_wp hS' (by decide) (by decide) fun d1 S' hd10 hd11 hS' => ?_
        (repeat (first | with_reducible refine zq15 ?_ | (with_reducible first | refine zq14 ?_ | refine zq11 ?_ | refine zq10 ?_ | refine zq3 ?_ | refine zq4 ?_ | refine zq5 ?_ | refine zq0 ?_ | refine zq8 ?_ | refine zq6 ?_ | refine zq1 ?_ | refine zq13 ?_ | refine zq12 ?_ | refine zq7 ?_ | refine zq2 ?_ | refine zq9 ?_)))
        refine draw_k17_wp hS' (by decide) (by decide) fun d2 S' hd20 hd21 hS' => ?_
        (repeat (first | with_reducible refine zq15 ?_ | (with_reducible first | refine zq14 ?_ | refine zq11 ?_ | refine zq10 ?_ | refine zq3 ?_ | refine zq4 ?_ | refine zq5 ?_ | refine zq0 ?_ | refine zq8 ?_ | refine zq6 ?_ | refine zq1 ?_ | refine zq13 ?_ | refine zq12 ?_ | refine zq7 ?_ | refine zq2 ?_ | refine zq9 ?_)))
        simp only [List.length_cons] at hl0 hl1
        refine ⟨by simp; omega, hS', us ++ [(d1, d2)], by rw [List.map_append]; rfl, by simp; omega, by simp; omega, ?_⟩
        intro u hu
        rcases List.mem_append.1 hu with hu | hu
        · exact hb u hu
        · rw [List.mem_singleton.1 hu]; simp only; omega
      · rintro acc S' ⟨hS', us, rfl, hl0, hl1, hb⟩
        simp only [List.length_nil, Nat.add_zero] at hl0 hl1
        (repeat (first | with_reducible refine zq15 ?_ | (with_reducible first | refine zq14 ?_ | refine zq11 ?_ | refine zq10 ?_ | refine zq3 ?_ | refine zq4 ?_ | refine zq5 ?_ | refine zq0 ?_ | refine zq8 ?_ | refine zq6 ?_ | refine zq1 ?_ | refine zq13 ?_ | refine zq12 ?_ | refine zq7 ?_ | refine zq2 ?_ | refine zq9 ?_)))
        refine ⟨by simp; omega, ?_⟩
        refine ⟨hS', done ++ [(x, us)], rest, some (.val (.str x)), some (.val (.list (us.map encU))), by simp [e1], rfl, ?_, ?_⟩
        · intro m hm
          rcases List.mem_append.1 hm with hm | hm
          · exact hu m hm
          · rw [List.mem_singleton.1 hm]
            exact ⟨⟨⟨List.length_pos_iff.1 hl0, by simp only; omega, fun u hu => by have := hb u hu; omega⟩, hl1⟩, fun u hu => by have := hb u hu; omega⟩
        · rw [List.map_append]
          rfl
  rintro ρ S' ⟨hS', mc, rest, x4, x5, e1, e2, hu, rfl⟩
  cases rest with
  | cons x rest => cases e2
  | nil =>
  simp only [List.append_nil] at e1
  subst e1
  (repeat (first | with_reducible refine zq15 ?_ | (with_reducible first | refine zq14 ?_ | refine zq11 ?_ | refine zq10 ?_ | refine zq3 ?_ | refine zq4 ?_ | refine zq5 ?_ | refine zq0 ?_ | refine zq8 ?_ | refine zq6 ?_ | refine zq1 ?_ | refine zq13 ?_ | refine zq12 ?_ | refine zq7 ?_ | refine zq2 ?_ | refine zq9 ?_)))
  refine draw_k17_wp hS' (by decide) (by decide) fun d S' hd0 hd1 hS' => ?_
  (repeat (first | with_reducible refine zq15 ?_ | (with_reducible first | refine zq14 ?_ | refine zq11 ?_ | refine zq10 ?_ | refine zq3 ?_ | refine zq4 ?_ | refine zq5 ?_ | refine zq0 ?_ | refine zq8 ?_ | refine zq6 ?_ | refine zq1 ?_ | refine zq13 ?_ | refine zq12 ?_ | refine zq7 ?_ | refine zq2 ?_ | refine zq9 ?_)))
  obtain ⟨pn, hpn, e⟩ := cut_pn hd0 hd1
  rw [e]
  clear e hd0 hd1 d
  have hpl : pn.length ≤ 2 := by rcases hpn with rfl | rfl <;> decide
  have hpl0 : 0 < pn.length := by rcases hpn with rfl | rfl <;> decide
  refine wp_lc (I := fun r acc S' => FeedOk S0 S' ∧ ∃ (done : List (Str × Sy)) (rest : List Str), pn = done.map (·.1) ++ rest ∧ r = rest.map PyData.str ∧ acc = done.map encP ∧ ∀ p ∈ done, StG (mc.map (·.1)) p.2) ?_ ?_ _ _ _ ⟨hS', [], pn, rfl, rfl, rfl, by simp⟩
  · rintro w r acc S' ⟨hS', done, rest, e1, e2, rfl, hst⟩
    cases rest with
    | nil => cases e2
    | cons x rest =>
      cases e2
      refine ⟨_, rfl, ?_⟩
      (repeat (first | with_reducible refine zq15 ?_ | (with_reducible first | refine zq14 ?_ | refine zq11 ?_ | refine zq10 ?_ | refine zq3 ?_ | refine zq4 ?_ | refine zq5 ?_ | refine zq0 ?_ | refine zq8 ?_ | refine zq6 ?_ | refine zq1 ?_ | refine zq13 ?_ | refine zq12 ?_ | refine zq7 ?_ | refine zq2 ?_ | refine zq9 ?_)))
      refine stays_k17_wp hnm hS' fun st S' hg hS' => ?_
      (repeat (first | with_reducible refine zq15 ?_ | (with_reducible first | refine zq14 ?_ | refine zq11 ?_ | refine zq10 ?_ | refine zq3 ?_ | refine zq4 ?_ | refine zq5 ?_ | refine zq0 ?_ | refine zq8 ?_ | refine zq6 ?_ | refine zq1 ?_ | refine zq13 ?_ | refine zq12 ?_ | refine zq7 ?_ | refine zq2 ?_ | refine zq9 ?_)))
      have hl : done.length + 1 ≤ 2 := by
        have := congrArg List.length e1
        simp at this
        omega
      refine ⟨by simp; omega, hS', done ++ [(x, st)], rest, by simp [e1], rfl, by rw [List.map_append]; rfl, ?_⟩
      intro p hp
      rcases List.mem_append.1 hp with hp | hp
      · exact hst p hp
      · rw [List.mem_singleton.1 hp]; exact hg
  rintro acc S' ⟨hS', parts, rest, e1, e2, rfl, hst⟩
  cases rest with
  | cons x rest => cases e2
  | nil =>
  simp only [List.append_nil] at e1
  subst e1
  (repeat (first | with_reducible refine zq15 ?_ | (with_reducible first | refine zq14 ?_ | refine zq11 ?_ | refine zq10 ?_ | refine zq3 ?_ | refine zq4 ?_ | refine zq5 ?_ | refine zq0 ?_ | refine zq8 ?_ | refine zq6 ?_ | refine zq1 ?_ | refine zq13 ?_ | refine zq12 ?_ | refine zq7 ?_ | refine zq2 ?_ | refine zq9 ?_)))
  refine draw_k17_wp hS' (by decide) (by decide) fun d S' hd0 hd1 hS' => ?_
  (repeat (first | with_reducible refine zq15 ?_ | (with_reducible first | refine zq14 ?_ | refine zq11 ?_ | refine zq10 ?_ | refine zq3 ?_ | refine zq4 ?_ | refine zq5 ?_ | refine zq0 ?_ | refine zq8 ?_ | refine zq6 ?_ | refine zq1 ?_ | refine zq13 ?_ | refine zq12 ?_ | refine zq7 ?_ | refine zq2 ?_ | refine zq9 ?_)))
  obtain ⟨jn, hjn, e⟩ := cut_jn hd0 hd1
  rw [e]
  clear e hd0 hd1 d
  have hjl : jn.length ≤ 3 := by rcases hjn with rfl | rfl | rfl <;> decide
  refine wp_for (I := fun r ρ S' => FeedOk S0 S' ∧ ∃ (done : List Job) (rest : List Str) (x4 x9 x10 : Option Sl), jn = done.map (·.nm) ++ rest ∧ r = rest.map PyData.str ∧ (∀ j ∈ done, JobG most (parts.map (·.1)) j) ∧
    ρ = [some (.val (oW 0)), some (.val (.int most)), some (.val (.list ((mc.map (·.1)).map PyData.str))), some (.val (.list (mc.map encM))), x4, x5, some (.val (.list ((parts.map (·.1)).map PyData.str))), some (.val (.list (parts.map encP))), some (.own (done.map encJ)), x9, x10, none, none]) ?_ ?_ _ _ _ ⟨hS', [], jn, x4, none, none, rfl, rfl, by simp, rfl⟩
  · rintro w r ρ S' ⟨hS', done, rest, y4, y9, y10, e1, e2, hd, rfl⟩
    cases rest with
    | nil => cases e2
    | cons x rest =>
    cases e2
    have hl : done.length + 1 ≤ 3 := by
      have := congrArg List.length e1
      simp at this
      omega
    refine ⟨_, rfl, ?_⟩
    (repeat (first | with_reducible refine zq15 ?_ | (with_reducible first | refine zq14 ?_ | refine zq11 ?_ | refine zq10 ?_ | refine zq3 ?_ | refine zq4 ?_ | refine zq5 ?_ | refine zq0 ?_ | refine zq8 ?_ | refine zq6 ?_ | refine zq1 ?_ | refine zq13 ?_ | refine zq12 ?_ | refine zq7 ?_ | refine zq2 ?_ | refine zq9 ?_)))
    refine ⟨by decide, ?_⟩
    refine wp_lc (I := fun r acc S' => FeedOk S0 S' ∧ ∃ ns : List Int, acc = ns.map PyData.int ∧ ns.length + r.length = 3 ∧ ∀ i ∈ ns, 0 ≤ i ∧ i ≤ 3) ?_ ?_ _ _ _ ⟨hS', [], rfl, by decide, by simp⟩
    · rintro w r acc S' ⟨hS', ns, rfl, hl, ha⟩
      refine ⟨_, rfl, ?_⟩
      (repeat (first | with_reducible refine zq15 ?_ | (with_reducible first | refine zq14 ?_ | refine zq11 ?_ | refine zq10 ?_ | refine zq3 ?_ | refine zq4 ?_ | refine zq5 ?_ | refine zq0 ?_ | refine zq8 ?_ | refine zq6 ?_ | refine zq1 ?_ | refine zq13 ?_ | refine zq12 ?_ | refine zq7 ?_ | refine zq2 ?_ | refine zq9 ?_)))
      simp only [List.length_cons] at hl
      refine any_k17_wp hS' (by decide) (by decide) fun y S' hy hS' => ?_
      have hy : ∃ i : Int, y = .int i ∧ 0 ≤ i ∧ i ≤ 3 := by
        simp only [List.mem_cons, List.mem_nil_iff, or_false] at hy
        rcases hy with rfl | rfl | rfl | rfl | rfl <;> exact ⟨_, rfl, by decide, by decide⟩
      obtain ⟨i, rfl, hi⟩ := hy
      refine ⟨by simp; omega, hS', ns ++ [i], by simp, by simp; omega, ?_⟩
      intro x hx
      rcases List.mem_append.1 hx with hx | hx
      · exact ha x hx
      · rw [List.mem_singleton.1 hx]
        exact hi
    rintro acc S' ⟨hS', ns, rfl, hal, ha⟩
    simp only [List.length_nil, Nat.add_zero] at hal
    obtain ⟨i1, i2, i3, rfl⟩ : ∃ a b c, ns = [a, b, c] := by
      match ns, hal with
      | [a, b, c], _ => exact ⟨a, b, c, rfl⟩
    (repeat (first | with_reducible refine zq15 ?_ | (with_reducible first | refine zq14 ?_ | refine zq11 ?_ | refine zq10 ?_ | refine zq3 ?_ | refine zq4 ?_ | refine zq5 ?_ | refine zq0 ?_ | refine zq8 ?_ | refine zq6 ?_ | refine zq1 ?_ | refine zq13 ?_ | refine zq12 ?_ | refine zq7 ?_ | refine zq2 ?_ | refine zq9 ?_)))
    refine any_k17_wp hS' (by simpa using hpl0) (by simp at hpl ⊢; omega) fun y S' hy hS' => ?_
    obtain ⟨y, hyp, rfl⟩ := List.mem_map.1 hy
    (repeat (first | with_reducible refine zq15 ?_ | (with_reducible first | refine zq14 ?_ | refine zq11 ?_ | refine zq10 ?_ | refine zq3 ?_ | refine zq4 ?_ | refine zq5 ?_ | refine zq0 ?_ | refine zq8 ?_ | refine zq6 ?_ | refine zq1 ?_ | refine zq13 ?_ | refine zq12 ?_ | refine zq7 ?_ | refine zq2 ?_ | refine zq9 ?_)))
    refine any_k17_wp hS' (by decide) (by decide) fun y2 S' hy2 hS' => ?_
    have hy2 : ∃ z : Str, y2 = .str z ∧ (z = ("kept" : Str) ∨ z = ("fresh" : Str)) := by
      simp only [List.mem_cons, List.mem_nil_iff, or_false] at hy2
      rcases hy2 with rfl | rfl | rfl
      · exact ⟨_, rfl, .inl rfl⟩
      · exact ⟨_, rfl, .inr rfl⟩
      · exact ⟨_, rfl, .inl rfl⟩
    obtain ⟨y2, rfl, hyw⟩ := hy2
    (repeat (first | with_reducible refine zq15 ?_ | (with_reducible first | refine zq14 ?_ | refine zq11 ?_ | refine zq10 ?_ | refine zq3 ?_ | refine zq4 ?_ | refine zq5 ?_ | refine zq0 ?_ | refine zq8 ?_ | refine zq6 ?_ | refine zq1 ?_ | refine zq13 ?_ | refine zq12 ?_ | refine zq7 ?_ | refine zq2 ?_ | refine zq9 ?_)))
    refine rule_k17_wp (n := 2) (k := 4) hm0 hm1 _ _ hS' (by decide) fun l S' hwr hS' => ?_
    (repeat (first | with_reducible refine zq15 ?_ | (with_reducible first | refine zq14 ?_ | refine zq11 ?_ | refine zq10 ?_ | refine zq3 ?_ | refine zq4 ?_ | refine zq5 ?_ | refine zq0 ?_ | refine zq8 ?_ | refine zq6 ?_ | refine zq1 ?_ | refine zq13 ?_ | refine zq12 ?_ | refine zq7 ?_ | refine zq2 ?_ | refine zq9 ?_)))
    refine ⟨by simp; omega, ?_⟩
    refine ⟨hS', done ++ [⟨x, y, y2, l, i1, i2, i3⟩], rest, some (.val (.str x)), some (.val (.tuple [.int i1, .int i2, .int i3])), some (.val (.tuple [.str x, .str y, .str y2])), by simp [e1], rfl, ?_, ?_⟩
    · intro j hj
      rcases List.mem_append.1 hj with hj | hj
      · exact hd j hj
      · rw [List.mem_singleton.1 hj]
        exact ⟨hyp, hyw, hwr, ha i1 (by simp), ha i2 (by simp), ha i3 (by simp)⟩
    · rw [List.map_append]
      rfl
  · rintro ρ S' ⟨hS', done, rest, y4, y9, y10, e1, e2, hd, rfl⟩
    cases rest with
    | cons x rest => cases e2
    | nil =>
    simp only [List.append_nil] at e1
    subst e1
    (repeat (first | with_reducible refine zq15 ?_ | (with_reducible first | refine zq14 ?_ | refine zq11 ?_ | refine zq10 ?_ | refine zq3 ?_ | refine zq4 ?_ | refine zq5 ?_ | refine zq0 ?_ | refine zq8 ?_ | refine zq6 ?_ | refine zq1 ?_ | refine zq13 ?_ | refine zq12 ?_ | refine zq7 ?_ | refine zq2 ?_ | refine zq9 ?_)))
    exact q ⟨mc, parts, done⟩ S' (plot_of hnm hu hpn hst hjn hd) hS'
end
end WF
namespace WF
open PySem PySem.Spec PyProof.Rows L2 DL
end WF
namespace WF
open PySem PySem.Spec PyProof.Rows L2 DL
end WF
namespace WF
open PySem PySem.Spec PyProof.Rows L2 DL PL
theorem RuleG.ok {most : Int} {n : Nat} {l : Lim} (h : RuleG most n l) (hn : n ≤ 2) : LimOk most n l := ⟨h.b, by
  have := h.z
  have e : szT n ≤ 7 := by
    match n, hn with
    | 0, _ => decide
    | 1, _ => decide
    | 2, _ => decide
  omega, by omega⟩
end WF
namespace WF
open PySem PySem.Spec PyProof.Rows L2 DL
end WF
namespace WF
open PySem PySem.Spec PyProof.Rows L2 DL
end WF
namespace WF
open PySem PySem.Spec PyProof.Rows L2 DL PL
section
variable {s : Site} {S S0 : Sto} {b : Int} {j : Job} {Q : Wd → Sto → Prop}
theorem shifted_k19_eq {a : Int × Int × Int} {lo hi : Int} : ∀ (k n : Nat) (l : Lim) (S : Sto), LimB lo hi k l → k < n → g_shifted_k19 n [encL l, encSl a] S = .ok (encL (shiftL (tri a) l)) S := by
  have hz := siz
  intro k
  have one : ∀ (n : Nat) (w : CW) (i : Int) (S : Sto), g_shifted_k19 (n + 1) [encL (.one w i), encSl a] S = .ok (encL (shiftL (tri a) (.one w i))) S := fun n w i S => by
    refine wpR_ok (w_def rfl ?_)
    unfold m_shifted_k19
    cases w <;> (unfold encL shiftL; (repeat (first | with_reducible refine zq15 ?_ | (with_reducible first | refine zq14 ?_ | refine zq11 ?_ | refine zq10 ?_ | refine zq3 ?_ | refine zq4 ?_ | refine zq5 ?_ | refine zq0 ?_ | refine zq8 ?_ | refine zq6 ?_ | refine zq1 ?_ | refine zq13 ?_ | refine zq12 ?_ | refine zq7 ?_ | refine zq2 ?_ | refine zq9 ?_))); exact ⟨rfl, rfl⟩)
  induction k with
  | zero =>
    intro n l S hl hn
    obtain ⟨n, rfl⟩ : ∃ n', n = n' + 1 := ⟨n - 1, by omega⟩
    cases l with
    | join c ls => obtain ⟨_, e, _⟩ := hl.join_; cases e
    | one w i => exact one n w i S
  | succ k ih =>
    intro n l S hl hn
    obtain ⟨n, rfl⟩ : ∃ n', n = n' + 1 := ⟨n - 1, by omega⟩
    cases l with
    | one w i => exact one n w i S
    | join e ls =>
      obtain ⟨k2, e2, hne, hle, hall⟩ := hl.join_
      cases e2
      refine wpR_ok (w_def rfl ?_)
      unfold m_shifted_k19
      rw [encL_join, shiftL_join, encL_join]
      (repeat (first | with_reducible refine zq15 ?_ | (with_reducible first | refine zq14 ?_ | refine zq11 ?_ | refine zq10 ?_ | refine zq3 ?_ | refine zq4 ?_ | refine zq5 ?_ | refine zq0 ?_ | refine zq8 ?_ | refine zq6 ?_ | refine zq1 ?_ | refine zq13 ?_ | refine zq12 ?_ | refine zq7 ?_ | refine zq2 ?_ | refine zq9 ?_)))
      refine w_bt (by cases e <;> rfl) ?_
      (repeat (first | with_reducible refine zq15 ?_ | (with_reducible first | refine zq14 ?_ | refine zq11 ?_ | refine zq10 ?_ | refine zq3 ?_ | refine zq4 ?_ | refine zq5 ?_ | refine zq0 ?_ | refine zq8 ?_ | refine zq6 ?_ | refine zq1 ?_ | refine zq13 ?_ | refine zq12 ?_ | refine zq7 ?_ | refine zq2 ?_ | refine zq9 ?_)))
      refine lc_map (enc := encL) (out := fun l => encL (shiftL (tri a) l)) ls (by omega) (fun l hl => ⟨_, rfl, wpX_ok ?_⟩) ?_
      · (repeat (with_reducible first | refine zq14 ?_ | refine zq11 ?_ | refine zq10 ?_ | refine zq3 ?_ | refine zq4 ?_ | refine zq5 ?_ | refine zq0 ?_ | refine zq8 ?_ | refine zq6 ?_ | refine zq1 ?_ | refine zq13 ?_ | refine zq12 ?_ | refine zq7 ?_ | refine zq2 ?_ | refine zq9 ?_))
        exact w_eq (ih n l S (hall l hl) (by omega)) ⟨rfl, rfl⟩
      (repeat (first | with_reducible refine zq15 ?_ | (with_reducible first | refine zq14 ?_ | refine zq11 ?_ | refine zq10 ?_ | refine zq3 ?_ | refine zq4 ?_ | refine zq5 ?_ | refine zq0 ?_ | refine zq8 ?_ | refine zq6 ?_ | refine zq1 ?_ | refine zq13 ?_ | refine zq12 ?_ | refine zq7 ?_ | refine zq2 ?_ | refine zq9 ?_)))
      rw [List.map_map]
      exact ⟨rfl, rfl⟩
theorem before_k19_eq {o : Option Int} : g_before_k19 [oI o] S = .ok (oI (o.map (· - 1))) S := by
  refine wpR_ok (w_def rfl ?_)
  unfold m_before_k19
  cases o with
  | none => (repeat (first | with_reducible refine zq15 ?_ | (with_reducible first | refine zq14 ?_ | refine zq11 ?_ | refine zq10 ?_ | refine zq3 ?_ | refine zq4 ?_ | refine zq5 ?_ | refine zq0 ?_ | refine zq8 ?_ | refine zq6 ?_ | refine zq1 ?_ | refine zq13 ?_ | refine zq12 ?_ | refine zq7 ?_ | refine zq2 ?_ | refine zq9 ?_))); exact ⟨rfl, rfl⟩
  | some d => (repeat (first | with_reducible refine zq15 ?_ | (with_reducible first | refine zq14 ?_ | refine zq11 ?_ | refine zq10 ?_ | refine zq3 ?_ | refine zq4 ?_ | refine zq5 ?_ | refine zq0 ?_ | refine zq8 ?_ | refine zq6 ?_ | refine zq1 ?_ | refine zq13 ?_ | refine zq12 ?_ | refine zq7 ?_ | refine zq2 ?_ | refine zq9 ?_))); exact ⟨rfl, rfl⟩
theorem PlotOk.jobs {most : Int} (h : PlotOk most s) (hm0 : 0 ≤ most) (hm : most ≤ 100) : JobsOk s 100 4 := by
  refine ⟨by rcases h.jn with e | e | e <;> rw [e] <;> decide +kernel, by rcases h.jn with e | e | e <;> (have := congrArg List.length e; simp at this; omega), fun j hj => ?_⟩
  have g := h.jg j hj
  obtain ⟨p, hp, e⟩ := List.mem_map.1 g.pt
  refine ⟨g.lim.b.mono (by decide) hm (by decide), by have := g.lim.z; have : szT 2 = 7 := rfl; omega, by decide, by have := g.sl; omega, ⟨p.2, by rw [← e]; exact hp⟩, by decide⟩
end
end WF
namespace WF
open PySem PySem.Spec PyProof.Rows L2 DL
end WF
namespace WF
open PySem PySem.Spec PyProof.Rows L2 DL
end WF
namespace WF
open PySem PySem.Spec PyProof.Rows L2 DL
end WF
namespace WF
open PySem PySem.Spec PyProof.Rows L2 DL PL
section
variable {s : Site} {S S0 : Sto} {b : Int} {j : Job} {Q : Wd → Sto → Prop}
theorem due_near (h : SiteOk s) {hi : Int} {k : Nat} (hj : JobOk s j hi k) {st : Sy} (hp : (j.pt, st) ∈ s.parts) (hb : 0 ≤ b) (hb1 : b ≤ 2000) : ∀ d, dueD (useF s.U st) j b = some d → b ≤ d ∧ d ≤ (if b < 1000 then 1000 else b) + hi := by
  intro d e
  unfold dueD at e
  obtain ⟨d', e1, rfl⟩ := Option.map_eq_some_iff.1 e
  have hu := h.uf hp
  have hs := steady_bd (h.pst _ hp) h.mus
  have h1 := fp_near hu hj.hi0.1 hj.lim.nums e1
  have h2 := fp_gt (hj.lim.mono (by decide) (Int.le_refl _) (Nat.le_refl _)) e1
  simp only at hs h1
  refine ⟨by omega, ?_⟩
  split <;> omega
theorem late_near (h : SiteOk s) {hi : Int} {k : Nat} (hj : JobOk s j hi k) {st : Sy} (hp : (j.pt, st) ∈ s.parts) (hb : 0 ≤ b) (hb1 : b ≤ 2000) : ∀ d, lateD (useF s.U st) j b = some d → b ≤ d ∧ d ≤ 4000 := by
  intro d e
  unfold lateD at e
  obtain ⟨d', e1, rfl⟩ := Option.map_eq_some_iff.1 e
  have hu := h.uf hp
  have hs := steady_bd (h.pst _ hp) h.mus
  have hh := hj.hi0
  have h1 := fp_near hu (by omega : (0 : Int) ≤ hi + 500) hj.lw.nums e1
  have h2 := fp_gt (hj.lw.mono (by decide) (Int.le_refl _) (Nat.le_refl _)) e1
  simp only at hs h1
  omega
theorem early_near (h : SiteOk s) {hi : Int} {k : Nat} (hj : JobOk s j hi k) {st : Sy} (hp : (j.pt, st) ∈ s.parts) (hb : 0 ≤ b) (hb1 : b ≤ 2000) : ∀ d, earlyD (useF s.U st) j b = some d → b ≤ d ∧ d ≤ 4000 := by
  intro d e
  have hl := late_near h hj hp hb hb1
  have hu := h.uf hp
  have hs := steady_bd (h.pst _ hp) h.mus
  have hh := hj.hi0
  have hr : ∀ d, reachD (useF s.U st) j b = some d → b ≤ d ∧ d ≤ 4000 := fun d e => by
    have h1 := fp_near hu (by omega : (0 : Int) ≤ hi) hj.ln.nums e
    simp only at hs h1
    omega
  unfold earlyD at e
  cases h1 : reachD (useF s.U st) j b with
  | none =>
    rw [h1] at e
    cases h2 : lateD (useF s.U st) j b with
    | none => rw [h2] at e; cases e
    | some l => rw [h2] at e; cases e; exact hl _ h2
  | some r =>
    have := hr r h1
    rw [h1] at e
    cases h2 : lateD (useF s.U st) j b with
    | none =>
      rw [h2] at e
      cases e
      split <;> omega
    | some l =>
      have := hl l h2
      rw [h2] at e
      cases e
      split <;> split <;> omega
end
end WF
namespace DL
open PySem PySem.Spec PyProof.Rows L2
def wpY (o : OutG) (N : List Wd → Ev → Sto → Prop) (Rt : List Wd → Sto → Prop) : Prop := match o with
  | .nx ws ρ S => N ws ρ S
  | .rt ws S => Rt ws S
  | _ => False
theorem wpY_mono {o : OutG} {N N' : List Wd → Ev → Sto → Prop} {Rt Rt' : List Wd → Sto → Prop} (h : wpY o N Rt) (n : ∀ ws ρ S, N ws ρ S → N' ws ρ S) (r : ∀ ws S, Rt ws S → Rt' ws S) : wpY o N' Rt' := by
  cases o with
  | nx ws ρ S => exact n ws ρ S h
  | rt ws S => exact r ws S h
  | bk => exact h
  | ct => exact h
  | bad => exact h
section
variable {N : List Wd → Ev → Sto → Prop} {Rt : List Wd → Sto → Prop} {ρ : Ev} {S : Sto} {ws : List Wd}
theorem wy_seq {m m' : Yg} (h : wpY (m ws ρ S) (fun ws' ρ' S' => wpY (m' ws' ρ' S') N Rt) Rt) : wpY (ySeq m m' ws ρ S) N Rt := by
  unfold ySeq
  cases e : m ws ρ S <;> rw [e] at h <;> exact h
theorem wy_nil (h : N ws ρ S) : wpY (yNil ws ρ S) N Rt := h
theorem wy_plain {m : Ms} (h : wpS (m ρ S) (fun ρ' S' => N ws ρ' S') (fun w S' => w = .none ∧ Rt ws S')) : wpY (yPlain m ws ρ S) N Rt := by
  unfold yPlain
  cases e : m ρ S with
  | nx ρ' S' => rw [e] at h; exact h
  | rt w S' =>
    rw [e] at h
    obtain ⟨rfl, h⟩ := h
    exact h
  | bk => rw [e] at h; exact h.elim
  | ct => rw [e] at h; exact h.elim
  | bad => rw [e] at h; exact h.elim
theorem wy_yield {f : Mx} (hl : ws.length < sizeLine) (h : wpE (f ρ S) fun w S' => N (ws ++ [w]) ρ S') : wpY (yYield f ws ρ S) N Rt := by
  unfold yYield
  rw [if_pos hl]
  cases e : f ρ S with
  | ok w S1 => rw [e] at h; exact h
  | bad => rw [e] at h; exact h.elim
theorem wy_wh {t : Mt} {m : Yg} {fuel : Ev → Sto → Nat} (h : wpY (yLoop t m (fuel ρ S) ws ρ S) N Rt) : wpY (yWhile fuel t m ws ρ S) N Rt := h
theorem wy_whS {t : Mt} {m : Yg} {n : Nat} (h : wpE (t ρ S) fun b S1 => if b = true then wpY (m ws ρ S1) (fun ws2 ρ2 S2 => wpY (yLoop t m n ws2 ρ2 S2) N Rt) Rt else N ws ρ S1) : wpY (yLoop t m (n + 1) ws ρ S) N Rt := by
  unfold yLoop
  cases e : t ρ S with
  | bad => rw [e] at h; exact h.elim
  | ok b S1 =>
    rw [e] at h
    simp only [wpE_ok] at h
    cases b with
    | false => exact h
    | true =>
      simp only [if_true] at h ⊢
      cases z : m ws ρ S1 <;> rw [z] at h <;> first | exact h | exact h.elim
theorem wy_def {n p : Nat} {m : Yg} {as : List Wd} {Q : Wd → Sto → Prop} (h : as.length = p) (q : wpY (m [] (startE n as) S) (fun ws _ S' => Q (.list ws) S') (fun ws S' => Q (.list ws) S')) : wpE (runGen n p m as S) Q := by
  unfold runGen
  rw [if_pos h]
  cases e : m [] (startE n as) S <;> rw [e] at q <;> exact q
end
section
variable {ρ : Ev} {S : Sto} {Q : Wd → Sto → Prop}
theorem w_fns3 {vs : List Nat} {f g h : Mx} (q : wpE (f (wipeE ρ vs) S) fun x S1 => wpE (g (wipeE ρ vs) S1) fun y S2 => wpE (h (wipeE ρ vs) S2) fun z S3 => Q (.list [x, y, z]) S3) : wpE (mFns vs [f, g, h] ρ S) Q := by
  unfold mFns
  rw [if_pos (by have := siz; simp; omega)]
  simp only [fnLoop, wpE_bnd, wpE_ok]
  refine wpE_mono q fun x S1 q => ?_
  rw [if_pos (by have := siz; simp; omega)]
  simp only [wpE_bnd]
  refine wpE_mono q fun y S2 q => ?_
  rw [if_pos (by have := siz; simp; omega)]
  simp only [wpE_bnd]
  refine wpE_mono q fun z S3 q => ?_
  rw [if_pos (by have := siz; simp; omega)]
  exact q
end
theorem tupAdd {a b : List Wd} (h : a.length + b.length ≤ 1000) : gAdd (.tuple a) (.tuple b) = some (.tuple (a ++ b)) := by
  have := siz
  exact if_pos (by omega)
theorem cutTo {xs : List Wd} {k : Nat} (h : k ≤ xs.length) : cutD xs none (some (k : Int)) = xs.take k := by
  have e1 : HT.sIx xs.length xs.length (some (k : Int)) = k := by
    show (if (k : Int) < 0 then ((k : Int) + (xs.length : Int)).toNat else min (k : Int).toNat xs.length) = _
    rw [if_neg (by omega), Int.toNat_natCast]
    omega
  unfold cutD
  rw [show HT.sIx xs.length 0 none = 0 from rfl, e1, List.drop_zero, Nat.sub_zero]
theorem cutFrom {xs : List Wd} {k : Nat} (h : k ≤ xs.length) : cutD xs (some (k : Int)) none = xs.drop k := by
  have e0 : HT.sIx xs.length 0 (some (k : Int)) = k := by
    show (if (k : Int) < 0 then ((k : Int) + (xs.length : Int)).toNat else min (k : Int).toNat xs.length) = _
    rw [if_neg (by omega), Int.toNat_natCast]
    omega
  unfold cutD
  rw [e0, show HT.sIx xs.length xs.length none = xs.length from rfl]
  exact List.take_of_length_le (by rw [List.length_drop]; exact Nat.le_refl _)
theorem ixTo {S : Sto} {xs : List Wd} {i : Nat} {x : Wd} (h : xs[i]? = some x) : gIx S (.tuple xs) (.int i) = some x := by
  obtain ⟨hi, rfl⟩ := List.getElem?_eq_some_iff.1 h
  show atI xs i = _
  rw [atI_in (by omega) (by omega)]
  rfl
theorem ixTl {S : Sto} {xs : List Wd} {i : Nat} {x : Wd} (h : xs[i]? = some x) : gIx S (.list xs) (.int i) = some x := ixTo (S := S) h
theorem w_lc0 {S : Sto} {g : Mg} {t : Mt} {fe : Mx} {ρ : Ev} {acc : List Wd} {Q : List Wd → Sto → Prop} (h : Q acc S) : wpE (lcLoop g t fe ρ [] acc S) Q := h
theorem w_lc1 {S : Sto} {g : Mg} {t : Mt} {fe : Mx} {ρ ρ1 : Ev} {w : Wd} {r acc : List Wd} {Q : List Wd → Sto → Prop} (e : g w ρ = some ρ1) (h : wpE (t ρ1 S) fun b S1 => if b = true then wpE (fe ρ1 S1) fun y S2 => acc.length < sizeLine ∧ wpE (lcLoop g t fe ρ r (acc ++ [y]) S2) Q else wpE (lcLoop g t fe ρ r acc S1) Q) : wpE (lcLoop g t fe ρ (w :: r) acc S) Q := by
  unfold lcLoop
  rw [e]
  simp only [wpE_bnd]
  refine wpE_mono h fun b S1 h1 => ?_
  cases b with
  | false => exact h1
  | true =>
    simp only [if_true, wpE_bnd] at h1 ⊢
    refine wpE_mono h1 fun y S2 h2 => ?_
    rw [if_pos h2.1]
    exact h2.2
end DL
namespace PL
open PySem PySem.Spec PyProof.Rows L2 DL
noncomputable section
def wbs (u : Uf) (j : Job) (t : Int) : Nat → Int → List Int
  | 0, _ => []
  | n + 1, b => b :: (match dueD u j b with
    | some d => if b < d ∧ d ≤ t then wbs u j t n d else []
    | none => [])
def encLine (u : Uf) (j : Job) (b : Int) : Wd := .tuple [.int b, oI (earlyD u j b), oI (lateD u j b), oI (dueD u j b)]
end
section
variable {u : Uf} {j : Job} {t : Int}
theorem wbs_some {n : Nat} {b d : Int} (ed : dueD u j b = some d) : wbs u j t (n + 1) b = b :: (if b < d ∧ d ≤ t then wbs u j t n d else []) := by
  show b :: (match dueD u j b with
    | some d => if b < d ∧ d ≤ t then wbs u j t n d else []
    | none => []) = _
  rw [ed]
theorem wbs_none {n : Nat} {b : Int} (ed : dueD u j b = none) : wbs u j t (n + 1) b = [b] := by
  show b :: (match dueD u j b with
    | some d => if b < d ∧ d ≤ t then wbs u j t n d else []
    | none => []) = _
  rw [ed]
theorem wbs_bd : ∀ (n : Nat) (b : Int), b ≤ t → ∀ x ∈ wbs u j t n b, b ≤ x ∧ x ≤ t
  | 0, _, _, x, h => by cases h
  | n + 1, b, hb, x, h => by
    unfold wbs at h
    rcases List.mem_cons.1 h with rfl | h
    · omega
    · cases e : dueD u j b with
      | none => rw [e] at h; cases h
      | some d =>
        rw [e] at h
        simp only at h
        split at h
        · rename_i c
          have := wbs_bd n d c.2 x h
          omega
        · cases h
theorem wbs_at : ∀ (n : Nat) (b : Int) (k : Nat) (x : Int), (wbs u j t n b)[k]? = some x → (k = 0 → x = b) ∧ ∀ k', k = k' + 1 → ∃ y, (wbs u j t n b)[k']? = some y ∧ dueD u j y = some x
  | 0, _, k, x, h => by simp [wbs] at h
  | n + 1, b, 0, x, h => by
    unfold wbs at h
    simp only [List.getElem?_cons_zero, Option.some.injEq] at h
    exact ⟨fun _ => h.symm, fun k' e => by omega⟩
  | n + 1, b, k + 1, x, h => by
    unfold wbs at h
    simp only [List.getElem?_cons_succ] at h
    refine ⟨fun e => by omega, fun k' e => ?_⟩
    obtain rfl : k' = k := by omega
    cases ed : dueD u j b with
    | none => rw [ed] at h; simp at h
    | some d =>
      rw [ed] at h
      simp only at h
      split at h
      · rename_i c
        have q := wbs_at n d k' x h
        cases k' with
        | zero =>
          obtain rfl := q.1 rfl
          refine ⟨b, ?_, ed⟩
          unfold wbs
          rfl
        | succ k' =>
          obtain ⟨y, hy, e2⟩ := q.2 k' rfl
          refine ⟨y, ?_, e2⟩
          unfold wbs
          rw [ed]
          simp only [List.getElem?_cons_succ]
          rw [if_pos c]
          exact hy
      · simp at h
theorem lookup_mapS {α : Type} {f : α → α} (x : Str) : ∀ l : List (Str × α), (l.map fun m => (m.1, f m.2)).lookup x = (l.lookup x).map f
  | [] => rfl
  | (y, v) :: l => by
    simp only [List.map_cons, List.lookup_cons]
    cases x == y with
    | true => rfl
    | false => exact lookup_mapS x l
end
def moreU (us : Us) : Us := us.map fun u => (u.1 + 1, u.2 + 2)
def busy (s : Site) : Site := ⟨s.mc.map fun m => (m.1, moreU m.2), s.parts, s.jobs⟩
theorem busy_U {s : Site} {x : Str} : (busy s).U x = moreU (s.U x) := by
  unfold Site.U busy
  rw [lookup_mapS]
  cases s.mc.lookup x <;> rfl
theorem moreU_at {us : Us} {d : Int} : (usAt us d).1 ≤ (usAt (moreU us) d).1 ∧ (usAt us d).2 ≤ (usAt (moreU us) d).2 := by
  unfold usAt moreU
  rw [List.length_map]
  simp only [List.getD_eq_getElem?_getD, List.getElem?_map]
  cases us[(if (us.length : Int) - 1 < d then (us.length : Int) - 1 else d).toNat]? with
  | none => exact ⟨Int.le_refl _, Int.le_refl _⟩
  | some u =>
    simp only [Option.map_some, Option.getD_some]
    omega
theorem busy_use {s : Site} {st : Sy} : UseLe (useF s.U st) (useF (busy s).U st) := by
  intro d w
  have h : (useD s.U st d).1 ≤ (useD (busy s).U st d).1 ∧ (useD s.U st d).2 ≤ (useD (busy s).U st d).2 := by
    unfold useD
    cases plc st d with
    | none => exact ⟨Int.le_refl _, Int.le_refl _⟩
    | some x =>
      simp only [busy_U]
      exact moreU_at
  cases w with
  | hours => exact h.1
  | cycles => exact h.2
  | days => exact Int.le_refl _
def setSl (s : Site) (i : Nat) (j : Job) (a : Int × Int × Int) : Site := ⟨s.mc, s.parts, s.jobs.take i ++ [{ j with sl := a }] ++ s.jobs.drop (i + 1)⟩
theorem take_set {α : Type} {l : List α} {i : Nat} {x y : α} (h : l[i]? = some x) : l.take i ++ [y] ++ l.drop (i + 1) = l.set i y := by
  obtain ⟨hi, rfl⟩ := List.getElem?_eq_some_iff.1 h
  rw [List.set_eq_take_append_cons_drop, if_pos hi, List.append_assoc]
  rfl
end PL
namespace WF
open PySem PySem.Spec PyProof.Rows L2 DL PL
section
variable {s : Site} {S S0 : Sto} {b hi : Int} {k : Nat} {j : Job} {st : Sy} {Q : Wd → Sto → Prop}
theorem most28_eq {o : Option Int} : g_most_k27 [oI o] S = .ok (.int (topO o)) S := by
  refine wpR_ok (w_def rfl ?_)
  unfold m_most_k27
  cases o with
  | none => (repeat (first | with_reducible refine zq15 ?_ | (with_reducible first | refine zq14 ?_ | refine zq11 ?_ | refine zq10 ?_ | refine zq3 ?_ | refine zq4 ?_ | refine zq5 ?_ | refine zq0 ?_ | refine zq8 ?_ | refine zq6 ?_ | refine zq1 ?_ | refine zq13 ?_ | refine zq12 ?_ | refine zq7 ?_ | refine zq2 ?_ | refine zq9 ?_))); exact ⟨rfl, rfl⟩
  | some d => (repeat (first | with_reducible refine zq15 ?_ | (with_reducible first | refine zq14 ?_ | refine zq11 ?_ | refine zq10 ?_ | refine zq3 ?_ | refine zq4 ?_ | refine zq5 ?_ | refine zq0 ?_ | refine zq8 ?_ | refine zq6 ?_ | refine zq1 ?_ | refine zq13 ?_ | refine zq12 ?_ | refine zq7 ?_ | refine zq2 ?_ | refine zq9 ?_))); exact ⟨rfl, rfl⟩
noncomputable def thrW (u : Uf) (j : Job) (b : Int) : Wd := .list [.int (topO (earlyD u j b)), .int (topO (dueD u j b)), .int (topO (lateD u j b))]
theorem three_k28_eq (h : SiteOk s) (hs : JobsOk s hi k) (hj : j ∈ s.jobs) (hp : (j.pt, st) ∈ s.parts) (hb : 0 ≤ b) (hb1 : b ≤ 2000) : g_three_k28 [encSite s, .str j.nm, .int b] S = .ok (thrW (useF s.U st) j b) S := by
  refine wpR_ok (w_def rfl ?_)
  unfold m_three_k28
  (repeat (first | with_reducible refine zq15 ?_ | (with_reducible first | refine zq14 ?_ | refine zq11 ?_ | refine zq10 ?_ | refine zq3 ?_ | refine zq4 ?_ | refine zq5 ?_ | refine zq0 ?_ | refine zq8 ?_ | refine zq6 ?_ | refine zq1 ?_ | refine zq13 ?_ | refine zq12 ?_ | refine zq7 ?_ | refine zq2 ?_ | refine zq9 ?_)))
  refine w_fns3 ?_
  (repeat (first | with_reducible refine zq15 ?_ | (with_reducible first | refine zq14 ?_ | refine zq11 ?_ | refine zq10 ?_ | refine zq3 ?_ | refine zq4 ?_ | refine zq5 ?_ | refine zq0 ?_ | refine zq8 ?_ | refine zq6 ?_ | refine zq1 ?_ | refine zq13 ?_ | refine zq12 ?_ | refine zq7 ?_ | refine zq2 ?_ | refine zq9 ?_)))
  refine w_eq (early_day_eq h hs hj hp hb hb1) ?_
  (repeat (first | with_reducible refine zq15 ?_ | (with_reducible first | refine zq14 ?_ | refine zq11 ?_ | refine zq10 ?_ | refine zq3 ?_ | refine zq4 ?_ | refine zq5 ?_ | refine zq0 ?_ | refine zq8 ?_ | refine zq6 ?_ | refine zq1 ?_ | refine zq13 ?_ | refine zq12 ?_ | refine zq7 ?_ | refine zq2 ?_ | refine zq9 ?_)))
  refine w_eq most28_eq ?_
  (repeat (first | with_reducible refine zq15 ?_ | (with_reducible first | refine zq14 ?_ | refine zq11 ?_ | refine zq10 ?_ | refine zq3 ?_ | refine zq4 ?_ | refine zq5 ?_ | refine zq0 ?_ | refine zq8 ?_ | refine zq6 ?_ | refine zq1 ?_ | refine zq13 ?_ | refine zq12 ?_ | refine zq7 ?_ | refine zq2 ?_ | refine zq9 ?_)))
  refine w_eq (due_day_eq h hs hj hp hb hb1) ?_
  (repeat (first | with_reducible refine zq15 ?_ | (with_reducible first | refine zq14 ?_ | refine zq11 ?_ | refine zq10 ?_ | refine zq3 ?_ | refine zq4 ?_ | refine zq5 ?_ | refine zq0 ?_ | refine zq8 ?_ | refine zq6 ?_ | refine zq1 ?_ | refine zq13 ?_ | refine zq12 ?_ | refine zq7 ?_ | refine zq2 ?_ | refine zq9 ?_)))
  refine w_eq most28_eq ?_
  (repeat (first | with_reducible refine zq15 ?_ | (with_reducible first | refine zq14 ?_ | refine zq11 ?_ | refine zq10 ?_ | refine zq3 ?_ | refine zq4 ?_ | refine zq5 ?_ | refine zq0 ?_ | refine zq8 ?_ | refine zq6 ?_ | refine zq1 ?_ | refine zq13 ?_ | refine zq12 ?_ | refine zq7 ?_ | refine zq2 ?_ | refine zq9 ?_)))
  refine w_eq (late_day_eq h hs hj hp hb hb1) ?_
  (repeat (first | with_reducible refine zq15 ?_ | (with_reducible first | refine zq14 ?_ | refine zq11 ?_ | refine zq10 ?_ | refine zq3 ?_ | refine zq4 ?_ | refine zq5 ?_ | refine zq0 ?_ | refine zq8 ?_ | refine zq6 ?_ | refine zq1 ?_ | refine zq13 ?_ | refine zq12 ?_ | refine zq7 ?_ | refine zq2 ?_ | refine zq9 ?_)))
  exact w_eq most28_eq ⟨rfl, rfl⟩
theorem windows_of_eq (h : SiteOk s) (hs : JobsOk s hi k) (hj : j ∈ s.jobs) (hp : (j.pt, st) ∈ s.parts) {t : Int} (ht0 : 0 ≤ t) (ht : t ≤ 500) : g_windows_of [encSite s, .str j.nm, .int t] S = .ok (.list ((wbs (useF s.U st) j t (t.toNat + 1) 0).map (encLine (useF s.U st) j))) S := by
  have hJ := hs.ok j hj
  have hz := siz
  refine wpR_ok (wy_def rfl ?_)
  unfold m_windows_of
  refine wy_seq (wy_plain ?_)
  (repeat (first | with_reducible refine zq15 ?_ | (with_reducible first | refine zq14 ?_ | refine zq11 ?_ | refine zq10 ?_ | refine zq3 ?_ | refine zq4 ?_ | refine zq5 ?_ | refine zq0 ?_ | refine zq8 ?_ | refine zq6 ?_ | refine zq1 ?_ | refine zq13 ?_ | refine zq12 ?_ | refine zq7 ?_ | refine zq2 ?_ | refine zq9 ?_)))
  refine w_eq (task_named_eq hs.nd hs.ln hj) ?_
  refine wy_seq (wy_plain ?_)
  (repeat (first | with_reducible refine zq15 ?_ | (with_reducible first | refine zq14 ?_ | refine zq11 ?_ | refine zq10 ?_ | refine zq3 ?_ | refine zq4 ?_ | refine zq5 ?_ | refine zq0 ?_ | refine zq8 ?_ | refine zq6 ?_ | refine zq1 ?_ | refine zq13 ?_ | refine zq12 ?_ | refine zq7 ?_ | refine zq2 ?_ | refine zq9 ?_)))
  refine w_eq (is_number_eq ht0) ?_
  (repeat (first | with_reducible refine zq15 ?_ | (with_reducible first | refine zq14 ?_ | refine zq11 ?_ | refine zq10 ?_ | refine zq3 ?_ | refine zq4 ?_ | refine zq5 ?_ | refine zq0 ?_ | refine zq8 ?_ | refine zq6 ?_ | refine zq1 ?_ | refine zq13 ?_ | refine zq12 ?_ | refine zq7 ?_ | refine zq2 ?_ | refine zq9 ?_)))
  refine w_eq require_eq ?_
  refine wy_seq (wy_plain ?_)
  (repeat (first | with_reducible refine zq15 ?_ | (with_reducible first | refine zq14 ?_ | refine zq11 ?_ | refine zq10 ?_ | refine zq3 ?_ | refine zq4 ?_ | refine zq5 ?_ | refine zq0 ?_ | refine zq8 ?_ | refine zq6 ?_ | refine zq1 ?_ | refine zq13 ?_ | refine zq12 ?_ | refine zq7 ?_ | refine zq2 ?_ | refine zq9 ?_)))
  refine wy_seq (wy_wh ?_)
  have go : ∀ (n m : Nat) (b : Int) (ws : List Wd) (x5 : Option Sl), 0 ≤ b → b ≤ t → (t - b).toNat < n → (t - b).toNat + 1 < m → ws.length + (t - b).toNat + 1 ≤ 501 →
      wpY (yLoop (mAndT (mTru (mBin gNotN (mV 4) (mC .none))) (mTru (mBin gLe (mV 4) (mV 2)))) (ySeq (yPlain (sSet 5 (mCall WF.g_task_due (aCons (mV 0) (aCons (mV 3) (aCons (mV 4) aNil)))))) (ySeq (yYield (mTup (aCons (mV 4) (aCons (mCall WF.g_task_early (aCons (mV 0) (aCons (mV 3) (aCons (mV 4) aNil)))) (aCons (mCall WF.g_task_late (aCons (mV 0) (aCons (mV 3) (aCons (mV 4) aNil)))) (aCons (mV 5) aNil)))))) (ySeq (yPlain (sSet 4 (mIf (mAndT (mTru (mBin gNotN (mV 5) (mC .none))) (mTru (mBin gGt (mV 5) (mV 4)))) (mV 5) (mC .none)))) yNil))) m
        ws [some (.val (encSite s)), some (.val (.str j.nm)), some (.val (.int t)), some (.val (encJ j)), some (.val (.int b)), x5] S)
        (fun ws' _ S' => ws' = ws ++ (wbs (useF s.U st) j t n b).map (encLine (useF s.U st) j) ∧ S' = S) (fun _ _ => False) := by
    intro n
    induction n with
    | zero => intro m b ws x5 h0 h1 h2; omega
    | succ n ih =>
      intro m b ws x5 hb0 hb1 h2 h3 h4
      obtain ⟨m, rfl⟩ : ∃ m', m = m' + 1 := ⟨m - 1, by omega⟩
      have e1 : ∀ S, g_task_due [encSite s, encJ j, .int b] S = .ok (oI (dueD (useF s.U st) j b)) S := fun S => task_due_eq h hJ hp hb0 (by omega)
      have e2 : ∀ S, g_task_early [encSite s, encJ j, .int b] S = .ok (oI (earlyD (useF s.U st) j b)) S := fun S => task_early_eq h hJ hp hb0 (by omega)
      have e3 : ∀ S, g_task_late [encSite s, encJ j, .int b] S = .ok (oI (lateD (useF s.U st) j b)) S := fun S => task_late_eq h hJ hp hb0 (by omega)
      refine wy_whS ?_
      (repeat (first | with_reducible refine zq15 ?_ | (with_reducible first | refine zq14 ?_ | refine zq11 ?_ | refine zq10 ?_ | refine zq3 ?_ | refine zq4 ?_ | refine zq5 ?_ | refine zq0 ?_ | refine zq8 ?_ | refine zq6 ?_ | refine zq1 ?_ | refine zq13 ?_ | refine zq12 ?_ | refine zq7 ?_ | refine zq2 ?_ | refine zq9 ?_)))
      refine w_bt (by rw [decide_eq_true_eq]; omega) ?_
      refine wy_seq (wy_plain ?_)
      (repeat (first | with_reducible refine zq15 ?_ | (with_reducible first | refine zq14 ?_ | refine zq11 ?_ | refine zq10 ?_ | refine zq3 ?_ | refine zq4 ?_ | refine zq5 ?_ | refine zq0 ?_ | refine zq8 ?_ | refine zq6 ?_ | refine zq1 ?_ | refine zq13 ?_ | refine zq12 ?_ | refine zq7 ?_ | refine zq2 ?_ | refine zq9 ?_)))
      refine w_eq (e1 S) ?_
      refine wy_seq (wy_yield (by omega) ?_)
      (repeat (first | with_reducible refine zq15 ?_ | (with_reducible first | refine zq14 ?_ | refine zq11 ?_ | refine zq10 ?_ | refine zq3 ?_ | refine zq4 ?_ | refine zq5 ?_ | refine zq0 ?_ | refine zq8 ?_ | refine zq6 ?_ | refine zq1 ?_ | refine zq13 ?_ | refine zq12 ?_ | refine zq7 ?_ | refine zq2 ?_ | refine zq9 ?_)))
      refine w_eq (e2 S) ?_
      (repeat (first | with_reducible refine zq15 ?_ | (with_reducible first | refine zq14 ?_ | refine zq11 ?_ | refine zq10 ?_ | refine zq3 ?_ | refine zq4 ?_ | refine zq5 ?_ | refine zq0 ?_ | refine zq8 ?_ | refine zq6 ?_ | refine zq1 ?_ | refine zq13 ?_ | refine zq12 ?_ | refine zq7 ?_ | refine zq2 ?_ | refine zq9 ?_)))
      refine w_eq (e3 S) ?_
      (repeat (first | with_reducible refine zq15 ?_ | (with_reducible first | refine zq14 ?_ | refine zq11 ?_ | refine zq10 ?_ | refine zq3 ?_ | refine zq4 ?_ | refine zq5 ?_ | refine zq0 ?_ | refine zq8 ?_ | refine zq6 ?_ | refine zq1 ?_ | refine zq13 ?_ | refine zq12 ?_ | refine zq7 ?_ | refine zq2 ?_ | refine zq9 ?_)))
      refine wy_seq (wy_plain ?_)
      cases ed : dueD (useF s.U st) j b with
      | none =>
        (repeat (first | with_reducible refine zq15 ?_ | (with_reducible first | refine zq14 ?_ | refine zq11 ?_ | refine zq10 ?_ | refine zq3 ?_ | refine zq4 ?_ | refine zq5 ?_ | refine zq0 ?_ | refine zq8 ?_ | refine zq6 ?_ | refine zq1 ?_ | refine zq13 ?_ | refine zq12 ?_ | refine zq7 ?_ | refine zq2 ?_ | refine zq9 ?_)))
        refine wy_nil ?_
        obtain ⟨m, rfl⟩ : ∃ m', m = m' + 1 := ⟨m - 1, by omega⟩
        refine wy_whS ?_
        (repeat (first | with_reducible refine zq15 ?_ | (with_reducible first | refine zq14 ?_ | refine zq11 ?_ | refine zq10 ?_ | refine zq3 ?_ | refine zq4 ?_ | refine zq5 ?_ | refine zq0 ?_ | refine zq8 ?_ | refine zq6 ?_ | refine zq1 ?_ | refine zq13 ?_ | refine zq12 ?_ | refine zq7 ?_ | refine zq2 ?_ | refine zq9 ?_)))
        refine ⟨?_, rfl⟩
        rw [wbs_none ed]
        simp only [List.map_cons, List.map_nil, encLine, ed]
      | some d =>
        have hd := due_ge hJ ed
        (repeat (first | with_reducible refine zq15 ?_ | (with_reducible first | refine zq14 ?_ | refine zq11 ?_ | refine zq10 ?_ | refine zq3 ?_ | refine zq4 ?_ | refine zq5 ?_ | refine zq0 ?_ | refine zq8 ?_ | refine zq6 ?_ | refine zq1 ?_ | refine zq13 ?_ | refine zq12 ?_ | refine zq7 ?_ | refine zq2 ?_ | refine zq9 ?_)))
        refine w_b (fun c => ?_) (fun c => ?_)
        · rw [decide_eq_true_eq] at c
          (repeat (first | with_reducible refine zq15 ?_ | (with_reducible first | refine zq14 ?_ | refine zq11 ?_ | refine zq10 ?_ | refine zq3 ?_ | refine zq4 ?_ | refine zq5 ?_ | refine zq0 ?_ | refine zq8 ?_ | refine zq6 ?_ | refine zq1 ?_ | refine zq13 ?_ | refine zq12 ?_ | refine zq7 ?_ | refine zq2 ?_ | refine zq9 ?_)))
          refine wy_nil ?_
          by_cases hdt : d ≤ t
          · refine wpY_mono (ih m d _ _ (by omega) hdt (by omega) (by omega) (by simp; omega)) (fun ws' ρ' S' (q : _ ∧ _) => ?_) (fun _ _ q => q)
            obtain ⟨rfl, rfl⟩ := q
            refine ⟨?_, rfl⟩
            rw [wbs_some ed, if_pos ⟨c, hdt⟩]
            simp only [List.map_cons, List.append_assoc, List.cons_append, List.nil_append, encLine, ed]
          · obtain ⟨m, rfl⟩ : ∃ m', m = m' + 1 := ⟨m - 1, by omega⟩
            refine wy_whS ?_
            (repeat (first | with_reducible refine zq15 ?_ | (with_reducible first | refine zq14 ?_ | refine zq11 ?_ | refine zq10 ?_ | refine zq3 ?_ | refine zq4 ?_ | refine zq5 ?_ | refine zq0 ?_ | refine zq8 ?_ | refine zq6 ?_ | refine zq1 ?_ | refine zq13 ?_ | refine zq12 ?_ | refine zq7 ?_ | refine zq2 ?_ | refine zq9 ?_)))
            refine w_bf (by rw [decide_eq_false_iff_not]; omega) ?_
            refine ⟨?_, rfl⟩
            rw [wbs_some ed, if_neg (by omega)]
            simp only [List.map_cons, List.map_nil, encLine, ed]
        · rw [decide_eq_false_iff_not] at c
          (repeat (first | with_reducible refine zq15 ?_ | (with_reducible first | refine zq14 ?_ | refine zq11 ?_ | refine zq10 ?_ | refine zq3 ?_ | refine zq4 ?_ | refine zq5 ?_ | refine zq0 ?_ | refine zq8 ?_ | refine zq6 ?_ | refine zq1 ?_ | refine zq13 ?_ | refine zq12 ?_ | refine zq7 ?_ | refine zq2 ?_ | refine zq9 ?_)))
          refine wy_nil ?_
          obtain ⟨m, rfl⟩ : ∃ m', m = m' + 1 := ⟨m - 1, by omega⟩
          refine wy_whS ?_
          (repeat (first | with_reducible refine zq15 ?_ | (with_reducible first | refine zq14 ?_ | refine zq11 ?_ | refine zq10 ?_ | refine zq3 ?_ | refine zq4 ?_ | refine zq5 ?_ | refine zq0 ?_ | refine zq8 ?_ | refine zq6 ?_ | refine zq1 ?_ | refine zq13 ?_ | refine zq12 ?_ | refine zq7 ?_ | refine zq2 ?_ | refine zq9 ?_)))
          refine ⟨?_, rfl⟩
          rw [wbs_some ed, if_neg (by omega)]
          simp only [List.map_cons, List.map_nil, encLine, ed]
  refine wpY_mono (go (t.toNat + 1) 1000 0 [] _ (by decide) ht0 (by omega) (by omega) (by simp; omega)) (fun ws' ρ' S' q => ?_) (fun _ _ q => q.elim)
  obtain ⟨rfl, rfl⟩ := q
  exact wy_nil ⟨rfl, rfl⟩
structure Near (u : Uf) (j : Job) (b : Int) : Prop where
  e : ∀ d, earlyD u j b = some d → b ≤ d ∧ d ≤ 5000
  l : ∀ d, lateD u j b = some d → b ≤ d ∧ d ≤ 5000
  d : ∀ d, dueD u j b = some d → b ≤ d ∧ d ≤ 5000
theorem near_of (h : SiteOk s) (hj : JobOk s j hi k) (hp : (j.pt, st) ∈ s.parts) (hb : 0 ≤ b) (hb1 : b ≤ 2000) : Near (useF s.U st) j b := by
  refine ⟨fun d e => ?_, fun d e => ?_, fun d e => ?_⟩
  · have := early_near h hj hp hb hb1 d e
    omega
  · have := late_near h hj hp hb hb1 d e
    omega
  · have := due_near h hj hp hb hb1 d e
    have := hj.hi0
    split at * <;> omega
theorem Near.top {u : Uf} (h : Near u j b) (hb1 : b ≤ 2000) : (b ≤ topO (earlyD u j b) ∧ topO (earlyD u j b) ≤ 1000000000) ∧ (b ≤ topO (lateD u j b) ∧ topO (lateD u j b) ≤ 1000000000) ∧ b ≤ topO (dueD u j b) ∧ topO (dueD u j b) ≤ 1000000000 := by
  have he := h.e
  have hl := h.l
  have hd := h.d
  refine ⟨?_, ?_, ?_⟩
  · cases e : earlyD u j b with
    | none => show b ≤ 1000000000 ∧ (1000000000 : Int) ≤ 1000000000; omega
    | some d => have := he d e; show b ≤ d ∧ d ≤ 1000000000; omega
  · cases e : lateD u j b with
    | none => show b ≤ 1000000000 ∧ (1000000000 : Int) ≤ 1000000000; omega
    | some d => have := hl d e; show b ≤ d ∧ d ≤ 1000000000; omega
  · cases e : dueD u j b with
    | none => show b ≤ 1000000000 ∧ (1000000000 : Int) ≤ 1000000000; omega
    | some d => have := hd d e; show b ≤ d ∧ d ≤ 1000000000; omega
theorem due_late_le {u : Uf} (hj : JobOk s j hi k) : leO (dueD u j b) (lateD u j b) := leO_pred (fp_weaker (shift_weaker (fun w => by have := hj.sl; cases w <;> simp only [tri] <;> omega) j.lim))
theorem early_late_top {u : Uf} (h : Near u j b) (hb1 : b ≤ 2000) : topO (earlyD u j b) ≤ topO (lateD u j b) := by
  have ht := h.top hb1
  cases el : lateD u j b with
  | none => exact ht.1.2
  | some l =>
    cases ee : earlyD u j b with
    | none =>
      exfalso
      unfold earlyD at ee
      rw [el] at ee
      cases hr : reachD u j b <;> rw [hr] at ee <;> cases ee
    | some e =>
      exact early_le ee el
theorem lim_okJ (hj : JobOk s j hi k) : LimOk hi k j.lim := ⟨hj.lim, by have := hj.z; omega, by have := hj.k8; omega⟩
theorem ends_right_eq (h : SiteOk s) (hs : JobsOk s hi k) (hw : WyOk j) (hj : j ∈ s.jobs) (hp : (j.pt, st) ∈ s.parts) (hb : 0 ≤ b) (hb1 : b ≤ 2000) : g_ends_right_k28 [encSite s, encJ j, .int b] S = .ok (.bool true) S := by
  have hJ := hs.ok j hj
  have hN := near_of h hJ hp hb hb1
  have hT := hN.top hb1
  have hEL := early_late_top hN hb1
  have hDL : topO (dueD (useF s.U st) j b) ≤ topO (lateD (useF s.U st) j b) := topO_le (due_late_le hJ) fun d e => by have := hN.d d e; omega
  have hk := hJ.k8
  have hlw : LimOk (hi + 500) k (shiftL (tri j.sl) j.lim) := ⟨hJ.lw, by rw [szL_shift]; have := hJ.z; omega, by omega⟩
  have e0 : ∀ S, g_three_k28 [encSite s, .str j.nm, .int b] S = .ok (thrW (useF s.U st) j b) S := fun S => three_k28_eq h hs hj hp hb hb1
  have e1 : ∀ S, g_passing_day [encSite s, .str j.pt, encL j.lim, .int b] S = .ok (oI (fp (useF s.U st) j.lim b)) S := fun S => passing_day_eq (p := (j.pt, st)) h hp hb hb1 (lim_okJ hJ) (by omega)
  have e2 : ∀ S, g_passing_day [encSite s, .str j.pt, encL (shiftL (tri j.sl) j.lim), .int b] S = .ok (oI (fp (useF s.U st) (shiftL (tri j.sl) j.lim) b)) S := fun S => passing_day_eq (p := (j.pt, st)) h hp hb hb1 hlw (by omega)
  have e3 : ∀ S, g_window_of [encSite s, .str j.nm, .int b] S = .ok (encWin (windD (useF s.U st) j b)) S := fun S => window_of_eq h hs hw hj hp hb hb1
  have e4 : (fp (useF s.U st) j.lim b).map (· - 1) = dueD (useF s.U st) j b := rfl
  have e5 : (fp (useF s.U st) (shiftL (tri j.sl) j.lim) b).map (· - 1) = lateD (useF s.U st) j b := rfl
  have hw1 : windD (useF s.U st) j b = if j.wy = ("kept" : Str) ∧ (dueD (useF s.U st) j b).isSome = true ∧ lateOk (lateD (useF s.U st) j b) b = true then (earlyD (useF s.U st) j b).map fun e => (e, lateD (useF s.U st) j b) else none := rfl
  have hrs : ∀ due, dueD (useF s.U st) j b = some due → ∃ e, earlyD (useF s.U st) j b = some e := fun due e => reach_some h hJ hp e
  unfold thrW at e0
  generalize encSite s = w1 at *
  generalize useF s.U st = u at *
  refine wpR_ok (w_def rfl ?_)
  unfold m_ends_right_k28
  refine zq15 ?_
  (repeat (with_reducible first | refine zq14 ?_ | refine zq11 ?_ | refine zq10 ?_ | refine zq3 ?_ | refine zq4 ?_ | refine zq5 ?_ | refine zq0 ?_ | refine zq8 ?_ | refine zq6 ?_ | refine zq1 ?_ | refine zq13 ?_ | refine zq12 ?_ | refine zq7 ?_ | refine zq2 ?_ | refine zq9 ?_))
  refine w_eq (e0 S) ?_
  (repeat (with_reducible first | refine zq14 ?_ | refine zq11 ?_ | refine zq10 ?_ | refine zq3 ?_ | refine zq4 ?_ | refine zq5 ?_ | refine zq0 ?_ | refine zq8 ?_ | refine zq6 ?_ | refine zq1 ?_ | refine zq13 ?_ | refine zq12 ?_ | refine zq7 ?_ | refine zq2 ?_ | refine zq9 ?_))
  refine zq15 ?_
  (repeat (with_reducible first | refine zq14 ?_ | refine zq11 ?_ | refine zq10 ?_ | refine zq3 ?_ | refine zq4 ?_ | refine zq5 ?_ | refine zq0 ?_ | refine zq8 ?_ | refine zq6 ?_ | refine zq1 ?_ | refine zq13 ?_ | refine zq12 ?_ | refine zq7 ?_ | refine zq2 ?_ | refine zq9 ?_))
  refine w_eq (e1 S) ?_
  (repeat (with_reducible first | refine zq14 ?_ | refine zq11 ?_ | refine zq10 ?_ | refine zq3 ?_ | refine zq4 ?_ | refine zq5 ?_ | refine zq0 ?_ | refine zq8 ?_ | refine zq6 ?_ | refine zq1 ?_ | refine zq13 ?_ | refine zq12 ?_ | refine zq7 ?_ | refine zq2 ?_ | refine zq9 ?_))
  refine w_eq before_k19_eq ?_
  rw [e4]
  (repeat (with_reducible first | refine zq14 ?_ | refine zq11 ?_ | refine zq10 ?_ | refine zq3 ?_ | refine zq4 ?_ | refine zq5 ?_ | refine zq0 ?_ | refine zq8 ?_ | refine zq6 ?_ | refine zq1 ?_ | refine zq13 ?_ | refine zq12 ?_ | refine zq7 ?_ | refine zq2 ?_ | refine zq9 ?_))
  refine w_eq most28_eq ?_
  (repeat (with_reducible first | refine zq14 ?_ | refine zq11 ?_ | refine zq10 ?_ | refine zq3 ?_ | refine zq4 ?_ | refine zq5 ?_ | refine zq0 ?_ | refine zq8 ?_ | refine zq6 ?_ | refine zq1 ?_ | refine zq13 ?_ | refine zq12 ?_ | refine zq7 ?_ | refine zq2 ?_ | refine zq9 ?_))
  refine w_bf (by simp) ?_
  (repeat (with_reducible first | refine zq14 ?_ | refine zq11 ?_ | refine zq10 ?_ | refine zq3 ?_ | refine zq4 ?_ | refine zq5 ?_ | refine zq0 ?_ | refine zq8 ?_ | refine zq6 ?_ | refine zq1 ?_ | refine zq13 ?_ | refine zq12 ?_ | refine zq7 ?_ | refine zq2 ?_ | refine zq9 ?_))
  refine zq15 ?_
  (repeat (with_reducible first | refine zq14 ?_ | refine zq11 ?_ | refine zq10 ?_ | refine zq3 ?_ | refine zq4 ?_ | refine zq5 ?_ | refine zq0 ?_ | refine zq8 ?_ | refine zq6 ?_ | refine zq1 ?_ | refine zq13 ?_ | refine zq12 ?_ | refine zq7 ?_ | refine zq2 ?_ | refine zq9 ?_))
  refine w_eq (shifted_k19_eq k 12 j.lim S hJ.lim (by omega)) ?_
  (repeat (with_reducible first | refine zq14 ?_ | refine zq11 ?_ | refine zq10 ?_ | refine zq3 ?_ | refine zq4 ?_ | refine zq5 ?_ | refine zq0 ?_ | refine zq8 ?_ | refine zq6 ?_ | refine zq1 ?_ | refine zq13 ?_ | refine zq12 ?_ | refine zq7 ?_ | refine zq2 ?_ | refine zq9 ?_))
  refine w_eq (e2 S) ?_
  (repeat (with_reducible first | refine zq14 ?_ | refine zq11 ?_ | refine zq10 ?_ | refine zq3 ?_ | refine zq4 ?_ | refine zq5 ?_ | refine zq0 ?_ | refine zq8 ?_ | refine zq6 ?_ | refine zq1 ?_ | refine zq13 ?_ | refine zq12 ?_ | refine zq7 ?_ | refine zq2 ?_ | refine zq9 ?_))
  refine w_eq before_k19_eq ?_
  rw [e5]
  (repeat (with_reducible first | refine zq14 ?_ | refine zq11 ?_ | refine zq10 ?_ | refine zq3 ?_ | refine zq4 ?_ | refine zq5 ?_ | refine zq0 ?_ | refine zq8 ?_ | refine zq6 ?_ | refine zq1 ?_ | refine zq13 ?_ | refine zq12 ?_ | refine zq7 ?_ | refine zq2 ?_ | refine zq9 ?_))
  refine w_eq most28_eq ?_
  (repeat (with_reducible first | refine zq14 ?_ | refine zq11 ?_ | refine zq10 ?_ | refine zq3 ?_ | refine zq4 ?_ | refine zq5 ?_ | refine zq0 ?_ | refine zq8 ?_ | refine zq6 ?_ | refine zq1 ?_ | refine zq13 ?_ | refine zq12 ?_ | refine zq7 ?_ | refine zq2 ?_ | refine zq9 ?_))
  refine w_bf (by simp) ?_
  (repeat (with_reducible first | refine zq14 ?_ | refine zq11 ?_ | refine zq10 ?_ | refine zq3 ?_ | refine zq4 ?_ | refine zq5 ?_ | refine zq0 ?_ | refine zq8 ?_ | refine zq6 ?_ | refine zq1 ?_ | refine zq13 ?_ | refine zq12 ?_ | refine zq7 ?_ | refine zq2 ?_ | refine zq9 ?_))
  refine zq15 ?_
  (repeat (with_reducible first | refine zq14 ?_ | refine zq11 ?_ | refine zq10 ?_ | refine zq3 ?_ | refine zq4 ?_ | refine zq5 ?_ | refine zq0 ?_ | refine zq8 ?_ | refine zq6 ?_ | refine zq1 ?_ | refine zq13 ?_ | refine zq12 ?_ | refine zq7 ?_ | refine zq2 ?_ | refine zq9 ?_))
  refine w_bf (by rw [decide_eq_false_iff_not]; split <;> split <;> omega) ?_
  (repeat (with_reducible first | refine zq14 ?_ | refine zq11 ?_ | refine zq10 ?_ | refine zq3 ?_ | refine zq4 ?_ | refine zq5 ?_ | refine zq0 ?_ | refine zq8 ?_ | refine zq6 ?_ | refine zq1 ?_ | refine zq13 ?_ | refine zq12 ?_ | refine zq7 ?_ | refine zq2 ?_ | refine zq9 ?_))
  refine w_bf (by rw [decide_eq_false_iff_not]; omega) ?_
  (repeat (with_reducible first | refine zq14 ?_ | refine zq11 ?_ | refine zq10 ?_ | refine zq3 ?_ | refine zq4 ?_ | refine zq5 ?_ | refine zq0 ?_ | refine zq8 ?_ | refine zq6 ?_ | refine zq1 ?_ | refine zq13 ?_ | refine zq12 ?_ | refine zq7 ?_ | refine zq2 ?_ | refine zq9 ?_))
  refine w_bf (by rw [decide_eq_false_iff_not]; omega) ?_
  (repeat (with_reducible first | refine zq14 ?_ | refine zq11 ?_ | refine zq10 ?_ | refine zq3 ?_ | refine zq4 ?_ | refine zq5 ?_ | refine zq0 ?_ | refine zq8 ?_ | refine zq6 ?_ | refine zq1 ?_ | refine zq13 ?_ | refine zq12 ?_ | refine zq7 ?_ | refine zq2 ?_ | refine zq9 ?_))
  refine zq15 ?_
  (repeat (with_reducible first | refine zq14 ?_ | refine zq11 ?_ | refine zq10 ?_ | refine zq3 ?_ | refine zq4 ?_ | refine zq5 ?_ | refine zq0 ?_ | refine zq8 ?_ | refine zq6 ?_ | refine zq1 ?_ | refine zq13 ?_ | refine zq12 ?_ | refine zq7 ?_ | refine zq2 ?_ | refine zq9 ?_))
  refine w_eq (e3 S) ?_
  have fin : windD u j b = none → PyData.bool (noneD (encWin (windD u j b))) = .bool true ∧ S = S := fun e => by
    rw [e]
    exact ⟨rfl, rfl⟩
  have ep : (10 : Int) ^ Int.toNat 9 = 1000000000 := rfl
  rcases hw.wy with ew | ew
  · refine zq15 ?_
    (repeat (with_reducible first | refine zq14 ?_ | refine zq11 ?_ | refine zq10 ?_ | refine zq3 ?_ | refine zq4 ?_ | refine zq5 ?_ | refine zq0 ?_ | refine zq8 ?_ | refine zq6 ?_ | refine zq1 ?_ | refine zq13 ?_ | refine zq12 ?_ | refine zq7 ?_ | refine zq2 ?_ | refine zq9 ?_))
    refine w_bf (by rw [ew]; rfl) ?_
    (repeat (with_reducible first | refine zq14 ?_ | refine zq11 ?_ | refine zq10 ?_ | refine zq3 ?_ | refine zq4 ?_ | refine zq5 ?_ | refine zq0 ?_ | refine zq8 ?_ | refine zq6 ?_ | refine zq1 ?_ | refine zq13 ?_ | refine zq12 ?_ | refine zq7 ?_ | refine zq2 ?_ | refine zq9 ?_))
    rw [ep]
    cases ed : dueD u j b with
    | none =>
      rw [ed] at hw1
      refine w_bt (by decide) ?_
      (repeat (with_reducible first | refine zq14 ?_ | refine zq11 ?_ | refine zq10 ?_ | refine zq3 ?_ | refine zq4 ?_ | refine zq5 ?_ | refine zq0 ?_ | refine zq8 ?_ | refine zq6 ?_ | refine zq1 ?_ | refine zq13 ?_ | refine zq12 ?_ | refine zq7 ?_ | refine zq2 ?_ | refine zq9 ?_))
      exact fin (by rw [hw1, if_neg (by simp)])
    | some due =>
      obtain ⟨e, ee⟩ := hrs due ed
      have hd := hN.d due ed
      refine w_bf (by rw [decide_eq_false_iff_not]; show ¬ due = 1000000000; omega) ?_
      (repeat (with_reducible first | refine zq14 ?_ | refine zq11 ?_ | refine zq10 ?_ | refine zq3 ?_ | refine zq4 ?_ | refine zq5 ?_ | refine zq0 ?_ | refine zq8 ?_ | refine zq6 ?_ | refine zq1 ?_ | refine zq13 ?_ | refine zq12 ?_ | refine zq7 ?_ | refine zq2 ?_ | refine zq9 ?_))
      rw [ed, ee] at hw1
      cases el : lateD u j b with
      | none =>
        rw [el] at hw1
        rw [if_pos ⟨ew, rfl, rfl⟩] at hw1
        refine w_bf (by rw [decide_eq_false_iff_not]; show ¬ (1000000000 : Int) = b; omega) ?_
        (repeat (with_reducible first | refine zq14 ?_ | refine zq11 ?_ | refine zq10 ?_ | refine zq3 ?_ | refine zq4 ?_ | refine zq5 ?_ | refine zq0 ?_ | refine zq8 ?_ | refine zq6 ?_ | refine zq1 ?_ | refine zq13 ?_ | refine zq12 ?_ | refine zq7 ?_ | refine zq2 ?_ | refine zq9 ?_))
        rw [hw1, ee]
        have he := hN.e e ee
        refine wpO_rfl (gEq_same ((Sz.tup (n := 30) (k := 0) (m := 2) (n' := 62) (mem2 (Sz.int (by omega)) (Sz.non.mono (by decide) (by decide))) (Nat.le_refl _) (by decide)).shaped (by decide)) (by simp [encWin, oI, PyData.eqv, PyData.eqvAll])) ?_
        exact ⟨rfl, rfl⟩
      | some l =>
        have hl := hN.l l el
        rw [el] at hw1
        refine w_b (fun c => ?_) (fun c => ?_)
        · rw [decide_eq_true_eq] at c
          have c : l = b := c
          (repeat (with_reducible first | refine zq14 ?_ | refine zq11 ?_ | refine zq10 ?_ | refine zq3 ?_ | refine zq4 ?_ | refine zq5 ?_ | refine zq0 ?_ | refine zq8 ?_ | refine zq6 ?_ | refine zq1 ?_ | refine zq13 ?_ | refine zq12 ?_ | refine zq7 ?_ | refine zq2 ?_ | refine zq9 ?_))
          exact fin (by rw [hw1, if_neg (by simp only [lateOk, decide_eq_true_eq]; omega)])
        · rw [decide_eq_false_iff_not] at c
          have c : ¬ l = b := c
          rw [if_pos ⟨ew, rfl, by simp only [lateOk, decide_eq_true_eq]; omega⟩] at hw1
          (repeat (with_reducible first | refine zq14 ?_ | refine zq11 ?_ | refine zq10 ?_ | refine zq3 ?_ | refine zq4 ?_ | refine zq5 ?_ | refine zq0 ?_ | refine zq8 ?_ | refine zq6 ?_ | refine zq1 ?_ | refine zq13 ?_ | refine zq12 ?_ | refine zq7 ?_ | refine zq2 ?_ | refine zq9 ?_))
          rw [ep]
          refine w_bf (by rw [decide_eq_false_iff_not]; show ¬ l = 1000000000; omega) ?_
          (repeat (with_reducible first | refine zq14 ?_ | refine zq11 ?_ | refine zq10 ?_ | refine zq3 ?_ | refine zq4 ?_ | refine zq5 ?_ | refine zq0 ?_ | refine zq8 ?_ | refine zq6 ?_ | refine zq1 ?_ | refine zq13 ?_ | refine zq12 ?_ | refine zq7 ?_ | refine zq2 ?_ | refine zq9 ?_))
          rw [hw1, ee]
          have he := hN.e e ee
          refine wpO_rfl (gEq_same ((Sz.tup (n := 30) (k := 0) (m := 2) (n' := 62) (mem2 (Sz.int (by omega)) (Sz.int (by omega))) (Nat.le_refl _) (by decide)).shaped (by decide)) (by simp [encWin, oI, PyData.eqv, PyData.eqvAll])) ?_
          exact ⟨rfl, rfl⟩
  · refine zq15 ?_
    (repeat (with_reducible first | refine zq14 ?_ | refine zq11 ?_ | refine zq10 ?_ | refine zq3 ?_ | refine zq4 ?_ | refine zq5 ?_ | refine zq0 ?_ | refine zq8 ?_ | refine zq6 ?_ | refine zq1 ?_ | refine zq13 ?_ | refine zq12 ?_ | refine zq7 ?_ | refine zq2 ?_ | refine zq9 ?_))
    refine w_bt (by rw [ew]; rfl) ?_
    (repeat (with_reducible first | refine zq14 ?_ | refine zq11 ?_ | refine zq10 ?_ | refine zq3 ?_ | refine zq4 ?_ | refine zq5 ?_ | refine zq0 ?_ | refine zq8 ?_ | refine zq6 ?_ | refine zq1 ?_ | refine zq13 ?_ | refine zq12 ?_ | refine zq7 ?_ | refine zq2 ?_ | refine zq9 ?_))
    exact fin (by rw [hw1, if_neg (by rw [ew]; intro c; exact absurd c.1 (by decide))])
theorem with_k28_eq {i : Nat} (hi : i < s.jobs.length) (h9 : s.jobs.length ≤ 900) {j' : Job} : g_with_k28 [encSite s, .int i, encJ j'] S = .ok (encSite ⟨s.mc, s.parts, s.jobs.take i ++ [j'] ++ s.jobs.drop (i + 1)⟩) S := by
  have hl : i ≤ (s.jobs.map encJ).length := by simp; omega
  have hl1 : i + 1 ≤ (s.jobs.map encJ).length := by simp; omega
  refine wpR_ok (w_def rfl ?_)
  unfold m_with_k28
  (repeat (with_reducible first | refine zq14 ?_ | refine zq11 ?_ | refine zq10 ?_ | refine zq3 ?_ | refine zq4 ?_ | refine zq5 ?_ | refine zq0 ?_ | refine zq8 ?_ | refine zq6 ?_ | refine zq1 ?_ | refine zq13 ?_ | refine zq12 ?_ | refine zq7 ?_ | refine zq2 ?_ | refine zq9 ?_))
  rw [cutTo hl]
  refine wpO_rfl (tupAdd (by simp; omega)) ?_
  (repeat (with_reducible first | refine zq14 ?_ | refine zq11 ?_ | refine zq10 ?_ | refine zq3 ?_ | refine zq4 ?_ | refine zq5 ?_ | refine zq0 ?_ | refine zq8 ?_ | refine zq6 ?_ | refine zq1 ?_ | refine zq13 ?_ | refine zq12 ?_ | refine zq7 ?_ | refine zq2 ?_ | refine zq9 ?_))
  rw [show ((i : Int) + 1) = ((i + 1 : Nat) : Int) by omega, cutFrom hl1]
  refine wpO_rfl (tupAdd (by simp; omega)) ?_
  (repeat (with_reducible first | refine zq14 ?_ | refine zq11 ?_ | refine zq10 ?_ | refine zq3 ?_ | refine zq4 ?_ | refine zq5 ?_ | refine zq0 ?_ | refine zq8 ?_ | refine zq6 ?_ | refine zq1 ?_ | refine zq13 ?_ | refine zq12 ?_ | refine zq7 ?_ | refine zq2 ?_ | refine zq9 ?_))
  refine ⟨?_, rfl⟩
  unfold encSite
  simp only [List.map_append, List.map_take, List.map_drop, List.map_cons, List.map_nil]
  rfl
theorem busy_ok (h : PlotOk 10 s) : SiteOk (busy s) ∧ JobsOk (busy s) 100 4 := by
  have en : (busy s).mc.map (·.1) = s.mc.map (·.1) := by simp [busy, List.map_map, Function.comp_def]
  refine ⟨site_of (most := 10) (by rw [en]; exact h.mn) (fun m hm => ?_) h.pn (by rw [en]; exact h.ps) h.jn fun j hj => (h.jg j hj).wide, ?_⟩
  · obtain ⟨m', hm', rfl⟩ := List.mem_map.1 hm
    have h1 := h.ok.mus m' hm'
    refine ⟨⟨by simpa [moreU] using h1.ne, by simpa [moreU] using h1.le, fun u hu => ?_⟩, by simpa [moreU] using h.mu m' hm'⟩
    obtain ⟨v, hv, rfl⟩ := List.mem_map.1 hu
    have h2 := h1.bd v hv
    have h3 := h.mb m' hm' v hv
    simp only
    omega
  · have hj := h.jobs (by decide) (by decide)
    exact ⟨hj.nd, hj.ln, fun j hm => let q := hj.ok j hm; ⟨q.lim, q.z, q.k8, q.sl, q.pt, q.hi0⟩⟩
theorem setSl_ok (h : PlotOk 10 s) {i : Nat} (hi : s.jobs[i]? = some j) {a : Int × Int × Int} (ha : (0 ≤ a.1 ∧ a.1 ≤ 500) ∧ (0 ≤ a.2.1 ∧ a.2.1 ≤ 500) ∧ 0 ≤ a.2.2 ∧ a.2.2 ≤ 500) : SiteOk (setSl s i j a) ∧ JobsOk (setSl s i j a) 100 4 ∧ ({ j with sl := a } : Job) ∈ (setSl s i j a).jobs := by
  have hl : (setSl s i j a).jobs = s.jobs.set i { j with sl := a } := take_set hi
  have hjm : j ∈ s.jobs := List.mem_of_getElem? hi
  have hil : i < s.jobs.length := (List.getElem?_eq_some_iff.1 hi).1
  have en : (setSl s i j a).jobs.map (·.nm) = s.jobs.map (·.nm) := by
    rw [hl, List.map_set]
    refine List.ext_getElem? fun k => ?_
    rw [List.getElem?_set]
    split
    · rename_i e
      subst e
      rw [if_pos (by simpa using hil), List.getElem?_map, hi]
      rfl
    · rfl
  have hall : ∀ q ∈ (setSl s i j a).jobs, q ∈ s.jobs ∨ q = { j with sl := a } := fun q hq => by
    rw [hl] at hq
    exact List.mem_or_eq_of_mem_set hq
  have hj := h.jobs (by decide) (by decide)
  refine ⟨site_of (most := 10) h.mn (fun m hm => ⟨h.ok.mus m hm, h.mu m hm⟩) h.pn h.ps (by rw [en]; exact h.jn) fun q hq => ?_, ⟨by rw [en]; exact hj.nd, by rw [hl, List.length_set]; exact hj.ln, fun q hq => ?_⟩, by rw [hl]; exact List.mem_set hil _⟩
  · rcases hall q hq with e | e
    · exact (h.jg q e).wide
    · subst e
      have g := (h.jg j hjm).wide
      exact ⟨g.pt, g.wy, g.lim, ha⟩
  · rcases hall q hq with e | e
    · have q := hj.ok q e
      exact ⟨q.lim, q.z, q.k8, q.sl, q.pt, q.hi0⟩
    · subst e
      have q := hj.ok j hjm
      exact ⟨q.lim, q.z, q.k8, ha, q.pt, q.hi0⟩
theorem late_same {u : Uf} : lateD u { j with sl := (0, 0, 0) } b = dueD u j b := by
  unfold lateD dueD fp
  congr 2
  funext d
  rw [passes_shift]
  congr 1
  funext w
  cases w <;> simp [tri]
theorem late_more {u : Uf} {a : Int × Int × Int} (h1 : j.sl.1 ≤ a.1) (h2 : j.sl.2.1 ≤ a.2.1) (h3 : j.sl.2.2 ≤ a.2.2) : leO (lateD u j b) (lateD u { j with sl := a } b) := by
  refine leO_pred (fp_weaker fun c p => ?_)
  rw [passes_shift] at p ⊢
  refine passes_mono (fun w => ?_) _ p
  cases w <;> simp only [tri] <;> omega
theorem agrees_k28_wp (h : PlotOk 10 s) {i : Nat} (hi : s.jobs[i]? = some j) (hS : FeedOk S0 S) (q : ∀ S', FeedOk S0 S' → Q (.bool true) S') : wpE (g_agrees_k28 [oW 0, encSite s, .int i] S) Q := by
  have hz := siz
  have hj : j ∈ s.jobs := List.mem_of_getElem? hi
  have hil : i < s.jobs.length := (List.getElem?_eq_some_iff.1 hi).1
  have hs := h.jobs (by decide) (by decide)
  have hJ := hs.ok j hj
  obtain ⟨st, hp⟩ := hJ.pt
  have hw : WyOk j := ⟨(h.jg j hj).wy⟩
  have hu : UF (useF s.U st) (steady s.U st) := h.ok.uf (p := (j.pt, st)) hp
  have hml := h.ok.mln
  have hjl : s.jobs.length ≤ 3 := by rcases h.jn with e | e | e <;> (have := congrArg List.length e; simp at this; omega)
  have hB := busy_ok h
  have hsl := (h.jg j hj).sl
  have hZ := setSl_ok h hi (a := (0, 0, 0)) (by decide)
  have hW := setSl_ok h hi (a := (j.sl.1 + 1, j.sl.2.1 + 1, j.sl.2.2 + 1)) (by simp only; omega)
  refine w_def rfl ?_
  unfold m_agrees_k28
  refine zq15 ?_
  (repeat (with_reducible first | refine zq14 ?_ | refine zq11 ?_ | refine zq10 ?_ | refine zq3 ?_ | refine zq4 ?_ | refine zq5 ?_ | refine zq0 ?_ | refine zq8 ?_ | refine zq6 ?_ | refine zq1 ?_ | refine zq13 ?_ | refine zq12 ?_ | refine zq7 ?_ | refine zq2 ?_ | refine zq9 ?_))
  refine wpO_rfl (w := encJ j) (ixTo (by rw [List.getElem?_map, hi]; rfl)) ?_
  (repeat (with_reducible first | refine zq14 ?_ | refine zq11 ?_ | refine zq10 ?_ | refine zq3 ?_ | refine zq4 ?_ | refine zq5 ?_ | refine zq0 ?_ | refine zq8 ?_ | refine zq6 ?_ | refine zq1 ?_ | refine zq13 ?_ | refine zq12 ?_ | refine zq7 ?_ | refine zq2 ?_ | refine zq9 ?_))
  refine draw_k17_wp hS (by decide) (by decide) fun b S1 hb0 hb1 hS1 => ?_
  refine zq15 ?_
  (repeat (with_reducible first | refine zq14 ?_ | refine zq11 ?_ | refine zq10 ?_ | refine zq3 ?_ | refine zq4 ?_ | refine zq5 ?_ | refine zq0 ?_ | refine zq8 ?_ | refine zq6 ?_ | refine zq1 ?_ | refine zq13 ?_ | refine zq12 ?_ | refine zq7 ?_ | refine zq2 ?_ | refine zq9 ?_))
  refine w_eq (three_k28_eq h.ok hs hj hp hb0 (by omega)) ?_
  refine zq15 ?_
  (repeat (with_reducible first | refine zq14 ?_ | refine zq11 ?_ | refine zq10 ?_ | refine zq3 ?_ | refine zq4 ?_ | refine zq5 ?_ | refine zq0 ?_ | refine zq8 ?_ | refine zq6 ?_ | refine zq1 ?_ | refine zq13 ?_ | refine zq12 ?_ | refine zq7 ?_ | refine zq2 ?_ | refine zq9 ?_))
  refine w_eq (ends_right_eq h.ok hs hw hj hp hb0 (by omega)) ?_
  (repeat (with_reducible first | refine zq14 ?_ | refine zq11 ?_ | refine zq10 ?_ | refine zq3 ?_ | refine zq4 ?_ | refine zq5 ?_ | refine zq0 ?_ | refine zq8 ?_ | refine zq6 ?_ | refine zq1 ?_ | refine zq13 ?_ | refine zq12 ?_ | refine zq7 ?_ | refine zq2 ?_ | refine zq9 ?_))
  refine zq15 ?_
  (repeat (with_reducible first | refine zq14 ?_ | refine zq11 ?_ | refine zq10 ?_ | refine zq3 ?_ | refine zq4 ?_ | refine zq5 ?_ | refine zq0 ?_ | refine zq8 ?_ | refine zq6 ?_ | refine zq1 ?_ | refine zq13 ?_ | refine zq12 ?_ | refine zq7 ?_ | refine zq2 ?_ | refine zq9 ?_))
  refine draw_k17_wp hS1 (by decide) (by decide) fun d S2 hd0 hd1 hS2 => ?_
  (repeat (with_reducible first | refine zq14 ?_ | refine zq11 ?_ | refine zq10 ?_ | refine zq3 ?_ | refine zq4 ?_ | refine zq5 ?_ | refine zq0 ?_ | refine zq8 ?_ | refine zq6 ?_ | refine zq1 ?_ | refine zq13 ?_ | refine zq12 ?_ | refine zq7 ?_ | refine zq2 ?_ | refine zq9 ?_))
  refine w_eq (three_k28_eq h.ok hs hj hp (b := b + 1 + d) (by omega) (by omega)) ?_
  refine zq15 ?_
  (repeat (with_reducible first | refine zq14 ?_ | refine zq11 ?_ | refine zq10 ?_ | refine zq3 ?_ | refine zq4 ?_ | refine zq5 ?_ | refine zq0 ?_ | refine zq8 ?_ | refine zq6 ?_ | refine zq1 ?_ | refine zq13 ?_ | refine zq12 ?_ | refine zq7 ?_ | refine zq2 ?_ | refine zq9 ?_))
  refine lc_map (enc := encM) (out := fun m => encM (m.1, moreU m.2)) s.mc (by omega) (fun m hm => ⟨_, rfl, wpX_ok ?_⟩) ?_
  · have hul := (h.ok.mus m hm).le
    (repeat (with_reducible first | refine zq14 ?_ | refine zq11 ?_ | refine zq10 ?_ | refine zq3 ?_ | refine zq4 ?_ | refine zq5 ?_ | refine zq0 ?_ | refine zq8 ?_ | refine zq6 ?_ | refine zq1 ?_ | refine zq13 ?_ | refine zq12 ?_ | refine zq7 ?_ | refine zq2 ?_ | refine zq9 ?_))
    refine lc_map (enc := encU) (out := fun u => encU (u.1 + 1, u.2 + 2)) m.2 (by omega) (fun u hu => ⟨_, rfl, rfl⟩) ?_
    (repeat (with_reducible first | refine zq14 ?_ | refine zq11 ?_ | refine zq10 ?_ | refine zq3 ?_ | refine zq4 ?_ | refine zq5 ?_ | refine zq0 ?_ | refine zq8 ?_ | refine zq6 ?_ | refine zq1 ?_ | refine zq13 ?_ | refine zq12 ?_ | refine zq7 ?_ | refine zq2 ?_ | refine zq9 ?_))
    refine ⟨?_, rfl⟩
    unfold PL.encM prT encUs moreU
    simp only [List.map_map]
    rfl
  (repeat (with_reducible first | refine zq14 ?_ | refine zq11 ?_ | refine zq10 ?_ | refine zq3 ?_ | refine zq4 ?_ | refine zq5 ?_ | refine zq0 ?_ | refine zq8 ?_ | refine zq6 ?_ | refine zq1 ?_ | refine zq13 ?_ | refine zq12 ?_ | refine zq7 ?_ | refine zq2 ?_ | refine zq9 ?_))
  refine zq15 ?_
  (repeat (with_reducible first | refine zq14 ?_ | refine zq11 ?_ | refine zq10 ?_ | refine zq3 ?_ | refine zq4 ?_ | refine zq5 ?_ | refine zq0 ?_ | refine zq8 ?_ | refine zq6 ?_ | refine zq1 ?_ | refine zq13 ?_ | refine zq12 ?_ | refine zq7 ?_ | refine zq2 ?_ | refine zq9 ?_))
  have eB : ∀ S, g_three_k28 [.tuple [.tuple (s.mc.map fun m => encM (m.1, moreU m.2)), .tuple (s.parts.map encP), .tuple (s.jobs.map encJ)], .str j.nm, .int b] S = .ok (thrW (useF (busy s).U st) j b) S := fun S => by
    have e := three_k28_eq (S := S) (s := busy s) (st := st) hB.1 hB.2 hj hp hb0 (by omega)
    unfold encSite at e
    have e2 : (busy s).mc.map encM = s.mc.map fun m => encM (m.1, moreU m.2) := by
      unfold busy
      rw [List.map_map]
      rfl
    rw [e2] at e
    exact e
  refine w_eq (eB _) ?_
  have n1 := near_of h.ok hJ hp (b := b) hb0 (by omega)
  have n2 := near_of h.ok hJ hp (b := b + 1 + d) (by omega) (by omega)
  have n3 := near_of hB.1 (hB.2.ok j hj) (st := st) hp (b := b) hb0 (by omega)
  have l1 := early_use (j := j) hu (UseLe.refl _) (show b ≤ b + 1 + d by omega)
  have l2 := due_use (j := j) hu (UseLe.refl _) (show b ≤ b + 1 + d by omega)
  have l3 := late_use (j := j) hu (UseLe.refl _) (show b ≤ b + 1 + d by omega)
  have hub : UF (useF (busy s).U st) (steady (busy s).U st) := hB.1.uf (p := (j.pt, st)) hp
  have m1 := early_use (j := j) hub (busy_use (s := s) (st := st)) (Int.le_refl b)
  have m2 := due_use (j := j) hub (busy_use (s := s) (st := st)) (Int.le_refl b)
  have m3 := late_use (j := j) hub (busy_use (s := s) (st := st)) (Int.le_refl b)
  have l1 := topO_le l1 fun d e => by have := n1.e d e; omega
  have l2 := topO_le l2 fun d e => by have := n1.d d e; omega
  have l3 := topO_le l3 fun d e => by have := n1.l d e; omega
  have m1 := topO_le m1 fun d e => by have := n3.e d e; omega
  have m2 := topO_le m2 fun d e => by have := n3.d d e; omega
  have m3 := topO_le m3 fun d e => by have := n3.l d e; omega
  unfold thrW
  refine zq15 ?_
  (repeat (with_reducible first | refine zq14 ?_ | refine zq11 ?_ | refine zq10 ?_ | refine zq3 ?_ | refine zq4 ?_ | refine zq5 ?_ | refine zq0 ?_ | refine zq8 ?_ | refine zq6 ?_ | refine zq1 ?_ | refine zq13 ?_ | refine zq12 ?_ | refine zq7 ?_ | refine zq2 ?_ | refine zq9 ?_))
  refine w_zip2 ?_
  (repeat (with_reducible first | refine zq14 ?_ | refine zq11 ?_ | refine zq10 ?_ | refine zq3 ?_ | refine zq4 ?_ | refine zq5 ?_ | refine zq0 ?_ | refine zq8 ?_ | refine zq6 ?_ | refine zq1 ?_ | refine zq13 ?_ | refine zq12 ?_ | refine zq7 ?_ | refine zq2 ?_ | refine zq9 ?_))
  refine ⟨_, _, .inl ⟨rfl, rfl⟩, ?_⟩
  refine w_lc1 rfl ?_
  (repeat (with_reducible first | refine zq14 ?_ | refine zq11 ?_ | refine zq10 ?_ | refine zq3 ?_ | refine zq4 ?_ | refine zq5 ?_ | refine zq0 ?_ | refine zq8 ?_ | refine zq6 ?_ | refine zq1 ?_ | refine zq13 ?_ | refine zq12 ?_ | refine zq7 ?_ | refine zq2 ?_ | refine zq9 ?_))
  refine w_bf (by rw [decide_eq_false_iff_not]; omega) ?_
  refine w_lc1 rfl ?_
  (repeat (with_reducible first | refine zq14 ?_ | refine zq11 ?_ | refine zq10 ?_ | refine zq3 ?_ | refine zq4 ?_ | refine zq5 ?_ | refine zq0 ?_ | refine zq8 ?_ | refine zq6 ?_ | refine zq1 ?_ | refine zq13 ?_ | refine zq12 ?_ | refine zq7 ?_ | refine zq2 ?_ | refine zq9 ?_))
  refine w_bf (by rw [decide_eq_false_iff_not]; omega) ?_
  refine w_lc1 rfl ?_
  (repeat (with_reducible first | refine zq14 ?_ | refine zq11 ?_ | refine zq10 ?_ | refine zq3 ?_ | refine zq4 ?_ | refine zq5 ?_ | refine zq0 ?_ | refine zq8 ?_ | refine zq6 ?_ | refine zq1 ?_ | refine zq13 ?_ | refine zq12 ?_ | refine zq7 ?_ | refine zq2 ?_ | refine zq9 ?_))
  refine w_bf (by rw [decide_eq_false_iff_not]; omega) ?_
  refine w_lc0 ?_
  (repeat (with_reducible first | refine zq14 ?_ | refine zq11 ?_ | refine zq10 ?_ | refine zq3 ?_ | refine zq4 ?_ | refine zq5 ?_ | refine zq0 ?_ | refine zq8 ?_ | refine zq6 ?_ | refine zq1 ?_ | refine zq13 ?_ | refine zq12 ?_ | refine zq7 ?_ | refine zq2 ?_ | refine zq9 ?_))
  refine zq15 ?_
  (repeat (with_reducible first | refine zq14 ?_ | refine zq11 ?_ | refine zq10 ?_ | refine zq3 ?_ | refine zq4 ?_ | refine zq5 ?_ | refine zq0 ?_ | refine zq8 ?_ | refine zq6 ?_ | refine zq1 ?_ | refine zq13 ?_ | refine zq12 ?_ | refine zq7 ?_ | refine zq2 ?_ | refine zq9 ?_))
  refine w_zip2 ?_
  (repeat (with_reducible first | refine zq14 ?_ | refine zq11 ?_ | refine zq10 ?_ | refine zq3 ?_ | refine zq4 ?_ | refine zq5 ?_ | refine zq0 ?_ | refine zq8 ?_ | refine zq6 ?_ | refine zq1 ?_ | refine zq13 ?_ | refine zq12 ?_ | refine zq7 ?_ | refine zq2 ?_ | refine zq9 ?_))
  refine ⟨_, _, .inl ⟨rfl, rfl⟩, ?_⟩
  refine w_lc1 rfl ?_
  (repeat (with_reducible first | refine zq14 ?_ | refine zq11 ?_ | refine zq10 ?_ | refine zq3 ?_ | refine zq4 ?_ | refine zq5 ?_ | refine zq0 ?_ | refine zq8 ?_ | refine zq6 ?_ | refine zq1 ?_ | refine zq13 ?_ | refine zq12 ?_ | refine zq7 ?_ | refine zq2 ?_ | refine zq9 ?_))
  refine w_bf (by rw [decide_eq_false_iff_not]; omega) ?_
  refine w_lc1 rfl ?_
  (repeat (with_reducible first | refine zq14 ?_ | refine zq11 ?_ | refine zq10 ?_ | refine zq3 ?_ | refine zq4 ?_ | refine zq5 ?_ | refine zq0 ?_ | refine zq8 ?_ | refine zq6 ?_ | refine zq1 ?_ | refine zq13 ?_ | refine zq12 ?_ | refine zq7 ?_ | refine zq2 ?_ | refine zq9 ?_))
  refine w_bf (by rw [decide_eq_false_iff_not]; omega) ?_
  refine w_lc1 rfl ?_
  (repeat (with_reducible first | refine zq14 ?_ | refine zq11 ?_ | refine zq10 ?_ | refine zq3 ?_ | refine zq4 ?_ | refine zq5 ?_ | refine zq0 ?_ | refine zq8 ?_ | refine zq6 ?_ | refine zq1 ?_ | refine zq13 ?_ | refine zq12 ?_ | refine zq7 ?_ | refine zq2 ?_ | refine zq9 ?_))
  refine w_bf (by rw [decide_eq_false_iff_not]; omega) ?_
  refine w_lc0 ?_
  (repeat (with_reducible first | refine zq14 ?_ | refine zq11 ?_ | refine zq10 ?_ | refine zq3 ?_ | refine zq4 ?_ | refine zq5 ?_ | refine zq0 ?_ | refine zq8 ?_ | refine zq6 ?_ | refine zq1 ?_ | refine zq13 ?_ | refine zq12 ?_ | refine zq7 ?_ | refine zq2 ?_ | refine zq9 ?_))
  refine zq15 ?_
  (repeat (with_reducible first | refine zq14 ?_ | refine zq11 ?_ | refine zq10 ?_ | refine zq3 ?_ | refine zq4 ?_ | refine zq5 ?_ | refine zq0 ?_ | refine zq8 ?_ | refine zq6 ?_ | refine zq1 ?_ | refine zq13 ?_ | refine zq12 ?_ | refine zq7 ?_ | refine zq2 ?_ | refine zq9 ?_))
  refine w_eq (with_k28_eq (j' := { j with sl := (0, 0, 0) }) hil (by omega)) ?_
  (repeat (with_reducible first | refine zq14 ?_ | refine zq11 ?_ | refine zq10 ?_ | refine zq3 ?_ | refine zq4 ?_ | refine zq5 ?_ | refine zq0 ?_ | refine zq8 ?_ | refine zq6 ?_ | refine zq1 ?_ | refine zq13 ?_ | refine zq12 ?_ | refine zq7 ?_ | refine zq2 ?_ | refine zq9 ?_))
  refine w_eq (three_k28_eq (s := setSl s i j (0, 0, 0)) (j := { j with sl := (0, 0, 0) }) hZ.1 hZ.2.1 hZ.2.2 (st := st) hp hb0 (by omega)) ?_
  refine zq15 ?_
  (repeat (with_reducible first | refine zq14 ?_ | refine zq11 ?_ | refine zq10 ?_ | refine zq3 ?_ | refine zq4 ?_ | refine zq5 ?_ | refine zq0 ?_ | refine zq8 ?_ | refine zq6 ?_ | refine zq1 ?_ | refine zq13 ?_ | refine zq12 ?_ | refine zq7 ?_ | refine zq2 ?_ | refine zq9 ?_))
  refine w_lc1 rfl ?_
  (repeat (with_reducible first | refine zq14 ?_ | refine zq11 ?_ | refine zq10 ?_ | refine zq3 ?_ | refine zq4 ?_ | refine zq5 ?_ | refine zq0 ?_ | refine zq8 ?_ | refine zq6 ?_ | refine zq1 ?_ | refine zq13 ?_ | refine zq12 ?_ | refine zq7 ?_ | refine zq2 ?_ | refine zq9 ?_))
  refine ⟨by simp; omega, ?_⟩
  refine w_lc1 rfl ?_
  (repeat (with_reducible first | refine zq14 ?_ | refine zq11 ?_ | refine zq10 ?_ | refine zq3 ?_ | refine zq4 ?_ | refine zq5 ?_ | refine zq0 ?_ | refine zq8 ?_ | refine zq6 ?_ | refine zq1 ?_ | refine zq13 ?_ | refine zq12 ?_ | refine zq7 ?_ | refine zq2 ?_ | refine zq9 ?_))
  refine ⟨by simp; omega, ?_⟩
  refine w_lc1 rfl ?_
  (repeat (with_reducible first | refine zq14 ?_ | refine zq11 ?_ | refine zq10 ?_ | refine zq3 ?_ | refine zq4 ?_ | refine zq5 ?_ | refine zq0 ?_ | refine zq8 ?_ | refine zq6 ?_ | refine zq1 ?_ | refine zq13 ?_ | refine zq12 ?_ | refine zq7 ?_ | refine zq2 ?_ | refine zq9 ?_))
  refine ⟨by simp; omega, ?_⟩
  refine w_lc0 ?_
  (repeat (with_reducible first | refine zq14 ?_ | refine zq11 ?_ | refine zq10 ?_ | refine zq3 ?_ | refine zq4 ?_ | refine zq5 ?_ | refine zq0 ?_ | refine zq8 ?_ | refine zq6 ?_ | refine zq1 ?_ | refine zq13 ?_ | refine zq12 ?_ | refine zq7 ?_ | refine zq2 ?_ | refine zq9 ?_))
  refine w_eq (with_k28_eq (j' := { j with sl := (j.sl.1 + 1, j.sl.2.1 + 1, j.sl.2.2 + 1) }) hil (by omega)) ?_
  (repeat (with_reducible first | refine zq14 ?_ | refine zq11 ?_ | refine zq10 ?_ | refine zq3 ?_ | refine zq4 ?_ | refine zq5 ?_ | refine zq0 ?_ | refine zq8 ?_ | refine zq6 ?_ | refine zq1 ?_ | refine zq13 ?_ | refine zq12 ?_ | refine zq7 ?_ | refine zq2 ?_ | refine zq9 ?_))
  refine w_eq (three_k28_eq (s := setSl s i j (j.sl.1 + 1, j.sl.2.1 + 1, j.sl.2.2 + 1)) (j := { j with sl := (j.sl.1 + 1, j.sl.2.1 + 1, j.sl.2.2 + 1) }) hW.1 hW.2.1 hW.2.2 (st := st) hp hb0 (by omega)) ?_
  have ez : topO (lateD (useF s.U st) { j with sl := (0, 0, 0) } b) = topO (dueD (useF s.U st) { j with sl := (0, 0, 0) } b) := by rw [late_same]; rfl
  have ez2 : topO (dueD (useF s.U st) { j with sl := (0, 0, 0) } b) = topO (dueD (useF s.U st) j b) := rfl
  have em : topO (lateD (useF s.U st) j b) ≤ topO (lateD (useF s.U st) { j with sl := (j.sl.1 + 1, j.sl.2.1 + 1, j.sl.2.2 + 1) } b) := topO_le (late_more (by simp only; omega) (by simp only; omega) (by simp only; omega)) fun d e => by have := n1.l d e; omega
  refine zq15 ?_
  unfold thrW
  (repeat (with_reducible first | refine zq14 ?_ | refine zq11 ?_ | refine zq10 ?_ | refine zq3 ?_ | refine zq4 ?_ | refine zq5 ?_ | refine zq0 ?_ | refine zq8 ?_ | refine zq6 ?_ | refine zq1 ?_ | refine zq13 ?_ | refine zq12 ?_ | refine zq7 ?_ | refine zq2 ?_ | refine zq9 ?_))
  refine w_bf (by rw [Bool.not_eq_false', decide_eq_true_eq]; exact ez.symm) ?_
  (repeat (with_reducible first | refine zq14 ?_ | refine zq11 ?_ | refine zq10 ?_ | refine zq3 ?_ | refine zq4 ?_ | refine zq5 ?_ | refine zq0 ?_ | refine zq8 ?_ | refine zq6 ?_ | refine zq1 ?_ | refine zq13 ?_ | refine zq12 ?_ | refine zq7 ?_ | refine zq2 ?_ | refine zq9 ?_))
  refine w_bf (by rw [Bool.not_eq_false', decide_eq_true_eq]; exact ez2) ?_
  (repeat (with_reducible first | refine zq14 ?_ | refine zq11 ?_ | refine zq10 ?_ | refine zq3 ?_ | refine zq4 ?_ | refine zq5 ?_ | refine zq0 ?_ | refine zq8 ?_ | refine zq6 ?_ | refine zq1 ?_ | refine zq13 ?_ | refine zq12 ?_ | refine zq7 ?_ | refine zq2 ?_ | refine zq9 ?_))
  refine w_bf (by rw [decide_eq_false_iff_not]; exact Int.not_lt.2 em) ?_
  (repeat (with_reducible first | refine zq14 ?_ | refine zq11 ?_ | refine zq10 ?_ | refine zq3 ?_ | refine zq4 ?_ | refine zq5 ?_ | refine zq0 ?_ | refine zq8 ?_ | refine zq6 ?_ | refine zq1 ?_ | refine zq13 ?_ | refine zq12 ?_ | refine zq7 ?_ | refine zq2 ?_ | refine zq9 ?_))
  refine zq15 ?_
  (repeat (with_reducible first | refine zq14 ?_ | refine zq11 ?_ | refine zq10 ?_ | refine zq3 ?_ | refine zq4 ?_ | refine zq5 ?_ | refine zq0 ?_ | refine zq8 ?_ | refine zq6 ?_ | refine zq1 ?_ | refine zq13 ?_ | refine zq12 ?_ | refine zq7 ?_ | refine zq2 ?_ | refine zq9 ?_))
  refine w_eq (windows_of_eq h.ok hs hj hp (by decide) (by decide)) ?_
  generalize hbs : wbs (useF s.U st) j 12 (Int.toNat 12 + 1) 0 = bs
  have hat : ∀ k x, bs[k]? = some x → (k = 0 → x = 0) ∧ ∀ k', k = k' + 1 → ∃ y, bs[k']? = some y ∧ dueD (useF s.U st) j y = some x := fun k x e => by
    rw [← hbs] at e ⊢
    exact wbs_at _ _ k x e
  have hbd : ∀ x ∈ bs, 0 ≤ x ∧ x ≤ 12 := fun x hx => by
    rw [← hbs] at hx
    exact wbs_bd _ _ (by decide) x hx
  refine w_seqJ (fun _ S => FeedOk S0 S) ?_ ?_
  · (repeat (with_reducible first | refine zq14 ?_ | refine zq11 ?_ | refine zq10 ?_ | refine zq3 ?_ | refine zq4 ?_ | refine zq5 ?_ | refine zq0 ?_ | refine zq8 ?_ | refine zq6 ?_ | refine zq1 ?_ | refine zq13 ?_ | refine zq12 ?_ | refine zq7 ?_ | refine zq2 ?_ | refine zq9 ?_))
    refine wp_for (I := fun r ρ S => FeedOk S0 S ∧ ∃ (n : Nat) (x2 x5 x6 x7 x8 x9 x10 x12 x13 x14 x15 x16 x17 x18 x19 x20 : Option Sl), r = enumD n ((bs.drop n).map (encLine (useF s.U st) j)) ∧ ρ = [some (.val (oW 0)), some (.val (encSite s)), x2, some (.val (encJ j)), some (.val (.int b)), x5, x6, x7, x8, x9, x10, some (.val (.list (bs.map (encLine (useF s.U st) j)))), x12, x13, x14, x15, x16, x17, x18, x19, x20]) ?_ (fun ρ S h => h.1) _ _ _ ⟨hS2, 0, _, _, _, _, _, _, _, _, _, _, _, _, _, _, _, _, rfl, rfl⟩
    rintro w r ρ S ⟨hS, n, x2, x5, x6, x7, x8, x9, x10, x12, x13, x14, x15, x16, x17, x18, x19, x20, er, rfl⟩
    cases ed : bs.drop n with
    | nil => rw [ed] at er; cases er
    | cons c rest =>
      rw [ed] at er
      simp only [List.map_cons, enumD] at er
      cases er
      have hc : bs[n]? = some c := by
        have := congrArg List.head? ed
        rw [List.head?_drop] at this
        exact this
      have hr : rest = bs.drop (n + 1) := by
        have := congrArg List.tail ed
        rw [List.tail_drop] at this
        exact this.symm
      have hcb := hbd c (List.mem_of_getElem? hc)
      refine ⟨_, rfl, ?_⟩
      refine w_seqJ (fun ρ S' => S' = S ∧ ρ = [some (.val (oW 0)), some (.val (encSite s)), x2, some (.val (encJ j)), some (.val (.int b)), x5, x6, x7, x8, x9, x10, some (.val (.list (bs.map (encLine (useF s.U st) j)))), some (.val (.int n)), some (.val (encLine (useF s.U st) j c)), x14, x15, x16, x17, x18, x19, x20]) ?_ ?_
      · cases n with
        | zero =>
          obtain rfl := (hat 0 c hc).1 rfl
          (repeat (with_reducible first | refine zq14 ?_ | refine zq11 ?_ | refine zq10 ?_ | refine zq3 ?_ | refine zq4 ?_ | refine zq5 ?_ | refine zq0 ?_ | refine zq8 ?_ | refine zq6 ?_ | refine zq1 ?_ | refine zq13 ?_ | refine zq12 ?_ | refine zq7 ?_ | refine zq2 ?_ | refine zq9 ?_))
          exact ⟨rfl, rfl⟩
        | succ n =>
          obtain ⟨y, hy, ey⟩ := (hat (n + 1) c hc).2 n rfl
          (repeat (with_reducible first | refine zq14 ?_ | refine zq11 ?_ | refine zq10 ?_ | refine zq3 ?_ | refine zq4 ?_ | refine zq5 ?_ | refine zq0 ?_ | refine zq8 ?_ | refine zq6 ?_ | refine zq1 ?_ | refine zq13 ?_ | refine zq12 ?_ | refine zq7 ?_ | refine zq2 ?_ | refine zq9 ?_))
          refine w_bt (by rw [decide_eq_true_eq]; omega) ?_
          (repeat (with_reducible first | refine zq14 ?_ | refine zq11 ?_ | refine zq10 ?_ | refine zq3 ?_ | refine zq4 ?_ | refine zq5 ?_ | refine zq0 ?_ | refine zq8 ?_ | refine zq6 ?_ | refine zq1 ?_ | refine zq13 ?_ | refine zq12 ?_ | refine zq7 ?_ | refine zq2 ?_ | refine zq9 ?_))
          rw [show ((n + 1 : Nat) : Int) - 1 = (n : Int) by omega]
          refine wpO_rfl (ixTl (by rw [List.getElem?_map, hy]; rfl)) ?_
          (repeat (with_reducible first | refine zq14 ?_ | refine zq11 ?_ | refine zq10 ?_ | refine zq3 ?_ | refine zq4 ?_ | refine zq5 ?_ | refine zq0 ?_ | refine zq8 ?_ | refine zq6 ?_ | refine zq1 ?_ | refine zq13 ?_ | refine zq12 ?_ | refine zq7 ?_ | refine zq2 ?_ | refine zq9 ?_))
          rw [ey]
          (repeat (with_reducible first | refine zq14 ?_ | refine zq11 ?_ | refine zq10 ?_ | refine zq3 ?_ | refine zq4 ?_ | refine zq5 ?_ | refine zq0 ?_ | refine zq8 ?_ | refine zq6 ?_ | refine zq1 ?_ | refine zq13 ?_ | refine zq12 ?_ | refine zq7 ?_ | refine zq2 ?_ | refine zq9 ?_))
          refine w_bf (by simp [oI, PyData.eqv]) ?_
          (repeat (with_reducible first | refine zq14 ?_ | refine zq11 ?_ | refine zq10 ?_ | refine zq3 ?_ | refine zq4 ?_ | refine zq5 ?_ | refine zq0 ?_ | refine zq8 ?_ | refine zq6 ?_ | refine zq1 ?_ | refine zq13 ?_ | refine zq12 ?_ | refine zq7 ?_ | refine zq2 ?_ | refine zq9 ?_))
          exact ⟨rfl, rfl⟩
      · rintro ρ S' ⟨rfl, rfl⟩
        (repeat (with_reducible first | refine zq14 ?_ | refine zq11 ?_ | refine zq10 ?_ | refine zq3 ?_ | refine zq4 ?_ | refine zq5 ?_ | refine zq0 ?_ | refine zq8 ?_ | refine zq6 ?_ | refine zq1 ?_ | refine zq13 ?_ | refine zq12 ?_ | refine zq7 ?_ | refine zq2 ?_ | refine zq9 ?_))
        refine w_lc1 rfl ?_
        (repeat (with_reducible first | refine zq14 ?_ | refine zq11 ?_ | refine zq10 ?_ | refine zq3 ?_ | refine zq4 ?_ | refine zq5 ?_ | refine zq0 ?_ | refine zq8 ?_ | refine zq6 ?_ | refine zq1 ?_ | refine zq13 ?_ | refine zq12 ?_ | refine zq7 ?_ | refine zq2 ?_ | refine zq9 ?_))
        refine w_eq most28_eq ?_
        refine ⟨by simp; omega, ?_⟩
        refine w_lc1 rfl ?_
        (repeat (with_reducible first | refine zq14 ?_ | refine zq11 ?_ | refine zq10 ?_ | refine zq3 ?_ | refine zq4 ?_ | refine zq5 ?_ | refine zq0 ?_ | refine zq8 ?_ | refine zq6 ?_ | refine zq1 ?_ | refine zq13 ?_ | refine zq12 ?_ | refine zq7 ?_ | refine zq2 ?_ | refine zq9 ?_))
        refine w_eq most28_eq ?_
        refine ⟨by simp; omega, ?_⟩
        refine w_lc1 rfl ?_
        (repeat (with_reducible first | refine zq14 ?_ | refine zq11 ?_ | refine zq10 ?_ | refine zq3 ?_ | refine zq4 ?_ | refine zq5 ?_ | refine zq0 ?_ | refine zq8 ?_ | refine zq6 ?_ | refine zq1 ?_ | refine zq13 ?_ | refine zq12 ?_ | refine zq7 ?_ | refine zq2 ?_ | refine zq9 ?_))
        refine w_eq most28_eq ?_
        refine ⟨by simp; omega, ?_⟩
        refine w_lc0 ?_
        (repeat (with_reducible first | refine zq14 ?_ | refine zq11 ?_ | refine zq10 ?_ | refine zq3 ?_ | refine zq4 ?_ | refine zq5 ?_ | refine zq0 ?_ | refine zq8 ?_ | refine zq6 ?_ | refine zq1 ?_ | refine zq13 ?_ | refine zq12 ?_ | refine zq7 ?_ | refine zq2 ?_ | refine zq9 ?_))
        refine w_eq (three_k28_eq h.ok hs hj hp (b := c) hcb.1 (by omega)) ?_
        have nc := (near_of h.ok hJ hp (b := c) hcb.1 (by omega)).top (by omega)
        have hsh : SeqAt.shaped (thrW (useF s.U st) j c) = true := (Sz.lst (n := 30) (k := 0) (m := 3) (n' := 93) (mem3 (Sz.int (by omega)) (Sz.int (by omega)) (Sz.int (by omega))) (Nat.le_refl _) (by decide)).shaped (by decide)
        refine wpO_rfl (gNe_same hsh (by simp [thrW, PyData.eqv, PyData.eqvAll])) ?_
        (repeat (with_reducible first | refine zq14 ?_ | refine zq11 ?_ | refine zq10 ?_ | refine zq3 ?_ | refine zq4 ?_ | refine zq5 ?_ | refine zq0 ?_ | refine zq8 ?_ | refine zq6 ?_ | refine zq1 ?_ | refine zq13 ?_ | refine zq12 ?_ | refine zq7 ?_ | refine zq2 ?_ | refine zq9 ?_))
        exact ⟨hS, n + 1, _, _, _, _, _, _, _, _, _, _, _, _, _, _, _, _, by rw [hr], rfl⟩
  · intro ρ S hS
    (repeat (with_reducible first | refine zq14 ?_ | refine zq11 ?_ | refine zq10 ?_ | refine zq3 ?_ | refine zq4 ?_ | refine zq5 ?_ | refine zq0 ?_ | refine zq8 ?_ | refine zq6 ?_ | refine zq1 ?_ | refine zq13 ?_ | refine zq12 ?_ | refine zq7 ?_ | refine zq2 ?_ | refine zq9 ?_))
    exact q _ hS
theorem law_k28_true (ns : List Int) (h : ns.length ≤ 63) : ∃ S', g_law_k28 [.list (ns.map PyData.int)] [] = .ok (.bool true) S' := by
  have hz := siz
  suffices hw : wpE (g_law_k28 [.list (ns.map PyData.int)] []) fun w _ => w = .bool true by
    obtain ⟨w, S', e, rfl⟩ := wpE_ex.1 hw
    exact ⟨S', e⟩
  refine w_def rfl ?_
  unfold m_law_k28
  refine zq15 ?_
  (repeat (with_reducible first | refine zq14 ?_ | refine zq11 ?_ | refine zq10 ?_ | refine zq3 ?_ | refine zq4 ?_ | refine zq5 ?_ | refine zq0 ?_ | refine zq8 ?_ | refine zq6 ?_ | refine zq1 ?_ | refine zq13 ?_ | refine zq12 ?_ | refine zq7 ?_ | refine zq2 ?_ | refine zq9 ?_))
  refine w_eq (feed_k17_eq h) ?_
  have hS : FeedOk [] [feedR ns 0 0 0] := ⟨_, _, _, _, rfl⟩
  refine w_seqJ (fun _ _ => True) ?_ ?_
  · (repeat (with_reducible first | refine zq14 ?_ | refine zq11 ?_ | refine zq10 ?_ | refine zq3 ?_ | refine zq4 ?_ | refine zq5 ?_ | refine zq0 ?_ | refine zq8 ?_ | refine zq6 ?_ | refine zq1 ?_ | refine zq13 ?_ | refine zq12 ?_ | refine zq7 ?_ | refine zq2 ?_ | refine zq9 ?_))
    refine ⟨by decide, ?_⟩
    refine wp_forI (I := fun ρ S => FeedOk [] S ∧ ∃ x2 x3 x4, ρ = [some (.val (.list (ns.map PyData.int))), some (.val (oW 0)), x2, x3, x4]) ?_ (fun _ _ _ => trivial) _ _ ⟨hS, _, _, _, rfl⟩
    rintro w hw ρ S ⟨hS, x2, x3, x4, rfl⟩
    refine ⟨_, rfl, ?_⟩
    refine zq15 ?_
    (repeat (with_reducible first | refine zq14 ?_ | refine zq11 ?_ | refine zq10 ?_ | refine zq3 ?_ | refine zq4 ?_ | refine zq5 ?_ | refine zq0 ?_ | refine zq8 ?_ | refine zq6 ?_ | refine zq1 ?_ | refine zq13 ?_ | refine zq12 ?_ | refine zq7 ?_ | refine zq2 ?_ | refine zq9 ?_))
    refine plot_k17_wp (by decide) (by decide) hS fun s S' hs hS' => ?_
    have hjl : s.jobs.length ≤ 3 := by rcases hs.jn with e | e | e <;> (have := congrArg List.length e; simp at this; omega)
    (repeat (with_reducible first | refine zq14 ?_ | refine zq11 ?_ | refine zq10 ?_ | refine zq3 ?_ | refine zq4 ?_ | refine zq5 ?_ | refine zq0 ?_ | refine zq8 ?_ | refine zq6 ?_ | refine zq1 ?_ | refine zq13 ?_ | refine zq12 ?_ | refine zq7 ?_ | refine zq2 ?_ | refine zq9 ?_))
    refine ⟨by simp; omega, ?_⟩
    refine wp_lc (I := fun r acc S' => FeedOk [] S' ∧ acc = [] ∧ ∀ w ∈ r, ∃ i : Nat, i < s.jobs.length ∧ w = .int i) ?_ ?_ _ _ _ ⟨hS', rfl, fun w hw => range_mem (by simpa using hw)⟩
    · rintro w r acc S' ⟨hS', rfl, hr⟩
      obtain ⟨i, hi, rfl⟩ := hr w (List.mem_cons_self ..)
      refine ⟨_, rfl, ?_⟩
      (repeat (with_reducible first | refine zq14 ?_ | refine zq11 ?_ | refine zq10 ?_ | refine zq3 ?_ | refine zq4 ?_ | refine zq5 ?_ | refine zq0 ?_ | refine zq8 ?_ | refine zq6 ?_ | refine zq1 ?_ | refine zq13 ?_ | refine zq12 ?_ | refine zq7 ?_ | refine zq2 ?_ | refine zq9 ?_))
      refine agrees_k28_wp hs (List.getElem?_eq_getElem hi) hS' fun S' hS' => ?_
      (repeat (with_reducible first | refine zq14 ?_ | refine zq11 ?_ | refine zq10 ?_ | refine zq3 ?_ | refine zq4 ?_ | refine zq5 ?_ | refine zq0 ?_ | refine zq8 ?_ | refine zq6 ?_ | refine zq1 ?_ | refine zq13 ?_ | refine zq12 ?_ | refine zq7 ?_ | refine zq2 ?_ | refine zq9 ?_))
      exact ⟨hS', rfl, fun z hz => hr z (List.mem_cons_of_mem _ hz)⟩
    rintro acc S' ⟨hS', rfl, _⟩
    (repeat (with_reducible first | refine zq14 ?_ | refine zq11 ?_ | refine zq10 ?_ | refine zq3 ?_ | refine zq4 ?_ | refine zq5 ?_ | refine zq0 ?_ | refine zq8 ?_ | refine zq6 ?_ | refine zq1 ?_ | refine zq13 ?_ | refine zq12 ?_ | refine zq7 ?_ | refine zq2 ?_ | refine zq9 ?_))
    exact ⟨hS', _, _, _, rfl⟩
  · intro ρ S _
    (repeat (with_reducible first | refine zq14 ?_ | refine zq11 ?_ | refine zq10 ?_ | refine zq3 ?_ | refine zq4 ?_ | refine zq5 ?_ | refine zq0 ?_ | refine zq8 ?_ | refine zq6 ?_ | refine zq1 ?_ | refine zq13 ?_ | refine zq12 ?_ | refine zq7 ?_ | refine zq2 ?_ | refine zq9 ?_))
    rfl
end
end WF
namespace K28
open PySem PySem.Spec PyProof.Rows L2 DL
theorem hfacts {P : Program} {w : World} {K : Fg} {h : Heap} {mg : Str → Option Value} (X : K.In h) (G : h.Ns mainGlobals mg) (c : He.SaysX hfa hfn [] [] hex_ w h K) :
    ∃ fd, FunD K "law" "law" (defArgs (top 64)) (defBody (top 64)) (defScope (top 64)) [] [] (He.ga K "law") fd ∧ mg "law" = some (.ref (He.ga K "law")) ∧ ∀ base : Heap, Cal false P w K mg base 24 "law" (top 64) ["_law_script"] WF.g_law_k28 := by
  have cd := c.t.d
  have m0 := c.more
  obtain ⟨ex_COUNT_WORDS, m1⟩ := Bool.and_eq_true_iff.mp (show (knB "COUNT_WORDS" c_COUNT_WORDS K && (knB "JOINING_WORDS" c_JOINING_WORDS K && (knB "NO_USE" c_NO_USE K && true))) = true from m0)
  obtain ⟨ex_JOINING_WORDS, m2⟩ := Bool.and_eq_true_iff.mp (show (knB "JOINING_WORDS" c_JOINING_WORDS K && (knB "NO_USE" c_NO_USE K && true)) = true from m1)
  obtain ⟨ex_NO_USE, m3⟩ := Bool.and_eq_true_iff.mp (show (knB "NO_USE" c_NO_USE K && true) = true from m2)
  have B : Bl P K mg := { b_all := He.free_ok X G (cd.fact 49 (f := .free "all") rfl), b_bool := He.free_ok X G (cd.fact 50 (f := .free "bool") rfl), b_dict := He.free_ok X G (cd.fact 51 (f := .free "dict") rfl), b_enumerate := He.free_ok X G (cd.fact 52 (f := .free "enumerate") rfl), b_int := He.free_ok X G (cd.fact 53 (f := .free "int") rfl), b_isinstance := He.free_ok X G (cd.fact 54 (f := .free "isinstance") rfl), b_len := He.free_ok X G (cd.fact 55 (f := .free "len") rfl), b_list := He.free_ok X G (cd.fact 56 (f := .free "list") rfl), b_max := He.free_ok X G (cd.fact 57 (f := .free "max") rfl), b_min := He.free_ok X G (cd.fact 58 (f := .free "min") rfl), b_range := He.free_ok X G (cd.fact 59 (f := .free "range") rfl), b_str := He.free_ok X G (cd.fact 60 (f := .free "str") rfl), b_tuple := He.free_ok X G (cd.fact 61 (f := .free "tuple") rfl), b_zip := He.free_ok X G (cd.fact 62 (f := .free "zip") rfl), c_COUNT_WORDS := knB_ok X G ex_COUNT_WORDS, c_JOINING_WORDS := knB_ok X G ex_JOINING_WORDS, c_KEPT := He.str_ok X G (cd.fact 63 (f := .str "KEPT" "kept") rfl), c_LETTERS := He.str_ok X G (cd.fact 64 (f := .str "LETTERS" "abcdefghijklmnopqrstuvwxyz") rfl), c_LONGEST_NAME := He.int_ok X G (cd.fact 65 (f := .int "LONGEST_NAME" 8) rfl), c_NO_USE := knB_ok X G ex_NO_USE }
  have D__law_feed : Dfn K mg "_law_feed" (top 51) := by
    obtain ⟨fd, F⟩ := cd.def_ 0 (d := d__law_feed) rfl
    exact ⟨_, fd, He.glo_ok X G (cd.fact 0 (f := .glo "_law_feed") rfl), F⟩
  have D__law_draw : Dfn K mg "_law_draw" (top 52) := by
    obtain ⟨fd, F⟩ := cd.def_ 1 (d := d__law_draw) rfl
    exact ⟨_, fd, He.glo_ok X G (cd.fact 1 (f := .glo "_law_draw") rfl), F⟩
  have D__law_any : Dfn K mg "_law_any" (top 53) := by
    obtain ⟨fd, F⟩ := cd.def_ 2 (d := d__law_any) rfl
    exact ⟨_, fd, He.glo_ok X G (cd.fact 2 (f := .glo "_law_any") rfl), F⟩
  have D__law_stays : Dfn K mg "_law_stays" (top 57) := by
    obtain ⟨fd, F⟩ := cd.def_ 3 (d := d__law_stays) rfl
    exact ⟨_, fd, He.glo_ok X G (cd.fact 3 (f := .glo "_law_stays") rfl), F⟩
  have D__law_rule : Dfn K mg "_law_rule" (top 56) := by
    obtain ⟨fd, F⟩ := cd.def_ 4 (d := d__law_rule) rfl
    exact ⟨_, fd, He.glo_ok X G (cd.fact 4 (f := .glo "_law_rule") rfl), F⟩
  have D__law_plot : Dfn K mg "_law_plot" (top 58) := by
    obtain ⟨fd, F⟩ := cd.def_ 5 (d := d__law_plot) rfl
    exact ⟨_, fd, He.glo_ok X G (cd.fact 5 (f := .glo "_law_plot") rfl), F⟩
  have D__law_most : Dfn K mg "_law_most" (top 59) := by
    obtain ⟨fd, F⟩ := cd.def_ 6 (d := d__law_most) rfl
    exact ⟨_, fd, He.glo_ok X G (cd.fact 6 (f := .glo "_law_most") rfl), F⟩
  have D_moved_limit : Dfn K mg "moved_limit" (top 38) := by
    obtain ⟨fd, F⟩ := cd.def_ 7 (d := d_moved_limit) rfl
    exact ⟨_, fd, He.glo_ok X G (cd.fact 7 (f := .glo "moved_limit") rfl), F⟩
  have D_steady_day : Dfn K mg "steady_day" (top 31) := by
    obtain ⟨fd, F⟩ := cd.def_ 8 (d := d_steady_day) rfl
    exact ⟨_, fd, He.glo_ok X G (cd.fact 8 (f := .glo "steady_day") rfl), F⟩
  have D_place_on : Dfn K mg "place_on" (top 26) := by
    obtain ⟨fd, F⟩ := cd.def_ 9 (d := d_place_on) rfl
    exact ⟨_, fd, He.glo_ok X G (cd.fact 9 (f := .glo "place_on") rfl), F⟩
  have D_use_on : Dfn K mg "use_on" (top 27) := by
    obtain ⟨fd, F⟩ := cd.def_ 10 (d := d_use_on) rfl
    exact ⟨_, fd, He.glo_ok X G (cd.fact 10 (f := .glo "use_on") rfl), F⟩
  have D_part_use : Dfn K mg "part_use" (top 30) := by
    obtain ⟨fd, F⟩ := cd.def_ 11 (d := d_part_use) rfl
    exact ⟨_, fd, He.glo_ok X G (cd.fact 11 (f := .glo "part_use") rfl), F⟩
  have D_plain_passing : Dfn K mg "plain_passing" (top 32) := by
    obtain ⟨fd, F⟩ := cd.def_ 12 (d := d_plain_passing) rfl
    exact ⟨_, fd, He.glo_ok X G (cd.fact 12 (f := .glo "plain_passing") rfl), F⟩
  have D_first_passing : Dfn K mg "first_passing" (top 33) := by
    obtain ⟨fd, F⟩ := cd.def_ 13 (d := d_first_passing) rfl
    exact ⟨_, fd, He.glo_ok X G (cd.fact 13 (f := .glo "first_passing") rfl), F⟩
  have D_require_usable : Dfn K mg "require_usable" (top 18) := by
    obtain ⟨fd, F⟩ := cd.def_ 14 (d := d_require_usable) rfl
    exact ⟨_, fd, He.glo_ok X G (cd.fact 14 (f := .glo "require_usable") rfl), F⟩
  have D_is_name : Dfn K mg "is_name" (top 8) := by
    obtain ⟨fd, F⟩ := cd.def_ 15 (d := d_is_name) rfl
    exact ⟨_, fd, He.glo_ok X G (cd.fact 15 (f := .glo "is_name") rfl), F⟩
  have D_index_among : Dfn K mg "index_among" (top 24) := by
    obtain ⟨fd, F⟩ := cd.def_ 16 (d := d_index_among) rfl
    exact ⟨_, fd, He.glo_ok X G (cd.fact 16 (f := .glo "index_among") rfl), F⟩
  have D_part_names : Dfn K mg "part_names" (top 23) := by
    obtain ⟨fd, F⟩ := cd.def_ 17 (d := d_part_names) rfl
    exact ⟨_, fd, He.glo_ok X G (cd.fact 17 (f := .glo "part_names") rfl), F⟩
  have D_stays_of : Dfn K mg "stays_of" (top 25) := by
    obtain ⟨fd, F⟩ := cd.def_ 18 (d := d_stays_of) rfl
    exact ⟨_, fd, He.glo_ok X G (cd.fact 18 (f := .glo "stays_of") rfl), F⟩
  have D_lasting : Dfn K mg "lasting" (top 39) := by
    obtain ⟨fd, F⟩ := cd.def_ 19 (d := d_lasting) rfl
    exact ⟨_, fd, He.glo_ok X G (cd.fact 19 (f := .glo "lasting") rfl), F⟩
  have D_inner_pairs : Dfn K mg "inner_pairs" (top 10) := by
    obtain ⟨fd, F⟩ := cd.def_ 20 (d := d_inner_pairs) rfl
    exact ⟨_, fd, He.glo_ok X G (cd.fact 20 (f := .glo "inner_pairs") rfl), F⟩
  have D_all_pairs : Dfn K mg "all_pairs" (top 19) := by
    obtain ⟨fd, F⟩ := cd.def_ 21 (d := d_all_pairs) rfl
    exact ⟨_, fd, He.glo_ok X G (cd.fact 21 (f := .glo "all_pairs") rfl), F⟩
  have D_number_for : Dfn K mg "number_for" (top 20) := by
    obtain ⟨fd, F⟩ := cd.def_ 22 (d := d_number_for) rfl
    exact ⟨_, fd, He.glo_ok X G (cd.fact 22 (f := .glo "number_for") rfl), F⟩
  have D_widened : Dfn K mg "widened" (top 21) := by
    obtain ⟨fd, F⟩ := cd.def_ 23 (d := d_widened) rfl
    exact ⟨_, fd, He.glo_ok X G (cd.fact 23 (f := .glo "widened") rfl), F⟩
  have D_task_late : Dfn K mg "task_late" (top 41) := by
    obtain ⟨fd, F⟩ := cd.def_ 24 (d := d_task_late) rfl
    exact ⟨_, fd, He.glo_ok X G (cd.fact 24 (f := .glo "task_late") rfl), F⟩
  have D_task_early : Dfn K mg "task_early" (top 42) := by
    obtain ⟨fd, F⟩ := cd.def_ 25 (d := d_task_early) rfl
    exact ⟨_, fd, He.glo_ok X G (cd.fact 25 (f := .glo "task_early") rfl), F⟩
  have D_task_named : Dfn K mg "task_named" (top 37) := by
    obtain ⟨fd, F⟩ := cd.def_ 26 (d := d_task_named) rfl
    exact ⟨_, fd, He.glo_ok X G (cd.fact 26 (f := .glo "task_named") rfl), F⟩
  have D_is_integer : Dfn K mg "is_integer" (top 5) := by
    obtain ⟨fd, F⟩ := cd.def_ 27 (d := d_is_integer) rfl
    exact ⟨_, fd, He.glo_ok X G (cd.fact 27 (f := .glo "is_integer") rfl), F⟩
  have D_is_number : Dfn K mg "is_number" (top 6) := by
    obtain ⟨fd, F⟩ := cd.def_ 28 (d := d_is_number) rfl
    exact ⟨_, fd, He.glo_ok X G (cd.fact 28 (f := .glo "is_number") rfl), F⟩
  have D_named_base : Dfn K mg "named_base" (top 43) := by
    obtain ⟨fd, F⟩ := cd.def_ 29 (d := d_named_base) rfl
    exact ⟨_, fd, He.glo_ok X G (cd.fact 29 (f := .glo "named_base") rfl), F⟩
  have D_early_day : Dfn K mg "early_day" (top 46) := by
    obtain ⟨fd, F⟩ := cd.def_ 30 (d := d_early_day) rfl
    exact ⟨_, fd, He.glo_ok X G (cd.fact 30 (f := .glo "early_day") rfl), F⟩
  have D_task_due : Dfn K mg "task_due" (top 40) := by
    obtain ⟨fd, F⟩ := cd.def_ 31 (d := d_task_due) rfl
    exact ⟨_, fd, He.glo_ok X G (cd.fact 31 (f := .glo "task_due") rfl), F⟩
  have D_due_day : Dfn K mg "due_day" (top 44) := by
    obtain ⟨fd, F⟩ := cd.def_ 32 (d := d_due_day) rfl
    exact ⟨_, fd, He.glo_ok X G (cd.fact 32 (f := .glo "due_day") rfl), F⟩
  have D_late_day : Dfn K mg "late_day" (top 45) := by
    obtain ⟨fd, F⟩ := cd.def_ 33 (d := d_late_day) rfl
    exact ⟨_, fd, He.glo_ok X G (cd.fact 33 (f := .glo "late_day") rfl), F⟩
  have D__law_three : Dfn K mg "_law_three" (top 60) := by
    obtain ⟨fd, F⟩ := cd.def_ 34 (d := d__law_three) rfl
    exact ⟨_, fd, He.glo_ok X G (cd.fact 34 (f := .glo "_law_three") rfl), F⟩
  have D_task_window : Dfn K mg "task_window" (top 47) := by
    obtain ⟨fd, F⟩ := cd.def_ 35 (d := d_task_window) rfl
    exact ⟨_, fd, He.glo_ok X G (cd.fact 35 (f := .glo "task_window") rfl), F⟩
  have D_window_of : Dfn K mg "window_of" (top 48) := by
    obtain ⟨fd, F⟩ := cd.def_ 36 (d := d_window_of) rfl
    exact ⟨_, fd, He.glo_ok X G (cd.fact 36 (f := .glo "window_of") rfl), F⟩
  have D__law_before : Dfn K mg "_law_before" (top 55) := by
    obtain ⟨fd, F⟩ := cd.def_ 37 (d := d__law_before) rfl
    exact ⟨_, fd, He.glo_ok X G (cd.fact 37 (f := .glo "_law_before") rfl), F⟩
  have D_limit_word : Dfn K mg "limit_word" (top 9) := by
    obtain ⟨fd, F⟩ := cd.def_ 38 (d := d_limit_word) rfl
    exact ⟨_, fd, He.glo_ok X G (cd.fact 38 (f := .glo "limit_word") rfl), F⟩
  have D_is_amount : Dfn K mg "is_amount" (top 7) := by
    obtain ⟨fd, F⟩ := cd.def_ 39 (d := d_is_amount) rfl
    exact ⟨_, fd, He.glo_ok X G (cd.fact 39 (f := .glo "is_amount") rfl), F⟩
  have D_limit_fault : Dfn K mg "limit_fault" (top 11) := by
    obtain ⟨fd, F⟩ := cd.def_ 40 (d := d_limit_fault) rfl
    exact ⟨_, fd, He.glo_ok X G (cd.fact 40 (f := .glo "limit_fault") rfl), F⟩
  have D_is_limit : Dfn K mg "is_limit" (top 12) := by
    obtain ⟨fd, F⟩ := cd.def_ 41 (d := d_is_limit) rfl
    exact ⟨_, fd, He.glo_ok X G (cd.fact 41 (f := .glo "is_limit") rfl), F⟩
  have D_passing_day : Dfn K mg "passing_day" (top 34) := by
    obtain ⟨fd, F⟩ := cd.def_ 42 (d := d_passing_day) rfl
    exact ⟨_, fd, He.glo_ok X G (cd.fact 42 (f := .glo "passing_day") rfl), F⟩
  have D__law_shifted : Dfn K mg "_law_shifted" (top 54) := by
    obtain ⟨fd, F⟩ := cd.def_ 43 (d := d__law_shifted) rfl
    exact ⟨_, fd, He.glo_ok X G (cd.fact 43 (f := .glo "_law_shifted") rfl), F⟩
  have D__law_ends_right : Dfn K mg "_law_ends_right" (top 61) := by
    obtain ⟨fd, F⟩ := cd.def_ 44 (d := d__law_ends_right) rfl
    exact ⟨_, fd, He.glo_ok X G (cd.fact 44 (f := .glo "_law_ends_right") rfl), F⟩
  have D__law_with : Dfn K mg "_law_with" (top 62) := by
    obtain ⟨fd, F⟩ := cd.def_ 45 (d := d__law_with) rfl
    exact ⟨_, fd, He.glo_ok X G (cd.fact 45 (f := .glo "_law_with") rfl), F⟩
  have D_windows_of : Dfn K mg "windows_of" (top 49) := by
    obtain ⟨fd, F⟩ := cd.def_ 46 (d := d_windows_of) rfl
    exact ⟨_, fd, He.glo_ok X G (cd.fact 46 (f := .glo "windows_of") rfl), F⟩
  have D__law_agrees : Dfn K mg "_law_agrees" (top 63) := by
    obtain ⟨fd, F⟩ := cd.def_ 47 (d := d__law_agrees) rfl
    exact ⟨_, fd, He.glo_ok X G (cd.fact 47 (f := .glo "_law_agrees") rfl), F⟩
  have D_law : Dfn K mg "law" (top 64) := by
    obtain ⟨fd, F⟩ := cd.def_ 48 (d := d_law) rfl
    exact ⟨_, fd, He.glo_ok X G (cd.fact 48 (f := .glo "law") rfl), F⟩
  obtain ⟨fd, F⟩ := cd.def_ 48 (d := d_law) rfl
  refine ⟨fd, F, He.glo_ok X G (cd.fact 48 (f := .glo "law") rfl), fun base => ?_⟩
  have C__law_feed := c__law_feed (P := P) (w := w) (base := base) B D__law_feed 
  have C__law_draw := c__law_draw (P := P) (w := w) (base := base) B D__law_draw 
  have C__law_any := c__law_any (P := P) (w := w) (base := base) B D__law_any C__law_draw
  have C__law_stays := c__law_stays (P := P) (w := w) (base := base) B D__law_stays C__law_draw C__law_any
  have C__law_rule := c__law_rule (P := P) (w := w) (base := base) B D__law_rule C__law_draw C__law_any 4
  have C__law_plot := c__law_plot (P := P) (w := w) (base := base) B D__law_plot C__law_draw C__law_stays C__law_any C__law_rule
  have C__law_most := c__law_most (P := P) (w := w) (base := base) B D__law_most 
  have C_moved_limit := c_moved_limit (P := P) (w := w) (base := base) B D_moved_limit  12
  have C_steady_day := c_steady_day (P := P) (w := w) (base := base) B D_steady_day 
  have C_place_on := c_place_on (P := P) (w := w) (base := base) B D_place_on 
  have C_use_on := c_use_on (P := P) (w := w) (base := base) B D_use_on 
  have C_part_use := c_part_use (P := P) (w := w) (base := base) B D_part_use C_place_on C_use_on
  have C_plain_passing := c_plain_passing (P := P) (w := w) (base := base) B D_plain_passing C_steady_day C_part_use
  have C_first_passing := c_first_passing (P := P) (w := w) (base := base) B D_first_passing C_plain_passing 12
  have C_require_usable := c_require_usable (P := P) (w := w) (base := base) B D_require_usable 
  have C_is_name := c_is_name (P := P) (w := w) (base := base) B D_is_name 
  have C_index_among := c_index_among (P := P) (w := w) (base := base) B D_index_among C_require_usable C_is_name
  have C_part_names := c_part_names (P := P) (w := w) (base := base) B D_part_names 
  have C_stays_of := c_stays_of (P := P) (w := w) (base := base) B D_stays_of C_index_among C_part_names
  have C_lasting := c_lasting (P := P) (w := w) (base := base) B D_lasting C_first_passing C_stays_of
  have C_inner_pairs := c_inner_pairs (P := P) (w := w) (base := base) B D_inner_pairs 
  have C_all_pairs := c_all_pairs (P := P) (w := w) (base := base) B D_all_pairs C_inner_pairs
  have C_number_for := c_number_for (P := P) (w := w) (base := base) B D_number_for 
  have C_widened := c_widened (P := P) (w := w) (base := base) B D_widened C_all_pairs C_number_for
  have C_task_late := c_task_late (P := P) (w := w) (base := base) B D_task_late C_lasting C_widened
  have C_task_early := c_task_early (P := P) (w := w) (base := base) B D_task_early C_moved_limit C_first_passing C_stays_of C_task_late
  have C_task_named := c_task_named (P := P) (w := w) (base := base) B D_task_named C_require_usable
  have C_is_integer := c_is_integer (P := P) (w := w) (base := base) B D_is_integer 
  have C_is_number := c_is_number (P := P) (w := w) (base := base) B D_is_number C_is_integer
  have C_named_base := c_named_base (P := P) (w := w) (base := base) B D_named_base C_task_named C_require_usable C_is_number
  have C_early_day := c_early_day (P := P) (w := w) (base := base) B D_early_day C_task_early C_named_base
  have C_task_due := c_task_due (P := P) (w := w) (base := base) B D_task_due C_lasting
  have C_due_day := c_due_day (P := P) (w := w) (base := base) B D_due_day C_task_due C_named_base
  have C_late_day := c_late_day (P := P) (w := w) (base := base) B D_late_day C_task_late C_named_base
  have C__law_three := c__law_three (P := P) (w := w) (base := base) B D__law_three C_early_day C_due_day C_late_day C__law_most
  have C_task_window := c_task_window (P := P) (w := w) (base := base) B D_task_window C_task_due C_task_early C_task_late
  have C_window_of := c_window_of (P := P) (w := w) (base := base) B D_window_of C_task_window C_named_base
  have C__law_before := c__law_before (P := P) (w := w) (base := base) B D__law_before 
  have C_limit_word := c_limit_word (P := P) (w := w) (base := base) B D_limit_word 
  have C_is_amount := c_is_amount (P := P) (w := w) (base := base) B D_is_amount C_is_integer
  have C_limit_fault := c_limit_fault (P := P) (w := w) (base := base) B D_limit_fault C_limit_word C_is_amount C_inner_pairs
  have C_is_limit := c_is_limit (P := P) (w := w) (base := base) B D_is_limit C_limit_fault
  have C_passing_day := c_passing_day (P := P) (w := w) (base := base) B D_passing_day C_stays_of C_require_usable C_is_limit C_is_number C_first_passing
  have C__law_shifted := c__law_shifted (P := P) (w := w) (base := base) B D__law_shifted  12
  have C__law_ends_right := c__law_ends_right (P := P) (w := w) (base := base) B D__law_ends_right C__law_three C__law_most C__law_before C_passing_day C__law_shifted C_window_of
  have C__law_with := c__law_with (P := P) (w := w) (base := base) B D__law_with 
  have Y_windows_of := y_windows_of (P := P) (w := w) (base := base) B D_windows_of C_task_named C_require_usable C_is_number C_task_due C_task_early C_task_late
  have C__law_agrees := c__law_agrees (P := P) (w := w) (base := base) B D__law_agrees C__law_draw C__law_three C__law_ends_right C__law_with Y_windows_of C__law_most
  have C_law := c_law (P := P) (w := w) (base := base) B D_law C__law_feed C__law_plot C__law_agrees
  exact C_law
end K28
open PySem PySem.W PySem.Calls PyProof.Rows
theorem PySem.Challenge.cw_whichfirst_k28_whole_days_holds : PySem.Challenge.rw_whichfirst_k28_whole_days.Holds := by
  w_on; o_law
  refine HandSHeadRun.head_any (r := OpenLaw.row PySem.Challenge.rw_whichfirst_k28_whole_days) (q := view (OpenLaw.row PySem.Challenge.rw_whichfirst_k28_whole_days).prog [64]) (H := K28.hhk) (ob := K28.hob) (M := 4000) (loose := K28.hnames) (d := HandSHeadRun.topDef (OpenLaw.row PySem.Challenge.rw_whichfirst_k28_whole_days).prog 64) (kwd := []) K28.hob_eq
    (by kernel_rfl) (fun s => by kernel_rfl) K28.hrun (by kernel_rfl) (by kernel_rfl) (by kernel_rfl) (by rfl) (by first | assumption | decide +kernel) (by decide +kernel) ⟨rfl, rfl, rfl, rfl, rfl, by decide +kernel⟩ ?hw ?hc
  case hw => w_witness2
  case hc =>
    refine DL.walk_D (G := false) (l := PySem.Challenge.rw_whichfirst_k28_whole_days) (n := 63) (k := 24) (x := "_law_script") (g := WF.g_law_k28) rfl (by decide) (by kernel_rfl) ⟨rfl, by decide, by decide⟩ ?F WF.law_k28_true
    intro w mg fa h Y G hmg0
    obtain ⟨K, KX, c⟩ := Y
    have hmg : mg ("law" : PySem.Str) = some (.ref fa) := by
      have e : (HandSHeadRun.topDef (OpenLaw.row PySem.Challenge.rw_whichfirst_k28_whole_days).prog 64).name = ("law" : PySem.Str) := by kernel_rfl
      rw [← e]
      exact hmg0
    obtain ⟨fd, F, hm, C⟩ := K28.hfacts (P := (PySem.Challenge.rw_whichfirst_k28_whole_days).prog) (w := w) KX G c
    have ef := hm.symm.trans hmg
    cases ef
    have b := L2.FunD.bindsA (ps := ["_law_script"]) F fun _ _ _ _ _ _ us hl => match us, hl with | [_], _ => rfl
    exact ⟨K, fd, KX, fun s v => b s [v] rfl, fun base _ _ => (C base).fnD hm F⟩
