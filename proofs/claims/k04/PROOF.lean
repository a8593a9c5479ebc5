import PyProof.Rows.All
import HandS.ForMost
import HandS.Flow
import HandS.IsInst
import HandS.Zip
import HandS.Conv
import HandS.Defaults
import HandS.Lambda
import HandS.HeadHook4
import HandS.Deep
import HandS.TupAny
import HandS.RaiseMore
import HandS.SortInts
import KE.KDictPairs
import HandS.Ends
import HandS.HeadEnd
import KE.KDictZip
import KE.GoesMore
import HandS.Keys
import KE.GoesEnum
import HandS.Head0
import HandS.Head1
import HandS.Head2
import KE.KStateDown
import HandS.ExcInit
import KE.KIsAll
import KE.KSuper
import PyProof.ReprLen
import HandS.Style
import HandS.Star
import HandS.Strs
import HandS.DictComp
import HandS.TupMul
import HandS.SetFor
import HandS.TryOnly
import HandS.HeadWalk
import KE.KExcSuper
import HandS.CallSlots
import KE.KExcIs
import HandS.ExcField
import HandS.HotCalls
import HandS.EndTab
import HandS.NestedK
import KE.DataFind
import HandS.TryMany
import HandS.GenList
import HandS.CallLocal
import PyProof.MaxThree
import PySem.Challenge.RW_whichfirst_k04_site_parts_told
set_option Elab.async false
set_option linter.all false
set_option maxRecDepth 100000
set_option maxHeartbeats 4000000
set_option autoImplicit false
namespace DL
open PySem PySem.Spec PyProof.Rows L2
abbrev Wd := PyData
abbrev Sg := L2.St
abbrev Fg := PySem.W.Frag
inductive Rec where
  | dct (fs : List (Str × Wd))
  | tdc (kvs : List (List Int × Wd))
  | tab (x : Str)
  | exn (c : Str) (fs : List (Str × Wd))
abbrev Sto := List Rec
abbrev oW (l : Nat) : Wd := .dict [(.none, .int l)]
def kW : Key → Wd
  | .inl i => .int i
  | .inr x => .str x
theorem kW_ne {k : Key} : kW k ≠ .none := by cases k <;> intro h <;> cases h
def KnL (K : Fg) (a : Addr) (xs : List V) : Prop := ∃ (its : List Value) (n : Nat), K.lookup a = some { cls := .type "list", data := .seq its.toArray n } ∧ Vals xs its ∧ xs.length ≤ sizeLine
def LsR (K : Fg) (mu : List Addr) (T : Addr → Prop) (H : Hp) (a : Addr) (xs : List V) : Prop := (Rd H a (.lst xs) ∧ a ∉ mu ∧ ¬ T a) ∨ KnL K a xs
def TpR (K : Fg) (mu : List Addr) (T : Addr → Prop) (H : Hp) (a : Addr) (xs : List V) : Prop := ((∃ o : Obj, o.dict = none ∧ H a = some (.frz o (.tup xs))) ∧ a ∉ mu ∧ ¬ T a) ∨ ((∀ H' : Hp, SqT K H' a xs) ∧ ∃ o : Obj, K.lookup a = some o ∧ o.dict = none)
def DcR (mu : List Addr) (T : Addr → Prop) (H : Hp) (a : Addr) (kvs : List (Key × V)) : Prop := H a = some (.dK kvs) ∧ a ∉ mu ∧ ¬ T a
theorem LsR.sq {K : Fg} {mu T H a xs} (h : LsR K mu T H a xs) : SqL K H a xs := by
  rcases h with ⟨h, _⟩ | ⟨its, n, h, r, z⟩
  · exact .inl h
  · exact .inr ⟨_, its.toArray, n, h, rfl, rfl, rfl, by rw [List.size_toArray, ← r.length]; exact z, r⟩
theorem TpR.sq {K : Fg} {mu T H a xs} (h : TpR K mu T H a xs) : SqT K H a xs := by
  rcases h with ⟨⟨o, _, h⟩, _⟩ | h
  · exact .inl (.inr ⟨o, h⟩)
  · exact h.1 H
mutual
inductive Rp (K : Fg) (mu : List Addr) (T : Addr → Prop) (H : Hp) : V → Wd → Prop
  | non : Rp K mu T H .non .none
  | bl (b : Bool) : Rp K mu T H (.bl b) (.bool b)
  | int (i : Int) : Rp K mu T H (.int i) (.int i)
  | str (x : Str) : Rp K mu T H (.str x) (.str x)
  | lst {a : Addr} {xs : List V} {ds : List Wd} : LsR K mu T H a xs → RpAll K mu T H xs ds → Rp K mu T H (.ref a) (.list ds)
  | tup {a : Addr} {xs : List V} {ds : List Wd} : TpR K mu T H a xs → RpAll K mu T H xs ds → Rp K mu T H (.ref a) (.tuple ds)
  | dct {a : Addr} {kvs : List (Key × V)} {ds : List (Wd × Wd)} : DcR mu T H a kvs → RpKv K mu T H kvs ds → Rp K mu T H (.ref a) (.dict ds)
  | obj {a : Addr} {l : Nat} : mu[l]? = some a → Rp K mu T H (.ref a) (oW l)
inductive RpAll (K : Fg) (mu : List Addr) (T : Addr → Prop) (H : Hp) : List V → List Wd → Prop
  | nil : RpAll K mu T H [] []
  | cons {v : V} {vs : List V} {d : Wd} {ds : List Wd} : Rp K mu T H v d → RpAll K mu T H vs ds → RpAll K mu T H (v :: vs) (d :: ds)
inductive RpKv (K : Fg) (mu : List Addr) (T : Addr → Prop) (H : Hp) : List (Key × V) → List (Wd × Wd) → Prop
  | nil : RpKv K mu T H [] []
  | cons {k : Key} {v : V} {r : List (Key × V)} {d : Wd} {ds : List (Wd × Wd)} : Rp K mu T H v d → RpKv K mu T H r ds → RpKv K mu T H ((k, v) :: r) ((kW k, d) :: ds)
end
section
variable {K : Fg} {mu mu' : List Addr} {T T' : Addr → Prop} {H H' : Hp}
mutual
theorem Rp.map (hL : ∀ a xs, LsR K mu T H a xs → LsR K mu' T' H' a xs) (hT : ∀ a xs, TpR K mu T H a xs → TpR K mu' T' H' a xs) (hD : ∀ a xs, DcR mu T H a xs → DcR mu' T' H' a xs)
    (hO : ∀ (l : Nat) (a : Addr), mu[l]? = some a → mu'[l]? = some a) : ∀ (w : Wd) (v : V), Rp K mu T H v w → Rp K mu' T' H' v w
  | .none, _, h => by cases h; exact .non
  | .bool b, _, h => by cases h; exact .bl b
  | .int i, _, h => by cases h; exact .int i
  | .str x, _, h => by cases h; exact .str x
  | .list ds, _, h => by
    cases h with
    | lst a b => exact .lst (hL _ _ a) (RpAll.map hL hT hD hO ds _ b)
  | .tuple ds, _, h => by
    cases h with
    | tup a b => exact .tup (hT _ _ a) (RpAll.map hL hT hD hO ds _ b)
  | .dict ds, _, h => by
    cases h with
    | dct a b => exact .dct (hD _ _ a) (RpKv.map hL hT hD hO ds _ b)
    | obj e => exact .obj (hO _ _ e)
theorem RpAll.map (hL : ∀ a xs, LsR K mu T H a xs → LsR K mu' T' H' a xs) (hT : ∀ a xs, TpR K mu T H a xs → TpR K mu' T' H' a xs) (hD : ∀ a xs, DcR mu T H a xs → DcR mu' T' H' a xs)
    (hO : ∀ (l : Nat) (a : Addr), mu[l]? = some a → mu'[l]? = some a) : ∀ (ws : List Wd) (vs : List V), RpAll K mu T H vs ws → RpAll K mu' T' H' vs ws
  | [], _, h => by cases h; exact .nil
  | d :: ds, _, h => by
    cases h with
    | cons a b => exact .cons (Rp.map hL hT hD hO d _ a) (RpAll.map hL hT hD hO ds _ b)
theorem RpKv.map (hL : ∀ a xs, LsR K mu T H a xs → LsR K mu' T' H' a xs) (hT : ∀ a xs, TpR K mu T H a xs → TpR K mu' T' H' a xs) (hD : ∀ a xs, DcR mu T H a xs → DcR mu' T' H' a xs)
    (hO : ∀ (l : Nat) (a : Addr), mu[l]? = some a → mu'[l]? = some a) : ∀ (ws : List (Wd × Wd)) (vs : List (Key × V)), RpKv K mu T H vs ws → RpKv K mu' T' H' vs ws
  | [], _, h => by cases h; exact .nil
  | (_, d) :: ds, _, h => by
    cases h with
    | cons a b => exact .cons (Rp.map hL hT hD hO d _ a) (RpKv.map hL hT hD hO ds _ b)
end
end
structure Ext (mu mu' : List Addr) (H H' : Hp) : Prop where
  pre : ∀ (l : Nat) (a : Addr), mu[l]? = some a → mu'[l]? = some a
  keep : ∀ a o, H a = some o → a ∉ mu → H' a = some o
  new : ∀ a, a ∈ mu' → a ∉ mu → H a = none
theorem Ext.refl (mu : List Addr) (H : Hp) : Ext mu mu H H := ⟨fun _ _ h => h, fun _ _ h _ => h, fun _ h n => absurd h n⟩
theorem Ext.same {mu : List Addr} {H H' : Hp} (h : Same H H') : Ext mu mu H H' := ⟨fun _ _ h => h, fun a o e _ => h a o e, fun _ h n => absurd h n⟩
theorem Ext.notin {mu mu' : List Addr} {H H' : Hp} (e : Ext mu mu' H H') {a : Addr} {o : HO} (h : H a = some o) (n : a ∉ mu) : a ∉ mu' := fun q => by
  have z := e.new a q n
  rw [h] at z
  cases z
theorem Ext.sub {mu mu' : List Addr} {H H' : Hp} (e : Ext mu mu' H H') {a : Addr} (h : a ∈ mu) : a ∈ mu' := by
  obtain ⟨l, hl, q⟩ := List.getElem_of_mem h
  have := e.pre l a (by rw [List.getElem?_eq_getElem hl, q])
  exact List.mem_of_getElem? this
theorem Ext.trans {m m1 m2 : List Addr} {H H1 H2 : Hp} (a : Ext m m1 H H1) (b : Ext m1 m2 H1 H2) : Ext m m2 H H2 :=
  ⟨fun l x h => b.pre l x (a.pre l x h), fun x o h n => b.keep x o (a.keep x o h n) (a.notin h n), fun x h n => by
    by_cases q : x ∈ m1
    · exact a.new x q n
    · have z := b.new x h q
      cases e : H x with
      | none => rfl
      | some o =>
        rw [a.keep x o e n] at z
        cases z⟩
section
variable {K : Fg} {mu mu' : List Addr} {T T' : Addr → Prop} {H H' : Hp} {v : V} {w : Wd} {vs : List V} {ws : List Wd} {kvs : List (Key × V)} {kws : List (Wd × Wd)}
theorem Rd.keep {a : Addr} {u : HO} (h : Rd H a u) (n : a ∉ mu) (e : Ext mu mu' H H') : Rd H' a u ∧ a ∉ mu' := by
  rcases h with h | ⟨o, h⟩
  · exact ⟨.inl (e.keep _ _ h n), e.notin h n⟩
  · exact ⟨.inr ⟨o, e.keep _ _ h n⟩, e.notin h n⟩
theorem LsR.ext {a : Addr} {xs : List V} (h : LsR K mu T H a xs) (e : Ext mu mu' H H') : LsR K mu' T H' a xs := h.imp (fun h => ⟨(Rd.keep h.1 h.2.1 e).1, (Rd.keep h.1 h.2.1 e).2, h.2.2⟩) id
theorem TpR.ext {a : Addr} {xs : List V} (h : TpR K mu T H a xs) (e : Ext mu mu' H H') : TpR K mu' T H' a xs := by
  rcases h with ⟨⟨o, d, h⟩, n, t⟩ | h
  · exact .inl ⟨⟨o, d, e.keep _ _ h n⟩, e.notin h n, t⟩
  · exact .inr h
theorem DcR.ext {a : Addr} {xs : List (Key × V)} (h : DcR mu T H a xs) (e : Ext mu mu' H H') : DcR mu' T H' a xs := ⟨e.keep _ _ h.1 h.2.1, e.notin h.1 h.2.1, h.2.2⟩
theorem Rp.ext (h : Rp K mu T H v w) (e : Ext mu mu' H H') : Rp K mu' T H' v w := Rp.map (fun _ _ q => q.ext e) (fun _ _ q => q.ext e) (fun _ _ q => q.ext e) e.pre _ _ h
theorem RpAll.ext (h : RpAll K mu T H vs ws) (e : Ext mu mu' H H') : RpAll K mu' T H' vs ws := RpAll.map (fun _ _ q => q.ext e) (fun _ _ q => q.ext e) (fun _ _ q => q.ext e) e.pre _ _ h
theorem RpKv.ext (h : RpKv K mu T H kvs kws) (e : Ext mu mu' H H') : RpKv K mu' T H' kvs kws := RpKv.map (fun _ _ q => q.ext e) (fun _ _ q => q.ext e) (fun _ _ q => q.ext e) e.pre _ _ h
theorem Rp.same (h : Rp K mu T H v w) (e : Same H H') : Rp K mu T H' v w := h.ext (.same e)
theorem RpAll.same (h : RpAll K mu T H vs ws) (e : Same H H') : RpAll K mu T H' vs ws := h.ext (.same e)
theorem RpKv.same (h : RpKv K mu T H kvs kws) (e : Same H H') : RpKv K mu T H' kvs kws := h.ext (.same e)
theorem Rp.weak (h : Rp K mu T H v w) (t : ∀ a, T' a → T a) : Rp K mu T' H v w :=
  Rp.map (fun _ _ q => q.imp (fun ⟨x, y, z⟩ => ⟨x, y, fun p => z (t _ p)⟩) id) (fun _ _ q => q.imp (fun ⟨x, y, z⟩ => ⟨x, y, fun p => z (t _ p)⟩) id) (fun _ _ q => ⟨q.1, q.2.1, fun p => q.2.2 (t _ p)⟩) (fun _ _ q => q) _ _ h
theorem RpAll.weak (h : RpAll K mu T H vs ws) (t : ∀ a, T' a → T a) : RpAll K mu T' H vs ws :=
  RpAll.map (fun _ _ q => q.imp (fun ⟨x, y, z⟩ => ⟨x, y, fun p => z (t _ p)⟩) id) (fun _ _ q => q.imp (fun ⟨x, y, z⟩ => ⟨x, y, fun p => z (t _ p)⟩) id) (fun _ _ q => ⟨q.1, q.2.1, fun p => q.2.2 (t _ p)⟩) (fun _ _ q => q) _ _ h
theorem Rp.banT (h : Rp K mu T H v w) (t : ∀ a, T' a → T a ∨ ∃ ps, H a = some (.tbl ps)) : Rp K mu T' H v w :=
  Rp.map (fun a _ q => q.imp (fun ⟨x, y, z⟩ => ⟨x, y, fun p => (t _ p).elim z fun ⟨ps, e⟩ => by rcases x with x | ⟨_, x⟩ <;> rw [e] at x <;> cases x⟩) id) (fun a _ q => q.imp (fun ⟨x, y, z⟩ => ⟨x, y, fun p => (t _ p).elim z fun ⟨ps, e⟩ => by obtain ⟨_, _, x⟩ := x; rw [e] at x; cases x⟩) id)
    (fun a _ q => ⟨q.1, q.2.1, fun p => (t _ p).elim q.2.2 fun ⟨ps, e⟩ => by have x := q.1; rw [e] at x; cases x⟩) (fun _ _ q => q) _ _ h
theorem Rd.some_of {a : Addr} {u : HO} (h : Rd H a u) : H a ≠ none := by
  rcases h with h | ⟨o, h⟩ <;> rw [h] <;> exact fun z => nomatch z
theorem Rp.ban {p : Addr} (h : Rp K mu T H v w) (n : H p = none) : Rp K mu (fun a => T a ∨ a = p) H v w :=
  Rp.map (fun _ _ q => q.imp (fun ⟨x, y, z⟩ => ⟨x, y, fun r => r.elim z fun e => Rd.some_of x (e ▸ n)⟩) id) (fun _ _ q => q.imp (fun ⟨x, y, z⟩ => ⟨x, y, fun r => r.elim z fun e => by obtain ⟨_, _, x⟩ := x; subst e; rw [x] at n; cases n⟩) id)
    (fun _ _ q => ⟨q.1, q.2.1, fun r => r.elim q.2.2 fun e => by subst e; rw [q.1] at n; cases n⟩) (fun _ _ q => q) _ _ h
theorem RpAll.ban {p : Addr} (h : RpAll K mu T H vs ws) (n : H p = none) : RpAll K mu (fun a => T a ∨ a = p) H vs ws :=
  RpAll.map (fun _ _ q => q.imp (fun ⟨x, y, z⟩ => ⟨x, y, fun r => r.elim z fun e => Rd.some_of x (e ▸ n)⟩) id) (fun _ _ q => q.imp (fun ⟨x, y, z⟩ => ⟨x, y, fun r => r.elim z fun e => by obtain ⟨_, _, x⟩ := x; subst e; rw [x] at n; cases n⟩) id)
    (fun _ _ q => ⟨q.1, q.2.1, fun r => r.elim q.2.2 fun e => by subst e; rw [q.1] at n; cases n⟩) (fun _ _ q => q) _ _ h
theorem Rp.at_ban {p : Addr} {o : HO} (h : Rp K mu T H v w) (b : T p) : Rp K mu T (upd H p o) v w := by
  have rd : ∀ {a : Addr} {u : HO}, Rd H a u → ¬ T a → Rd (upd H p o) a u := fun {a u} r t => by
    have ne : a ≠ p := fun e => t (e ▸ b)
    rcases r with r | ⟨q, r⟩
    · exact .inl (by rw [upd_ne ne]; exact r)
    · exact .inr ⟨q, by rw [upd_ne ne]; exact r⟩
  exact Rp.map (fun _ _ q => q.imp (fun ⟨x, y, z⟩ => ⟨rd x z, y, z⟩) id) (fun a _ q => q.imp (fun ⟨⟨o', d, x⟩, y, z⟩ => ⟨⟨o', d, by rw [upd_ne (show a ≠ p from fun e => z (e ▸ b))]; exact x⟩, y, z⟩) id)
    (fun a _ q => ⟨by rw [upd_ne (show a ≠ p from fun e => q.2.2 (e ▸ b))]; exact q.1, q.2.1, q.2.2⟩) (fun _ _ q => q) _ _ h
theorem RpAll.at_ban {p : Addr} {o : HO} (h : RpAll K mu T H vs ws) (b : T p) : RpAll K mu T (upd H p o) vs ws := by
  have rd : ∀ {a : Addr} {u : HO}, Rd H a u → ¬ T a → Rd (upd H p o) a u := fun {a u} r t => by
    have ne : a ≠ p := fun e => t (e ▸ b)
    rcases r with r | ⟨q, r⟩
    · exact .inl (by rw [upd_ne ne]; exact r)
    · exact .inr ⟨q, by rw [upd_ne ne]; exact r⟩
  exact RpAll.map (fun _ _ q => q.imp (fun ⟨x, y, z⟩ => ⟨rd x z, y, z⟩) id) (fun a _ q => q.imp (fun ⟨⟨o', d, x⟩, y, z⟩ => ⟨⟨o', d, by rw [upd_ne (show a ≠ p from fun e => z (e ▸ b))]; exact x⟩, y, z⟩) id)
    (fun a _ q => ⟨by rw [upd_ne (show a ≠ p from fun e => q.2.2 (e ▸ b))]; exact q.1, q.2.1, q.2.2⟩) (fun _ _ q => q) _ _ h
theorem RpAll.length : ∀ {vs : List V} {ws : List Wd}, RpAll K mu T H vs ws → vs.length = ws.length
  | [], [], _ => rfl
  | _ :: vs, _ :: ws, h => by
    cases h with
    | cons a b => rw [List.length_cons, List.length_cons, RpAll.length b]
theorem RpAll.get : ∀ {vs : List V} {ws : List Wd} {i : Nat} {x : Wd}, RpAll K mu T H vs ws → ws[i]? = some x → ∃ v, vs[i]? = some v ∧ Rp K mu T H v x
  | [], [], i, x, _, e => by simp at e
  | v :: vs, w :: ws, 0, x, h, e => by
    cases h with
    | cons a b =>
      rw [List.getElem?_cons_zero] at e
      cases e
      exact ⟨v, rfl, a⟩
  | v :: vs, w :: ws, i + 1, x, h, e => by
    cases h with
    | cons a b =>
      rw [List.getElem?_cons_succ] at e
      rw [List.getElem?_cons_succ]
      exact RpAll.get b e
theorem RpAll.getV : ∀ {vs : List V} {ws : List Wd} {i : Nat} {v : V}, RpAll K mu T H vs ws → vs[i]? = some v → ∃ x, ws[i]? = some x ∧ Rp K mu T H v x
  | [], [], i, x, _, e => by simp at e
  | v :: vs, w :: ws, 0, x, h, e => by
    cases h with
    | cons a b =>
      rw [List.getElem?_cons_zero] at e
      cases e
      exact ⟨w, rfl, a⟩
  | v :: vs, w :: ws, i + 1, x, h, e => by
    cases h with
    | cons a b =>
      rw [List.getElem?_cons_succ] at e
      rw [List.getElem?_cons_succ]
      exact RpAll.getV b e
theorem RpAll.append : ∀ {vs us : List V} {ws xs : List Wd}, RpAll K mu T H vs ws → RpAll K mu T H us xs → RpAll K mu T H (vs ++ us) (ws ++ xs)
  | [], _, [], _, _, h => h
  | v :: vs, _, w :: ws, _, h, h2 => by
    cases h with
    | cons a b => exact .cons a (RpAll.append b h2)
theorem RpAll.take : ∀ (n : Nat) {vs : List V} {ws : List Wd}, RpAll K mu T H vs ws → RpAll K mu T H (vs.take n) (ws.take n)
  | 0, _, _, _ => by rw [List.take_zero, List.take_zero]; exact .nil
  | n + 1, [], [], _ => .nil
  | n + 1, v :: vs, w :: ws, h => by
    cases h with
    | cons a b => exact .cons a (RpAll.take n b)
theorem RpAll.drop : ∀ (n : Nat) {vs : List V} {ws : List Wd}, RpAll K mu T H vs ws → RpAll K mu T H (vs.drop n) (ws.drop n)
  | 0, _, _, h => h
  | n + 1, [], [], _ => .nil
  | n + 1, v :: vs, w :: ws, h => by
    cases h with
    | cons a b => exact RpAll.drop n b
end
def FsR (K : Fg) (mu : List Addr) (T : Addr → Prop) (H : Hp) : List (Key × V) → List (Str × Wd) → Prop
  | [], [] => True
  | (k, v) :: r, (x, d) :: ds => k = Sum.inr x ∧ Rp K mu T H v d ∧ FsR K mu T H r ds
  | _, _ => False
def mdO (a : Addr) (ents : List (List Int × Addr × Value)) : HO := .ext fun h => (a == sysModules) = false ∧ ents.length ≤ sizeLine ∧ (ents.map (·.1)).Nodup ∧
  ∃ o es ep, h.get? a = some o ∧ o.ExactDict ∧ o.data = .dict es ep ∧ ∀ (P : Program) (w : World), es.toList = ents.map fun x => entryOfKey (tupleKind (mixKind P w)) (x.1.map Sum.inl, x.2)
def TdR (K : Fg) (mu : List Addr) (T : Addr → Prop) (H : Hp) : List (List Int × Wd) → List (List Int × Addr × Value) → Prop
  | [], [] => True
  | (k, d) :: r, (k', b, u) :: es => k = k' ∧ Rp K mu T H (.ref b) (.tuple (k.map .int)) ∧ (∃ v, RelV v u ∧ Rp K mu T H v d) ∧ TdR K mu T H r es
  | _, _ => False
def TabR (K : Fg) (mu : List Addr) (H : Hp) (a : Addr) (x : Str) : Prop := a = He.tabOf K (He.codeOf K (x, none)) ∧ ∃ ps : Array Value, H a = some (.tbl ps) ∧ TriplesOk ps.toList ∧
  ∀ (pos : Pos) (cv : Value), codeAmong pos ps.toList = some cv → ∃ c, cv = .ref c ∧ H c = some (LamX.CodeO c (x ++ ".<locals>." ++ "<lambda>")) ∧ c ∉ mu
def ExnR (K : Fg) (mu : List Addr) (T : Addr → Prop) (H : Hp) (a : Addr) (c : Str) (fs : List (Str × Wd)) : Prop := ∃ oe dx vs fv, H a = some (.frz oe (.ext fun _ => True)) ∧ oe.cls = .ref (He.ga K c) ∧ oe.dict = some dx ∧ oe.data = .fields vs ∧ H dx = some (.xd fv) ∧ dx ∉ mu ∧
  ∀ f w, fs.lookup f = some w → ∃ v, fv.lookup f = some v ∧ Rp K mu T H v w
def RecOk (K : Fg) (mu : List Addr) (T : Addr → Prop) (H : Hp) (a : Addr) : Rec → Prop
  | .dct fs => ∃ kvs, H a = some (.dK kvs) ∧ FsR K mu T H kvs fs
  | .tdc kvs => ∃ ents, H a = some (mdO a ents) ∧ TdR K mu T H kvs ents
  | .tab x => TabR K mu H a x
  | .exn c fs => ExnR K mu T H a c fs
structure StOk (K : Fg) (mu : List Addr) (T : Addr → Prop) (H : Hp) (S : Sto) : Prop where
  len : mu.length = S.length
  nd : mu.Nodup
  ok : ∀ (l : Nat) (a : Addr) (r : Rec), mu[l]? = some a → S[l]? = some r → RecOk K mu T H a r
def Fixd (o : HO) : Prop := (∃ c q, o = LamX.CodeO c q) ∨ ∃ fs, o = .xd fs
def PlH0 (o : Option HO) : Prop := o ≠ none ∧ ∀ u, Fixd u → o ≠ some u
theorem PlH0.of {o : HO} (h1 : ∀ c q, o ≠ LamX.CodeO c q) (h2 : ∀ fs, o ≠ .xd fs) : PlH0 (some o) := ⟨fun z => (nomatch z), fun u f z => by
  cases z
  rcases f with ⟨c, q, e⟩ | ⟨fs, e⟩
  · exact h1 c q e
  · exact h2 fs e⟩
theorem PlH0.lst {xs : List V} : PlH0 (some (.lst xs)) := .of (fun _ _ z => (nomatch z)) (fun _ z => (nomatch z))
theorem PlH0.dK {kvs : List (Key × V)} : PlH0 (some (.dK kvs)) := .of (fun _ _ z => (nomatch z)) (fun _ z => (nomatch z))
theorem PlH0.tbl {ps : Array Value} : PlH0 (some (.tbl ps)) := .of (fun _ _ z => (nomatch z)) (fun _ z => (nomatch z))
theorem PlH0.frz {o : Obj} {u : HO} : PlH0 (some (.frz o u)) := .of (fun _ _ z => (nomatch z)) (fun _ z => (nomatch z))
def PlH (o : Option HO) : Prop := PlH0 o ∧ ∀ ps, o ≠ some (.tbl ps)
theorem PlH.lst {xs : List V} : PlH (some (.lst xs)) := ⟨.lst, fun _ z => (nomatch z)⟩
theorem PlH.dK {kvs : List (Key × V)} : PlH (some (.dK kvs)) := ⟨.dK, fun _ z => (nomatch z)⟩
def manyH (o : Obj) : Nat → Heap
  | 0 => ⟨#[], {}⟩
  | n + 1 => (manyH o n).push o
theorem manyH_size (o : Obj) : ∀ n, (manyH o n).objs.size = n
  | 0 => rfl
  | n + 1 => by
    show ((manyH o n).push o).objs.size = n + 1
    rw [Heap.size_push, manyH_size o n]
theorem manyH_all {o : Obj} (z : o.isFreed = false) : ∀ {n : Nat} {b : Addr} {u : Obj}, (manyH o n).get? b = some u → u = o
  | 0, b, u, h => by
    have := Heap.lt_size h
    rw [manyH_size] at this
    exact absurd this (Nat.not_lt_zero _)
  | n + 1, b, u, h => by
    have h : ((manyH o n).push o).get? b = some u := h
    by_cases c : b = (manyH o n).objs.size
    · subst c
      rw [Heap.get?_push_size _ z] at h
      exact (Option.some.inj h).symm
    · rw [Heap.get?_push_ne _ _ _ c] at h
      exact manyH_all z h
theorem manyH_get {o : Obj} (z : o.isFreed = false) (n : Nat) : (manyH o (n + 1)).get? n = some o := by
  have := Heap.get?_push_size (manyH o n) z
  rw [manyH_size] at this
  exact this
theorem mdO_ne {a : Addr} {ents : List (List Int × Addr × Value)} (c : Addr) (q : Str) : mdO a ents ≠ LamX.CodeO c q := fun z => by
  unfold mdO LamX.CodeO at z
  have e := HO.ext.inj z
  have h := congrFun e (manyH { cls := .none, data := .fields #[.none, .str q 0] } (c + 1))
  have r : ∃ (oc : Obj) (vs : Array Value) (t : Tok), (manyH { cls := .none, data := .fields #[.none, .str q 0] } (c + 1)).get? c = some oc ∧ oc.data = .fields vs ∧ vs[1]? = some (.str q t) := ⟨_, _, _, manyH_get rfl c, rfl, rfl⟩
  rw [← h] at r
  obtain ⟨_, _, _, o, es, ep, h1, _, h2, _⟩ := r
  rw [manyH_all rfl h1] at h2
  cases h2
theorem PlH0.mdo {a : Addr} {ents : List (List Int × Addr × Value)} : PlH0 (some (mdO a ents)) := .of (fun c q => mdO_ne c q) (fun _ z => by unfold mdO at z; cases z)
def Bn (mu : List Addr) (T : Addr → Prop) (H : Hp) : Prop := ∀ a, T a → PlH (H a) ∧ a ∉ mu
section
variable {K : Fg} {mu mu' : List Addr} {T T' : Addr → Prop} {H H' : Hp} {S S' : Sto}
theorem StOk.tracked (h : StOk K mu T H S) {a : Addr} (q : a ∈ mu) : ∃ o, H a = some o := by
  obtain ⟨l, hl, e⟩ := List.getElem_of_mem q
  have h2 : l < S.length := by rw [← h.len]; exact hl
  have z := h.ok l a S[l] (by rw [List.getElem?_eq_getElem hl, e]) (List.getElem?_eq_getElem h2)
  cases r : S[l] with
  | dct fs =>
    rw [r] at z
    obtain ⟨kvs, z, _⟩ := z
    exact ⟨_, z⟩
  | tdc kvs =>
    rw [r] at z
    obtain ⟨ents, z, _⟩ := z
    exact ⟨_, z⟩
  | tab x =>
    rw [r] at z
    obtain ⟨_, ps, z, _⟩ := z
    exact ⟨_, z⟩
  | exn c fs =>
    rw [r] at z
    obtain ⟨_, _, _, _, z, _⟩ := z
    exact ⟨_, z⟩
theorem StOk.pl (h : StOk K mu T H S) {a : Addr} (q : a ∈ mu) : PlH0 (H a) := by
  obtain ⟨l, hl, e⟩ := List.getElem_of_mem q
  have h2 : l < S.length := by rw [← h.len]; exact hl
  have z := h.ok l a S[l] (by rw [List.getElem?_eq_getElem hl, e]) (List.getElem?_eq_getElem h2)
  cases r : S[l] with
  | dct fs =>
    rw [r] at z
    obtain ⟨kvs, z, _⟩ := z
    rw [z]
    exact .dK
  | tdc kvs =>
    rw [r] at z
    obtain ⟨ents, z, _⟩ := z
    rw [z]
    exact .mdo
  | tab x =>
    rw [r] at z
    obtain ⟨_, ps, z, _⟩ := z
    rw [z]
    exact .tbl
  | exn c fs =>
    rw [r] at z
    obtain ⟨_, _, _, _, z, _⟩ := z
    rw [z]
    exact .frz
theorem StOk.fresh (h : StOk K mu T H S) {p : Addr} (n : H p = none) : p ∉ mu := fun q => by
  obtain ⟨kvs, e⟩ := h.tracked q
  rw [e] at n
  cases n
theorem Bn.fresh (h : Bn mu T H) {p : Addr} (n : H p = none) : ¬ T p := fun q => (h p q).1.1.1 n
theorem Bn.ext (h : Bn mu T H) (e : Ext mu mu' H H') : Bn mu' T H' := fun a t => by
  obtain ⟨h1, h2⟩ := h a t
  cases q : H a with
  | none => exact absurd q h1.1.1
  | some o =>
    refine ⟨?_, e.notin q h2⟩
    rw [e.keep a o q h2, ← q]
    exact h1
theorem FsR.map (f : ∀ v w, Rp K mu T H v w → Rp K mu' T' H' v w) : ∀ {kvs : List (Key × V)} {fs : List (Str × Wd)}, FsR K mu T H kvs fs → FsR K mu' T' H' kvs fs
  | [], [], _ => trivial
  | (k, v) :: r, (x, d) :: ds, h => ⟨h.1, f _ _ h.2.1, FsR.map f h.2.2⟩
  | [], _ :: _, h => h.elim
  | _ :: _, [], h => h.elim
theorem TdR.map (f : ∀ v w, Rp K mu T H v w → Rp K mu' T' H' v w) : ∀ {kvs : List (List Int × Wd)} {es : List (List Int × Addr × Value)}, TdR K mu T H kvs es → TdR K mu' T' H' kvs es
  | [], [], _ => trivial
  | (k, d) :: r, (k', b, u) :: es, h => ⟨h.1, f _ _ h.2.1, let ⟨v, a, b⟩ := h.2.2.1; ⟨v, a, f _ _ b⟩, TdR.map f h.2.2.2⟩
  | [], _ :: _, h => h.elim
  | _ :: _, [], h => h.elim
theorem RecOk.map {a : Addr} (e : ∀ o, H a = some o → H' a = some o) (f : ∀ v w, Rp K mu T H v w → Rp K mu' T' H' v w) (g : ∀ b o, Fixd o → H b = some o → b ∉ mu → H' b = some o ∧ b ∉ mu') : ∀ {r : Rec}, RecOk K mu T H a r → RecOk K mu' T' H' a r
  | .tab x, ⟨h0, ps, h, q, z⟩ => ⟨h0, ps, e _ h, q, fun pos cv hc => let ⟨c, h1, h2, h3⟩ := z pos cv hc; ⟨c, h1, (g c _ (.inl ⟨_, _, rfl⟩) h2 h3).1, (g c _ (.inl ⟨_, _, rfl⟩) h2 h3).2⟩⟩
  | .exn c fs, ⟨oe, dx, vs, fv, h1, h2, h3, h4, h5, h6, q⟩ => ⟨oe, dx, vs, fv, e _ h1, h2, h3, h4, (g dx _ (.inr ⟨_, rfl⟩) h5 h6).1, (g dx _ (.inr ⟨_, rfl⟩) h5 h6).2, fun y w z => let ⟨v, p1, p2⟩ := q y w z; ⟨v, p1, f _ _ p2⟩⟩
  | .dct fs, ⟨kvs, h, q⟩ => ⟨kvs, e _ h, FsR.map f q⟩
  | .tdc fs, ⟨es, h, q⟩ => ⟨es, e _ h, TdR.map f q⟩
theorem StOk.same (h : StOk K mu T H S) (e : Same H H') : StOk K mu T H' S := ⟨h.len, h.nd, fun l a r q1 q2 => RecOk.map (fun _ z => e _ _ z) (fun _ _ z => z.same e) (fun c _ _ z n => ⟨e _ _ z, n⟩) (h.ok l a r q1 q2)⟩
theorem StOk.weak (h : StOk K mu T H S) (t : ∀ a, T' a → T a) : StOk K mu T' H S := ⟨h.len, h.nd, fun l a r q1 q2 => RecOk.map (fun _ z => z) (fun _ _ z => z.weak t) (fun _ _ _ z n => ⟨z, n⟩) (h.ok l a r q1 q2)⟩
theorem StOk.ban {p : Addr} (h : StOk K mu T H S) (n : H p = none) : StOk K mu (fun a => T a ∨ a = p) H S := ⟨h.len, h.nd, fun l a r q1 q2 => RecOk.map (fun _ z => z) (fun _ _ z => z.ban n) (fun _ _ _ z n => ⟨z, n⟩) (h.ok l a r q1 q2)⟩
theorem StOk.at_ban {p : Addr} {o : HO} (h : StOk K mu T H S) (bn : Bn mu T H) (b : T p) : StOk K mu T (upd H p o) S :=
  ⟨h.len, h.nd, fun l a r q1 q2 => RecOk.map (fun _ z => by rw [upd_ne (show a ≠ p from fun e => (bn p b).2 (e ▸ List.mem_of_getElem? q1))]; exact z) (fun _ _ z => z.at_ban b) (fun c o f z n => ⟨by rw [upd_ne (show c ≠ p from fun e => (bn p b).1.1.2 o f (e ▸ z))]; exact z, n⟩) (h.ok l a r q1 q2)⟩
end
theorem same_upd {H : Hp} {p : Addr} {o : HO} (h : H p = none) : Same H (upd H p o) := fun b x e => by
  rw [upd_ne (ne_of_none e h)]
  exact e
inductive Sl where
  | val (w : Wd)
  | own (ws : List Wd)
abbrev Ev := List (Option Sl)
structure Rel (K : Fg) (mu : List Addr) (B O : Addr → Prop) (H : Hp) (σ : Sg) (ρ : Ev) (S : Sto) : Prop where
  len : σ.length = ρ.length
  val : ∀ (i : Nat) (w : Wd), ρ[i]? = some (some (.val w)) → ∃ v, σ[i]? = some (some v) ∧ Rp K mu (fun a => B a ∨ O a) H v w
  own : ∀ (i : Nat) (ws : List Wd), ρ[i]? = some (some (.own ws)) → ∃ a xs, σ[i]? = some (some (V.ref a)) ∧ O a ∧ ¬ B a ∧ H a = some (.lst xs) ∧ RpAll K mu (fun a => B a ∨ O a) H xs ws
  dif : ∀ (i j : Nat) (ws ws' : List Wd) (a : Addr), ρ[i]? = some (some (.own ws)) → ρ[j]? = some (some (.own ws')) → σ[i]? = some (some (V.ref a)) → σ[j]? = some (some (V.ref a)) → i = j
  sto : StOk K mu (fun a => B a ∨ O a) H S
  bn : Bn mu (fun a => B a ∨ O a) H
theorem Rel.ext {K : Fg} {mu mu' : List Addr} {B O : Addr → Prop} {H H' : Hp} {σ : Sg} {ρ : Ev} {S S' : Sto} (h : Rel K mu B O H σ ρ S) (e : Ext mu mu' H H') (s : StOk K mu' (fun a => B a ∨ O a) H' S') : Rel K mu' B O H' σ ρ S' :=
  ⟨h.len, fun i w q => let ⟨v, a, b⟩ := h.val i w q; ⟨v, a, b.ext e⟩, fun i ws q => let ⟨a, xs, h1, h2, h3, h4, h5⟩ := h.own i ws q; ⟨a, xs, h1, h2, h3, e.keep _ _ h4 (h.bn a (.inr h2)).2, h5.ext e⟩, h.dif, s, h.bn.ext e⟩
inductive R (α : Type) where
  | ok (a : α) (S : Sto)
  | bad
def R.bnd {α β : Type} (x : R α) (k : α → Sto → R β) : R β := match x with
  | .ok a S => k a S
  | .bad => .bad
@[simp] theorem R.bnd_ok {α β : Type} (a : α) (S : Sto) (k : α → Sto → R β) : (R.ok a S).bnd k = k a S := rfl
@[simp] theorem R.bnd_bad {α β : Type} (k : α → Sto → R β) : (R.bad : R α).bnd k = .bad := rfl
theorem R.bnd_inv {α β : Type} {x : R α} {k : α → Sto → R β} {b : β} {S' : Sto} (h : x.bnd k = .ok b S') : ∃ a S, x = .ok a S ∧ k a S = .ok b S' := by
  cases x with
  | ok a S => exact ⟨a, S, rfl, h⟩
  | bad => cases h
def R.of {α : Type} (o : Option α) (S : Sto) : R α := match o with
  | some a => .ok a S
  | none => .bad
@[simp] theorem R.of_some {α : Type} (a : α) (S : Sto) : R.of (some a) S = .ok a S := rfl
@[simp] theorem R.of_none {α : Type} (S : Sto) : R.of (none : Option α) S = .bad := rfl
theorem R.of_inv {α : Type} {o : Option α} {S S' : Sto} {a : α} (h : R.of o S = .ok a S') : o = some a ∧ S = S' := by
  cases o with
  | some b => cases h; exact ⟨rfl, rfl⟩
  | none => cases h
abbrev Mx := Ev → Sto → R Wd
abbrev Mt := Ev → Sto → R Bool
abbrev Ma := Ev → Sto → R (List Wd)
def tD (K : Fg) (f : Mx) : TE := fun σ H Q => ∃ ρ S mu B O, Rel K mu B O H σ ρ S ∧ ∃ w S', f ρ S = .ok w S' ∧ ∀ v H' mu', Ext mu mu' H H' → StOk K mu' (fun a => B a ∨ O a) H' S' → Rp K mu' (fun a => B a ∨ O a) H' v w → Q v H'
def tDt (K : Fg) (f : Mt) : TT := fun σ H Q => ∃ ρ S mu B O, Rel K mu B O H σ ρ S ∧ ∃ w S', f ρ S = .ok w S' ∧ ∀ H' mu', Ext mu mu' H H' → StOk K mu' (fun a => B a ∨ O a) H' S' → Q w H'
def tDa (K : Fg) (f : Ma) : TA := fun σ H Q => ∃ ρ S mu B O, Rel K mu B O H σ ρ S ∧ ∃ ws S', f ρ S = .ok ws S' ∧ ∀ vs H' mu', Ext mu mu' H H' → StOk K mu' (fun a => B a ∨ O a) H' S' → RpAll K mu' (fun a => B a ∨ O a) H' vs ws → Q vs H'
def De (X : Cx) (e : Expr) (f : Mx) : Prop := PE X e (tD X.K f)
def Dt (X : Cx) (e : Expr) (f : Mt) : Prop := PT X e (tDt X.K f)
def Da (X : Cx) (es : List Expr) (f : Ma) : Prop := PA X es (tDa X.K f)
theorem PE.weak {X : Cx} {e : Expr} {t t' : TE} (h : PE X e t) (w : ∀ σ H Q, t' σ H Q → t σ H Q) : PE X e t' := ⟨fun pins s σ H Q I q => h.run pins s σ H Q I (w _ _ _ q)⟩
theorem PT.weak {X : Cx} {e : Expr} {t t' : TT} (h : PT X e t) (w : ∀ σ H Q, t' σ H Q → t σ H Q) : PT X e t' := ⟨fun pins s σ H Q I q => h.run pins s σ H Q I (w _ _ _ q)⟩
theorem PA.weak {X : Cx} {e : List Expr} {t t' : TA} (h : PA X e t) (w : ∀ σ H Q, t' σ H Q → t σ H Q) : PA X e t' := ⟨fun pos pins s σ H Q I q => h.run pos pins s σ H Q I (w _ _ _ q)⟩
def mC (w : Wd) : Mx := fun _ S => .ok w S
def mV (i : Nat) : Mx := fun ρ S => match ρ[i]? with
  | some (some (.val w)) => .ok w S
  | _ => .bad
section
variable {X : Cx}
theorem de_var {i : Nat} {x : Str} {pos : Pos} (hN : X.N[i]? = some x) (hv : Vis X.env.scope x) (hd : (x == ("__debug__" : Str)) = false := by decide) (hcd : (x == ("__classdict__" : Str)) = false := by decide) : De X (.Name x pos) (mV i) := by
  refine PE.weak (pe_var hN hv hd hcd) fun σ H Q ⟨ρ, S, mu, B, O, r, w, S', e, q⟩ => ?_
  unfold mV at e
  split at e
  · rename_i w' h
    cases e
    obtain ⟨v, h1, h2⟩ := r.val i w h
    exact ⟨v, h1, q v H mu (.refl _ _) r.sto h2⟩
  · cases e
theorem de_c {e : Expr} {v : V} {w : Wd} (h : PE X e (tC v)) (r : ∀ mu T H, Rp X.K mu T H v w) : De X e (mC w) :=
  PE.weak h fun σ H Q ⟨ρ, S, mu, B, O, rl, w', S', e, q⟩ => by
    cases e
    exact q v H mu (.refl _ _) rl.sto (r _ _ _)
theorem de_int {i j pos} : De X (.Constant (.int i) j pos) (mC (.int i)) := de_c pe_int fun _ _ _ => .int i
theorem de_str {i j pos} : De X (.Constant (.str i) j pos) (mC (.str i)) := de_c pe_str fun _ _ _ => .str i
theorem de_bl {i j pos} : De X (.Constant (.bool i) j pos) (mC (.bool i)) := de_c pe_bl fun _ _ _ => .bl i
theorem de_non {j pos} : De X (.Constant .none j pos) (mC .none) := de_c pe_non fun _ _ _ => .non
end
def OpD (X : Cx) (f : Value → Value → Sem Value) (g : Wd → Wd → Option Wd) : Prop :=
  ∀ (pins : List (Addr × Obj)) (s : Shared) (σ : Sg) (H : Hp) (x y : V) (v u : Value) (Q : VK) (mu : List Addr) (T : Addr → Prop) (S : Sto) (dx dy w : Wd), Inv X pins σ H s → RelV x v → RelV y u →
    StOk X.K mu T H S → Bn mu T H → Rp X.K mu T H x dx → Rp X.K mu T H y dy → g dx dy = some w → (∀ v H', Same H H' → Rp X.K mu T H' v w → Q v H') →
    wpAny (model X.prog X.w) X.A (f v u) (EP X pins σ Q) X.xe s
theorem OpD.of {X : Cx} {f : Value → Value → Sem Value} {r : R2} {g : Wd → Wd → Option Wd} (h : OpR X f r)
    (k : ∀ (H : Hp) (x y : V) (Q : VK) (mu : List Addr) (T : Addr → Prop) (S : Sto) (dx dy w : Wd), StOk X.K mu T H S → Bn mu T H → Rp X.K mu T H x dx → Rp X.K mu T H y dy → g dx dy = some w → (∀ v H', Same H H' → Rp X.K mu T H' v w → Q v H') → r x y H Q) : OpD X f g :=
  fun pins s σ H x y v u Q mu T S dx dy w I rx ry st bn r1 r2 e q => h pins s σ H x y v u Q I rx ry (k H x y Q mu T S dx dy w st bn r1 r2 e q)
def mBin (g : Wd → Wd → Option Wd) (fa fb : Mx) : Mx := fun ρ S => (fa ρ S).bnd fun x S1 => (fb ρ S1).bnd fun y S2 => R.of (g x y) S2
section
variable {X : Cx} {a b : Expr} {fa fb : Mx} {g : Wd → Wd → Option Wd} {pos : Pos}
theorem bin_run (ha : De X a fa) (hb : De X b fb) {f : Value → Value → Sem Value} (ho : OpD X f g) {pins : List (Addr × Obj)} {s : Shared} {σ : Sg} {H : Hp} {Q : VK} (I : Inv X pins σ H s) (h : tD X.K (mBin g fa fb) σ H Q) :
    wpAny (model X.prog X.w) X.A (eval a X.env) (fun v s₁ => wpAny (model X.prog X.w) X.A (eval b X.env) (fun u s₂ => wpAny (model X.prog X.w) X.A (f v u) (EP X pins σ Q) X.xe s₂) X.xe s₁) X.xe s := by
  obtain ⟨ρ, S, mu, B, O, rl, w, S', e, q⟩ := h
  obtain ⟨x, S1, e1, e⟩ := R.bnd_inv e
  obtain ⟨y, S2, e2, e⟩ := R.bnd_inv e
  obtain ⟨e3, rfl⟩ := R.of_inv e
  refine thn (ha.run pins s σ H (fun x' H1 => ∃ mu1, Ext mu mu1 H H1 ∧ StOk X.K mu1 (fun a => B a ∨ O a) H1 S1 ∧ Rp X.K mu1 (fun a => B a ∨ O a) H1 x' x) I ⟨ρ, S, mu, B, O, rl, x, S1, e1, fun v H' mu' h1 h2 h3 => ⟨mu', h1, h2, h3⟩⟩) fun v s1 ⟨x', H1, I1, r1, mu1, E1, st1, p1⟩ => ?_
  have rl1 := rl.ext E1 st1
  refine thn (hb.run pins s1 σ H1 (fun y' H2 => ∃ mu2, Ext mu1 mu2 H1 H2 ∧ StOk X.K mu2 (fun a => B a ∨ O a) H2 S2 ∧ Rp X.K mu2 (fun a => B a ∨ O a) H2 y' y) I1 ⟨ρ, S1, mu1, B, O, rl1, y, S2, e2, fun v H' mu' h1 h2 h3 => ⟨mu', h1, h2, h3⟩⟩) fun u s2 ⟨y', H2, I2, r2, mu2, E2, st2, p2⟩ => ?_
  refine ho pins s2 σ H2 x' y' v u Q mu2 _ S2 x y w I2 r1 r2 st2 ((rl1.bn).ext E2) (p1.ext E2) p2 e3 fun z H3 sm rz => ?_
  exact q z H3 mu2 ((E1.trans E2).trans (.same sm)) (st2.same sm) rz
theorem de_op {op : Operator} (ho : OpD X (binaryOp op) g) (ha : De X a fa) (hb : De X b fb) : De X (.BinOp a op b pos) (mBin g fa fb) := ⟨fun pins s σ H Q I h => wpAny_BinOp (bin_run ha hb ho I h)⟩
theorem de_cmp {op : CmpOp} (ho : OpD X (compareOp op) g) (ha : De X a fa) (hb : De X b fb) (hm : behindInMarks op b = false) : De X (.Compare a [op] [b] pos) (mBin g fa fb) := ⟨fun pins s σ H Q I h => wpAny_Compare1 (bin_run ha hb ho I h) hm⟩
end
end DL
namespace DL
open PySem PySem.Spec PyProof.Rows L2
section
variable {K : Fg} {mu : List Addr} {T : Addr → Prop} {H : Hp} {S : Sto} {xs : List V} {ws : List Wd} {p : Addr} {kvs : List (Key × V)} {kws : List (Wd × Wd)}
theorem new_lst (st : StOk K mu T H S) (bn : Bn mu T H) (r : RpAll K mu T H xs ws) (n : H p = none) : Rp K mu T (upd H p (.lst xs)) (.ref p) (.list ws) :=
  .lst (.inl ⟨.inl upd_same, st.fresh n, bn.fresh n⟩) (r.same (same_upd n))
theorem new_tup {o : Obj} (st : StOk K mu T H S) (bn : Bn mu T H) (r : RpAll K mu T H xs ws) (n : H p = none) (d : o.dict = none) : Rp K mu T (upd H p (.frz o (.tup xs))) (.ref p) (.tuple ws) :=
  .tup (.inl ⟨⟨o, d, upd_same⟩, st.fresh n, bn.fresh n⟩) (r.same (same_upd n))
theorem new_dct (st : StOk K mu T H S) (bn : Bn mu T H) (r : RpKv K mu T H kvs kws) (n : H p = none) : Rp K mu T (upd H p (.dK kvs)) (.ref p) (.dict kws) :=
  .dct ⟨upd_same, st.fresh n, bn.fresh n⟩ (r.same (same_upd n))
mutual
theorem Rp.dp : ∀ (w : Wd) (v : V), Rp K mu T H v w → w.canLay0 = true → Dp K H v w
  | .none, _, h, _ => by cases h; exact .non
  | .bool b, _, h, _ => by cases h; exact .bl b
  | .int i, _, h, _ => by cases h; exact .int i
  | .str x, _, h, _ => by cases h; exact .str x
  | .list ds, _, h, c => by
    cases h with
    | lst a b => exact .lst a.sq (RpAll.dp ds _ b c)
  | .tuple ds, _, h, c => by
    cases h with
    | tup a b => exact .tup a.sq (RpAll.dp ds _ b c)
  | .dict ds, _, h, c => by cases c
theorem RpAll.dp : ∀ (ws : List Wd) (vs : List V), RpAll K mu T H vs ws → PyData.canLayAll0 ws = true → DpAll K H vs ws
  | [], _, h, _ => by cases h; exact .nil
  | d :: ds, _, h, c => by
    cases h with
    | cons a b =>
      have c' : (PyData.canLay0 d && PyData.canLayAll0 ds) = true := c
      obtain ⟨c1, c2⟩ := Bool.and_eq_true_iff.mp c'
      exact .cons (Rp.dp d _ a c1) (RpAll.dp ds _ b c2)
end
end
def gAdd : Wd → Wd → Option Wd
  | .int i, .int j => some (.int (i + j))
  | .str a, .str b => if a.length + b.length ≤ sizeLine then some (.str (a ++ b)) else none
  | .list a, .list b => if a.length + b.length ≤ sizeLine then some (.list (a ++ b)) else none
  | .tuple a, .tuple b => if a.length + b.length ≤ sizeLine then some (.tuple (a ++ b)) else none
  | _, _ => none
def gSub : Wd → Wd → Option Wd
  | .int i, .int j => some (.int (i - j))
  | _, _ => none
def gMul : Wd → Wd → Option Wd
  | .int i, .int j => if (-(2 ^ 64) < i ∧ i < 2 ^ 64) ∨ (-(2 ^ 64) < j ∧ j < 2 ^ 64) then some (.int (i * j)) else none
  | _, _ => none
def gDiv : Wd → Wd → Option Wd
  | .int i, .int j => if 0 < j ∧ j < 1073741824 then some (.int (i / j)) else none
  | _, _ => none
def gMod : Wd → Wd → Option Wd
  | .int i, .int j => if 0 < j then some (.int (i % j)) else none
  | _, _ => none
def gPow : Wd → Wd → Option Wd
  | .int i, .int j => if 0 ≤ j ∧ j ≤ 1000000 ∧ i.natAbs < 2 ^ 64 then some (.int (i ^ j.toNat)) else none
  | _, _ => none
theorem ite_inv {α : Type} {c : Prop} [Decidable c] {a b : α} (h : (if c then some a else none) = some b) : c ∧ a = b := by
  by_cases q : c
  · rw [if_pos q] at h
    exact ⟨q, Option.some.inj h⟩
  · rw [if_neg q] at h
    cases h
section
variable {X : Cx}
theorem lst_at {pins : List (Addr × Obj)} {s : Shared} {σ : Sg} {H : Hp} {a : Addr} {xs : List V} {mu : List Addr} {T : Addr → Prop} (I : Inv X pins σ H s) (h : LsR X.K mu T H a xs) : ∃ (its : List Value) (n : Nat), Vals xs its ∧ xs.length ≤ sizeLine ∧ s.heap.get? a = some { cls := .type "list", data := .seq its.toArray n } := by
  rcases h with ⟨h, _⟩ | ⟨its, n, h, r, z⟩
  · obtain ⟨z, its, n, r, e⟩ := Rd.ok h I.hok
    exact ⟨its, n, r, z, e⟩
  · exact ⟨its, n, r, z, I.kIn _ _ h⟩
theorem op_catW : OpR X (binaryOp .Add) (fun x y H Q => ∃ l b xs zs, x = .ref l ∧ y = .ref b ∧ (∃ mu T, LsR X.K mu T H l xs) ∧ (∃ mu T, LsR X.K mu T H b zs) ∧ xs.length + zs.length ≤ sizeLine ∧ ∀ p, H p = none → Q (.ref p) (upd H p (.lst (xs ++ zs)))) := by
  intro pins s σ H x y v u Q I rx ry h
  obtain ⟨l, b, xs, zs, rfl, rfl, ⟨_, _, h1⟩, ⟨_, _, h2⟩, hz, q⟩ := h
  cases rx
  cases ry
  obtain ⟨i1, n1, r1, z1, e1⟩ := lst_at I h1
  obtain ⟨i2, n2, r2, z2, e2⟩ := lst_at I h2
  have l1 := r1.length
  have l2 := r2.length
  refine PySem.P.add_list e1 e2 ?_ (by rw [List.size_toArray, List.size_toArray]; omega)
  have ea : i1.toArray ++ i2.toArray = (i1 ++ i2).toArray := by simp
  rw [ea]
  exact ⟨.ref _, _, I.lnew (t' := s.toks) (r1.append r2) (by rw [List.length_append]; omega), rfl, q _ I.fresh⟩
theorem Inv.ftup {pins : List (Addr × Obj)} {s : Shared} {σ : Sg} {H : Hp} {xs : List V} {us : List Value} {t' : Nat} (I : Inv X pins σ H s) (r : Vals xs us) (hz : xs.length ≤ sizeLine) :
    Inv X pins σ (upd H s.heap.objs.size (.frz { cls := .type "tuple", data := .seq us.toArray } (.tup xs))) { s with heap := s.heap.push { cls := .type "tuple", data := .seq us.toArray }, toks := t' } := by
  refine I.laid (fun b o e => Heap.get?_push_of_some _ e) (Nat.le_refl _) ?_
  exact ⟨Heap.get?_push_size _ rfl, hz, us, r, IsTup.new _ _⟩
theorem op_catF : OpR X (binaryOp .Add) (fun x y H Q => ∃ a b xs ys, x = .ref a ∧ y = .ref b ∧ SqT X.K H a xs ∧ SqT X.K H b ys ∧ xs.length + ys.length ≤ sizeLine ∧
    (xs = [] → Q (.ref b) H) ∧ (xs ≠ [] → ys = [] → Q (.ref a) H) ∧ (xs ≠ [] → ys ≠ [] → ∀ (p : Addr) (o : Obj), H p = none → o.dict = none → Q (.ref p) (upd H p (.frz o (.tup (xs ++ ys)))))) := by
  intro pins s σ H x y v u Q I rx ry h
  obtain ⟨a, b, xs, ys, rfl, rfl, ha, hb, hz, q0, q1, q2⟩ := h
  cases rx
  cases ry
  obtain ⟨i1, r1, p1, _⟩ := I.tuple ha
  obtain ⟨i2, r2, p2, _⟩ := I.tuple hb
  by_cases hx : xs = []
  · subst hx
    cases r1
    exact cat_tup0 p1 p2 ⟨.ref b, H, I, rfl, q0 rfl⟩
  · refine HT.cat_tup p1 p2 (fun z => hx (r1.nil_iff.mp z)) (fun z => ⟨.ref a, H, I, rfl, q1 hx (r2.nil_iff.mp z)⟩) (fun z => ?_) (by rw [← r1.length, ← r2.length]; exact hz)
    have I2 := Inv.ftup (t' := s.toks) I (r1.append r2) (by rw [List.length_append]; exact hz)
    exact ⟨.ref s.heap.objs.size, _, I2, rfl, q2 hx (fun w => z (r2.nil_iff.mpr w)) _ _ (I.hok.fresh (Nat.le_refl _)) rfl⟩
theorem od_add : OpD X (binaryOp .Add) gAdd := by
  intro pins s σ H x y v u Q mu T S dx dy w I rx ry st bn r1 r2 e q
  unfold gAdd at e
  split at e
  · cases e; cases r1; cases r2
    exact op_add pins s σ H _ _ v u Q I rx ry ⟨_, _, rfl, rfl, q _ H (Same.refl H) (.int _)⟩
  · obtain ⟨hz, rfl⟩ := ite_inv e
    cases r1; cases r2
    exact op_add_str pins s σ H _ _ v u Q I rx ry ⟨_, _, rfl, rfl, hz, q _ H (Same.refl H) (.str _)⟩
  · obtain ⟨hz, rfl⟩ := ite_inv e
    cases r1 with
    | lst a1 b1 => cases r2 with
      | lst a2 b2 =>
        refine op_catW pins s σ H _ _ v u Q I rx ry ⟨_, _, _, _, rfl, rfl, ⟨_, _, a1⟩, ⟨_, _, a2⟩, by rw [b1.length, b2.length]; exact hz, fun p hp => q _ _ (same_upd hp) (new_lst st bn (b1.append b2) hp)⟩
  · obtain ⟨hz, rfl⟩ := ite_inv e
    cases r1 with
    | tup a1 b1 => cases r2 with
      | tup a2 b2 =>
        refine op_catF pins s σ H _ _ v u Q I rx ry ⟨_, _, _, _, rfl, rfl, a1.sq, a2.sq, by rw [b1.length, b2.length]; exact hz, fun e => ?_, fun _ e => ?_, fun _ _ p o hp d => q _ _ (same_upd hp) (new_tup st bn (b1.append b2) hp d)⟩
        · subst e
          cases b1
          exact q _ H (Same.refl H) (.tup a2 b2)
        · subst e
          cases b2
          rw [List.append_nil] at q
          exact q _ H (Same.refl H) (.tup a1 b1)
  · cases e
theorem od_sub : OpD X (binaryOp .Sub) gSub := by
  intro pins s σ H x y v u Q mu T S dx dy w I rx ry st bn r1 r2 e q
  unfold gSub at e
  split at e
  · cases e; cases r1; cases r2
    exact op_sub pins s σ H _ _ v u Q I rx ry ⟨_, _, rfl, rfl, q _ H (Same.refl H) (.int _)⟩
  · cases e
theorem od_mul : OpD X (binaryOp .Mult) gMul := by
  intro pins s σ H x y v u Q mu T S dx dy w I rx ry st bn r1 r2 e q
  unfold gMul at e
  split at e
  · obtain ⟨hz, rfl⟩ := ite_inv e
    cases r1; cases r2
    exact op_mul pins s σ H _ _ v u Q I rx ry ⟨_, _, rfl, rfl, hz, q _ H (Same.refl H) (.int _)⟩
  · cases e
theorem od_div : OpD X (binaryOp .FloorDiv) gDiv := by
  intro pins s σ H x y v u Q mu T S dx dy w I rx ry st bn r1 r2 e q
  unfold gDiv at e
  split at e
  · obtain ⟨hz, rfl⟩ := ite_inv e
    cases r1; cases r2
    exact op_fdiv pins s σ H _ _ v u Q I rx ry ⟨_, _, rfl, rfl, hz, q _ H (Same.refl H) (.int _)⟩
  · cases e
theorem od_mod : OpD X (binaryOp .Mod) gMod := by
  intro pins s σ H x y v u Q mu T S dx dy w I rx ry st bn r1 r2 e q
  unfold gMod at e
  split at e
  · obtain ⟨hz, rfl⟩ := ite_inv e
    cases r1; cases r2
    exact op_mod pins s σ H _ _ v u Q I rx ry ⟨_, _, rfl, rfl, hz, q _ H (Same.refl H) (.int _)⟩
  · cases e
theorem od_pow : OpD X (binaryOp .Pow) gPow := by
  intro pins s σ H x y v u Q mu T S dx dy w I rx ry st bn r1 r2 e q
  unfold gPow at e
  split at e
  · obtain ⟨hz, rfl⟩ := ite_inv e
    cases r1; cases r2
    exact op_pow pins s σ H _ _ v u Q I rx ry ⟨_, _, rfl, rfl, hz, q _ H (Same.refl H) (.int _)⟩
  · cases e
end
def gEq : Wd → Wd → Option Wd
  | .str a, .str b => some (.bool (decide (a = b)))
  | x, y => if SeqAt.shaped x = true ∧ SeqAt.shaped y = true then some (.bool (PyData.eqv x y)) else none
def gNe : Wd → Wd → Option Wd
  | .str a, .str b => some (.bool (!decide (a = b)))
  | x, y => if SeqAt.shaped x = true ∧ SeqAt.shaped y = true then some (.bool (!PyData.eqv x y)) else none
def gCmp (p : Int → Int → Bool) (q : List Nat → List Nat → Bool) : Wd → Wd → Option Wd
  | .int i, .int j => some (.bool (p i j))
  | .str a, .str b => some (.bool (q a.cps.toList b.cps.toList))
  | _, _ => none
abbrev gLt := gCmp (fun i j => decide (i < j)) (fun a b => decide (a < b))
abbrev gLe := gCmp (fun i j => decide (i ≤ j)) (fun a b => !decide (b < a))
abbrev gGt := gCmp (fun i j => decide (j < i)) (fun a b => decide (b < a))
abbrev gGe := gCmp (fun i j => decide (j ≤ i)) (fun a b => !decide (a < b))
def noneD : Wd → Bool
  | .none => true
  | _ => false
def gIsN : Wd → Wd → Option Wd
  | x, .none => some (.bool (noneD x))
  | _, _ => none
def gNotN : Wd → Wd → Option Wd
  | x, .none => some (.bool (!noneD x))
  | _, _ => none
section
variable {X : Cx}
theorem od_eq (hu : X.A.units + 64 < cLine) : OpD X (compareOp .Eq) gEq := by
  intro pins s σ H x y v u Q mu T S dx dy w I rx ry st bn r1 r2 e q
  unfold gEq at e
  split at e
  · rename_i a b
    cases e; cases r1; cases r2
    refine op_eq pins s σ H _ _ v u Q I rx ry ⟨rfl, ?_⟩
    have e2 : decide (V.str a = V.str b) = decide (a = b) := decide_eq_decide.mpr ⟨fun h => by cases h; rfl, fun h => by rw [h]⟩
    rw [e2]
    exact q _ H (Same.refl H) (.bl _)
  · obtain ⟨⟨h1, h2⟩, rfl⟩ := ite_inv e
    exact op_eqD hu pins s σ H _ _ v u Q I rx ry ⟨dx, dy, Rp.dp _ _ r1 (SeqAt.canLay_of_shaped h1), Rp.dp _ _ r2 (SeqAt.canLay_of_shaped h2), h1, h2, q _ H (Same.refl H) (.bl _)⟩
theorem od_ne (hu : X.A.units + 64 < cLine) : OpD X (compareOp .NotEq) gNe := by
  intro pins s σ H x y v u Q mu T S dx dy w I rx ry st bn r1 r2 e q
  unfold gNe at e
  split at e
  · rename_i a b
    cases e; cases r1; cases r2
    refine op_ne pins s σ H _ _ v u Q I rx ry ⟨rfl, ?_⟩
    have e2 : decide (V.str a = V.str b) = decide (a = b) := decide_eq_decide.mpr ⟨fun h => by cases h; rfl, fun h => by rw [h]⟩
    rw [e2]
    exact q _ H (Same.refl H) (.bl _)
  · obtain ⟨⟨h1, h2⟩, rfl⟩ := ite_inv e
    exact op_neD hu pins s σ H _ _ v u Q I rx ry ⟨dx, dy, Rp.dp _ _ r1 (SeqAt.canLay_of_shaped h1), Rp.dp _ _ r2 (SeqAt.canLay_of_shaped h2), h1, h2, q _ H (Same.refl H) (.bl _)⟩
theorem od_cmp {op : CmpOp} {p : Int → Int → Bool} {q : List Nat → List Nat → Bool} (hi : OpR X (compareOp op) (rI0 fun i j => .bl (p i j)))
    (hs : OpR X (compareOp op) (fun x y H Q => ∃ i j, x = .str i ∧ y = .str j ∧ Q (.bl (q i.cps.toList j.cps.toList)) H)) : OpD X (compareOp op) (gCmp p q) := by
  intro pins s σ H x y v u Q mu T S dx dy w I rx ry st bn r1 r2 e k
  unfold gCmp at e
  split at e
  · cases e; cases r1; cases r2
    exact hi pins s σ H _ _ v u Q I rx ry ⟨_, _, rfl, rfl, k _ H (Same.refl H) (.bl _)⟩
  · cases e; cases r1; cases r2
    exact hs pins s σ H _ _ v u Q I rx ry ⟨_, _, rfl, rfl, k _ H (Same.refl H) (.bl _)⟩
  · cases e
theorem od_lt : OpD X (compareOp .Lt) gLt := od_cmp op_lt op_lt_str
theorem od_le : OpD X (compareOp .LtE) gLe := od_cmp op_le op_le_str
theorem od_gt : OpD X (compareOp .Gt) gGt := od_cmp op_gt op_gt_str
theorem od_ge : OpD X (compareOp .GtE) gGe := od_cmp op_ge op_ge_str
theorem Rp.nonB {K : Fg} {mu : List Addr} {T : Addr → Prop} {H : Hp} {v : V} {w : Wd} (h : Rp K mu T H v w) : decide (v = V.non) = noneD w := by
  cases h <;> rfl
theorem od_is : OpD X (compareOp .Is) gIsN := by
  intro pins s σ H x y v u Q mu T S dx dy w I rx ry st bn r1 r2 e q
  unfold gIsN at e
  split at e
  · cases e
    cases r2
    exact op_isN pins s σ H _ _ v u Q I rx ry ⟨rfl, q _ H (Same.refl H) (by rw [r1.nonB]; exact .bl _)⟩
  · cases e
theorem od_isnot : OpD X (compareOp .IsNot) gNotN := by
  intro pins s σ H x y v u Q mu T S dx dy w I rx ry st bn r1 r2 e q
  unfold gNotN at e
  split at e
  · cases e
    cases r2
    exact op_notN pins s σ H _ _ v u Q I rx ry ⟨rfl, q _ H (Same.refl H) (by rw [r1.nonB]; exact .bl _)⟩
  · cases e
end
def flatD : Wd → Bool
  | .none => true
  | .bool _ => true
  | .int _ => true
  | .str _ => true
  | _ => false
def lookD : List (Wd × Wd) → Wd → Option Wd
  | [], _ => none
  | (k, v) :: r, x => if PyData.eqv k x = true then some v else lookD r x
def gIn : Wd → Wd → Option Wd
  | x, .list ys => if SeqAt.shaped x = true ∧ SeqAt.shaped (.list ys) = true then some (.bool (ys.any fun z => PyData.eqv z x)) else none
  | x, .tuple ys => if flatD x = true ∧ ys.all flatD = true then some (.bool (ys.any fun z => PyData.eqv z x)) else none
  | .str a, .str b => some (.bool (!(Builtin.Str.occurrences b a 0 b.length 1).isEmpty))
  | _, _ => none
section
variable {K : Fg} {mu : List Addr} {T : Addr → Prop} {H : Hp}
theorem flat_of {v : V} {w : Wd} (h : Rp K mu T H v w) (f : flatD w = true) : flatV v = true := by cases h <;> first | rfl | cases f
theorem flat_all : ∀ {vs : List V} {ws : List Wd}, RpAll K mu T H vs ws → ws.all flatD = true → vs.all flatV = true
  | [], [], _, _ => rfl
  | v :: vs, w :: ws, h, f => by
    cases h with
    | cons a b =>
      rw [List.all_cons] at f ⊢
      obtain ⟨f1, f2⟩ := Bool.and_eq_true_iff.mp f
      rw [flat_of a f1, flat_all b f2]
      rfl
theorem eq_flat {v v' : V} {w w' : Wd} (h : Rp K mu T H v w) (h' : Rp K mu T H v' w') (f : flatD w = true) (f' : flatD w' = true) : eqV v v' = PyData.eqv w w' := by
  cases h <;> first | (cases f; done) | (cases h' <;> first | (cases f'; done) | (simp only [eqV, PyData.eqv]; done) | (simp [eqV, PyData.eqv]; done))
theorem in_flat {v : V} {w : Wd} (h : Rp K mu T H v w) (f : flatD w = true) : ∀ {vs : List V} {ws : List Wd}, RpAll K mu T H vs ws → ws.all flatD = true → inV v vs = ws.any fun z => PyData.eqv z w
  | [], [], _, _ => rfl
  | v' :: vs, w' :: ws, h', f' => by
    cases h' with
    | cons a b =>
      rw [List.all_cons] at f'
      obtain ⟨f1, f2⟩ := Bool.and_eq_true_iff.mp f'
      have ih := in_flat h f b f2
      unfold inV at ih ⊢
      rw [List.any_cons, List.any_cons, ih, eq_flat a h f1 f]
end
section
variable {X : Cx}
theorem od_in (hu : X.A.units + 65 < cLine) : OpD X (compareOp .In) gIn := by
  intro pins s σ H x y v u Q mu T S dx dy w I rx ry st bn r1 r2 e q
  unfold gIn at e
  split at e
  · obtain ⟨⟨h1, h2⟩, rfl⟩ := ite_inv e
    exact op_inD hu pins s σ H _ _ v u Q I rx ry ⟨_, _, Rp.dp _ _ r1 (SeqAt.canLay_of_shaped h1), Rp.dp _ _ r2 (SeqAt.canLay_of_shaped h2), h1, h2, q _ H (Same.refl H) (.bl _)⟩
  · obtain ⟨⟨h1, h2⟩, rfl⟩ := ite_inv e
    cases r2 with
    | tup a b =>
      refine op_in_seq pins s σ H _ _ v u Q I rx ry ⟨_, _, rfl, .inr a.sq, flat_of r1 h1, flat_all b h2, q _ H (Same.refl H) ?_⟩
      rw [if_neg Bool.false_ne_true, in_flat r1 h1 b h2]
      exact .bl _
  · cases e; cases r1; cases r2
    exact op_in_str pins s σ H _ _ v u Q I rx ry ⟨_, _, rfl, rfl, q _ H (Same.refl H) (.bl _)⟩
  · cases e
end
end DL
namespace DL
open PySem PySem.Spec PyProof.Rows L2
section
variable {K : Fg} {ρ : Ev} {S S1 : Sto} {mu : List Addr} {B O : Addr → Prop} {σ : Sg} {H : Hp}
theorem tD.mk {f : Mx} {w : Wd} {Q : VK} (rl : Rel K mu B O H σ ρ S) (e : f ρ S = .ok w S1)
    (q : ∀ v H1 mu1, Ext mu mu1 H H1 → Rel K mu1 B O H1 σ ρ S1 → Rp K mu1 (fun a => B a ∨ O a) H1 v w → Q v H1) : tD K f σ H Q :=
  ⟨ρ, S, mu, B, O, rl, w, S1, e, fun v H1 mu1 x st r => q v H1 mu1 x (rl.ext x st) r⟩
theorem tDt.mk {f : Mt} {w : Bool} {Q : Bool → Hp → Prop} (rl : Rel K mu B O H σ ρ S) (e : f ρ S = .ok w S1) (q : ∀ H1 mu1, Ext mu mu1 H H1 → Rel K mu1 B O H1 σ ρ S1 → Q w H1) : tDt K f σ H Q :=
  ⟨ρ, S, mu, B, O, rl, w, S1, e, fun H1 mu1 x st => q H1 mu1 x (rl.ext x st)⟩
theorem tDa.mk {f : Ma} {ws : List Wd} {Q : List V → Hp → Prop} (rl : Rel K mu B O H σ ρ S) (e : f ρ S = .ok ws S1)
    (q : ∀ vs H1 mu1, Ext mu mu1 H H1 → Rel K mu1 B O H1 σ ρ S1 → RpAll K mu1 (fun a => B a ∨ O a) H1 vs ws → Q vs H1) : tDa K f σ H Q :=
  ⟨ρ, S, mu, B, O, rl, ws, S1, e, fun vs H1 mu1 x st r => q vs H1 mu1 x (rl.ext x st) r⟩
end
def truD : Wd → Option Bool
  | .none => some false
  | .bool b => some b
  | .int i => some (i != 0)
  | .str y => if y.length ≤ sizeLine then some ((y.length : Int) != 0) else none
  | .list ys => some (!ys.isEmpty)
  | .tuple ys => some (!ys.isEmpty)
  | .dict ((.none, _) :: _) => none
  | .dict ys => some (!ys.isEmpty)
theorem tru_of {K : Fg} {mu : List Addr} {T : Addr → Prop} {H : Hp} {v : V} {w : Wd} {k : Bool} (h : Rp K mu T H v w) (e : truD w = some k) : TruV K v H k := by
  cases h with
  | non => cases e; rfl
  | bl b => cases e; rfl
  | int i => cases e; rfl
  | str x =>
    obtain ⟨h1, rfl⟩ := ite_inv e
    exact ⟨h1, rfl⟩
  | @lst a xs ds a1 b1 =>
    cases e
    refine .inl ⟨_, a1.sq, ?_⟩
    cases b1 <;> rfl
  | @tup a xs ds a1 b1 =>
    cases e
    refine .inr (.inl ⟨_, a1.sq, ?_⟩)
    cases b1 <;> rfl
  | @dct a kvs ds a1 b1 =>
    refine .inr (.inr ⟨_, a1.1, ?_⟩)
    cases b1 with
    | nil => cases e; rfl
    | @cons k _ _ _ _ _ _ => cases k <;> (cases e; rfl)
  | obj e' => cases e
def mTru (f : Mx) : Mt := fun ρ S => (f ρ S).bnd fun w S1 => R.of (truD w) S1
section
variable {X : Cx} {e a b : Expr} {f fa fb : Mx} {pos : Pos} {t tb : Mt}
theorem dt_truth (h : De X e f) (he : ∀ whole, isTrue e X.env whole = (do let v ← whole; standAt e.pos; holding [v] (truthy v)) := by intro _; rfl) : Dt X e (mTru f) := by
  refine PT.weak (pt_truth h he) fun σ H Q ⟨ρ, S, mu, B, O, rl, w, S', e1, q⟩ => ?_
  obtain ⟨x, S1, e2, e1⟩ := R.bnd_inv e1
  obtain ⟨e3, rfl⟩ := R.of_inv e1
  exact tD.mk rl e2 fun v H1 mu1 E r p => ⟨w, tru_of p e3, q H1 mu1 E r.sto⟩
theorem dt_cmp {op : CmpOp} {g : Wd → Wd → Option Wd} (ho : OpD X (compareOp op) g) (ha : De X a fa) (hb : De X b fb) (hm : behindInMarks op b = false) : Dt X (.Compare a [op] [b] pos) (mTru (mBin g fa fb)) := by
  refine ⟨fun pins s σ H Q I ⟨ρ, S, mu, B, O, rl, w, S', e1, q⟩ => ?_⟩
  obtain ⟨x, S1, e2, e1⟩ := R.bnd_inv e1
  obtain ⟨e3, rfl⟩ := R.of_inv e1
  refine wpAny_isTrue_Compare1 (thn (bin_run (Q := fun v H1 => ∃ mu1, Ext mu mu1 H H1 ∧ StOk X.K mu1 (fun a => B a ∨ O a) H1 S1 ∧ Rp X.K mu1 (fun a => B a ∨ O a) H1 v x) ha hb ho I ⟨ρ, S, mu, B, O, rl, x, S1, e2, fun v H1 mu1 h1 h2 h3 => ⟨mu1, h1, h2, h3⟩⟩) fun v s1 h1 => thn h1 fun u s2 h2 => thn h2 fun c s3 ⟨y, H1, I1, r1, mu1, E1, st1, p1⟩ => ?_) hm
  exact tru_ok pins s3 σ H1 y c Q I1 r1 ⟨w, tru_of p1 e3, q H1 mu1 E1 st1⟩
def mAndT (t u : Mt) : Mt := fun ρ S => (t ρ S).bnd fun b S1 => if b = true then u ρ S1 else .ok false S1
def mOrT (t u : Mt) : Mt := fun ρ S => (t ρ S).bnd fun b S1 => if b = true then .ok true S1 else u ρ S1
def mNotT (t : Mt) : Mt := fun ρ S => (t ρ S).bnd fun b S1 => .ok (!b) S1
def Dw (X : Cx) (e : Expr) (f : Mt) : Prop := PW X e (tDt X.K f)
theorem PW.weak {X : Cx} {e : Expr} {t t' : TT} (h : PW X e t) (w : ∀ σ H Q, t' σ H Q → t σ H Q) : PW X e t' := ⟨fun wh pins s σ H Q I q => h.run wh pins s σ H Q I (w _ _ _ q)⟩
theorem dw_and1 (ha : Dt X a t) : Dw X (.BoolOp .And [a] pos) t := pw_and1 ha
theorem dw_or1 (ha : Dt X a t) : Dw X (.BoolOp .Or [a] pos) t := pw_or1 ha
theorem dw_and {rest : List Expr} (ha : Dt X a t) (hb : Dw X (.BoolOp .And (b :: rest) pos) tb) : Dw X (.BoolOp .And (a :: b :: rest) pos) (mAndT t tb) :=
  PW.weak (pw_and ha hb) fun σ H Q ⟨ρ, S, mu, B, O, rl, w, S', e1, q⟩ => by
    obtain ⟨x, S1, e2, e1⟩ := R.bnd_inv e1
    refine tDt.mk rl e2 fun H1 mu1 E r => ?_
    cases x with
    | true =>
      rw [if_pos rfl] at e1 ⊢
      exact tDt.mk r e1 fun H2 mu2 E2 r2 => q H2 mu2 (E.trans E2) r2.sto
    | false =>
      rw [if_neg Bool.false_ne_true] at e1 ⊢
      cases e1
      exact q H1 mu1 E r.sto
theorem dw_or {rest : List Expr} (ha : Dt X a t) (hb : Dw X (.BoolOp .Or (b :: rest) pos) tb) : Dw X (.BoolOp .Or (a :: b :: rest) pos) (mOrT t tb) :=
  PW.weak (pw_or ha hb) fun σ H Q ⟨ρ, S, mu, B, O, rl, w, S', e1, q⟩ => by
    obtain ⟨x, S1, e2, e1⟩ := R.bnd_inv e1
    refine tDt.mk rl e2 fun H1 mu1 E r => ?_
    cases x with
    | true =>
      rw [if_pos rfl] at e1 ⊢
      cases e1
      exact q H1 mu1 E r.sto
    | false =>
      rw [if_neg Bool.false_ne_true] at e1 ⊢
      exact tDt.mk r e1 fun H2 mu2 E2 r2 => q H2 mu2 (E.trans E2) r2.sto
theorem Dw.dt {e : Expr} {f : Mt} (h : Dw X e f) : Dt X e f := PW.pt h
theorem dt_not (ha : Dt X a t) : Dt X (.UnaryOp .Not a pos) (mNotT t) :=
  PT.weak (pt_not ha) fun σ H Q ⟨ρ, S, mu, B, O, rl, w, S', e1, q⟩ => by
    obtain ⟨x, S1, e2, e1⟩ := R.bnd_inv e1
    cases e1
    exact tDt.mk rl e2 fun H1 mu1 E r => q H1 mu1 E r.sto
def mAnd (fa fb : Mx) : Mx := fun ρ S => (fa ρ S).bnd fun x S1 => match truD x with
  | some true => fb ρ S1
  | some false => .ok x S1
  | none => .bad
def mOr (fa fb : Mx) : Mx := fun ρ S => (fa ρ S).bnd fun x S1 => match truD x with
  | some true => .ok x S1
  | some false => fb ρ S1
  | none => .bad
def mNot (fa : Mx) : Mx := fun ρ S => (fa ρ S).bnd fun x S1 => R.of ((truD x).map fun b => .bool (!b)) S1
def mIf (t : Mt) (fa fb : Mx) : Mx := fun ρ S => (t ρ S).bnd fun b S1 => if b = true then fa ρ S1 else fb ρ S1
theorem de_and1 {op : BoolOp} (ha : De X a fa) : De X (.BoolOp op [a] pos) fa := pe_one ha
theorem de_and {rest : List Expr} (ha : De X a fa) (hb : De X (.BoolOp .And (b :: rest) pos) fb) : De X (.BoolOp .And (a :: b :: rest) pos) (mAnd fa fb) :=
  PE.weak (pe_andT ha hb) fun σ H Q ⟨ρ, S, mu, B, O, rl, w, S', e1, q⟩ => by
    obtain ⟨x, S1, e2, e1⟩ := R.bnd_inv e1
    refine tD.mk rl e2 fun v H1 mu1 E r p => ?_
    split at e1
    · rename_i h
      exact ⟨true, tru_of p h, iteT (tD.mk r e1 fun v2 H2 mu2 E2 r2 p2 => q v2 H2 mu2 (E.trans E2) r2.sto p2)⟩
    · rename_i h
      cases e1
      exact ⟨false, tru_of p h, iteF (q v H1 mu1 E r.sto p)⟩
    · cases e1
theorem de_or {rest : List Expr} (ha : De X a fa) (hb : De X (.BoolOp .Or (b :: rest) pos) fb) : De X (.BoolOp .Or (a :: b :: rest) pos) (mOr fa fb) :=
  PE.weak (pe_orT ha hb) fun σ H Q ⟨ρ, S, mu, B, O, rl, w, S', e1, q⟩ => by
    obtain ⟨x, S1, e2, e1⟩ := R.bnd_inv e1
    refine tD.mk rl e2 fun v H1 mu1 E r p => ?_
    split at e1
    · rename_i h
      cases e1
      exact ⟨true, tru_of p h, iteT (q v H1 mu1 E r.sto p)⟩
    · rename_i h
      exact ⟨false, tru_of p h, iteF (tD.mk r e1 fun v2 H2 mu2 E2 r2 p2 => q v2 H2 mu2 (E.trans E2) r2.sto p2)⟩
    · cases e1
theorem de_not (ha : De X a fa) : De X (.UnaryOp .Not a pos) (mNot fa) :=
  PE.weak (pe_notT ha) fun σ H Q ⟨ρ, S, mu, B, O, rl, w, S', e1, q⟩ => by
    obtain ⟨x, S1, e2, e1⟩ := R.bnd_inv e1
    obtain ⟨e3, rfl⟩ := R.of_inv e1
    obtain ⟨k, e4, rfl⟩ := Option.map_eq_some_iff.mp e3
    exact tD.mk rl e2 fun v H1 mu1 E r p => ⟨k, tru_of p e4, q _ H1 mu1 E r.sto (.bl _)⟩
theorem de_if {c : Expr} (hc : Dt X c t) (ha : De X a fa) (hb : De X b fb) : De X (.IfExp c a b pos) (mIf t fa fb) :=
  PE.weak (pe_ifExp hc ha hb) fun σ H Q ⟨ρ, S, mu, B, O, rl, w, S', e1, q⟩ => by
    obtain ⟨x, S1, e2, e1⟩ := R.bnd_inv e1
    refine tDt.mk rl e2 fun H1 mu1 E r => ?_
    cases x with
    | true =>
      rw [if_pos rfl] at e1 ⊢
      exact tD.mk r e1 fun v2 H2 mu2 E2 r2 p2 => q v2 H2 mu2 (E.trans E2) r2.sto p2
    | false =>
      rw [if_neg Bool.false_ne_true] at e1 ⊢
      exact tD.mk r e1 fun v2 H2 mu2 E2 r2 p2 => q v2 H2 mu2 (E.trans E2) r2.sto p2
def gNeg : Wd → Option Wd
  | .int i => some (.int (-i))
  | _ => none
def mUn (g : Wd → Option Wd) (fa : Mx) : Mx := fun ρ S => (fa ρ S).bnd fun x S1 => R.of (g x) S1
theorem de_neg (ha : De X a fa) : De X (.UnaryOp .USub a pos) (mUn gNeg fa) :=
  PE.weak (pe_un un_neg ha) fun σ H Q ⟨ρ, S, mu, B, O, rl, w, S', e1, q⟩ => by
    obtain ⟨x, S1, e2, e1⟩ := R.bnd_inv e1
    obtain ⟨e3, rfl⟩ := R.of_inv e1
    refine tD.mk rl e2 fun v H1 mu1 E r p => ?_
    cases p with
    | int i =>
      cases e3
      exact ⟨i, rfl, q _ H1 mu1 E r.sto (.int _)⟩
    | _ => cases e3
def mChain (g g' : Wd → Wd → Option Wd) (fa fb fc : Mx) : Mx := fun ρ S => (fa ρ S).bnd fun x S1 => (fb ρ S1).bnd fun y S2 => match g x y with
  | some (.bool true) => (fc ρ S2).bnd fun z S3 => R.of (g' y z) S3
  | some (.bool false) => .ok (.bool false) S2
  | _ => .bad
end
section
variable {X : Cx} {e : Expr} {es : List Expr} {f : Mx} {fs : Ma} {pos p : Pos}
def aNil : Ma := fun _ S => .ok [] S
def aCons (f : Mx) (fs : Ma) : Ma := fun ρ S => (f ρ S).bnd fun x S1 => (fs ρ S1).bnd fun xs S2 => .ok (x :: xs) S2
theorem da_nil : Da X [] aNil := PA.weak pa_nil fun σ H Q ⟨ρ, S, mu, B, O, rl, w, S', e1, q⟩ => by
  cases e1
  exact q [] H mu (.refl _ _) rl.sto .nil
theorem da_cons (ha : De X e f) (hr : Da X es fs) (hs : starEach (e :: es) X.env = (false, eval e X.env) :: starEach es X.env := by rfl) : Da X (e :: es) (aCons f fs) :=
  PA.weak (pa_cons ha hr hs) fun σ H Q ⟨ρ, S, mu, B, O, rl, w, S', e1, q⟩ => by
    obtain ⟨x, S1, e2, e1⟩ := R.bnd_inv e1
    obtain ⟨xs, S2, e3, e1⟩ := R.bnd_inv e1
    cases e1
    refine tD.mk rl e2 fun v H1 mu1 E r p1 => ?_
    exact tDa.mk r e3 fun vs H2 mu2 E2 r2 p2 => q _ H2 mu2 (E.trans E2) r2.sto (.cons (p1.ext E2) p2)
def CallD (X : Cx) (f : Value) (g : List Wd → Option Wd) : Prop :=
  ∀ (pins : List (Addr × Obj)) (s : Shared) (σ : Sg) (H : Hp) (xs : List V) (us : List Value) (Q : VK) (mu : List Addr) (T : Addr → Prop) (S : Sto) (ws : List Wd) (w : Wd), Inv X pins σ H s → Vals xs us →
    StOk X.K mu T H S → Bn mu T H → RpAll X.K mu T H xs ws → g ws = some w → (∀ v H', Same H H' → Rp X.K mu T H' v w → Q v H') → wpAny (model X.prog X.w) X.A (call f us) (EP X pins σ Q) X.xe s
def rCD (K : Fg) (g : List Wd → Option Wd) : List V → Hp → VK → Prop := fun xs H Q => ∃ mu T S ws w, StOk K mu T H S ∧ Bn mu T H ∧ RpAll K mu T H xs ws ∧ g ws = some w ∧ ∀ v H', Same H H' → Rp K mu T H' v w → Q v H'
theorem CallD.r {f : Value} {g : List Wd → Option Wd} (h : CallD X f g) : CallR X f (rCD X.K g) := fun pins s σ H xs us Q I r ⟨mu, T, S, ws, w, h1, h2, h3, h4, h5⟩ => h pins s σ H xs us Q mu T S ws w I r h1 h2 h3 h4 h5
def mCB (g : List Wd → Option Wd) (fs : Ma) : Mx := fun ρ S => (fs ρ S).bnd fun xs S1 => R.of (g xs) S1
theorem cb_weak {g : List Wd → Option Wd} {fs : Ma} (K : Fg) : ∀ σ H Q, tD K (mCB g fs) σ H Q → tCB (rCD K g) (tDa K fs) σ H Q := fun σ H Q ⟨ρ, S, mu, B, O, rl, w, S', e1, q⟩ => by
  obtain ⟨xs, S1, e2, e1⟩ := R.bnd_inv e1
  obtain ⟨e3, rfl⟩ := R.of_inv e1
  exact tDa.mk rl e2 fun vs H1 mu1 E r p1 => ⟨mu1, _, S1, xs, w, r.sto, r.bn, p1, e3, fun v H2 sm pv => q v H2 mu1 (E.trans (.same sm)) (r.sto.same sm) pv⟩
theorem de_callB {id : String} {x : Str} {g : List Wd → Option Wd} (hc : CallD X (.builtin id) g) (hg : Gl X x) (hm : X.mg x = none) (hv : bootBuiltins x = some (.builtin id)) (ha : Da X (e :: es) fs) (hn : x ≠ "__name__" := by decide) (hdb : (x == ("__debug__" : Str)) = false := by decide)
    (he : starEach (e :: es) X.env = (false, eval e X.env) :: starEach es X.env := by rfl) (hpl : (backTo pos (starEach es X.env)).any (·.1) = false := by rfl) : De X (.Call (.Name x p) (e :: es) [] pos) (mCB g fs) :=
  PE.weak (pe_callB hc.r hg hm hv ha hn hdb he hpl) (cb_weak X.K)
theorem de_callTy {T : String} {x : Str} {g : List Wd → Option Wd} (hc : CallD X (.type T) g) (hg : Gl X x) (hm : X.mg x = none) (hv : bootBuiltins x = some (.type T)) (ha : Da X (e :: es) fs) (hn : x ≠ "__name__" := by decide) (hdb : (x == ("__debug__" : Str)) = false := by decide)
    (he : starEach (e :: es) X.env = (false, eval e X.env) :: starEach es X.env := by rfl) (hp : (backTo pos (starEach es X.env)).any (·.1) = false := by rfl) : De X (.Call (.Name x p) (e :: es) [] pos) (mCB g fs) :=
  PE.weak (pe_callTy hc.r hg hm hv ha hn hdb he hp) (cb_weak X.K)
end
end DL
namespace DL
open PySem PySem.Spec PyProof.Rows L2
section
variable {X : Cx}
def rOD (K : Fg) (g : Wd → Wd → Option Wd) : R2 := fun x y H Q => ∃ mu T S dx dy w, StOk K mu T H S ∧ Bn mu T H ∧ Rp K mu T H x dx ∧ Rp K mu T H y dy ∧ g dx dy = some w ∧ ∀ v H', Same H H' → Rp K mu T H' v w → Q v H'
theorem OpD.r {f : Value → Value → Sem Value} {g : Wd → Wd → Option Wd} (h : OpD X f g) : OpR X f (rOD X.K g) := fun pins s σ H x y v u Q I rx ry ⟨mu, T, S, dx, dy, w, h1, h2, h3, h4, h5, h6⟩ => h pins s σ H x y v u Q mu T S dx dy w I rx ry h1 h2 h3 h4 h5 h6
theorem dt_chain {op op' : CmpOp} {g g' : Wd → Wd → Option Wd} {a b c : Expr} {fa fb fc : Mx} {pos : Pos} (ho : OpD X (compareOp op) g) (ho' : OpD X (compareOp op') g') (ha : De X a fa) (hb : De X b fb) (hc : De X c fc)
    (hg' : ∀ y z w, g' y z = some w → ∃ k, w = .bool k) (hm : lastMarks [op, op'] [b, c] = false := by with_unfolding_all rfl) : Dt X (.Compare a [op, op'] [b, c] pos) (mTru (mChain g g' fa fb fc)) :=
  PT.weak (pt_chain ho.r ho'.r ha hb hc hm) fun σ H Q ⟨ρ, S, mu, B, O, rl, k0, S', e1, q⟩ => by
    obtain ⟨w, S0, e0, e1⟩ := R.bnd_inv e1
    obtain ⟨et, rfl⟩ := R.of_inv e1
    obtain ⟨x, S1, e2, e0⟩ := R.bnd_inv e0
    obtain ⟨y, S2, e3, e0⟩ := R.bnd_inv e0
    refine tD.mk rl e2 fun v H1 mu1 E1 r1 p1 => tD.mk r1 e3 fun u H2 mu2 E2 r2 p2 => ?_
    split at e0
    · rename_i hg
      obtain ⟨z, S3, e4, e0⟩ := R.bnd_inv e0
      obtain ⟨e5, rfl⟩ := R.of_inv e0
      refine ⟨mu2, _, S2, x, y, _, r2.sto, r2.bn, p1.ext E2, p2, hg, fun k H3 sm pk => ?_⟩
      cases pk
      refine ⟨true, rfl, ?_⟩
      rw [if_pos rfl]
      have r3 := r2.ext (.same sm) (r2.sto.same sm)
      refine tD.mk r3 e4 fun t H4 mu4 E4 r4 p4 => ⟨mu4, _, S3, y, z, w, r4.sto, r4.bn, (p2.same sm).ext E4, p4, e5, fun v' H5 sm' p5 => ?_⟩
      obtain ⟨k1, rfl⟩ := hg' y z w e5
      cases p5
      cases et
      exact ⟨_, rfl, q H5 mu4 ((((E1.trans E2).trans (.same sm)).trans E4).trans (.same sm')) (r4.sto.same sm')⟩
    · rename_i hg
      cases e0
      cases et
      refine ⟨mu2, _, _, x, y, _, r2.sto, r2.bn, p1.ext E2, p2, hg, fun k H3 sm pk => ?_⟩
      cases pk
      refine ⟨false, rfl, ?_⟩
      rw [if_neg Bool.false_ne_true]
      exact ⟨false, rfl, q H3 mu2 ((E1.trans E2).trans (.same sm)) (r2.sto.same sm)⟩
    · cases e0
theorem cmp_bool {p : Int → Int → Bool} {q : List Nat → List Nat → Bool} : ∀ y z w, gCmp p q y z = some w → ∃ k, w = .bool k := fun y z w h => by
  unfold gCmp at h
  split at h <;> first | (cases h; exact ⟨_, rfl⟩) | cases h
def gLen : List Wd → Option Wd
  | [.str y] => if y.length ≤ sizeLine then some (.int y.length) else none
  | [.list ys] => some (.int ys.length)
  | [.tuple ys] => some (.int ys.length)
  | _ => none
theorem cd_len : CallD X (.builtin "len") gLen := by
  intro pins s σ H xs us Q mu T S ws w I r st bn p e q
  unfold gLen at e
  split at e
  · obtain ⟨hz, rfl⟩ := ite_inv e
    cases p with
    | cons p1 p2 =>
      cases p1; cases p2
      exact call_len pins s σ H _ us Q I r ⟨_, _, rfl, ⟨hz, rfl⟩, q _ H (Same.refl H) (.int _)⟩
  · cases e
    cases p with
    | cons p1 p2 =>
      cases p2
      cases p1 with
      | lst a b => exact call_len pins s σ H _ us Q I r ⟨_, _, rfl, .inl ⟨_, a.sq, rfl⟩, q _ H (Same.refl H) (by rw [b.length]; exact .int _)⟩
  · cases e
    cases p with
    | cons p1 p2 =>
      cases p2
      cases p1 with
      | tup a b => exact call_len pins s σ H _ us Q I r ⟨_, _, rfl, .inr ⟨_, a.sq, rfl⟩, q _ H (Same.refl H) (by rw [b.length]; exact .int _)⟩
  · cases e
def intsD : List Wd → Option (List Int)
  | [] => some []
  | .int i :: r => (intsD r).map (i :: ·)
  | _ => none
def boolsD : List Wd → Option (List Bool)
  | [] => some []
  | .bool i :: r => (boolsD r).map (i :: ·)
  | _ => none
theorem ints_of {K : Fg} {mu : List Addr} {T : Addr → Prop} {H : Hp} : ∀ {vs : List V} {ws : List Wd} {ns : List Int}, RpAll K mu T H vs ws → intsD ws = some ns → vs = ns.map V.int
  | [], [], _, _, e => by cases e; rfl
  | v :: vs, w :: ws, ns, h, e => by
    cases h with
    | cons a b =>
      cases a with
      | int i =>
        obtain ⟨m, e1, rfl⟩ := Option.map_eq_some_iff.mp (show (intsD ws).map (i :: ·) = some ns from e)
        rw [ints_of b e1]
        rfl
      | _ => cases e
theorem bools_of {K : Fg} {mu : List Addr} {T : Addr → Prop} {H : Hp} : ∀ {vs : List V} {ws : List Wd} {ns : List Bool}, RpAll K mu T H vs ws → boolsD ws = some ns → vs = ns.map V.bl
  | [], [], _, _, e => by cases e; rfl
  | v :: vs, w :: ws, ns, h, e => by
    cases h with
    | cons a b =>
      cases a with
      | bl i =>
        obtain ⟨m, e1, rfl⟩ := Option.map_eq_some_iff.mp (show (boolsD ws).map (i :: ·) = some ns from e)
        rw [bools_of b e1]
        rfl
      | _ => cases e
def gAll : List Wd → Option Wd
  | [.list ys] => (boolsD ys).map fun ns => .bool (ns.all id)
  | _ => none
theorem cd_all (hc : X.calm = true) : CallD X (.builtin "all") gAll := by
  intro pins s σ H xs us Q mu T S ws w I r st bn p e q
  unfold gAll at e
  split at e
  · obtain ⟨ns, e1, rfl⟩ := Option.map_eq_some_iff.mp e
    cases p with
    | cons p1 p2 =>
      cases p2
      cases p1 with
      | lst a b =>
        have z := bools_of b e1
        subst z
        exact cr_all hc pins s σ H _ us Q I r ⟨_, _, rfl, a.sq, q _ H (Same.refl H) (.bl _)⟩
  · cases e
def minL : List Int → Option Int
  | [] => none
  | [x] => some x
  | x :: r => (minL r).map fun y => if y < x then y else x
def maxL : List Int → Option Int
  | [] => none
  | [x] => some x
  | x :: r => (maxL r).map fun y => if x < y then y else x
theorem minL_mem : ∀ (l : List Int) (m : Int), minL l = some m → m ∈ l ∧ ∀ y ∈ l, m ≤ y
  | [], m, h => by cases h
  | [x], m, h => by cases h; simp
  | x :: y :: r, m, h => by
    obtain ⟨k, e, rfl⟩ := Option.map_eq_some_iff.mp (show (minL (y :: r)).map _ = some m from h)
    obtain ⟨h1, h2⟩ := minL_mem (y :: r) k e
    by_cases c : k < x
    · simp only [c, if_true]
      refine ⟨List.mem_cons_of_mem _ h1, fun z hz => ?_⟩
      rcases List.mem_cons.mp hz with rfl | hz
      · omega
      · exact h2 z hz
    · simp only [c, if_false]
      refine ⟨List.mem_cons_self, fun z hz => ?_⟩
      rcases List.mem_cons.mp hz with rfl | hz
      · omega
      · have := h2 z hz
        omega
theorem maxL_mem : ∀ (l : List Int) (m : Int), maxL l = some m → m ∈ l ∧ ∀ y ∈ l, y ≤ m
  | [], m, h => by cases h
  | [x], m, h => by cases h; simp
  | x :: y :: r, m, h => by
    obtain ⟨k, e, rfl⟩ := Option.map_eq_some_iff.mp (show (maxL (y :: r)).map _ = some m from h)
    obtain ⟨h1, h2⟩ := maxL_mem (y :: r) k e
    by_cases c : x < k
    · simp only [c, if_true]
      refine ⟨List.mem_cons_of_mem _ h1, fun z hz => ?_⟩
      rcases List.mem_cons.mp hz with rfl | hz
      · omega
      · exact h2 z hz
    · simp only [c, if_false]
      refine ⟨List.mem_cons_self, fun z hz => ?_⟩
      rcases List.mem_cons.mp hz with rfl | hz
      · omega
      · have := h2 z hz
        omega
def gMin : List Wd → Option Wd
  | [.int i, .int j] => some (.int (if j < i then j else i))
  | [.list ys] => (intsD ys).bind fun ns => (minL ns).map .int
  | _ => none
def gMax : List Wd → Option Wd
  | [.int i, .int j] => some (.int (if j > i then j else i))
  | [.list ys] => (intsD ys).bind fun ns => (maxL ns).map .int
  | _ => none
theorem cd_min (hc : X.calm = true) : CallD X (.builtin "min") gMin := by
  intro pins s σ H xs us Q mu T S ws w I r st bn p e q
  unfold gMin at e
  split at e
  · cases e
    cases p with
    | cons p1 p2 =>
      cases p2 with
      | cons p2 p3 =>
        cases p1; cases p2; cases p3
        exact call_min2 hc pins s σ H _ us Q I r ⟨_, _, rfl, q _ H (Same.refl H) (.int _)⟩
  · obtain ⟨ns, e1, e2⟩ := Option.bind_eq_some_iff.mp e
    obtain ⟨m, e3, rfl⟩ := Option.map_eq_some_iff.mp e2
    obtain ⟨h1, h2⟩ := minL_mem ns m e3
    cases p with
    | cons p1 p2 =>
      cases p2
      cases p1 with
      | lst a b =>
        have z := ints_of b e1
        subst z
        refine cr_min hc pins s σ H _ us Q I r ⟨_, _, rfl, a.sq, List.length_pos_of_mem h1, fun k hk hle => ?_⟩
        have ek : k = m := Int.le_antisymm (hle m h1) (h2 k hk)
        subst ek
        exact q _ H (Same.refl H) (.int _)
  · cases e
theorem cd_max (hc : X.calm = true) : CallD X (.builtin "max") gMax := by
  intro pins s σ H xs us Q mu T S ws w I r st bn p e q
  unfold gMax at e
  split at e
  · cases e
    cases p with
    | cons p1 p2 =>
      cases p2 with
      | cons p2 p3 =>
        cases p1; cases p2; cases p3
        exact call_max2 hc pins s σ H _ us Q I r ⟨_, _, rfl, q _ H (Same.refl H) (.int _)⟩
  · obtain ⟨ns, e1, e2⟩ := Option.bind_eq_some_iff.mp e
    obtain ⟨m, e3, rfl⟩ := Option.map_eq_some_iff.mp e2
    obtain ⟨h1, h2⟩ := maxL_mem ns m e3
    cases p with
    | cons p1 p2 =>
      cases p2
      cases p1 with
      | lst a b =>
        have z := ints_of b e1
        subst z
        refine cr_max hc pins s σ H _ us Q I r ⟨_, _, rfl, a.sq, List.length_pos_of_mem h1, fun k hk hle => ?_⟩
        have ek : k = m := Int.le_antisymm (h2 k hk) (hle m h1)
        subst ek
        exact q _ H (Same.refl H) (.int _)
  · cases e
def gInt : List Wd → Option Wd
  | [.int i] => some (.int i)
  | [.bool k] => some (.int (if k then 1 else 0))
  | _ => none
theorem cd_int : CallD X (.type "int") gInt := by
  intro pins s σ H xs us Q mu T S ws w I r st bn p e q
  unfold gInt at e
  split at e
  · cases e
    cases p with
    | cons p1 p2 =>
      cases p1; cases p2
      exact call_int1 pins s σ H _ us Q I r (.inl ⟨_, rfl, q _ H (Same.refl H) (.int _)⟩)
  · cases e
    cases p with
    | cons p1 p2 =>
      cases p1; cases p2
      exact call_int1 pins s σ H _ us Q I r (.inr ⟨_, rfl, q _ H (Same.refl H) (.int _)⟩)
  · cases e
def gList : List Wd → Option Wd
  | [.list ys] => some (.list ys)
  | [.tuple ys] => some (.list ys)
  | _ => none
theorem cd_list : CallD X (.type "list") gList := by
  intro pins s σ H xs us Q mu T S ws w I r st bn p e q
  unfold gList at e
  split at e
  · cases e
    cases p with
    | cons p1 p2 =>
      cases p2
      cases p1 with
      | lst a b => exact call_list_of pins s σ H _ us Q I r ⟨_, _, rfl, .inl a.sq, fun l hl => q _ _ (same_upd hl) (new_lst st bn b hl)⟩
  · cases e
    cases p with
    | cons p1 p2 =>
      cases p2
      cases p1 with
      | tup a b => exact call_list_of pins s σ H _ us Q I r ⟨_, _, rfl, .inr a.sq, fun l hl => q _ _ (same_upd hl) (new_lst st bn b hl)⟩
  · cases e
def gTuple : List Wd → Option Wd
  | [.list ys] => some (.tuple ys)
  | [.tuple ys] => some (.tuple ys)
  | _ => none
theorem cd_tuple : CallD X (.type "tuple") gTuple := by
  intro pins s σ H xs us Q mu T S ws w I r st bn p e q
  unfold gTuple at e
  split at e
  · cases e
    cases p with
    | cons p1 p2 =>
      cases p2
      obtain ⟨u, rfl, rx⟩ := vals1 r
      cases p1 with
      | lst a b =>
        cases rx
        obtain ⟨its, r', pl, hz⟩ := I.list a.sq
        have hlen := r'.length
        refine call_tuple_list pl.isList (fun h' kp => ?_) (by simp only [List.size_toArray] <;> omega)
        have I1 : Inv X pins σ H { s with heap := h' } := I.kept (t' := s.toks) kp
        have I2 := Inv.ftup (t' := s.toks) I1 r' hz
        have n1 : H h'.objs.size = none := I1.hok.fresh (Nat.le_refl _)
        exact ⟨.ref h'.objs.size, _, I2, rfl, q _ _ (same_upd n1) (new_tup st bn b n1 rfl)⟩
  · cases e
    cases p with
    | cons p1 p2 =>
      cases p2
      cases p1 with
      | tup a b => exact call_tupleT pins s σ H _ us Q I r ⟨_, _, rfl, a.sq, q _ H (Same.refl H) (.tup a b)⟩
  · cases e
def gRepr : List Wd → Option Wd
  | [d] => if d.showable = true ∧ SeqAt.shaped d = true ∧ d.shown.length ≤ sizeLine then some (.str d.shown) else none
  | _ => none
theorem cd_repr (hg : X.A.guards = some []) (hu : X.A.units + 66 < cLine) : CallD X (.builtin "repr") gRepr := by
  intro pins s σ H xs us Q mu T S ws w I r st bn p e q
  unfold gRepr at e
  split at e
  · rename_i d
    obtain ⟨⟨h1, h2, h3⟩, rfl⟩ := ite_inv e
    have hdep := SeqAt.depth_of_shaped h2
    have hnd := PyData.hasDict_of_canLay d (SeqAt.canLay_of_shaped h2)
    cases p with
    | @cons v _ _ _ p1 p2 =>
      cases p2
      obtain ⟨u, rfl, rx⟩ := vals1 r
      have fin : ∀ (h' : Heap) (t : Tok) (tk : Nat), (∀ b o, s.heap.get? b = some o → h'.get? b = some o) → EP X pins σ Q (.str d.shown t) { s with heap := h', toks := tk } := fun h' t tk k =>
        ⟨.str d.shown, H, I.kept k, ⟨t, rfl⟩, q _ H (Same.refl H) (.str _)⟩
      obtain ⟨as, rd⟩ := Dp.reads I d v u (Rp.dp _ _ p1 (SeqAt.canLay_of_shaped h2)) rx
      cases p1 with
      | non => cases rx; exact PySem.P.repr_of_none (fin s.heap _ _ fun _ _ z => z)
      | bl b => cases rx; exact PySem.P.repr_of_bool (fin s.heap _ _ fun _ _ z => z)
      | int i =>
        obtain ⟨t, rfl⟩ := rx
        exact PySem.P.repr_of_int (of_decide_eq_true h1) (fin s.heap _ _ fun _ _ z => z)
      | str x =>
        obtain ⟨t, rfl⟩ := rx
        exact PySem.P.repr_of_str (fin s.heap _ _ fun _ _ z => z) h3
      | lst a b => cases rx; exact repr_of_reads' rd h1 (PyData.noDict_hsm hnd) hg (by omega) (fun _ _ z => z) (fun h' t tk k => fin h' t tk k) h3
      | tup a b => cases rx; exact repr_of_reads' rd h1 (PyData.noDict_hsm hnd) hg (by omega) (fun _ _ z => z) (fun h' t tk k => fin h' t tk k) h3
      | dct a b => cases hnd
      | obj a => cases hnd
  · cases e
end
end DL
namespace DL
open PySem PySem.Spec PyProof.Rows L2
section
variable {X : Cx} {es : List Expr} {fs : Ma} {pos : Pos}
def mLst (fs : Ma) : Mx := fun ρ S => (fs ρ S).bnd fun ws S1 => if ws.length ≤ sizeLine then .ok (.list ws) S1 else .bad
def mTup (fs : Ma) : Mx := fun ρ S => (fs ρ S).bnd fun ws S1 => if ws.length ≤ sizeLine then .ok (.tuple ws) S1 else .bad
theorem okIte {α : Type} {c : Prop} [Decidable c] {a b : α} {S S' : Sto} (h : (if c then R.ok a S else R.bad) = R.ok b S') : c ∧ a = b ∧ S = S' := by
  by_cases q : c
  · rw [if_pos q] at h
    cases h
    exact ⟨q, rfl, rfl⟩
  · rw [if_neg q] at h
    cases h
theorem de_lst (h : Da X es fs) : De X (.List es pos) (mLst fs) :=
  PE.weak (pe_lst h) fun σ H Q ⟨ρ, S, mu, B, O, rl, w, S', e1, q⟩ => by
    obtain ⟨ws, S1, e2, e1⟩ := R.bnd_inv e1
    obtain ⟨hz, rfl, rfl⟩ := okIte e1
    exact tDa.mk rl e2 fun vs H1 mu1 E r p => ⟨by rw [p.length]; exact hz, fun l hl => q _ _ mu1 (E.trans (.same (same_upd hl))) (r.sto.same (same_upd hl)) (new_lst r.sto r.bn p hl)⟩
theorem de_tup {k : Nat} (h : Da X es fs) : De X (.Tuple es k pos) (mTup fs) := by
  refine ⟨fun pins s σ H Q I ⟨ρ, S, mu, B, O, rl, w, S', e1, q⟩ => ?_⟩
  obtain ⟨ws, S1, e2, e1⟩ := R.bnd_inv e1
  obtain ⟨hz, rfl, rfl⟩ := okIte e1
  refine wpAny_Tuple_spliced (thn (h.run pos pins s σ H (fun vs H1 => ∃ mu1, Ext mu mu1 H H1 ∧ Rel X.K mu1 B O H1 σ ρ S1 ∧ RpAll X.K mu1 (fun a => B a ∨ O a) H1 vs ws) I (tDa.mk rl e2 fun vs H1 mu1 E r p => ⟨mu1, E, r, p⟩)) fun us s1 ⟨xs, H1, I1, r, mu1, E, rl1, p⟩ => ?_)
  have hl : xs.length ≤ sizeLine := by rw [p.length]; exact hz
  refine ⟨by rw [← r.length]; exact hl, ?_⟩
  have nf : H1 s1.heap.objs.size = none := I1.hok.fresh (Nat.le_refl _)
  exact ⟨.ref s1.heap.objs.size, _, Inv.ftup (t' := s1.toks) I1 r hl, rfl, q _ _ mu1 (E.trans (.same (same_upd nf))) (rl1.sto.same (same_upd nf)) (new_tup rl1.sto rl1.bn p nf rfl)⟩
end
def recGet (S : Sto) (l : Nat) (x : Str) : Option Wd := match S[l]? with
  | some (.dct fs) => fs.lookup x
  | _ => none
def putS (x : Str) (w : Wd) (fs : List (Str × Wd)) : List (Str × Wd) := if (fs.any fun q => decide (q.1 = x)) = true then fs.map (fun q => if q.1 = x then (q.1, w) else q) else fs ++ [(x, w)]
def recPut (S : Sto) (l : Nat) (x : Str) (w : Wd) : Option Sto := match S[l]? with
  | some (.dct fs) => if fs.length < sizeLine then some (S.set l (.dct (putS x w fs))) else none
  | _ => none
section
variable {K : Fg} {mu : List Addr} {T : Addr → Prop} {H : Hp} {S : Sto}
theorem FsR.look : ∀ {kvs : List (Key × V)} {fs : List (Str × Wd)} {x : Str} {w : Wd}, FsR K mu T H kvs fs → fs.lookup x = some w → ∃ v, valV kvs (Sum.inr x) = some v ∧ Rp K mu T H v w
  | [], [], _, _, _, e => by cases e
  | (k, v) :: r, (y, d) :: ds, x, w, h, e => by
    obtain ⟨rfl, h1, h2⟩ := h
    rw [List.lookup_cons] at e
    by_cases c : x = y
    · subst c
      rw [beq_self_eq_true] at e
      cases e
      exact ⟨v, valV_pos rfl, h1⟩
    · rw [beq_eq_false_iff_ne.mpr c] at e
      obtain ⟨v', e1, e2⟩ := FsR.look h2 e
      exact ⟨v', by rw [valV_neg (fun z => c (Sum.inr.inj z).symm)]; exact e1, e2⟩
  | [], _ :: _, _, _, h, _ => h.elim
  | _ :: _, [], _, _, h, _ => h.elim
theorem FsR.length : ∀ {kvs : List (Key × V)} {fs : List (Str × Wd)}, FsR K mu T H kvs fs → kvs.length = fs.length
  | [], [], _ => rfl
  | _ :: _, _ :: _, h => by rw [List.length_cons, List.length_cons, FsR.length h.2.2]
  | [], _ :: _, h => h.elim
  | _ :: _, [], h => h.elim
theorem FsR.any : ∀ {kvs : List (Key × V)} {fs : List (Str × Wd)} (x : Str), FsR K mu T H kvs fs → (kvs.any fun q => decide (q.1 = Sum.inr x)) = fs.any fun q => decide (q.1 = x)
  | [], [], _, _ => rfl
  | (k, v) :: r, (y, d) :: ds, x, h => by
    obtain ⟨rfl, h1, h2⟩ := h
    rw [List.any_cons, List.any_cons, FsR.any x h2]
    congr 1
    by_cases c : y = x
    · subst c
      simp
    · rw [decide_eq_false c, decide_eq_false (fun z => c (Sum.inr.inj z))]
  | [], _ :: _, _, h => h.elim
  | _ :: _, [], _, h => h.elim
theorem FsR.mapPut {v : V} {w : Wd} (x : Str) (p : Rp K mu T H v w) : ∀ {kvs : List (Key × V)} {fs : List (Str × Wd)}, FsR K mu T H kvs fs →
    FsR K mu T H (kvs.map fun q => if q.1 = Sum.inr x then (q.1, v) else q) (fs.map fun q => if q.1 = x then (q.1, w) else q)
  | [], [], _ => trivial
  | (k, v') :: r, (y, d) :: ds, h => by
    obtain ⟨rfl, h1, h2⟩ := h
    have ih := FsR.mapPut x p h2
    rw [List.map_cons, List.map_cons]
    by_cases c : y = x
    · subst c
      rw [if_pos rfl, if_pos rfl]
      exact ⟨rfl, p, ih⟩
    · rw [if_neg c, if_neg (fun z => c (Sum.inr.inj z))]
      exact ⟨rfl, h1, ih⟩
  | [], _ :: _, h => h.elim
  | _ :: _, [], h => h.elim
theorem FsR.snoc {v : V} {w : Wd} (x : Str) (p : Rp K mu T H v w) : ∀ {kvs : List (Key × V)} {fs : List (Str × Wd)}, FsR K mu T H kvs fs → FsR K mu T H (kvs ++ [(Sum.inr x, v)]) (fs ++ [(x, w)])
  | [], [], _ => ⟨rfl, p, trivial⟩
  | (k, v') :: r, (y, d) :: ds, h => ⟨h.1, h.2.1, FsR.snoc x p h.2.2⟩
  | [], _ :: _, h => h.elim
  | _ :: _, [], h => h.elim
theorem FsR.put {v : V} {w : Wd} (x : Str) (p : Rp K mu T H v w) {kvs : List (Key × V)} {fs : List (Str × Wd)} (h : FsR K mu T H kvs fs) : FsR K mu T H (putK kvs (Sum.inr x) v) (putS x w fs) := by
  unfold putK putS
  rw [FsR.any x h]
  split
  · exact FsR.mapPut x p h
  · exact FsR.snoc x p h
theorem Ext.at_mu {a : Addr} {o : HO} (h : a ∈ mu) : Ext mu mu H (upd H a o) := ⟨fun _ _ q => q, fun b x e n => by rw [upd_ne (show b ≠ a from fun z => n (z ▸ h))]; exact e, fun _ q n => absurd q n⟩
theorem nodup_ad {N : List Addr} (hN : N.Nodup) {i j : Nat} {x : Addr} (p : N[i]? = some x) (q : N[j]? = some x) : i = j := by
  obtain ⟨h1, e1⟩ := List.getElem?_eq_some_iff.mp p
  obtain ⟨h2, e2⟩ := List.getElem?_eq_some_iff.mp q
  exact (List.getElem_inj hN).mp (e1.trans e2.symm)
theorem StOk.put (st : StOk K mu T H S) {l : Nat} {a : Addr} {fs : List (Str × Wd)} {kvs : List (Key × V)} {x : Str} {v : V} {w : Wd} (hl : mu[l]? = some a) (hs : S[l]? = some (.dct fs)) (hH : H a = some (.dK kvs)) (hf : FsR K mu T H kvs fs) (p : Rp K mu T H v w) :
    StOk K mu T (upd H a (.dK (putK kvs (Sum.inr x) v))) (S.set l (.dct (putS x w fs))) := by
  have hm : a ∈ mu := List.mem_of_getElem? hl
  have ex : Ext mu mu H (upd H a (.dK (putK kvs (Sum.inr x) v))) := .at_mu hm
  refine ⟨by rw [List.length_set]; exact st.len, st.nd, fun j b r h1 h2 => ?_⟩
  by_cases c : j = l
  · subst c
    rw [hl] at h1
    cases h1
    have hj : j < S.length := (List.getElem?_eq_some_iff.mp hs).1
    rw [List.getElem?_set_self hj] at h2
    cases h2
    exact ⟨_, upd_same, FsR.map (fun _ _ z => z.ext ex) (hf.put x p)⟩
  · rw [List.getElem?_set_ne (Ne.symm c)] at h2
    have nb : b ≠ a := fun z => c (nodup_ad st.nd h1 (z ▸ hl))
    exact RecOk.map (fun _ z => by rw [upd_ne nb]; exact z) (fun _ _ z => z.ext ex) (fun c _ _ z n => ⟨ex.keep _ _ z n, n⟩) (st.ok j b r h1 h2)
theorem StOk.newRec (st : StOk K mu T H S) {p : Addr} {kvs0 kvs : List (Key × V)} {fs : List (Str × Wd)} (hp : H p = some (.dK kvs0)) (np : p ∉ mu) (tp : T p) (bn : Bn mu T H) (hf : FsR K mu T H kvs fs) :
    StOk K (mu ++ [p]) T (upd H p (.dK kvs)) (S ++ [.dct fs]) := by
  have up : ∀ v w, Rp K mu T H v w → Rp K (mu ++ [p]) T (upd H p (.dK kvs)) v w := fun v w h => by
    have h1 : Rp K mu T (upd H p (.dK kvs)) v w := h.at_ban tp
    refine Rp.map (fun a xs z => z.imp (fun z => ⟨z.1, fun m => ?_, z.2.2⟩) id) (fun a xs z => z.imp (fun z => ⟨z.1, fun m => ?_, z.2.2⟩) id) (fun a xs z => ⟨z.1, fun m => ?_, z.2.2⟩) (fun l a z => ?_) _ _ h1
    · rcases List.mem_append.mp m with m | m
      · exact z.2.1 m
      · rw [List.mem_singleton] at m
        exact z.2.2 (m ▸ tp)
    · rcases List.mem_append.mp m with m | m
      · exact z.2.1 m
      · rw [List.mem_singleton] at m
        exact z.2.2 (m ▸ tp)
    · rcases List.mem_append.mp m with m | m
      · exact z.2.1 m
      · rw [List.mem_singleton] at m
        exact z.2.2 (m ▸ tp)
    · rw [List.getElem?_append_left (List.getElem?_eq_some_iff.mp z).1]
      exact z
  refine ⟨by rw [List.length_append, List.length_append, st.len]; rfl, ?_, fun l a r h1 h2 => ?_⟩
  · rw [List.nodup_append]
    refine ⟨st.nd, by simp, fun x hx y hy => ?_⟩
    rw [List.mem_singleton] at hy
    subst hy
    exact fun e => np (e ▸ hx)
  · by_cases c : l < S.length
    · rw [List.getElem?_append_left c] at h2
      rw [List.getElem?_append_left (by rw [st.len]; exact c)] at h1
      have na : a ≠ p := fun e => np (e ▸ List.mem_of_getElem? h1)
      exact RecOk.map (fun _ z => by rw [upd_ne na]; exact z) up (fun c o f z n => have ne : c ≠ p := fun e => by rw [e, hp] at z; cases z; rcases f with ⟨_, _, f⟩ | ⟨_, f⟩ <;> exact (nomatch f)
        ⟨by rw [upd_ne ne]; exact z, fun m => (List.mem_append.mp m).elim n fun m => ne (List.mem_singleton.mp m)⟩) (st.ok l a r h1 h2)
    · rw [List.getElem?_append_right (by omega)] at h2
      rw [List.getElem?_append_right (by rw [st.len]; omega)] at h1
      have hl : l - S.length = 0 := by
        have := (List.getElem?_eq_some_iff.mp h2).1
        simp at this
        omega
      rw [st.len, hl] at h1
      rw [hl] at h2
      cases h1
      cases h2
      exact ⟨kvs, upd_same, FsR.map up hf⟩
end
def keyD : Wd → Bool
  | .int _ => true
  | .str _ => true
  | _ => false
def gIx (S : Sto) : Wd → Wd → Option Wd
  | .list ys, .int i => atI ys i
  | .tuple ys, .int i => atI ys i
  | .str z, .int i => if z.length ≤ sizeLine then (atI z.cps.toList i).map fun c => .str ⟨#[c]⟩ else none
  | .dict [(.none, .int (.ofNat l))], .str x => recGet S l x
  | .dict ys, k => if keyD k = true then lookD ys k else none
  | _, _ => none
def mIx (fa fb : Mx) : Mx := fun ρ S => (fa ρ S).bnd fun x S1 => (fb ρ S1).bnd fun y S2 => R.of (gIx S2 x y) S2
section
variable {K : Fg} {mu : List Addr} {T : Addr → Prop} {H : Hp} {S : Sto}
theorem atI_rp {vs : List V} {ws : List Wd} {i : Int} {w : Wd} (h : RpAll K mu T H vs ws) (e : atI ws i = some w) : ∃ v, atI vs i = some v ∧ Rp K mu T H v w := by
  unfold atI at e ⊢
  rw [h.length]
  cases z : ixN ws.length i with
  | none =>
    rw [z] at e
    cases e
  | some j =>
    rw [z] at e
    obtain ⟨v, e1, e2⟩ := h.get (show ws[j]? = some w from e)
    exact ⟨v, e1, e2⟩
theorem eqv_key (k k' : Key) : PyData.eqv (kW k) (kW k') = decide (k = k') := by
  cases k with
  | inl i => cases k' with
    | inl j => rw [key_ll]; rfl
    | inr y => rw [key_lr]; rfl
  | inr x => cases k' with
    | inl j => rw [key_rl]; rfl
    | inr y =>
      rw [key_rr]
      show (x == y) = decide (x = y)
      by_cases c : x = y
      · subst c
        simp
      · rw [decide_eq_false c]
        exact beq_eq_false_iff_ne.mpr c
theorem kv_keys : ∀ {kvs : List (Key × V)} {ds : List (Wd × Wd)}, RpKv K mu T H kvs ds → ∀ q ∈ ds, q.1 ≠ .none
  | [], [], _, q, hq => by cases hq
  | (k, v) :: r, (_, d) :: ds, h, q, hq => by
    cases h with
    | cons a b =>
      rcases List.mem_cons.mp hq with rfl | hq
      · exact kW_ne
      · exact kv_keys b q hq
theorem kv_none {kvs : List (Key × V)} {d : Wd} {ds : List (Wd × Wd)} (h : RpKv K mu T H kvs ((.none, d) :: ds)) : False := kv_keys h (.none, d) List.mem_cons_self rfl
theorem look_kv (k : Key) : ∀ {kvs : List (Key × V)} {ds : List (Wd × Wd)} {w : Wd}, RpKv K mu T H kvs ds → lookD ds (kW k) = some w → ∃ v, valV kvs k = some v ∧ Rp K mu T H v w
  | [], [], _, _, e => by cases e
  | (k', v) :: r, (_, d) :: ds, w, h, e => by
    cases h with
    | cons a b =>
      unfold lookD at e
      rw [eqv_key] at e
      by_cases c : k' = k
      · rw [decide_eq_true c, if_pos rfl] at e
        cases e
        exact ⟨v, valV_pos c, a⟩
      · rw [decide_eq_false c, if_neg Bool.false_ne_true] at e
        obtain ⟨v', e1, e2⟩ := look_kv k b e
        exact ⟨v', by rw [valV_neg c]; exact e1, e2⟩
end
section
variable {X : Cx} {a b : Expr} {fa fb : Mx} {pos : Pos}
theorem tail_of {prog : Program} {w : World} {A : Around} {E : Value → Shared → Prop} {s : Shared} {value slice : Expr} {o i : Value} {Tn id : String} {Q : Value → Shared → Prop} (hT : s.TypeIs o Tn) (hl : typeLookup (.type Tn) "__getitem__" = pure (some (.builtin id)))
    (hs : subscripted slice false o i = operate [o, i] (getItem o i)) (h : wpAny (model prog w) A (getItem o i) Q E s) : wpAny (model prog w) A (subscriptTail value slice o i) Q E s := by
  have go : wpAny (model prog w) A (subscripted slice false o i) (fun r s₃ => wpAny (model prog w) A (letTemporaryGo value o r >>= fun _ => pure r) Q E s₃) E s := by
    rw [hs]
    exact wpAny_operating (thn h fun r s₃ h₃ => wpAny_bind (wpAny_letTemporaryGo (wpAny_pure h₃)))
  unfold subscriptTail
  refine wpAny_bind ?_
  rw [getitemInPython_of_ne hT.not_modules]
  refine wpAny_bind (wpAny_specialOf hT hl ?_)
  first
    | exact wpAny_pure (wpAny_bind go)
    | exact wpAny_bind (wpAny_pure (wpAny_bind go))
    | exact wpAny_bind go
theorem de_ix (hu : X.A.units + 1 < cLine) (ha : De X a fa) (hb : De X b fb) (hs : PlainIx b) : De X (.Subscript a b pos) (mIx fa fb) := by
  refine ⟨fun pins s σ H Q I ⟨ρ, S, mu, B, O, rl, w, S', e, q⟩ => ?_⟩
  obtain ⟨x, S1, e1, e⟩ := R.bnd_inv e
  obtain ⟨y, S2, e2, e⟩ := R.bnd_inv e
  obtain ⟨e3, rfl⟩ := R.of_inv e
  refine Subscript_ (thn (ha.run pins s σ H (fun x' H1 => ∃ mu1, Ext mu mu1 H H1 ∧ Rel X.K mu1 B O H1 σ ρ S1 ∧ Rp X.K mu1 (fun a => B a ∨ O a) H1 x' x) I (tD.mk rl e1 fun v H1 mu1 h1 h2 h3 => ⟨mu1, h1, h2, h3⟩)) fun v s1 ⟨x', H1, I1, r1, mu1, E1, rl1, p1⟩ => ?_)
  refine thn (hb.run pins s1 σ H1 (fun y' H2 => ∃ mu2, Ext mu1 mu2 H1 H2 ∧ Rel X.K mu2 B O H2 σ ρ S2 ∧ Rp X.K mu2 (fun a => B a ∨ O a) H2 y' y) I1 (tD.mk rl1 e2 fun v H1 mu1 h1 h2 h3 => ⟨mu1, h1, h2, h3⟩)) fun u s2 ⟨y', H2, I2, r2, mu2, E2, rl2, p2⟩ => ?_
  have p1 := p1.ext E2
  have fin : ∀ {z : V}, Rp X.K mu2 (fun a => B a ∨ O a) H2 z w → Q z H2 := fun {z} p => q z H2 mu2 (E1.trans E2) rl2.sto p
  have dict : ∀ {ad : Addr} {z : V}, x' = .ref ad → DGet H2 ad y' (some z) → Q z H2 → wpAny (model X.prog X.w) X.A (subscriptTail a b v u) (EP X pins σ Q) X.xe s2 := fun {ad z} ex g qz => by
    subst ex
    cases r1
    exact tail_of (dict_typeIs I2 g) PySem.F.slot_dict_getitem.lookup (hs _ _) (d_getItem hu I2 g r2 fun w' s3 I3 rw' => ⟨z, H2, I3, rw', qz⟩)
  unfold gIx at e3
  split at e3
  · cases p1 with
    | lst h1 h2 =>
      cases p2
      obtain ⟨z, z1, z2⟩ := atI_rp h2 e3
      exact ix_list a b pins s2 σ H2 _ _ v u Q I2 r1 r2 ⟨_, _, _, z, rfl, rfl, h1.sq, z1, fin z2⟩ (hs _ _)
  · cases p1 with
    | tup h1 h2 =>
      cases p2
      obtain ⟨z, z1, z2⟩ := atI_rp h2 e3
      exact ix_tup a b pins s2 σ H2 _ _ v u Q I2 r1 r2 ⟨_, _, _, z, rfl, rfl, h1.sq, z1, fin z2⟩ (hs _ _)
  · split at e3
    · rename_i hz
      obtain ⟨c, c1, rfl⟩ := Option.map_eq_some_iff.mp e3
      cases p1; cases p2
      exact ix_str a b pins s2 σ H2 _ _ v u Q I2 r1 r2 ⟨_, _, c, rfl, rfl, hz, c1, fin (.str _)⟩ (hs _ _)
    · cases e3
  · rename_i l nm
    cases p2
    cases p1 with
    | obj hl =>
      unfold recGet at e3
      split at e3
      · rename_i fs hS
        obtain ⟨kvs, h1, h2⟩ := rl2.sto.ok _ _ _ hl hS
        obtain ⟨z, z1, z2⟩ := h2.look e3
        refine dict (z := z) rfl ?_ (fin z2)
        rw [← z1]
        exact DGet.k (k := Sum.inr _) h1
      · cases e3
    | dct h1 h2 => exact (kv_none h2).elim
  · rename_i ys k hne
    split at e3
    · rename_i hk
      cases p1 with
      | dct h1 h2 =>
        cases p2 with
        | int i =>
          obtain ⟨z, z1, z2⟩ := look_kv (Sum.inl i) h2 e3
          refine dict (z := z) rfl ?_ (fin z2)
          rw [← z1]
          exact DGet.k (k := Sum.inl i) h1.1
        | str i =>
          obtain ⟨z, z1, z2⟩ := look_kv (Sum.inr i) h2 e3
          refine dict (z := z) rfl ?_ (fin z2)
          rw [← z1]
          exact DGet.k (k := Sum.inr i) h1.1
        | _ => cases hk
      | obj hl =>
        cases p2 with
        | int i => cases e3
        | str i => cases e3
        | _ => cases hk
    · cases e3
  · cases e3
def cutD (xs : List Wd) (lo hi : Option Int) : List Wd := (xs.drop (HT.sIx xs.length 0 lo)).take (HT.sIx xs.length xs.length hi - HT.sIx xs.length 0 lo)
def gSl (lo hi : Option Int) : Wd → Option Wd
  | .list ys => some (.list (cutD ys lo hi))
  | .tuple ys => some (.tuple (cutD ys lo hi))
  | .str z => if z.length ≤ sizeLine then some (.str (cutS z lo hi)) else none
  | _ => none
abbrev Mo := Ev → Sto → R (Option Int)
def oNone : Mo := fun _ S => .ok none S
def oSome (f : Mx) : Mo := fun ρ S => (f ρ S).bnd fun w S1 => match w with
  | .int i => .ok (some i) S1
  | _ => .bad
def mSl (f : Mx) (lo hi : Mo) : Mx := fun ρ S => (f ρ S).bnd fun x S1 => (lo ρ S1).bnd fun l S2 => (hi ρ S2).bnd fun h S3 => R.of (gSl l h x) S3
def tDo (K : Fg) (f : Mo) : TO := fun σ H Q => ∃ ρ S mu B O, Rel K mu B O H σ ρ S ∧ ∃ w S', f ρ S = .ok w S' ∧ ∀ H' mu', Ext mu mu' H H' → StOk K mu' (fun a => B a ∨ O a) H' S' → Q w H'
def Dso (X : Cx) (e : Option Expr) (f : Mo) : Prop := PO X e (tDo X.K f)
theorem tDo.mk {K : Fg} {ρ : Ev} {S S1 : Sto} {mu : List Addr} {B O : Addr → Prop} {σ : Sg} {H : Hp} {f : Mo} {w : Option Int} {Q : Option Int → Hp → Prop} (rl : Rel K mu B O H σ ρ S) (e : f ρ S = .ok w S1) (q : ∀ H1 mu1, Ext mu mu1 H H1 → Rel K mu1 B O H1 σ ρ S1 → Q w H1) : tDo K f σ H Q :=
  ⟨ρ, S, mu, B, O, rl, w, S1, e, fun H1 mu1 x st => q H1 mu1 x (rl.ext x st)⟩
theorem do_none : Dso X none oNone := ⟨fun pins s σ H Q I ⟨ρ, S, mu, B, O, rl, w, S', e, q⟩ => by
  cases e
  exact po_none.run pins s σ H Q I (q H mu (.refl _ _) rl.sto)⟩
theorem do_some (h : De X a fa) : Dso X (some a) (oSome fa) := ⟨fun pins s σ H Q I ⟨ρ, S, mu, B, O, rl, w, S', e, q⟩ => by
  obtain ⟨x, S1, e1, e⟩ := R.bnd_inv e
  refine (po_some h).run pins s σ H Q I (tD.mk rl e1 fun v H1 mu1 E r p => ?_)
  split at e
  · cases e
    cases p
    exact ⟨_, rfl, q H1 mu1 E r.sto⟩
  · cases e⟩
theorem sl_tupF : SlR X (fun x lo hi H Q => ∃ a xs, x = .ref a ∧ SqT X.K H a xs ∧ (HT.sIx xs.length 0 lo = 0 ∧ HT.sIx xs.length xs.length hi = xs.length → Q (.ref a) H) ∧
    (¬ (HT.sIx xs.length 0 lo = 0 ∧ HT.sIx xs.length xs.length hi = xs.length) → ∀ (p : Addr) (o : Obj), H p = none → o.dict = none → Q (.ref p) (upd H p (.frz o (.tup (cutV xs lo hi)))))) := by
  intro pins s σ H x v vl vu lo hi sl Q I rx hs pl pu h
  obtain ⟨ad, xs, rfl, hx, q1, q2⟩ := h
  cases rx
  obtain ⟨its, r, ht, hz⟩ := I.tuple hx
  have hlen : its.toArray.size = xs.length := by rw [List.size_toArray]; exact r.length.symm
  refine ⟨"tuple", _, PyProof.Rows.slot_tuple_getitem.lookup, ht.typeIs, ?_⟩
  by_cases hw : HT.sIx xs.length 0 lo = 0 ∧ HT.sIx xs.length xs.length hi = xs.length
  · exact getItem_tuple_whole ht hs pl pu (by rw [hlen]; exact hw) ⟨.ref ad, H, I, rfl, q1 hw⟩
  · refine HT.getItem_tuple_cut ht hs pl pu (by rw [hlen]; exact hw) ?_ (by rw [hlen]; exact hz)
    rw [hlen]
    have I2 := Inv.ftup (t' := s.toks) I ((r.drop (HT.sIx xs.length 0 lo)).take (HT.sIx xs.length xs.length hi - HT.sIx xs.length 0 lo)) (Nat.le_trans (cutV_length xs lo hi) hz)
    exact ⟨.ref s.heap.objs.size, _, I2, rfl, q2 hw _ _ (I.hok.fresh (Nat.le_refl _)) rfl⟩
theorem cut_rp {K : Fg} {mu : List Addr} {T : Addr → Prop} {H : Hp} {vs : List V} {ws : List Wd} (lo hi : Option Int) (h : RpAll K mu T H vs ws) : RpAll K mu T H (cutV vs lo hi) (cutD ws lo hi) := by
  unfold cutV cutD
  rw [h.length]
  exact (h.drop _).take _
theorem cut_whole {ws : List Wd} {lo hi : Option Int} (h : HT.sIx ws.length 0 lo = 0 ∧ HT.sIx ws.length ws.length hi = ws.length) : cutD ws lo hi = ws := by
  unfold cutD
  rw [h.1, h.2, Nat.sub_zero]
  exact List.take_length
def rSD (K : Fg) : V → Option Int → Option Int → Hp → VK → Prop := fun x lo hi H Q => ∃ mu T S dx w, StOk K mu T H S ∧ Bn mu T H ∧ Rp K mu T H x dx ∧ gSl lo hi dx = some w ∧ ∀ v H', Same H H' → Rp K mu T H' v w → Q v H'
theorem sl_D : SlR X (rSD X.K) := by
  intro pins s σ H x v vl vu lo hi sl Q I rx hs pl pu ⟨mu, T, S, dx, w, st, bn, p, e, q⟩
  unfold gSl at e
  split at e
  · cases e
    cases p with
    | lst h1 h2 => exact sl_list pins s σ H _ v vl vu lo hi sl Q I rx hs pl pu ⟨_, _, rfl, h1.sq, fun p hp => q _ _ (same_upd hp) (new_lst st bn (cut_rp lo hi h2) hp)⟩
  · cases e
    cases p with
    | tup h1 h2 =>
      refine sl_tupF pins s σ H _ v vl vu lo hi sl Q I rx hs pl pu ⟨_, _, rfl, h1.sq, fun z => ?_, fun _ p o hp d => q _ _ (same_upd hp) (new_tup st bn (cut_rp lo hi h2) hp d)⟩
      rw [h2.length] at z
      rw [cut_whole z] at q
      exact q _ H (Same.refl H) (.tup h1 h2)
  · obtain ⟨hz, rfl⟩ := ite_inv e
    cases p
    exact sl_str pins s σ H _ v vl vu lo hi sl Q I rx hs pl pu ⟨_, rfl, hz, q _ H (Same.refl H) (.str _)⟩
  · cases e
theorem de_slice {lo hi : Option Expr} {fl fh : Mo} {p2 : Pos} (he : De X a fa) (hl : Dso X lo fl) (hh : Dso X hi fh) : De X (.Subscript a (.Slice lo hi none p2) pos) (mSl fa fl fh) :=
  PE.weak (pe_slice sl_D he hl hh) fun σ H Q ⟨ρ, S, mu, B, O, rl, w, S', e, q⟩ => by
    obtain ⟨x, S1, e1, e⟩ := R.bnd_inv e
    obtain ⟨l, S2, e2, e⟩ := R.bnd_inv e
    obtain ⟨h, S3, e3, e⟩ := R.bnd_inv e
    obtain ⟨e4, rfl⟩ := R.of_inv e
    exact tD.mk rl e1 fun v H1 mu1 E1 r1 p1 => tDo.mk r1 e2 fun H2 mu2 E2 r2 => tDo.mk r2 e3 fun H3 mu3 E3 r3 =>
      ⟨mu3, _, S3, x, w, r3.sto, r3.bn, (p1.ext E2).ext E3, e4, fun v H4 sm p4 => q v H4 mu3 (((E1.trans E2).trans E3).trans (.same sm)) (r3.sto.same sm) p4⟩
end
end DL
namespace DL
open PySem PySem.Spec PyProof.Rows L2
inductive Out where
  | nx (ρ : Ev) (S : Sto)
  | rt (w : Wd) (S : Sto)
  | bk (ρ : Ev) (S : Sto)
  | ct (ρ : Ev) (S : Sto)
  | bad
abbrev Ms := Ev → Sto → Out
structure ExtS (mu mu' : List Addr) (O O' : Addr → Prop) (H H' : Hp) : Prop where
  pre : ∀ (l : Nat) (a : Addr), mu[l]? = some a → mu'[l]? = some a
  keep : ∀ a o, H a = some o → a ∉ mu → ¬ O a → H' a = some o
  new : ∀ a, a ∈ mu' → a ∉ mu → H a = none
  own : ∀ a, O' a → O a ∨ H a = none
  tr : ∀ a, H a ≠ none → H' a ≠ none
section
variable {K : Fg} {mu m1 m2 : List Addr} {B O O1 O2 : Addr → Prop} {H H1 H2 : Hp} {S S1 : Sto}
theorem ExtS.refl (mu : List Addr) (O : Addr → Prop) (H : Hp) : ExtS mu mu O O H H := ⟨fun _ _ h => h, fun _ _ h _ _ => h, fun _ h n => absurd h n, fun _ h => .inl h, fun _ h => h⟩
theorem ExtS.notin (e : ExtS mu m1 O O1 H H1) {a : Addr} {o : HO} (h : H a = some o) (n : a ∉ mu) : a ∉ m1 := fun q => by
  have z := e.new a q n
  rw [h] at z
  cases z
theorem ExtS.trans (a : ExtS mu m1 O O1 H H1) (b : ExtS m1 m2 O1 O2 H1 H2) : ExtS mu m2 O O2 H H2 := by
  have back : ∀ x, H1 x = none → H x = none := fun x z => by
    cases e : H x with
    | none => rfl
    | some o => exact absurd z (a.tr x (by rw [e]; exact fun z => nomatch z))
  refine ⟨fun l x h => b.pre l x (a.pre l x h), fun x o h n no => b.keep x o (a.keep x o h n no) (a.notin h n) fun q => ?_, fun x h n => ?_, fun x h => ?_, fun x h => b.tr x (a.tr x h)⟩
  · rcases a.own x q with q | q
    · exact no q
    · rw [h] at q
      cases q
  · by_cases q : x ∈ m1
    · exact a.new x q n
    · exact back x (b.new x h q)
  · rcases b.own x h with q | q
    · exact a.own x q
    · exact .inr (back x q)
theorem Ext.toS (e : Ext mu m1 H H1) (st : StOk K m1 (fun a => B a ∨ O a) H1 S1) : ExtS mu m1 O O H H1 :=
  ⟨e.pre, fun a o h n _ => e.keep a o h n, e.new, fun _ h => .inl h, fun a h => by
    by_cases q : a ∈ mu
    · obtain ⟨kvs, z⟩ := st.tracked (e.sub q)
      rw [z]
      exact fun z => nomatch z
    · cases z : H a with
      | none => exact absurd z h
      | some o =>
        rw [e.keep a o z q]
        exact fun z => nomatch z⟩
theorem Rp.extS {v : V} {w : Wd} (h : Rp K mu (fun a => B a ∨ O a) H v w) (e : ExtS mu m1 O O1 H H1) : Rp K m1 (fun a => B a ∨ O1 a) H1 v w := by
  have no : ∀ {a : Addr} {o : HO}, H a = some o → ¬ (B a ∨ O a) → ¬ (B a ∨ O1 a) := fun {a o} h1 h2 h3 => by
    rcases h3 with h3 | h3
    · exact h2 (.inl h3)
    · rcases e.own a h3 with z | z
      · exact h2 (.inr z)
      · rw [h1] at z
        cases z
  refine Rp.map (fun a xs z => z.imp (fun z => ?_) id) (fun a xs z => z.imp (fun z => ?_) id) (fun a xs z => ?_) e.pre _ _ h
  · obtain ⟨z1, z2, z3⟩ := z
    rcases z1 with z1 | ⟨o, z1⟩
    · exact ⟨.inl (e.keep _ _ z1 z2 fun q => z3 (.inr q)), e.notin z1 z2, no z1 z3⟩
    · exact ⟨.inr ⟨o, e.keep _ _ z1 z2 fun q => z3 (.inr q)⟩, e.notin z1 z2, no z1 z3⟩
  · obtain ⟨⟨o, d, z1⟩, z2, z3⟩ := z
    exact ⟨⟨o, d, e.keep _ _ z1 z2 fun q => z3 (.inr q)⟩, e.notin z1 z2, no z1 z3⟩
  · obtain ⟨z1, z2, z3⟩ := z
    exact ⟨e.keep _ _ z1 z2 fun q => z3 (.inr q), e.notin z1 z2, no z1 z3⟩
theorem RpAll.extS {v : List V} {w : List Wd} (h : RpAll K mu (fun a => B a ∨ O a) H v w) (e : ExtS mu m1 O O1 H H1) : RpAll K m1 (fun a => B a ∨ O1 a) H1 v w := by
  have no : ∀ {a : Addr} {o : HO}, H a = some o → ¬ (B a ∨ O a) → ¬ (B a ∨ O1 a) := fun {a o} h1 h2 h3 => by
    rcases h3 with h3 | h3
    · exact h2 (.inl h3)
    · rcases e.own a h3 with z | z
      · exact h2 (.inr z)
      · rw [h1] at z
        cases z
  refine RpAll.map (fun a xs z => z.imp (fun z => ?_) id) (fun a xs z => z.imp (fun z => ?_) id) (fun a xs z => ?_) e.pre _ _ h
  · obtain ⟨z1, z2, z3⟩ := z
    rcases z1 with z1 | ⟨o, z1⟩
    · exact ⟨.inl (e.keep _ _ z1 z2 fun q => z3 (.inr q)), e.notin z1 z2, no z1 z3⟩
    · exact ⟨.inr ⟨o, e.keep _ _ z1 z2 fun q => z3 (.inr q)⟩, e.notin z1 z2, no z1 z3⟩
  · obtain ⟨⟨o, d, z1⟩, z2, z3⟩ := z
    exact ⟨⟨o, d, e.keep _ _ z1 z2 fun q => z3 (.inr q)⟩, e.notin z1 z2, no z1 z3⟩
  · obtain ⟨z1, z2, z3⟩ := z
    exact ⟨e.keep _ _ z1 z2 fun q => z3 (.inr q), e.notin z1 z2, no z1 z3⟩
end
def postS (K : Fg) (D : Ends) (mu : List Addr) (B O : Addr → Prop) (H : Hp) : Out → Prop
  | .nx ρ S => ∀ σ' H' mu' O', ExtS mu mu' O O' H H' → Rel K mu' B O' H' σ' ρ S → D.nx σ' H'
  | .rt w S => ∀ v H' mu' O', ExtS mu mu' O O' H H' → StOk K mu' (fun a => B a ∨ O' a) H' S → Rp K mu' (fun a => B a ∨ O' a) H' v w → D.rt v H'
  | .bk ρ S => ∀ σ' H' mu' O', ExtS mu mu' O O' H H' → Rel K mu' B O' H' σ' ρ S → D.bk σ' H'
  | .ct ρ S => ∀ σ' H' mu' O', ExtS mu mu' O O' H H' → Rel K mu' B O' H' σ' ρ S → D.ct σ' H'
  | .bad => False
def tDs (K : Fg) (m : Ms) : TS := fun D σ H => ∃ ρ S mu B O, Rel K mu B O H σ ρ S ∧ postS K D mu B O H (m ρ S)
def Ds (X : Cx) (st : Stmt) (m : Ms) : Prop := PS X st (tDs X.K m)
def Dss (X : Cx) (st : List Stmt) (m : Ms) : Prop := PSs X st (tDs X.K m)
theorem PS.weak {X : Cx} {st : Stmt} {t t' : TS} (h : PS X st t) (w : ∀ D σ H, t' D σ H → t D σ H) : PS X st t' := ⟨fun pins s σ H D I q => h.run pins s σ H D I (w _ _ _ q)⟩
theorem PSs.weak {X : Cx} {st : List Stmt} {t t' : TS} (h : PSs X st t) (w : ∀ D σ H, t' D σ H → t D σ H) : PSs X st t' := ⟨fun pins s σ H D I q => h.run pins s σ H D I (w _ _ _ q)⟩
theorem postS.mono {K : Fg} {D D' : Ends} {mu m1 : List Addr} {B O O1 : Addr → Prop} {H H1 : Hp} {o : Out} (e : ExtS mu m1 O O1 H H1) (h : postS K D mu B O H o) (hn : ∀ σ H, D.nx σ H → D'.nx σ H) (hr : ∀ v H, D.rt v H → D'.rt v H) (hb : ∀ σ H, D.bk σ H → D'.bk σ H) (hc : ∀ σ H, D.ct σ H → D'.ct σ H) :
    postS K D' m1 B O1 H1 o := by
  cases o with
  | nx ρ S => exact fun σ' H' mu' O' x r => hn _ _ (h σ' H' mu' O' (e.trans x) r)
  | rt w S => exact fun v H' mu' O' x s r => hr _ _ (h v H' mu' O' (e.trans x) s r)
  | bk ρ S => exact fun σ' H' mu' O' x r => hb _ _ (h σ' H' mu' O' (e.trans x) r)
  | ct ρ S => exact fun σ' H' mu' O' x r => hc _ _ (h σ' H' mu' O' (e.trans x) r)
  | bad => exact h
theorem postS.ext {K : Fg} {D : Ends} {mu m1 : List Addr} {B O O1 : Addr → Prop} {H H1 : Hp} {o : Out} (e : ExtS mu m1 O O1 H H1) (h : postS K D mu B O H o) : postS K D m1 B O1 H1 o := h.mono e (fun _ _ z => z) (fun _ _ z => z) (fun _ _ z => z) fun _ _ z => z
section
variable {X : Cx} {st : Stmt} {rest : List Stmt} {m m' : Ms} {e : Expr} {f : Mx} {pos : Pos} {t : Mt}
def sNil : Ms := fun ρ S => .nx ρ S
def sSeq (m m' : Ms) : Ms := fun ρ S => match m ρ S with
  | .nx ρ' S' => m' ρ' S'
  | o => o
theorem dss_nil : Dss X [] sNil := PSs.weak pss_nil fun D σ H ⟨ρ, S, mu, B, O, rl, q⟩ => q σ H mu O (.refl _ _ _) rl
theorem seq_weak {K : Fg} : ∀ D σ H, tDs K (sSeq m m') D σ H → tSeq (tDs K m) (tDs K m') D σ H := fun D σ H ⟨ρ, S, mu, B, O, rl, q⟩ => by
  refine ⟨ρ, S, mu, B, O, rl, ?_⟩
  unfold sSeq at q
  cases z : m ρ S with
  | nx ρ' S' =>
    rw [z] at q
    exact fun σ' H' mu' O' x r => ⟨ρ', S', mu', B, O', r, q.ext x⟩
  | rt w S' => rw [z] at q; exact q
  | bk ρ' S' => rw [z] at q; exact q
  | ct ρ' S' => rw [z] at q; exact q
  | bad => rw [z] at q; exact q
theorem dss_cons (h1 : Ds X st m) (h2 : Dss X rest m') : Dss X (st :: rest) (sSeq m m') := PSs.weak (pss_cons h1 h2) seq_weak
theorem dss_one (h : Ds X st m) : Dss X [st] m := pss_one h
def sBad : Ms := fun _ _ => .bad
theorem ds_never : Ds X st sBad := PS.weak ps_never fun D σ H ⟨ρ, S, mu, B, O, rl, q⟩ => q
def sOf (x : R Wd) (k : Wd → Sto → Out) : Out := match x with
  | .ok w S => k w S
  | .bad => .bad
@[simp] theorem sOf_ok (w : Wd) (S : Sto) (k : Wd → Sto → Out) : sOf (.ok w S) k = k w S := rfl
@[simp] theorem sOf_bad (k : Wd → Sto → Out) : sOf .bad k = .bad := rfl
def sTest (x : R Bool) (k : Bool → Sto → Out) : Out := match x with
  | .ok w S => k w S
  | .bad => .bad
@[simp] theorem sTest_ok (w : Bool) (S : Sto) (k : Bool → Sto → Out) : sTest (.ok w S) k = k w S := rfl
@[simp] theorem sTest_bad (k : Bool → Sto → Out) : sTest .bad k = .bad := rfl
def sRet (f : Mx) : Ms := fun ρ S => sOf (f ρ S) fun w S1 => .rt w S1
def sExpr (f : Mx) : Ms := fun ρ S => sOf (f ρ S) fun _ S1 => .nx ρ S1
def sIf (t : Mt) (m m' : Ms) : Ms := fun ρ S => sTest (t ρ S) fun b S1 => if b = true then m ρ S1 else m' ρ S1
theorem ds_ret (h : De X e f) : Ds X (.Return (some e) pos) (sRet f) := PS.weak (ps_ret h) fun D σ H ⟨ρ, S, mu, B, O, rl, q⟩ => by
  unfold sRet at q
  cases z : f ρ S with
  | ok w S1 =>
    rw [z] at q
    exact tD.mk rl z fun v H1 mu1 E r p => q v H1 mu1 O (E.toS r.sto) r.sto p
  | bad => rw [z] at q; exact q.elim
theorem ds_expr (h : De X e f) (hs : swapsWith e none pos.line X.env = pure false := by rfl) : Ds X (.Expr e pos) (sExpr f) := PS.weak (ps_expr h hs) fun D σ H ⟨ρ, S, mu, B, O, rl, q⟩ => by
  unfold sExpr at q
  cases z : f ρ S with
  | ok w S1 =>
    rw [z] at q
    exact tD.mk rl z fun v H1 mu1 E r p => q σ H1 mu1 O (E.toS r.sto) r
  | bad => rw [z] at q; exact q.elim
theorem ds_if {c : Expr} {a b : List Stmt} (hc : Dt X c t) (ha : Dss X a m) (hb : Dss X b m') : Ds X (.If c a b pos) (sIf t m m') := PS.weak (ps_if hc ha hb) fun D σ H ⟨ρ, S, mu, B, O, rl, q⟩ => by
  unfold sIf at q
  cases z : t ρ S with
  | ok w S1 =>
    rw [z] at q
    refine tDt.mk rl z fun H1 mu1 E r => ?_
    cases w with
    | true =>
      rw [if_pos rfl]
      exact ⟨ρ, S1, mu1, B, O, r, postS.ext (E.toS r.sto) q⟩
    | false =>
      rw [if_neg Bool.false_ne_true]
      exact ⟨ρ, S1, mu1, B, O, r, postS.ext (E.toS r.sto) q⟩
  | bad => rw [z] at q; exact q.elim
end
section
variable {K : Fg} {mu : List Addr} {B O : Addr → Prop} {H : Hp} {σ : Sg} {ρ : Ev} {S : Sto}
theorem set_get {α : Type} {l : List α} {i j : Nat} {x y : α} (h : (l.set i x)[j]? = some y) : (i = j ∧ x = y ∧ j < l.length) ∨ (i ≠ j ∧ l[j]? = some y) := by
  by_cases c : i = j
  · subst c
    by_cases hl : i < l.length
    · rw [List.getElem?_set_self hl] at h
      exact .inl ⟨rfl, Option.some.inj h, hl⟩
    · rw [List.getElem?_eq_none (by rw [List.length_set]; omega)] at h
      cases h
  · rw [List.getElem?_set_ne c] at h
    exact .inr ⟨c, h⟩
theorem Rel.set (h : Rel K mu B O H σ ρ S) (i : Nat) {v : V} {w : Wd} (p : Rp K mu (fun a => B a ∨ O a) H v w) : Rel K mu B O H (σ.set i (some v)) (ρ.set i (some (.val w))) S := by
  refine ⟨by rw [List.length_set, List.length_set]; exact h.len, fun j w' e => ?_, fun j ws e => ?_, fun j k ws ws' a e1 e2 e3 e4 => ?_, h.sto, h.bn⟩
  · rcases set_get e with ⟨rfl, e1, hl⟩ | ⟨c, e⟩
    · cases e1
      exact ⟨v, by rw [List.getElem?_set_self (by rw [h.len]; exact hl)], p⟩
    · obtain ⟨u, h1, h2⟩ := h.val j w' e
      exact ⟨u, by rw [List.getElem?_set_ne c]; exact h1, h2⟩
  · rcases set_get e with ⟨rfl, e1, hl⟩ | ⟨c, e⟩
    · cases e1
    · obtain ⟨a, xs, h1, h2⟩ := h.own j ws e
      exact ⟨a, xs, by rw [List.getElem?_set_ne c]; exact h1, h2⟩
  · rcases set_get e1 with ⟨rfl, e1, hl⟩ | ⟨c, e1⟩
    · cases e1
    rcases set_get e2 with ⟨rfl, e2, hl⟩ | ⟨c2, e2⟩
    · cases e2
    rw [List.getElem?_set_ne c] at e3
    rw [List.getElem?_set_ne c2] at e4
    exact h.dif j k ws ws' a e1 e2 e3 e4
end
section
variable {X : Cx} {e : Expr} {f : Mx} {pos : Pos}
def sSet (i : Nat) (f : Mx) : Ms := fun ρ S => sOf (f ρ S) fun w S1 => .nx (ρ.set i (some (.val w))) S1
theorem ds_set {i : Nat} {x : Str} {pos' : Pos} (hN : X.N.Nodup) (hi : X.N[i]? = some x) (hx : Loc X.env.scope x) (he : De X e f) (hs : swapsWith e (some (.Name x pos')) pos.line X.env = pure false := by rfl)
    (hf : X.fn x = true ∨ X.env.scope.names.lookup x = some .local := by first | exact .inl rfl | exact .inr rfl | assumption) : Ds X (.Assign [.Name x pos'] e pos) (sSet i f) :=
  PS.weak (ps_set hN hi hx he hs hf) fun D σ H ⟨ρ, S, mu, B, O, rl, q⟩ => by
    unfold sSet at q
    cases z : f ρ S with
    | ok w S1 =>
      rw [z] at q
      exact tD.mk rl z fun v H1 mu1 E r p => q _ H1 mu1 O (E.toS r.sto) (r.set i p)
    | bad => rw [z] at q; exact q.elim
end
def RpI (K : Fg) (mu : List Addr) (T : Addr → Prop) (H : Hp) (v : V) (w : Wd) : Prop := Rp K mu T H v w ∨ ∃ a xs ds, v = .ref a ∧ w = .tuple ds ∧ SqT K H a xs ∧ RpAll K mu T H xs ds
abbrev Mg := Wd → Ev → Option Ev
abbrev Mgs := List Wd → Ev → Option Ev
def DgF {ι : Type} (F : ι → Cx) (K : Fg) (vs : List Nat) (tg : Expr) (g : Mg) : Prop := ∃ t, (∀ i, PG (F i) tg t) ∧ ∀ (mu : List Addr) (B O : Addr → Prop) (H : Hp) (σ : Sg) (ρ ρ' : Ev) (S : Sto) (v : V) (w : Wd) (Q : Sg → Hp → Prop), Rel K mu B O H σ ρ S → Rp K mu (fun a => B a ∨ O a) H v w → g w ρ = some ρ' →
  (∀ σ', Rel K mu B O H σ' ρ' S → wipe σ' vs = wipe σ vs → Q σ' H) → t v σ H Q
def DgsF {ι : Type} (F : ι → Cx) (K : Fg) (vs : List Nat) (ts : List Expr) (g : Mgs) : Prop := ∃ t, (∀ i, PGs (F i) ts t) ∧ (∀ ws ρ ρ', g ws ρ = some ρ' → ws.length = ts.length) ∧ ∀ (mu : List Addr) (B O : Addr → Prop) (H : Hp) (σ : Sg) (ρ ρ' : Ev) (S : Sto) (us : List V) (ws : List Wd) (Q : Sg → Hp → Prop), Rel K mu B O H σ ρ S → RpAll K mu (fun a => B a ∨ O a) H us ws → g ws ρ = some ρ' →
  (∀ σ', Rel K mu B O H σ' ρ' S → wipe σ' vs = wipe σ vs → Q σ' H) → t us σ H Q
theorem wipe_set {σ : Sg} {i : Nat} {x : Option V} : ∀ {vs : List Nat}, i ∈ vs → wipe (σ.set i x) vs = wipe σ vs
  | [], h => by cases h
  | v :: vs, h => by
    unfold wipe
    by_cases c : i ∈ vs
    · rw [wipe_set c]
    · have e : i = v := by
        rcases List.mem_cons.mp h with h | h
        · exact h
        · exact absurd h c
      subst e
      have aux : ∀ (ws : List Nat) (τ : Sg), i ∉ ws → wipe (τ.set i x) ws = (wipe τ ws).set i x := by
        intro ws
        induction ws with
        | nil => intro τ _; rfl
        | cons k ws ih =>
          intro τ hn
          unfold wipe
          rw [ih τ (fun z => hn (List.mem_cons_of_mem _ z)), List.set_comm _ _ (fun z => hn (by rw [z]; exact List.mem_cons_self))]
      rw [aux vs σ c, List.set_set]
def gtN (i : Nat) : Mg := fun w ρ => some (ρ.set i (some (.val w)))
def gtNil : Mgs := fun ws ρ => match ws with
  | [] => some ρ
  | _ => none
def gtCons (g : Mg) (gs : Mgs) : Mgs := fun ws ρ => match ws with
  | w :: r => (g w ρ).bind (gs r)
  | [] => none
def gtT (gs : Mgs) : Mg := fun w ρ => match w with
  | .tuple ds => gs ds ρ
  | _ => none
theorem assignEach_len (env : Env) : ∀ es : List Expr, (assignEach es env).length = es.length := by
  intro es
  induction es with
  | nil => rfl
  | cons e es ih => first | (show (assignEach es env).length + 1 = es.length + 1; rw [ih]) | (cases e <;> first | (show (assignEach es env).length + 1 = es.length + 1; rw [ih]) | skip)
section
variable {ι : Type} {F : ι → Cx} {K : Fg} {vs : List Nat} {pos : Pos}
theorem dg_name {i : Nat} {x : Str} (hN : ∀ k, (F k).N.Nodup) (hi : ∀ k, (F k).N[i]? = some x) (hx : ∀ k, Loc (F k).env.scope x) (hv : i ∈ vs) (hf : ∀ k, (F k).fn x = true ∨ (F k).env.scope.names.lookup x = some .local) : DgF F K vs (.Name x pos) (gtN i) :=
  ⟨_, fun k => pg_name (hN k) (hi k) (hx k) (hf k), fun mu B O H σ ρ ρ' S v w Q rl p e q => by
    cases e
    exact q _ (rl.set i p) (wipe_set hv)⟩
theorem dgs_nil : DgsF F K vs [] gtNil := by
  refine ⟨_, fun _ => pgs_nil, fun ws ρ ρ' e => ?_, fun mu B O H σ ρ ρ' S us ws Q rl p e q => ?_⟩
  · cases ws with
    | nil => rfl
    | cons _ _ => cases e
  · cases p with
    | nil =>
      cases e
      exact ⟨rfl, q σ rl rfl⟩
    | cons _ _ => cases e
theorem dgs_cons {e : Expr} {es : List Expr} {g : Mg} {gs : Mgs} (h1 : DgF F K vs e g) (h2 : DgsF F K vs es gs) (hs : ∀ k, (assignEach (e :: es) (F k).env).map (·.2) = assign e (F k).env :: (assignEach es (F k).env).map (·.2) := by intro _; rfl) : DgsF F K vs (e :: es) (gtCons g gs) := by
  obtain ⟨t1, p1, k1⟩ := h1
  obtain ⟨t2, p2, l2, k2⟩ := h2
  refine ⟨_, fun k => pgs_cons (p1 k) (p2 k) (hs k), fun ws ρ ρ' e => ?_, fun mu B O H σ ρ ρ' S us ws Q rl p e q => ?_⟩
  · cases ws with
    | nil => cases e
    | cons w ws =>
      obtain ⟨ρ1, e1, e2⟩ := Option.bind_eq_some_iff.mp (show (g w ρ).bind (gs ws) = some ρ' from e)
      rw [List.length_cons, List.length_cons, l2 ws ρ1 ρ' e2]
  cases p with
  | nil => cases e
  | @cons v us w ws a b =>
    obtain ⟨ρ1, e1, e2⟩ := Option.bind_eq_some_iff.mp (show (g w ρ).bind (gs ws) = some ρ' from e)
    exact ⟨v, us, rfl, k1 mu B O H σ ρ ρ1 S v w _ rl a e1 fun σ1 r1 w1 => k2 mu B O H σ1 ρ1 ρ' S us ws _ r1 b e2 fun σ2 r2 w2 => q σ2 r2 (w2.trans w1)⟩
theorem pg_tupF {es : List Expr} {k : Nat} {t : TGs} (hc : ∀ i, (F i).calm = true) (hK : ∀ i, (F i).K = K) (p : ∀ i, PGs (F i) es t) (hst : ∀ i, (assignEach es (F i).env).findIdx? (·.1) = none) (i : ι) : PG (F i) (.Tuple es k pos) (gTup K es.length t) := by
  have z := pg_tup (n := es.length) (pos := pos) (k := k) (hc i) (p i) (assignEach_len _ _) (hst i)
  rw [hK i] at z
  exact z
theorem dg_tup {es : List Expr} {k : Nat} {gs : Mgs} (hc : ∀ i, (F i).calm = true) (hK : ∀ i, (F i).K = K) (h : DgsF F K vs es gs) (hst : ∀ i, (assignEach es (F i).env).findIdx? (·.1) = none := by intro _; rfl) : DgF F K vs (.Tuple es k pos) (gtT gs) := by
  obtain ⟨t, p, l, q⟩ := h
  refine ⟨_, pg_tupF hc hK p hst, fun mu B O H σ ρ ρ' S v w Q rl r e z => ?_⟩
  cases r with
  | @tup a xs ds a1 b1 =>
    have e : gs ds ρ = some ρ' := e
    exact ⟨a, xs, rfl, a1.sq, by rw [b1.length]; exact l ds ρ ρ' e, q mu B O H σ ρ ρ' S xs ds Q rl b1 e z⟩
  | _ => cases e
end
abbrev Dg (X : Cx) (vs : List Nat) (tg : Expr) (g : Mg) : Prop := DgF (fun _ : Unit => X) X.K vs tg g
section
variable {X : Cx} {vs : List Nat} {pos : Pos}
def sAsg (g : Mg) (f : Mx) : Ms := fun ρ S => sOf (f ρ S) fun w S1 => match g w ρ with
  | some ρ' => .nx ρ' S1
  | none => .bad
theorem ds_asg {tg e : Expr} {f : Mx} {g : Mg} (he : De X e f) (hg : Dg X vs tg g) (hs : swapsWithSole [tg] e pos.line X.env = pure false := by rfl) (hw : swappedStores [tg] e X.env = pure none := by rfl)
    (h1 : (assignEach [tg] X.env).map (·.2) = [assign tg X.env] := by rfl) : Ds X (.Assign [tg] e pos) (sAsg g f) := by
  obtain ⟨t, p, k⟩ := hg
  refine PS.weak (ps_asg he (p ()) hs hw h1) fun D σ H ⟨ρ, S, mu, B, O, rl, q⟩ => ?_
  unfold sAsg at q
  cases z : f ρ S with
  | ok w S1 =>
    rw [z, sOf_ok] at q
    refine tD.mk rl z fun v H1 mu1 E r p => ?_
    cases y : g w ρ with
    | none => rw [y] at q; exact q.elim
    | some ρ' =>
      rw [y] at q
      exact k mu1 B O H1 σ ρ ρ' S1 v w _ r p y fun σ' r' _ => q σ' H1 mu1 O (E.toS r'.sto) r'
  | bad => rw [z] at q; exact q.elim
end
end DL
namespace DL
open PySem PySem.Spec PyProof.Rows L2
def ItOk (K : Fg) (J : It) (v : List V) (w : List Wd) (ws : List Wd) : Prop := ∀ (mu : List Addr) (T : Addr → Prop) (H : Hp) (S : Sto), StOk K mu T H S → Bn mu T H → RpAll K mu T H v w →
  (∀ (i : Nat) (d : Wd), ws[i]? = some d → J.go i H ∧ ∀ x H', J.yld i H x H' → Same H H' ∧ Rp K mu T H' x d) ∧ J.stop ws.length H
def ItOkP (K : Fg) (J : It) (v : List V) (w : List Wd) (ws : List Wd) : Prop := ∀ (mu : List Addr) (T : Addr → Prop) (H : Hp) (S : Sto), StOk K mu T H S → Bn mu T H → RpAll K mu T H v w →
  (∀ (i : Nat) (d : Wd), ws[i]? = some d → J.go i H ∧ ∀ x H', J.yld i H x H' → Same H H' ∧ RpI K mu T H' x d) ∧ J.stop ws.length H
theorem ItOk.p {K : Fg} {J : It} {v : List V} {w : List Wd} {ws : List Wd} (h : ItOk K J v w ws) : ItOkP K J v w ws := fun mu T H S st bn r => ⟨fun i d e => ⟨((h mu T H S st bn r).1 i d e).1, fun x H' y => let ⟨a, b⟩ := ((h mu T H S st bn r).1 i d e).2 x H' y; ⟨a, .inl b⟩⟩, (h mu T H S st bn r).2⟩
abbrev Mi := Ev → Sto → R (List Wd)
def tDi (K : Fg) (P : It → List V → List Wd → List Wd → Prop) (f : Mi) : TI := fun σ H R => ∃ ρ S mu B O, Rel K mu B O H σ ρ S ∧ ∃ ws S', f ρ S = .ok ws S' ∧ ∀ J v w H' mu', P J v w ws → Ext mu mu' H H' → StOk K mu' (fun a => B a ∨ O a) H' S' → RpAll K mu' (fun a => B a ∨ O a) H' v w → R J H'
def Di (X : Cx) (tg iter : Expr) (f : Mi) : Prop := PI X tg iter (tDi X.K (ItOk X.K) f)
def DiP (X : Cx) (tg iter : Expr) (f : Mi) : Prop := PI X tg iter (tDi X.K (ItOkP X.K) f)
theorem PI.weak {X : Cx} {tg it : Expr} {t t' : TI} (h : PI X tg it t) (w : ∀ σ H R, t' σ H R → t σ H R) : PI X tg it t' := ⟨fun pins s σ H R I q => h.run pins s σ H R I (w _ _ _ q)⟩
theorem Di.p {X : Cx} {tg it : Expr} {f : Mi} (h : Di X tg it f) : DiP X tg it f := PI.weak h fun σ H R ⟨ρ, S, mu, B, O, rl, ws, S', e, q⟩ => ⟨ρ, S, mu, B, O, rl, ws, S', e, fun J v w H' mu' p => q J v w H' mu' p.p⟩
def itemsD : Wd → Option (List Wd)
  | .list ys => some ys
  | .tuple ys => some ys
  | _ => none
def iSeq (f : Mx) : Mi := fun ρ S => (f ρ S).bnd fun w S1 => R.of (itemsD w) S1
section
variable {X : Cx} {tg l : Expr} {f : Mx}
theorem it_list {K : Fg} {a : Addr} {ws : List Wd} : ItOk K (Itl K a) [.ref a] [.list ws] ws := fun mu T H S st bn r => by
  cases r with
  | cons r _ => cases r with
  | lst h1 h2 =>
    refine ⟨fun i d e => ?_, ⟨_, h1.sq, by rw [h2.length]; exact Nat.le_refl _⟩⟩
    obtain ⟨x, e1, e2⟩ := h2.get e
    refine ⟨⟨_, x, h1.sq, e1⟩, fun y H' hy => ?_⟩
    obtain ⟨rfl, hy⟩ := hy
    have e3 := hy _ h1.sq
    rw [e1] at e3
    cases e3
    exact ⟨Same.refl _, e2⟩
theorem it_tup {K : Fg} {a : Addr} {ws : List Wd} : ItOk K (Itt K a) [.ref a] [.tuple ws] ws := fun mu T H S st bn r => by
  cases r with
  | cons r _ => cases r with
  | tup h1 h2 =>
    refine ⟨fun i d e => ?_, ⟨_, h1.sq, by rw [h2.length]; exact Nat.le_refl _⟩⟩
    obtain ⟨x, e1, e2⟩ := h2.get e
    refine ⟨⟨_, x, h1.sq, e1⟩, fun y H' hy => ?_⟩
    obtain ⟨rfl, hy⟩ := hy
    have e3 := hy _ h1.sq
    rw [e1] at e3
    cases e3
    exact ⟨Same.refl _, e2⟩
theorem di_seq (h : De X l f) : Di X tg l (iSeq f) := by
  refine ⟨fun pins s σ H Rr I ⟨ρ, S, mu, B, O, rl, ws, S', e, q⟩ => ?_⟩
  obtain ⟨w, S1, e1, e⟩ := R.bnd_inv e
  obtain ⟨e2, rfl⟩ := R.of_inv e
  refine thn (h.run pins s σ H (fun v H1 => ∃ mu1, Ext mu mu1 H H1 ∧ Rel X.K mu1 B O H1 σ ρ S1 ∧ Rp X.K mu1 (fun a => B a ∨ O a) H1 v w) I (tD.mk rl e1 fun v H1 mu1 E r p => ⟨mu1, E, r, p⟩)) fun u s1 ⟨v, H1, I1, r1, mu1, E, rl1, p⟩ => ?_
  cases p with
  | @lst a xs ds h1 h2 =>
    cases e2
    cases r1
    obtain ⟨its, rv, pl, hz⟩ := I1.list h1.sq
    refine wpAny_pyIter_list pl.isList ?_
    refine ⟨s1.heap.objs.size, [s1.heap.objs.size], _, _, H1, rfl, I1.kept (t' := s1.toks) fun b o e => Heap.get?_push_of_some _ e, turn_list a _, ⟨_, Heap.get?_push_size _ rfl, rfl, rfl⟩, fun b hb => ?_, q _ _ _ H1 mu1 it_list E rl1.sto (.cons (.lst h1 h2) .nil)⟩
    have e : b = s1.heap.objs.size := by simpa using hb
    subst e
    exact I1.fpOk (Nat.le_refl _) (I1.hok.fresh (Nat.le_refl _))
  | @tup a xs ds h1 h2 =>
    cases e2
    cases r1
    obtain ⟨its, rv, pl, hz⟩ := I1.tuple h1.sq
    refine wpAny_pyIter_tuple (show s1.heap.IsTuple a its.toArray from pl) ?_
    refine ⟨s1.heap.objs.size, [s1.heap.objs.size], _, _, H1, rfl, I1.kept (t' := s1.toks) fun b o e => Heap.get?_push_of_some _ e, turn_tuple a _, ⟨_, Heap.get?_push_size _ rfl, rfl, rfl⟩, fun b hb => ?_, q _ _ _ H1 mu1 it_tup E rl1.sto (.cons (.tup h1 h2) .nil)⟩
    have e : b = s1.heap.objs.size := by simpa using hb
    subst e
    exact I1.fpOk (Nat.le_refl _) (I1.hok.fresh (Nat.le_refl _))
  | _ => cases e2
def rangeD (lo : Int) (n : Nat) : List Wd := (List.range n).map fun (i : Nat) => .int (lo + i)
theorem rangeD_get {lo : Int} {n i : Nat} {d : Wd} (h : (rangeD lo n)[i]? = some d) : i < n ∧ d = .int (lo + i) := by
  unfold rangeD at h
  rw [List.getElem?_map] at h
  by_cases c : i < n
  · rw [List.getElem?_range c] at h
    cases h
    exact ⟨c, rfl⟩
  · rw [List.getElem?_eq_none (by rw [List.length_range]; omega)] at h
    cases h
theorem it_range {K : Fg} {lo : Int} {n : Nat} : ItOk K (Itr lo n) [] [] (rangeD lo n) := fun mu T H S st bn r => by
  refine ⟨fun i d e => ?_, ?_⟩
  · obtain ⟨h1, rfl⟩ := rangeD_get e
    refine ⟨h1, fun x H' hy => ?_⟩
    obtain ⟨rfl, rfl⟩ := hy
    exact ⟨Same.refl _, .int _⟩
  · show n ≤ _
    unfold rangeD
    rw [List.length_map, List.length_range]
    exact Nat.le_refl _
def iRange1 (fs : Ma) : Mi := fun ρ S => (fs ρ S).bnd fun ws S1 => match ws with
  | [.int j] => if -(2 ^ 62) ≤ j ∧ j < 2 ^ 62 then .ok (rangeD 0 j.toNat) S1 else .bad
  | _ => .bad
variable {a b : Expr} {fs : Ma} {p pos : Pos}
theorem di_range1 (hg : Gl X "range") (hm : X.mg "range" = none) (ha : Da X [a] fs) (hs : starEach [a] X.env = [(false, eval a X.env)] := by rfl) : Di X tg (.Call (.Name "range" p) [a] [] pos) (iRange1 fs) :=
  PI.weak (pi_range1 hg hm ha hs) fun σ H Rr ⟨ρ, S, mu, B, O, rl, ws, S', e, q⟩ => by
    obtain ⟨us, S1, e1, e⟩ := R.bnd_inv e
    refine tDa.mk rl e1 fun vs H1 mu1 E r p => ?_
    split at e
    · obtain ⟨h1, rfl, rfl⟩ := okIte e
      cases p with
      | cons p1 p2 =>
        cases p1; cases p2
        exact ⟨_, rfl, h1.1, h1.2, q _ [] [] H1 mu1 it_range E r.sto .nil⟩
    · cases e
def signsD (z : Str) : List Wd := z.cps.toList.map fun c => .str ⟨#[c]⟩
def iStr (f : Mx) : Mi := fun ρ S => (f ρ S).bnd fun w S1 => match w with
  | .str z => .ok (signsD z) S1
  | _ => .bad
end
def forLoop (g : Mg) (body : Ms) : List Wd → Ev → Sto → Out
  | [], ρ, S => .nx ρ S
  | w :: ws, ρ, S => match g w ρ with
    | none => .bad
    | some ρ1 => match body ρ1 S with
      | .nx ρ2 S2 => forLoop g body ws ρ2 S2
      | .ct ρ2 S2 => forLoop g body ws ρ2 S2
      | .bk ρ2 S2 => .nx ρ2 S2
      | .rt w S2 => .rt w S2
      | .bad => .bad
def sFor (fi : Mi) (g : Mg) (body : Ms) : Ms := fun ρ S => match fi ρ S with
  | .ok ws S1 => forLoop g body ws ρ S1
  | .bad => .bad
section
variable {X : Cx} {tg iter : Expr} {fi : Mi} {g : Mg} {m : Ms} {body : List Stmt} {pos : Pos} {vs : List Nat}
theorem for_core {t : TG} {P : It → List V → List Wd → List Wd → Prop}
    (hP : ∀ J v w ws, P J v w ws → ∀ (mu : List Addr) (B O : Addr → Prop) (H : Hp) (S : Sto), StOk X.K mu (fun a => B a ∨ O a) H S → Bn mu (fun a => B a ∨ O a) H → RpAll X.K mu (fun a => B a ∨ O a) H v w →
      (∀ (i : Nat) (d : Wd), ws[i]? = some d → J.go i H ∧ ∀ x H', J.yld i H x H' → Same H H' ∧ ∀ (σ : Sg) (ρ ρ' : Ev) (Q : Sg → Hp → Prop), Rel X.K mu B O H' σ ρ S → g d ρ = some ρ' → (∀ σ', Rel X.K mu B O H' σ' ρ' S → Q σ' H') → t x σ H' Q) ∧ J.stop ws.length H) :
    ∀ D σ H, tDs X.K (sFor fi g m) D σ H → tFor (tDi X.K P fi) t (tDs X.K m) D σ H := fun D σ H ⟨ρ, S, mu, B, O, rl, q⟩ => by
  unfold sFor at q
  cases z : fi ρ S with
  | bad => rw [z] at q; exact q.elim
  | ok ws S1 =>
    rw [z] at q
    refine ⟨ρ, S, mu, B, O, rl, ws, S1, z, fun J v w H1 mu1 hJ E st p => ?_⟩
    have rl1 := rl.ext E st
    have q1 : postS X.K D mu1 B O H1 (forLoop g m ws ρ S1) := postS.ext (E.toS st) q
    refine ⟨fun i k σ2 H2 => k = ws.length - i ∧ i ≤ ws.length ∧ ∃ ρ2 S2 mu2 O2, ExtS mu1 mu2 O O2 H1 H2 ∧ Rel X.K mu2 B O2 H2 σ2 ρ2 S2 ∧ postS X.K D mu2 B O2 H2 (forLoop g m (ws.drop i) ρ2 S2),
      ⟨ws.length, by omega, Nat.zero_le _, ρ, S1, mu1, O, .refl _ _ _, rl1, q1⟩, fun i k σ2 H2 ⟨ek, hi, ρ2, S2, mu2, O2, x2, r2, q2⟩ => ?_⟩
    obtain ⟨hgo, hstop⟩ := hP J v w ws hJ mu2 B O2 H2 S2 r2.sto r2.bn (p.extS x2)
    by_cases c : i < ws.length
    · obtain ⟨go, yld⟩ := hgo i ws[i] (List.getElem?_eq_getElem c)
      rw [List.drop_eq_getElem_cons c] at q2
      unfold forLoop at q2
      cases y : g ws[i] ρ2 with
      | none => rw [y] at q2; exact q2.elim
      | some ρ3 =>
        rw [y] at q2
        simp only at q2
        refine .inr ⟨go, fun σ' H' => ∃ ρ4 S4 mu4 O4, ExtS mu1 mu4 O O4 H1 H' ∧ Rel X.K mu4 B O4 H' σ' ρ4 S4 ∧ postS X.K D mu4 B O4 H' (forLoop g m (ws.drop (i + 1)) ρ4 S4), fun σ' H' ⟨ρ4, S4, mu4, O4, x4, r4, q4⟩ => ⟨ws.length - (i + 1), by omega, rfl, by omega, ρ4, S4, mu4, O4, x4, r4, q4⟩, fun x H' hy => ?_⟩
        obtain ⟨sm, k2⟩ := yld x H' hy
        have r3 := r2.ext (.same sm) (r2.sto.same sm)
        have x3 : ExtS mu1 mu2 O O2 H1 H' := x2.trans ((Ext.same sm).toS r3.sto)
        have xs : ExtS mu2 mu2 O2 O2 H2 H' := (Ext.same sm).toS r3.sto
        refine k2 σ2 ρ2 ρ3 _ r3 y fun σ' r' => ⟨ρ3, S2, mu2, B, O2, r', ?_⟩
        cases u : m ρ3 S2 with
        | nx ρ4 S4 =>
          rw [u] at q2
          exact fun σ5 H5 mu5 O5 x5 r5 => ⟨ρ4, S4, mu5, O5, x3.trans x5, r5, postS.ext (xs.trans x5) q2⟩
        | ct ρ4 S4 =>
          rw [u] at q2
          exact fun σ5 H5 mu5 O5 x5 r5 => ⟨ρ4, S4, mu5, O5, x3.trans x5, r5, postS.ext (xs.trans x5) q2⟩
        | bk ρ4 S4 =>
          rw [u] at q2
          exact fun σ5 H5 mu5 O5 x5 r5 => q2 σ5 H5 mu5 O5 (xs.trans x5) r5
        | rt w' S4 =>
          rw [u] at q2
          exact fun v5 H5 mu5 O5 x5 s5 r5 => q2 v5 H5 mu5 O5 (xs.trans x5) s5 r5
        | bad => rw [u] at q2; exact q2.elim
    · have e : i = ws.length := by omega
      subst e
      rw [List.drop_length] at q2
      exact .inl ⟨hstop, q2 σ2 H2 mu2 O2 (.refl _ _ _) r2⟩
theorem ds_for (hp : PassesOwn (model X.prog X.w) X.A X.env X.xe) (hc : X.calm = true) (hi : Di X tg iter fi) (hg : Dg X vs tg g) (hb : Dss X body m) (hs : ∀ x, foldedSetIterable iter X.env x = pure x := by intro _; rfl) : Ds X (.For tg iter body [] pos) (sFor fi g m) := by
  obtain ⟨t, pt, kt⟩ := hg
  refine PS.weak (ps_for hp hc hi (pt ()) hb hs) (for_core fun J v w ws hJ mu B O H S st bn p => ?_)
  obtain ⟨h1, h2⟩ := hJ mu _ H S st bn p
  exact ⟨fun i d e => ⟨(h1 i d e).1, fun x H' hy => ⟨((h1 i d e).2 x H' hy).1, fun σ ρ ρ' Q r eg k => kt mu B O H' σ ρ ρ' S x d Q r ((h1 i d e).2 x H' hy).2 eg fun σ' r' _ => k σ' r'⟩⟩, h2⟩
end
end DL
namespace DL
open PySem PySem.Spec PyProof.Rows L2
def wipeE (ρ : Ev) : List Nat → Ev
  | [] => ρ
  | v :: vs => (wipeE ρ vs).set v none
section
variable {K : Fg} {mu : List Addr} {B O : Addr → Prop} {H : Hp} {σ : Sg} {ρ : Ev} {S : Sto}
theorem Rel.setNone (h : Rel K mu B O H σ ρ S) (i : Nat) : Rel K mu B O H (σ.set i none) (ρ.set i none) S := by
  refine ⟨by rw [List.length_set, List.length_set]; exact h.len, fun j w' e => ?_, fun j ws e => ?_, fun j k ws ws' a e1 e2 e3 e4 => ?_, h.sto, h.bn⟩
  · rcases set_get e with ⟨rfl, e1, hl⟩ | ⟨c, e⟩
    · cases e1
    · obtain ⟨u, h1, h2⟩ := h.val j w' e
      exact ⟨u, by rw [List.getElem?_set_ne c]; exact h1, h2⟩
  · rcases set_get e with ⟨rfl, e1, hl⟩ | ⟨c, e⟩
    · cases e1
    · obtain ⟨a, xs, h1, h2⟩ := h.own j ws e
      exact ⟨a, xs, by rw [List.getElem?_set_ne c]; exact h1, h2⟩
  · rcases set_get e1 with ⟨rfl, e1, hl⟩ | ⟨c, e1⟩
    · cases e1
    rcases set_get e2 with ⟨rfl, e2, hl⟩ | ⟨c2, e2⟩
    · cases e2
    rw [List.getElem?_set_ne c] at e3
    rw [List.getElem?_set_ne c2] at e4
    exact h.dif j k ws ws' a e1 e2 e3 e4
theorem Rel.wipe (h : Rel K mu B O H σ ρ S) : ∀ vs : List Nat, Rel K mu B O H (wipe σ vs) (wipeE ρ vs) S
  | [] => h
  | v :: vs => (Rel.wipe h vs).setNone v
theorem Rel.ban (h : Rel K mu B O H σ ρ S) {D : Addr} (n : H D = none) (o : HO) (pl : PlH (some o) := by first | exact PlH.lst | exact PlH.dK) : Rel K mu (fun a => B a ∨ a = D) O (upd H D o) σ ρ S := by
  have tr : ∀ a, ((B a ∨ a = D) ∨ O a) → ((B a ∨ O a) ∨ a = D) := fun a z => z.elim (fun z => z.elim (fun z => .inl (.inl z)) .inr) fun z => .inl (.inr z)
  have up : ∀ {v : V} {w : Wd}, Rp K mu (fun a => B a ∨ O a) H v w → Rp K mu (fun a => (B a ∨ a = D) ∨ O a) (upd H D o) v w := fun p => ((p.ban n).weak tr).same (same_upd n)
  have upA : ∀ {v : List V} {w : List Wd}, RpAll K mu (fun a => B a ∨ O a) H v w → RpAll K mu (fun a => (B a ∨ a = D) ∨ O a) (upd H D o) v w := fun p => ((p.ban n).weak tr).same (same_upd n)
  refine ⟨h.len, fun i w e => let ⟨v, a, b⟩ := h.val i w e; ⟨v, a, up b⟩, fun i ws e => let ⟨a, xs, h1, h2, h3, h4, h5⟩ := h.own i ws e; ⟨a, xs, h1, h2, fun z => z.elim h3 fun z => ne_of_none h4 n z, (upd_ne (ne_of_none h4 n)).trans h4, upA h5⟩, h.dif, ((h.sto.ban n).weak tr).same (same_upd n), fun a t => ?_⟩
  rcases tr a t with t | t
  · obtain ⟨h1, h2⟩ := h.bn a t
    refine ⟨?_, h2⟩
    cases e : H a with
    | none => exact absurd e h1.1.1
    | some u =>
      rw [upd_ne (ne_of_none e n)]
      exact h1
  · subst t
    refine ⟨?_, h.sto.fresh n⟩
    rw [upd_same]
    exact pl
theorem Rel.at_ban (h : Rel K mu B O H σ ρ S) {D : Addr} (b : B D) (o : HO) (pl : PlH (some o) := by first | exact PlH.lst | exact PlH.dK) : Rel K mu B O (upd H D o) σ ρ S := by
  refine ⟨h.len, fun i w e => let ⟨v, a, p⟩ := h.val i w e; ⟨v, a, p.at_ban (.inl b)⟩, fun i ws e => let ⟨a, xs, h1, h2, h3, h4, h5⟩ := h.own i ws e; ⟨a, xs, h1, h2, h3, by rw [upd_ne (show a ≠ D from fun z => h3 (z ▸ b))]; exact h4, h5.at_ban (.inl b)⟩, h.dif, h.sto.at_ban h.bn (.inl b), fun a t => ?_⟩
  obtain ⟨h1, h2⟩ := h.bn a t
  refine ⟨?_, h2⟩
  by_cases c : a = D
  · subst c
    rw [upd_same]
    exact pl
  · rw [upd_ne c]
    exact h1
end
def lcLoop (g : Mg) (t : Mt) (fe : Mx) (ρ : Ev) : List Wd → List Wd → Sto → R (List Wd)
  | [], acc, S => .ok acc S
  | w :: ws, acc, S => match g w ρ with
    | none => .bad
    | some ρ1 => (t ρ1 S).bnd fun b S1 => if b = true then (fe ρ1 S1).bnd fun y S2 => if acc.length < sizeLine then lcLoop g t fe ρ ws (acc ++ [y]) S2 else .bad else lcLoop g t fe ρ ws acc S1
def mLc (vs : List Nat) (fi : Mi) (g : Mg) (t : Mt) (fe : Mx) : Mx := fun ρ S => (fi ρ S).bnd fun ws S1 => (lcLoop g t fe (wipeE ρ vs) ws [] S1).bnd fun acc S2 => .ok (.list acc) S2
def tTrue : Mt := fun _ S => .ok true S
def DTs (X : Cx) (ifs : List Expr) (t : Mt) : Prop := PTs X ifs (tDt X.K t)
theorem dts_nil {X : Cx} : DTs X [] tTrue := ⟨fun pins s σ H Q I ⟨ρ, S, mu, B, O, rl, w, S', e, q⟩ => by
  cases e
  exact pts_nil.run pins s σ H Q I (q H mu (.refl _ _) rl.sto)⟩
theorem dts_one {X : Cx} {c : Expr} {t : Mt} (h : Dt X c t) : DTs X [c] t := pts_one h
theorem Ext.at_new {mu mu' : List Addr} {H H' : Hp} {D : Addr} {o : HO} (e : Ext mu mu' H H') (n : H D = none) : Ext mu mu' H (upd H' D o) :=
  ⟨e.pre, fun a u h q => by rw [upd_ne (ne_of_none h n)]; exact e.keep a u h q, e.new⟩
section
variable {X : Cx} {fi : Mi} {g : Mg} {t : Mt} {fe : Mx} {vs : List Nat}
theorem lc_core' {K : Fg} {tg : TG} {P : It → List V → List Wd → List Wd → Prop}
    (hP : ∀ J v w ws, P J v w ws → ∀ (mu : List Addr) (B O : Addr → Prop) (H : Hp) (S : Sto), StOk K mu (fun a => B a ∨ O a) H S → Bn mu (fun a => B a ∨ O a) H → RpAll K mu (fun a => B a ∨ O a) H v w →
      (∀ (i : Nat) (d : Wd), ws[i]? = some d → J.go i H ∧ ∀ x H', J.yld i H x H' → Same H H' ∧ ∀ (σ : Sg) (ρ ρ' : Ev) (Q : Sg → Hp → Prop), Rel K mu B O H' σ ρ S → g d ρ = some ρ' → (∀ σ', Rel K mu B O H' σ' ρ' S → wipe σ' vs = wipe σ vs → Q σ' H') → tg x σ H' Q) ∧ J.stop ws.length H)
    (hv : ∀ σ : Sg, wipe (wipe σ vs) vs = wipe σ vs) :
    ∀ σ H Q, tD K (mLc vs fi g t fe) σ H Q → tLc (tDi K P fi) tg (tDt K t) (tD K fe) vs σ H Q := fun σ H Q ⟨ρ, S, mu, B, O, rl, w, S', e, q⟩ => by
  obtain ⟨ws, S1, e1, e⟩ := R.bnd_inv e
  obtain ⟨res, S2, e2, e⟩ := R.bnd_inv e
  cases e
  refine ⟨ρ, S, mu, B, O, rl, ws, S1, e1, fun J v u H1 mu1 hJ E st p D nD => ?_⟩
  have rl1 := rl.ext E st
  have nT : ¬ (B D ∨ O D) := rl1.bn.fresh nD
  have rb := (rl1.wipe vs).ban nD (.lst [])
  have pb : RpAll K mu1 (fun a => (B a ∨ a = D) ∨ O a) (upd H1 D (.lst [])) v u := ((p.ban nD).weak fun a z => z.elim (fun z => z.elim (fun z => .inl (.inl z)) .inr) fun z => .inl (.inr z)).same (same_upd nD)
  refine ⟨fun i k H2 => k = ws.length - i ∧ i ≤ ws.length ∧ ∃ av acc S3 mu2, Ext mu1 mu2 H1 H2 ∧ Rel K mu2 (fun a => B a ∨ a = D) O H2 (wipe σ vs) (wipeE ρ vs) S3 ∧ RpAll K mu2 (fun a => (B a ∨ a = D) ∨ O a) H2 v u ∧ H2 D = some (.lst av) ∧ RpAll K mu2 (fun a => (B a ∨ a = D) ∨ O a) H2 av acc ∧
      lcLoop g t fe (wipeE ρ vs) (ws.drop i) acc S3 = .ok res S',
    ⟨ws.length, by omega, Nat.zero_le _, [], [], S1, mu1, (Ext.refl _ _).at_new nD, rb, pb, upd_same, .nil, e2⟩, fun i k H2 ⟨ek, hi, av, acc, S3, mu2, x2, r2, p2, hD, pa, el⟩ => ?_⟩
  obtain ⟨hgo, hstop⟩ := hP J v u ws hJ mu2 (fun a => B a ∨ a = D) O H2 S3 r2.sto r2.bn p2
  by_cases c : i < ws.length
  · obtain ⟨go, yld⟩ := hgo i ws[i] (List.getElem?_eq_getElem c)
    rw [List.drop_eq_getElem_cons c] at el
    unfold lcLoop at el
    cases y : g ws[i] (wipeE ρ vs) with
    | none => rw [y] at el; cases el
    | some ρ3 =>
      rw [y] at el
      simp only at el
      obtain ⟨b, S4, e4, el⟩ := R.bnd_inv el
      refine .inr ⟨go, fun H' => ∃ av acc S3 mu2, Ext mu1 mu2 H1 H' ∧ Rel K mu2 (fun a => B a ∨ a = D) O H' (wipe σ vs) (wipeE ρ vs) S3 ∧ RpAll K mu2 (fun a => (B a ∨ a = D) ∨ O a) H' v u ∧ H' D = some (.lst av) ∧ RpAll K mu2 (fun a => (B a ∨ a = D) ∨ O a) H' av acc ∧
          lcLoop g t fe (wipeE ρ vs) (ws.drop (i + 1)) acc S3 = .ok res S', fun H' ⟨av, acc, S5, mu5, h1, h2, h3, h4, h5, h6⟩ => ⟨ws.length - (i + 1), by omega, rfl, by omega, av, acc, S5, mu5, h1, h2, h3, h4, h5, h6⟩, fun x H' hy => ?_⟩
      obtain ⟨sm, k2⟩ := yld x H' hy
      have r3 := r2.ext (.same sm) (r2.sto.same sm)
      refine k2 (wipe σ vs) (wipeE ρ vs) ρ3 _ r3 y fun σ' r' hw => ⟨hw.trans (hv σ), ?_⟩
      refine tDt.mk r' e4 fun H4 mu4 E4 r4 => ?_
      have D4 : H4 D = some (.lst av) := E4.keep D _ (sm D _ hD) (r2.bn D (.inl (.inr rfl))).2
      have q4 : Ext mu2 mu4 H2 H4 := (Ext.same sm).trans E4
      have r40 : Rel K mu4 (fun a => B a ∨ a = D) O H4 (wipe σ vs) (wipeE ρ vs) S4 := r2.ext q4 r4.sto
      cases b with
      | false =>
        rw [if_neg Bool.false_ne_true] at el ⊢
        exact ⟨av, acc, S4, mu4, x2.trans q4, r40, p2.ext q4, D4, pa.ext q4, el⟩
      | true =>
        rw [if_pos rfl] at el ⊢
        obtain ⟨z, S5, e5, el⟩ := R.bnd_inv el
        by_cases hz : acc.length < sizeLine
        · rw [if_pos hz] at el
          refine tD.mk r4 e5 fun yv H5 mu5 E5 r5 p5 => ?_
          have q5 : Ext mu2 mu5 H2 H5 := q4.trans E5
          have D5 : H5 D = some (.lst av) := E5.keep D _ D4 (r40.bn D (.inl (.inr rfl))).2
          have r50 : Rel K mu5 (fun a => B a ∨ a = D) O H5 (wipe σ vs) (wipeE ρ vs) S5 := r2.ext q5 r5.sto
          have pa5 := pa.ext q5
          refine ⟨av, D5, by rw [pa.length]; exact hz, av ++ [yv], acc ++ [z], S5, mu5, (x2.trans q5).at_new nD, r50.at_ban (.inr rfl) _, (p2.ext q5).at_ban (.inl (.inr rfl)), upd_same, ?_, el⟩
          exact (pa5.append (.cons p5 .nil)).at_ban (.inl (.inr rfl))
        · rw [if_neg hz] at el
          cases el
  · have ei : i = ws.length := by omega
    subst ei
    rw [List.drop_length] at el
    cases el
    refine .inl ⟨hstop, q (.ref D) H2 mu2 (E.trans x2) (r2.sto.weak fun a z => z.imp .inl id) (.lst (.inl ⟨.inl hD, (r2.bn D (.inl (.inr rfl))).2, nT⟩) (pa.weak fun a z => z.imp .inl id))⟩
theorem wipe_idem (σ : Sg) : ∀ vs : List Nat, wipe (wipe σ vs) vs = wipe σ vs := by
  have mem : ∀ (vs ws : List Nat) (τ : Sg), (∀ i ∈ ws, i ∈ vs) → wipe (wipe τ ws) vs = wipe τ vs := by
    intro vs ws
    induction ws with
    | nil => intro τ _; rfl
    | cons k ws ih =>
      intro τ h
      show wipe ((wipe τ ws).set k none) vs = _
      rw [wipe_set (h k List.mem_cons_self), ih τ fun i hi => h i (List.mem_cons_of_mem _ hi)]
  exact fun vs => mem vs vs σ fun i hi => hi
abbrev _root_.L2.Cx.fam (X : Cx) (scope : Scope) (i : Shared × Hp × Addr × List (Str × Addr) × List Addr) : Cx := X.blk i.1 i.2.1 scope (compEnvC scope i.2.2.2.1 i.2.2.1 X.env) i.2.2.2.2
variable {elt tgx iter : Expr} {ifs : List Expr} {scope : Scope} {own : List (Str × Nat)} {pos : Pos}
theorem de_lc (hc : X.calm = true) (hN : X.N.Nodup) (hi : Di X tgx iter fi) (ok : BlkOk X.N X.env.scope scope own)
    (hg : DgF (X.fam scope) X.K (own.map (·.2)) tgx g)
    (ht : ∀ (s : Shared) (H : Hp) (C : Addr) (cl : List (Str × Addr)) (fp : List Addr), DTs (X.blk s H scope (compEnvC scope cl C X.env) fp) ifs t)
    (he : ∀ (s : Shared) (H : Hp) (C : Addr) (cl : List (Str × Addr)) (fp : List Addr), De (X.blk s H scope (compEnvC scope cl C X.env) fp) elt fe) (hs : ∀ x, foldedSetIterable iter X.env x = pure x := by intro _; rfl) :
    De X (.ListComp elt [⟨tgx, iter, ifs, 0⟩] scope pos) (mLc (own.map (·.2)) fi g t fe) := by
  obtain ⟨tg, pg, kg⟩ := hg
  refine PE.weak (pe_lc (tt := tDt X.K t) (te := tD X.K fe) hc hN hi ok (fun s H C cl fp => pg (s, H, C, cl, fp)) ht he hs) (lc_core' (fun J v w ws hJ mu B O H S st bn p => ?_) (fun σ => wipe_idem σ _))
  obtain ⟨h1, h2⟩ := hJ mu _ H S st bn p
  exact ⟨fun i d e => ⟨(h1 i d e).1, fun x H' hy => ⟨((h1 i d e).2 x H' hy).1, fun σ ρ ρ' Q r eg k => kg mu B O H' σ ρ ρ' S x d Q r ((h1 i d e).2 x H' hy).2 eg k⟩⟩, h2⟩
end
end DL
namespace DL
open PySem PySem.Spec PyProof.Rows L2
section
variable {X : Cx} {tg l : Expr} {f : Mx}
theorem it_str {K : Fg} {z : Str} : ItOk K (Its z) [] [] (signsD z) := fun mu T H S st bn r => by
  refine ⟨fun i d e => ?_, ?_⟩
  · unfold signsD at e
    rw [List.getElem?_map] at e
    obtain ⟨c, e1, rfl⟩ := Option.map_eq_some_iff.mp e
    have hi : i < z.cps.size := by
      have := (List.getElem?_eq_some_iff.mp e1).1
      rwa [Array.length_toList] at this
    refine ⟨hi, fun x H' hy => ?_⟩
    obtain ⟨rfl, c', e2, rfl⟩ := hy
    rw [Array.getElem?_toList] at e1
    rw [e1] at e2
    cases e2
    exact ⟨Same.refl _, .str _⟩
  · show z.cps.size ≤ _
    unfold signsD
    rw [List.length_map, Array.length_toList]
    exact Nat.le_refl _
theorem di_str (h : De X l f) : Di X tg l (DL.iStr f) :=
  PI.weak (pi_str h) fun σ H Rr ⟨ρ, S, mu, B, O, rl, ws, S', e, q⟩ => by
    obtain ⟨w, S1, e1, e⟩ := R.bnd_inv e
    refine tD.mk rl e1 fun v H1 mu1 E r p => ?_
    split at e
    · cases e
      cases p
      exact ⟨_, rfl, q _ [] [] H1 mu1 it_str E r.sto .nil⟩
    · cases e
end
section
variable {X : Cx} {c : Expr} {body : List Stmt} {t : Mt} {m : Ms} {pos : Pos}
end
def kindD : Wd → Option String
  | .none => some "NoneType"
  | .bool _ => some "bool"
  | .int _ => some "int"
  | .str _ => some "str"
  | .list _ => some "list"
  | .tuple _ => some "tuple"
  | .dict ((.none, _) :: _) => none
  | .dict _ => some "dict"
def gIsi (Tn : String) (w : Wd) : Option Wd := (kindD w).bind fun k => (kitB k Tn).map .bool
theorem ty_of {K : Fg} {mu : List Addr} {T : Addr → Prop} {H : Hp} {v : V} {w : Wd} {k : String} (h : Rp K mu T H v w) (e : kindD w = some k) : TyX K H v (.type k) := by
  cases h with
  | non => cases e; exact .base .non
  | bl b => cases e; exact .base (.bl b)
  | int i => cases e; exact .base (.int i)
  | str x => cases e; exact .base (.str x)
  | lst a b =>
    cases e
    rcases a with ⟨z | ⟨o, z⟩, _⟩ | ⟨its, n, z, _⟩
    · exact .base (.lst z)
    · exact .base (.frz z)
    · exact .kList z rfl
  | tup a b =>
    cases e
    rcases a with ⟨⟨o, d, z⟩, _⟩ | ⟨z, o, z1, z2⟩
    · exact .fTuple z
    · rcases z (fun _ => none) with (y | ⟨_, y⟩) | ⟨o', _, _, y1, y2, _⟩
      · cases y
      · cases y
      · exact .kTuple y1 y2
  | dct a b =>
    cases b with
    | nil => cases e; exact .base (.dK a.1)
    | @cons k _ _ _ _ _ _ => cases k <;> (cases e; exact .base (.dK a.1))
  | obj a => cases e
section
variable {X : Cx} {a : Expr} {fa : Mx} {pos p p2 : Pos}
theorem de_isi {x : Str} {Tn : String} (hg : Gl X "isinstance") (hm : X.mg "isinstance" = none) (gx : Gl X x) (mx : X.mg x = none) (bx : bootBuiltins x = some (.type Tn)) (ha : De X a fa) (nx : x ≠ "__name__" := by decide) (dx : (x == ("__debug__" : Str)) = false := by decide)
    (he : starEach [a, .Name x p2] X.env = (false, eval a X.env) :: starEach [.Name x p2] X.env := by rfl) (h2 : starEach [Expr.Name x p2] X.env = [(false, eval (.Name x p2) X.env)] := by rfl) (hpl : (backTo pos (starEach [Expr.Name x p2] X.env)).any (·.1) = false := by rfl) :
    De X (.Call (.Name "isinstance" p) [a, .Name x p2] [] pos) (mUn (gIsi Tn) fa) := by
  have hT : PE X (.Name x p2) (tC (.ty Tn)) := pe_bltn gx mx bx rfl nx dx
  refine PE.weak (pe_callB call_isi hg hm (by decide +kernel) (pa_cons ha (pa_cons hT pa_nil h2) he) (by decide) (by decide) he hpl) fun σ H Q ⟨ρ, S, mu, B, O, rl, w, S', e, q⟩ => ?_
  obtain ⟨d, S1, e1, e⟩ := R.bnd_inv e
  obtain ⟨e2, rfl⟩ := R.of_inv e
  obtain ⟨k, e3, e4⟩ := Option.bind_eq_some_iff.mp e2
  obtain ⟨b, e5, rfl⟩ := Option.map_eq_some_iff.mp e4
  refine tD.mk rl e1 fun v H1 mu1 E r p => ?_
  exact ⟨v, .ty Tn, .type k, .type Tn, b, rfl, .ty Tn, ty_of p e3, kit_ty e5, q _ H1 mu1 E r.sto (.bl b)⟩
def findD (y : Wd) : List Wd → Nat → Option Nat
  | [], _ => none
  | z :: r, n => if PyData.eqv z y = true then some n else findD y r (n + 1)
theorem findD_spec (y : Wd) : ∀ (ds : List Wd) (n j : Nat), findD y ds n = some j → ∃ i z, j = n + i ∧ ds[i]? = some z ∧ PyData.eqv z y = true ∧ ∀ (m : Nat) (z' : Wd), m < i → ds[m]? = some z' → PyData.eqv z' y = false
  | [], n, j, h => by cases h
  | d :: ds, n, j, h => by
    unfold findD at h
    by_cases c : PyData.eqv d y = true
    · rw [if_pos c] at h
      cases h
      exact ⟨0, d, rfl, rfl, c, fun m z' hm => absurd hm (Nat.not_lt_zero m)⟩
    · rw [if_neg c] at h
      obtain ⟨i, z, e1, e2, e3, e4⟩ := findD_spec y ds (n + 1) j h
      refine ⟨i + 1, z, by omega, e2, e3, fun m z' hm hz => ?_⟩
      cases m with
      | zero => cases hz; exact Bool.eq_false_iff.mpr c
      | succ m => exact e4 m z' (by omega) hz
def gIndex : Wd → Wd → Option Wd
  | .list ys, y => if SeqAt.shaped (.list ys) = true ∧ SeqAt.shaped y = true then (findD y ys 0).map fun (j : Nat) => .int (j : Int) else none
  | _, _ => none
theorem de_index {o e : Expr} {fo fe : Mx} {apos cpos : Pos} (hu : X.A.units + 65 < cLine) (ho : De X o fo) (he : De X e fe) (hbase : attributeBase o "index" X.env (eval o X.env) = eval o X.env := by rfl)
    (hfew : ((backTo cpos (starEach [e] X.env)).all (fun x => !x.1) && (backToKw cpos (keywordEach [] X.env)).all (fun x => x.1.isSome) && decide ([e].length + ([] : List Keyword).length + (if ([] : List Keyword).isEmpty then 0 else 1) < 30)) = true := by rfl)
    (hline : (apos.endLine == cpos.line) = true := by rfl) (hs : starEach [e] X.env = [(false, eval e X.env)] := by rfl) : De X (.Call (.Attribute o "index" apos) [e] [] cpos) (mBin gIndex fo fe) :=
  PE.weak (pe_bm PySem.F.plainAttrs_list PySem.F.slot_list_index PySem.F.type_list_index (mt_indexD hu) ho (pa_cons he pa_nil hs) hbase hfew hline hs rfl) fun σ H Q ⟨ρ, S, mu, B, O, rl, w, S', e, q⟩ => by
    obtain ⟨x, S1, e1, e⟩ := R.bnd_inv e
    obtain ⟨y, S2, e2, e⟩ := R.bnd_inv e
    obtain ⟨e3, rfl⟩ := R.of_inv e
    unfold gIndex at e3
    split at e3
    · rename_i ys y'
      by_cases c : SeqAt.shaped (.list ys) = true ∧ SeqAt.shaped y = true
      · rw [if_pos c] at e3
        obtain ⟨j, e4, rfl⟩ := Option.map_eq_some_iff.mp e3
        obtain ⟨i, z, rfl, h1, h2, h3⟩ := findD_spec y ys 0 j e4
        refine tD.mk rl e1 fun v H1 mu1 E1 r1 p1 => ?_
        cases p1 with
        | @lst a xs ds a1 b1 =>
          refine ⟨.inl ⟨rfl, _, a1.sq⟩, tD.mk r1 e2 fun u H2 mu2 E2 r2 p2 => ?_⟩
          have p1 : Rp X.K mu2 (fun a => B a ∨ O a) H2 (.ref a) (.list ys) := Rp.ext (.lst a1 b1) E2
          refine ⟨a, u, y, ys, i, z, rfl, rfl, Rp.dp _ _ p1 (SeqAt.canLay_of_shaped c.1), Rp.dp _ _ p2 (SeqAt.canLay_of_shaped c.2), c.1, c.2, h1, h2, h3, q _ H2 mu2 (E1.trans E2) r2.sto ?_⟩
          rw [Nat.zero_add]
          exact .int _
      · rw [if_neg c] at e3
        cases e3
    · cases e3
end
end DL
namespace DL
open PySem PySem.Spec PyProof.Rows L2
section
variable {K : Fg} {mu : List Addr} {B O : Addr → Prop} {H : Hp} {σ : Sg} {ρ : Ev} {S : Sto}
theorem Rel.newOwn (h : Rel K mu B O H σ ρ S) (i : Nat) {p : Addr} {xs : List V} {ws : List Wd} (n : H p = none) (r : RpAll K mu (fun a => B a ∨ O a) H xs ws) :
    Rel K mu B (fun a => O a ∨ a = p) (upd H p (.lst xs)) (σ.set i (some (.ref p))) (ρ.set i (some (.own ws))) S := by
  have tr : ∀ a, (B a ∨ O a ∨ a = p) → ((B a ∨ O a) ∨ a = p) := fun a z => z.elim (fun z => .inl (.inl z)) fun z => z.elim (fun z => .inl (.inr z)) .inr
  have up : ∀ {v : V} {w : Wd}, Rp K mu (fun a => B a ∨ O a) H v w → Rp K mu (fun a => B a ∨ O a ∨ a = p) (upd H p (.lst xs)) v w := fun q => ((q.ban n).weak tr).same (same_upd n)
  have upA : ∀ {v : List V} {w : List Wd}, RpAll K mu (fun a => B a ∨ O a) H v w → RpAll K mu (fun a => B a ∨ O a ∨ a = p) (upd H p (.lst xs)) v w := fun q => ((q.ban n).weak tr).same (same_upd n)
  have nB : ¬ B p := fun z => (h.bn p (.inl z)).1.1.1 n
  have old : ∀ {j : Nat} {us : List Wd} {b : Addr}, ρ[j]? = some (some (.own us)) → σ[j]? = some (some (V.ref b)) → b ≠ p := fun {j us b} e1 e2 e => by
    obtain ⟨a, ys, h1, h2, h3, h4, h5⟩ := h.own j us e1
    rw [h1] at e2
    cases e2
    rw [e, n] at h4
    cases h4
  refine ⟨by rw [List.length_set, List.length_set]; exact h.len, fun j w e => ?_, fun j us e => ?_, fun j k us us' a e1 e2 e3 e4 => ?_, ((h.sto.ban n).weak tr).same (same_upd n), fun a t => ?_⟩
  · rcases set_get e with ⟨rfl, e1, hl⟩ | ⟨c, e⟩
    · cases e1
    · obtain ⟨u, h1, h2⟩ := h.val j w e
      exact ⟨u, by rw [List.getElem?_set_ne c]; exact h1, up h2⟩
  · rcases set_get e with ⟨rfl, e1, hl⟩ | ⟨c, e⟩
    · cases e1
      exact ⟨p, xs, by rw [List.getElem?_set_self (by rw [h.len]; exact hl)], .inr rfl, nB, upd_same, upA r⟩
    · obtain ⟨a, ys, h1, h2, h3, h4, h5⟩ := h.own j us e
      exact ⟨a, ys, by rw [List.getElem?_set_ne c]; exact h1, .inl h2, h3, (upd_ne (ne_of_none h4 n)).trans h4, upA h5⟩
  · rcases set_get e1 with ⟨rfl, e1, hl⟩ | ⟨c, e1⟩
    · rcases set_get e2 with ⟨rfl, e2, hl2⟩ | ⟨c2, e2⟩
      · rfl
      · rw [List.getElem?_set_self (by rw [h.len]; exact hl)] at e3
        rw [List.getElem?_set_ne c2] at e4
        cases e3
        exact absurd rfl (old e2 e4)
    · rcases set_get e2 with ⟨rfl, e2, hl2⟩ | ⟨c2, e2⟩
      · rw [List.getElem?_set_self (by rw [h.len]; exact hl2)] at e4
        rw [List.getElem?_set_ne c] at e3
        cases e4
        exact absurd rfl (old e1 e3)
      · rw [List.getElem?_set_ne c] at e3
        rw [List.getElem?_set_ne c2] at e4
        exact h.dif j k us us' a e1 e2 e3 e4
  · rcases tr a t with t | t
    · obtain ⟨h1, h2⟩ := h.bn a t
      refine ⟨?_, h2⟩
      cases e : H a with
      | none => exact absurd e h1.1.1
      | some u =>
        rw [upd_ne (ne_of_none e n)]
        exact h1
    · subst t
      refine ⟨?_, h.sto.fresh n⟩
      rw [upd_same]
      exact .lst
theorem ExtS.newOwn {p : Addr} {o : HO} (n : H p = none) : ExtS mu mu O (fun a => O a ∨ a = p) H (upd H p o) :=
  ⟨fun _ _ h => h, fun a u h _ _ => by rw [upd_ne (ne_of_none h n)]; exact h, fun _ h q => absurd h q, fun a h => h.imp id fun (h : a = p) => (congrArg H h).trans n, fun a h => by
    by_cases c : a = p
    · subst c
      rw [upd_same]
      exact fun z => nomatch z
    · rw [upd_ne c]
      exact h⟩
theorem Rel.grow (h : Rel K mu B O H σ ρ S) {i : Nat} {a : Addr} {xs : List V} {ws ws' : List Wd} {ys : List V} (hi : ρ[i]? = some (some (.own ws))) (ha : σ[i]? = some (some (V.ref a))) (hO : O a) (hB : ¬ B a) (r : RpAll K mu (fun a => B a ∨ O a) H ys ws') :
    Rel K mu B O (upd H a (.lst ys)) σ (ρ.set i (some (.own ws'))) S := by
  refine ⟨by rw [List.length_set]; exact h.len, fun j w e => ?_, fun j us e => ?_, fun j k us us' b e1 e2 e3 e4 => ?_, h.sto.at_ban h.bn (.inr hO), fun b t => ?_⟩
  · rcases set_get e with ⟨rfl, e1, hl⟩ | ⟨c, e⟩
    · cases e1
    · obtain ⟨u, h1, h2⟩ := h.val j w e
      exact ⟨u, h1, h2.at_ban (.inr hO)⟩
  · rcases set_get e with ⟨rfl, e1, hl⟩ | ⟨c, e⟩
    · cases e1
      exact ⟨a, ys, ha, hO, hB, upd_same, r.at_ban (.inr hO)⟩
    · obtain ⟨b, zs, h1, h2, h3, h4, h5⟩ := h.own j us e
      have nb : b ≠ a := fun z => c (h.dif i j ws us a hi e ha (z ▸ h1))
      exact ⟨b, zs, h1, h2, h3, (upd_ne nb).trans h4, h5.at_ban (.inr hO)⟩
  · have o1 : ∃ vs, ρ[j]? = some (some (.own vs)) := by
      rcases set_get e1 with ⟨rfl, e1, hl⟩ | ⟨c, e1⟩
      · exact ⟨ws, hi⟩
      · exact ⟨us, e1⟩
    have o2 : ∃ vs, ρ[k]? = some (some (.own vs)) := by
      rcases set_get e2 with ⟨rfl, e2, hl⟩ | ⟨c, e2⟩
      · exact ⟨ws, hi⟩
      · exact ⟨us', e2⟩
    obtain ⟨v1, o1⟩ := o1
    obtain ⟨v2, o2⟩ := o2
    exact h.dif j k v1 v2 b o1 o2 e3 e4
  · obtain ⟨h1, h2⟩ := h.bn b t
    refine ⟨?_, h2⟩
    by_cases c : b = a
    · subst c
      rw [upd_same]
      exact .lst
    · rw [upd_ne c]
      exact h1
theorem ExtS.at_own {a : Addr} {o : HO} (hO : O a) : ExtS mu mu O O H (upd H a o) :=
  ⟨fun _ _ h => h, fun b u h _ no => by rw [upd_ne (show b ≠ a from fun z => no (z ▸ hO))]; exact h, fun _ h q => absurd h q, fun _ h => .inl h, fun b h => by
    by_cases c : b = a
    · subst c
      rw [upd_same]
      exact fun z => nomatch z
    · rw [upd_ne c]
      exact h⟩
theorem Rel.freeze (h : Rel K mu B O H σ ρ S) {i : Nat} {ws : List Wd} (hi : ρ[i]? = some (some (.own ws))) : ∃ O', (∀ a, O' a → O a) ∧ Rel K mu B O' H σ (ρ.set i (some (.val (.list ws)))) S := by
  obtain ⟨a, xs, h1, h2, h3, h4, h5⟩ := h.own i ws hi
  have tr : ∀ b, (B b ∨ O b ∧ b ≠ a) → (B b ∨ O b) := fun b z => z.imp id fun z => z.1
  refine ⟨fun b => O b ∧ b ≠ a, fun b z => z.1, by rw [List.length_set]; exact h.len, fun j w e => ?_, fun j us e => ?_, fun j k us us' b e1 e2 e3 e4 => ?_, h.sto.weak tr, fun b t => h.bn b (tr b t)⟩
  · rcases set_get e with ⟨rfl, e1, hl⟩ | ⟨c, e⟩
    · cases e1
      exact ⟨.ref a, h1, .lst (.inl ⟨.inl h4, (h.bn a (.inr h2)).2, fun z => z.elim h3 fun z => z.2 rfl⟩) (h5.weak tr)⟩
    · obtain ⟨u, e1, e2⟩ := h.val j w e
      exact ⟨u, e1, e2.weak tr⟩
  · rcases set_get e with ⟨rfl, e1, hl⟩ | ⟨c, e⟩
    · cases e1
    · obtain ⟨b, zs, k1, k2, k3, k4, k5⟩ := h.own j us e
      exact ⟨b, zs, k1, ⟨k2, fun z => c (h.dif i j ws us a hi e h1 (z ▸ k1))⟩, k3, k4, k5.weak tr⟩
  · rcases set_get e1 with ⟨rfl, e1, hl⟩ | ⟨c, e1⟩
    · cases e1
    rcases set_get e2 with ⟨rfl, e2, hl⟩ | ⟨c2, e2⟩
    · cases e2
    exact h.dif j k us us' b e1 e2 e3 e4
theorem ExtS.less {O' : Addr → Prop} (h : ∀ a, O' a → O a) : ExtS mu mu O O' H H := ⟨fun _ _ h => h, fun _ _ h _ _ => h, fun _ h q => absurd h q, fun a z => .inl (h a z), fun _ h => h⟩
end
section
variable {X : Cx} {e : Expr} {es : List Expr} {f : Mx} {fs : Ma} {pos : Pos} {m : Ms}
def sOwn (i : Nat) (fs : Ma) : Ms := fun ρ S => match fs ρ S with
  | .ok ws S1 => if ws.length ≤ sizeLine then .nx (ρ.set i (some (.own ws))) S1 else .bad
  | .bad => .bad
theorem ds_own {i : Nat} {x : Str} {pos' lpos : Pos} (hN : X.N.Nodup) (hi : X.N[i]? = some x) (hx : Loc X.env.scope x) (he : Da X es fs) (hs : swapsWith (.List es lpos) (some (.Name x pos')) pos.line X.env = pure false := by rfl)
    (hf : X.fn x = true ∨ X.env.scope.names.lookup x = some .local := by first | exact .inl rfl | exact .inr rfl | assumption) : Ds X (.Assign [.Name x pos'] (.List es lpos) pos) (sOwn i fs) :=
  PS.weak (ps_set hN hi hx (pe_lst he) hs hf) fun D σ H ⟨ρ, S, mu, B, O, rl, q⟩ => by
    unfold sOwn at q
    cases z : fs ρ S with
    | bad => rw [z] at q; exact q.elim
    | ok ws S1 =>
      rw [z] at q
      simp only at q
      by_cases hz : ws.length ≤ sizeLine
      · rw [if_pos hz] at q
        refine tDa.mk rl z fun vs H1 mu1 E r p => ⟨by rw [p.length]; exact hz, fun l hl => ?_⟩
        exact q _ _ mu1 _ ((E.toS r.sto).trans (ExtS.newOwn hl)) (r.newOwn i hl p)
      · rw [if_neg hz] at q
        exact q.elim
def sApp (i : Nat) (f : Mx) : Ms := fun ρ S => match ρ[i]? with
  | some (some (.own ws)) => sOf (f ρ S) fun w S1 => if ws.length < sizeLine then .nx (ρ.set i (some (.own (ws ++ [w])))) S1 else .bad
  | _ => .bad
theorem ds_append {i : Nat} {x : Str} {apos cpos xpos : Pos} (hN : X.N[i]? = some x) (hv : Vis X.env.scope x) (he : De X e f) (hd : (x == ("__debug__" : Str)) = false := by decide) (hcd : (x == ("__classdict__" : Str)) = false := by decide)
    (hbase : attributeBase (.Name x xpos) "append" X.env (eval (.Name x xpos) X.env) = eval (.Name x xpos) X.env := by rfl)
    (hfew : ((backTo cpos (starEach [e] X.env)).all (fun x => !x.1) && (backToKw cpos (keywordEach [] X.env)).all (fun x => x.1.isSome) && decide ([e].length + ([] : List Keyword).length + (if ([] : List Keyword).isEmpty then 0 else 1) < 30)) = true := by rfl)
    (hline : (apos.endLine == cpos.line) = true := by rfl) (hs1 : starEach [e] X.env = [(false, eval e X.env)] := by rfl)
    (hs : swapsWith (.Call (.Attribute (.Name x xpos) "append" apos) [e] [] cpos) none pos.line X.env = pure false := by rfl) : Ds X (.Expr (.Call (.Attribute (.Name x xpos) "append" apos) [e] [] cpos) pos) (sApp i f) :=
  PS.weak (ps_expr (pe_bm PySem.F.plainAttrs_list PySem.F.slot_list_append PySem.F.type_list_append mt_append (pe_var hN hv hd hcd) (pa_cons he pa_nil hs1) hbase hfew hline hs1 rfl) hs) fun D σ H ⟨ρ, S, mu, B, O, rl, q⟩ => by
    unfold sApp at q
    split at q
    · rename_i ws hi
      cases z : f ρ S with
      | bad => rw [z] at q; exact q.elim
      | ok w S1 =>
        rw [z, sOf_ok] at q
        by_cases hz : ws.length < sizeLine
        · rw [if_pos hz] at q
          obtain ⟨a, xs, h1, h2, h3, h4, h5⟩ := rl.own i ws hi
          refine ⟨.ref a, h1, .inl ⟨rfl, xs, .inl (.inl h4)⟩, ?_⟩
          refine tD.mk rl z fun v H1 mu1 E r p => ?_
          have h4' : H1 a = some (.lst xs) := E.keep a _ h4 (rl.bn a (.inr h2)).2
          refine ⟨a, xs, v, rfl, rfl, h4', by rw [h5.length]; exact hz, ?_⟩
          exact q σ _ mu1 O ((E.toS r.sto).trans (ExtS.at_own h2)) (r.grow (xs := xs) hi h1 h2 h3 ((h5.ext E).append (.cons p .nil)))
        · rw [if_neg hz] at q
          exact q.elim
    · exact q.elim
def frzE (i : Nat) (ρ : Ev) : Ev := match ρ[i]? with
  | some (some (.own ws)) => ρ.set i (some (.val (.list ws)))
  | _ => ρ
def sFrz (i : Nat) (m : Ms) : Ms := fun ρ S => m (frzE i ρ) S
theorem frz_weak {K : Fg} (i : Nat) : ∀ D σ H, tDs K (sFrz i m) D σ H → tDs K m D σ H := fun D σ H ⟨ρ, S, mu, B, O, rl, q⟩ => by
  unfold sFrz frzE at q
  split at q
  · rename_i ws hi
    obtain ⟨O', hO, r⟩ := rl.freeze hi
    exact ⟨_, S, mu, B, O', r, postS.ext (ExtS.less hO) q⟩
  · exact ⟨ρ, S, mu, B, O, rl, q⟩
theorem dss_frz {sts : List Stmt} (i : Nat) (h : Dss X sts m) : Dss X sts (sFrz i m) := PSs.weak h (frz_weak i)
def sPar (i j : Nat) (fs : Ma) : Ms := fun ρ S => match fs ρ S with
  | .ok [v, w] S1 => .nx ((ρ.set i (some (.val v))).set j (some (.val w))) S1
  | _ => .bad
theorem ds_par {i j : Nat} {x y : Str} {a b : Expr} {px py pt pt2 : Pos} {kt k2 : Nat} (hc : X.calm = true) (hN : X.N.Nodup) (hi : X.N[i]? = some x) (hj : X.N[j]? = some y) (hij : i ≠ j) (hx : X.env.scope.names.lookup x = some .local) (hy : X.env.scope.names.lookup y = some .local) (ha : Da X [a, b] fs)
    (hw : swappedStores [.Tuple [.Name x px, .Name y py] kt pt] (.Tuple [a, b] k2 pt2) X.env = pure (some [x, y])) (hs : swapsWithSole [.Tuple [.Name x px, .Name y py] kt pt] (.Tuple [a, b] k2 pt2) pos.line X.env = pure false := by rfl) :
    Ds X (.Assign [.Tuple [.Name x px, .Name y py] kt pt] (.Tuple [a, b] k2 pt2) pos) (sPar i j fs) :=
  PS.weak (ps_par hc hN hi hj hij hx hy ha hw hs) fun D σ H ⟨ρ, S, mu, B, O, rl, q⟩ => by
    unfold sPar at q
    split at q
    · rename_i v w S1 z
      refine tDa.mk rl z fun vs H1 mu1 E r p => ?_
      cases p with
      | cons p1 p2 => cases p2 with
      | cons p2 p3 =>
        cases p3
        exact ⟨_, _, rfl, q _ H1 mu1 O (E.toS r.sto) ((r.set i p1).set j p2)⟩
    · exact q.elim
def sParO (i j : Nat) (f : Mx) : Ms := fun ρ S => sOf (f ρ S) fun w S1 => .nx ((ρ.set j (some (.val w))).set i (some (.own []))) S1
theorem ds_parO {i j : Nat} {x y : Str} {b : Expr} {px py pt pt2 lpos : Pos} {kt k2 : Nat} (hc : X.calm = true) (hN : X.N.Nodup) (hi : X.N[i]? = some x) (hj : X.N[j]? = some y) (hij : i ≠ j) (hx : X.env.scope.names.lookup x = some .local) (hy : X.env.scope.names.lookup y = some .local) (hb : De X b f)
    (hw : swappedStores [.Tuple [.Name x px, .Name y py] kt pt] (.Tuple [.List [] lpos, b] k2 pt2) X.env = pure (some [x, y])) (hs : swapsWithSole [.Tuple [.Name x px, .Name y py] kt pt] (.Tuple [.List [] lpos, b] k2 pt2) pos.line X.env = pure false := by rfl)
    (h1 : starEach [.List [] lpos, b] X.env = (false, eval (.List [] lpos) X.env) :: starEach [b] X.env := by rfl) (h2 : starEach [b] X.env = [(false, eval b X.env)] := by rfl) :
    Ds X (.Assign [.Tuple [.Name x px, .Name y py] kt pt] (.Tuple [.List [] lpos, b] k2 pt2) pos) (sParO i j f) :=
  PS.weak (ps_par hc hN hi hj hij hx hy (pa_cons (pe_lst pa_nil) (pa_cons hb pa_nil h2) h1) hw hs) fun D σ H ⟨ρ, S, mu, B, O, rl, q⟩ => by
    unfold sParO at q
    cases z : f ρ S with
    | bad => rw [z] at q; exact q.elim
    | ok w S1 =>
      rw [z, sOf_ok] at q
      refine ⟨Nat.zero_le _, fun l hl => ?_⟩
      have r0 := rl.ban hl (.lst [])
      refine tD.mk r0 z fun v H1 mu1 E r p => ?_
      have el : H1 l = some (.lst []) := E.keep l _ upd_same (r0.bn l (.inl (.inr rfl))).2
      refine ⟨.ref l, v, rfl, ?_⟩
      rw [List.set_comm _ _ hij]
      have tr : ∀ a, (B a ∨ O a ∨ a = l) → ((B a ∨ a = l) ∨ O a) := fun a z => z.elim (fun z => .inl (.inl z)) fun z => z.elim .inr fun z => .inl (.inr z)
      have r1 := r.set j p
      have nB : ¬ B l := fun z => (rl.bn l (.inl z)).1.1.1 hl
      refine q _ H1 mu1 (fun a => O a ∨ a = l) ?_ ⟨by simpa only [List.length_set] using r1.len, fun k u e => ?_, fun k us e => ?_, fun k k' us us' a e1 e2 e3 e4 => ?_, r1.sto.weak tr, fun a t => r1.bn a (tr a t)⟩
      · have x0 : Ext mu mu1 H H1 := ⟨E.pre, fun a o h n => E.keep a o (same_upd hl a o h) n, fun a h n => by
          by_cases c : a = l
          · rw [c]; exact hl
          · have := E.new a h n
            rw [upd_ne c] at this
            exact this⟩
        have x1 := Ext.toS (O := O) x0 (r.sto.weak (T' := fun a => B a ∨ O a) fun a z => z.imp .inl id)
        exact ⟨x1.pre, x1.keep, x1.new, fun a z => z.imp id fun (z : a = l) => (congrArg H z).trans hl, x1.tr⟩
      · rcases set_get e with ⟨rfl, e1, hl'⟩ | ⟨c, e⟩
        · cases e1
        · obtain ⟨u', k1, k2⟩ := r1.val k u e
          exact ⟨u', by rw [List.getElem?_set_ne c]; exact k1, k2.weak tr⟩
      · rcases set_get e with ⟨rfl, e1, hl'⟩ | ⟨c, e⟩
        · cases e1
          exact ⟨l, [], by rw [List.getElem?_set_self (by rw [r1.len]; exact hl')], .inr rfl, nB, el, .nil⟩
        · obtain ⟨b', ys, k1, k2, k3, k4, k5⟩ := r1.own k us e
          exact ⟨b', ys, by rw [List.getElem?_set_ne c]; exact k1, .inl k2, fun z => k3 (.inl z), k4, k5.weak tr⟩
      · have old : ∀ {j' : Nat} {us : List Wd} {b' : Addr}, (ρ.set j (some (.val w)))[j']? = some (some (.own us)) → (σ.set j (some v))[j']? = some (some (V.ref b')) → b' ≠ l := fun {j' us b'} e1 e2 e => by
          obtain ⟨a', ys, k1, k2, k3, k4, k5⟩ := r1.own j' us e1
          rw [k1] at e2
          cases e2
          exact k3 (.inr e)
        rcases set_get e1 with ⟨rfl, e1, hl1⟩ | ⟨c, e1⟩
        · rcases set_get e2 with ⟨rfl, e2, hl2⟩ | ⟨c2, e2⟩
          · rfl
          · rw [List.getElem?_set_self (by rw [r1.len]; exact hl1)] at e3
            rw [List.getElem?_set_ne c2] at e4
            cases e3
            exact absurd rfl (old e2 e4)
        · rcases set_get e2 with ⟨rfl, e2, hl2⟩ | ⟨c2, e2⟩
          · rw [List.getElem?_set_self (by rw [r1.len]; exact hl2)] at e4
            rw [List.getElem?_set_ne c] at e3
            cases e4
            exact absurd rfl (old e1 e3)
          · rw [List.getElem?_set_ne c] at e3
            rw [List.getElem?_set_ne c2] at e4
            exact r1.dif k k' us us' a e1 e2 e3 e4
end
end DL
namespace DL
open PySem PySem.Spec PyProof.Rows L2
def tDps (K : Fg) (names : List Str) (fs : Ma) : Sg → Hp → (List (V × V) → Hp → Prop) → Prop := fun σ H Q => ∃ ρ S mu B O, Rel K mu B O H σ ρ S ∧ ∃ ws S', fs ρ S = .ok ws S' ∧ ∀ vs H' mu', Ext mu mu' H H' → StOk K mu' (fun a => B a ∨ O a) H' S' → RpAll K mu' (fun a => B a ∨ O a) H' vs ws → Q ((names.map V.str).zip vs) H'
def Dps (X : Cx) (pos : Pos) (keys : List (Option Expr)) (values : List Expr) (names : List Str) (fs : Ma) : Prop := ∃ trs, PPs X pos keys values trs ∧ (∀ σ H Q, tDps X.K names fs σ H Q → tPairs trs σ H Q) ∧ (∀ ρ S ws S', fs ρ S = .ok ws S' → ws.length = names.length)
section
variable {X : Cx} {pos : Pos}
theorem dps_nil : Dps X pos [] [] [] aNil := ⟨_, pps_nil, fun σ H Q ⟨ρ, S, mu, B, O, rl, ws, S', e, q⟩ => by
  cases e
  exact q [] H mu (.refl _ _) rl.sto .nil, fun ρ S ws S' e => by cases e; rfl⟩
theorem dps_cons {x : Str} {j : Nat} {kp : Pos} {v : Expr} {f : Mx} {ks : List (Option Expr)} {vs : List Expr} {names : List Str} {fs : Ma} (hv : De X v f) (hr : Dps X pos ks vs names fs) : Dps X pos (some (.Constant (.str x) j kp) :: ks) (v :: vs) (x :: names) (aCons f fs) := by
  obtain ⟨trs, p, k, l⟩ := hr
  refine ⟨_, pps_cons pe_str hv p, fun σ H Q ⟨ρ, S, mu, B, O, rl, ws, S', e, q⟩ => ?_, fun ρ S ws S' e => ?_⟩
  · obtain ⟨w, S1, e1, e⟩ := R.bnd_inv e
    obtain ⟨wr, S2, e2, e⟩ := R.bnd_inv e
    cases e
    show tD X.K f σ H _
    refine tD.mk rl e1 fun v' H1 mu1 E r p1 => k σ H1 _ ⟨ρ, S1, mu1, B, O, r, wr, _, e2, fun vs' H2 mu2 E2 st2 p2 => ?_⟩
    exact q (v' :: vs') H2 mu2 (E.trans E2) st2 (.cons (p1.ext E2) p2)
  · obtain ⟨w, S1, e1, e⟩ := R.bnd_inv e
    obtain ⟨wr, S2, e2, e⟩ := R.bnd_inv e
    cases e
    rw [List.length_cons, List.length_cons, l _ _ _ _ e2]
def mRec (names : List Str) (fs : Ma) : Mx := fun ρ S => (fs ρ S).bnd fun ws S1 => .ok (oW S1.length) (S1 ++ [.dct (names.zip ws)])
theorem merge_nodup : ∀ (kvs acc : List (Key × V)), (kvs.map (·.1)).Nodup → (∀ q ∈ kvs, ∀ r ∈ acc, r.1 ≠ q.1) → mergeK acc kvs = acc ++ kvs
  | [], acc, _, _ => by rw [List.append_nil]; rfl
  | (k, v) :: r, acc, h, d => by
    have h' : k ∉ r.map (·.1) ∧ (r.map (·.1)).Nodup := by rw [List.map_cons, List.nodup_cons] at h; exact h
    have e : putK acc k v = acc ++ [(k, v)] := by
      unfold putK
      rw [if_neg]
      intro z
      obtain ⟨q, h1, h2⟩ := List.any_eq_true.mp z
      exact d (k, v) List.mem_cons_self q h1 (of_decide_eq_true h2)
    show mergeK (putK acc k v) r = _
    rw [e, merge_nodup r (acc ++ [(k, v)]) h'.2 fun q hq s hs => ?_]
    · rw [List.append_assoc]
      rfl
    · rcases List.mem_append.mp hs with hs | hs
      · exact d q (List.mem_cons_of_mem _ hq) s hs
      · rw [List.mem_singleton] at hs
        subst hs
        exact fun z => h'.1 (List.mem_map.mpr ⟨q, hq, z.symm⟩)
theorem fs_zip {K : Fg} {mu : List Addr} {T : Addr → Prop} {H : Hp} : ∀ {names : List Str} {vs : List V} {ws : List Wd}, names.length = vs.length → RpAll K mu T H vs ws → FsR K mu T H (names.map (Sum.inr (α := Int)) |>.zip vs) (names.zip ws)
  | [], [], [], _, _ => trivial
  | x :: names, v :: vs, w :: ws, hl, h => by
    cases h with
    | cons a b => exact ⟨rfl, a, fs_zip (by simpa using hl) b⟩
  | [], _ :: _, _, hl, _ => by simp at hl
  | _ :: _, [], _, hl, _ => by simp at hl
theorem zip_keys : ∀ (names : List Str) (vs : List V), (names.map V.str).zip vs = ((names.map (Sum.inr (α := Int))).zip vs).map fun kv => (kV kv.1, kv.2)
  | [], vs => by simp
  | _ :: _, [] => by simp
  | x :: names, v :: vs => by
    simp only [List.map_cons, List.zip_cons_cons]
    rw [zip_keys names vs]
    rfl
theorem de_rec {keys : List (Option Expr)} {values : List Expr} {names : List Str} {fs : Ma} (h : Dps X pos keys values names fs) (hall : keys.all (·.isSome) = true) (hl : keys.length = values.length) (h0 : keys ≠ []) (h15 : keys.length ≤ 15) (hn : names.length ≤ 15) (hnd : names.Nodup) : De X (.Dict keys values pos) (mRec names fs) := by
  obtain ⟨trs, p, k, l⟩ := h
  refine PE.weak (pe_disp p hall hl h0 h15) fun σ H Q ⟨ρ, S, mu, B, O, rl, w, S', e, q⟩ => ?_
  obtain ⟨ws, S1, e1, e⟩ := R.bnd_inv e
  cases e
  intro p np
  have r0 := rl.ban np (.dK [])
  have nT : ¬ (B p ∨ O p) := rl.bn.fresh np
  refine k σ _ _ ⟨ρ, S, mu, _, O, r0, ws, S1, e1, fun vs H1 mu1 E st pv => ?_⟩
  have lw := l ρ S ws S1 e1
  have lv : names.length = vs.length := by rw [pv.length]; exact lw.symm
  have np1 : p ∉ mu := (r0.bn p (.inl (.inr rfl))).2
  have ep : H1 p = some (.dK []) := E.keep p _ upd_same np1
  have np2 : p ∉ mu1 := E.notin upd_same np1
  refine ⟨ep, (names.map (Sum.inr (α := Int))).zip vs, zip_keys names vs, by rw [List.length_zip, List.length_map]; omega, ?_⟩
  have nk : (((names.map (Sum.inr (α := Int))).zip vs).map (·.1)).Nodup := by
    rw [List.map_fst_zip (by rw [List.length_map]; omega)]
    exact List.pairwise_map.mpr (hnd.imp fun h z => h (Sum.inr.inj z))
  rw [merge_nodup _ [] nk (fun _ _ r hr => by cases hr), List.nil_append]
  have bn1 : Bn mu1 (fun a => (B a ∨ a = p) ∨ O a) H1 := (r0.bn).ext E
  have st2 := StOk.newRec st ep np2 (.inl (.inr rfl)) bn1 (fs_zip lv pv)
  have hlen : mu1.length = S1.length := st.len
  refine q (.ref p) _ (mu1 ++ [p]) ⟨fun l a h => ?_, fun a o h n => ?_, fun a h n => ?_⟩ (st2.weak fun a z => z.imp .inl id) (.obj ?_)
  · have h2 := E.pre l a h
    rw [List.getElem?_append_left (List.getElem?_eq_some_iff.mp h2).1]
    exact h2
  · rw [upd_ne (ne_of_none h np)]
    exact E.keep a o (same_upd np a o h) n
  · rcases List.mem_append.mp h with h | h
    · by_cases c : a = p
      · rw [c]; exact np
      · have := E.new a h n
        rw [upd_ne c] at this
        exact this
    · rw [List.mem_singleton] at h
      rw [h]; exact np
  · rw [← hlen, List.getElem?_append_right (Nat.le_refl _), Nat.sub_self]
    rfl
def sPut (fo : Mx) (x : Str) (f : Mx) : Ms := fun ρ S => sOf (f ρ S) fun w S1 => sOf (fo ρ S1) fun o S2 => match o with
  | .dict [(.none, .int (.ofNat l))] => (match recPut S2 l x w with
    | some S3 => .nx ρ S3
    | none => .bad)
  | _ => .bad
theorem ds_put {o value : Expr} {fo f : Mx} {x : Str} {j : Nat} {kp pos' : Pos} (hu : X.A.units + 1 < cLine) (ho : De X o fo) (hv : De X value f) (hs : swapsWith value (some (.Subscript o (.Constant (.str x) j kp) pos')) pos.line X.env = pure false := by rfl) :
    Ds X (.Assign [.Subscript o (.Constant (.str x) j kp) pos'] value pos) (sPut fo x f) :=
  PS.weak (ps_dput hu ho pe_str hv hs) fun D σ H ⟨ρ, S, mu, B, O, rl, q⟩ => by
    unfold sPut at q
    cases z : f ρ S with
    | bad => rw [z] at q; exact q.elim
    | ok w S1 =>
      rw [z, sOf_ok] at q
      cases y : fo ρ S1 with
      | bad => rw [y] at q; exact q.elim
      | ok od S2 =>
        rw [y, sOf_ok] at q
        refine tD.mk rl z fun v H1 mu1 E1 r1 p1 => tD.mk r1 y fun u H2 mu2 E2 r2 p2 => ?_
        split at q
        · rename_i l
          cases t : recPut S2 l x w with
          | none => rw [t] at q; exact q.elim
          | some S3 =>
            rw [t] at q
            unfold recPut at t
            split at t
            · rename_i fs hS
              obtain ⟨hz, rfl⟩ := ite_inv t
              cases p2 with
              | @obj a _ hl =>
                obtain ⟨kvs, h1, h2⟩ := r2.sto.ok _ _ _ hl hS
                refine ⟨a, _, rfl, DPut.k (k := Sum.inr x) h1 (by rw [h2.length]; exact hz), ?_⟩
                have st := r2.sto.put (x := x) hl hS h1 h2 (p1.ext E2)
                have ex : Ext mu2 mu2 H2 (upd H2 a (.dK (putK kvs (Sum.inr x) v))) := .at_mu (List.mem_of_getElem? hl)
                exact q σ _ mu2 O (((E1.trans E2).trans ex).toS st) (r2.ext ex st)
              | dct a b => exact (kv_none b).elim
            · cases t
        · exact q.elim
end
section
variable {X : Cx} {fi : Mi} {g : Mg} {t : Mt} {fe : Mx} {elt tgx iter : Expr} {ifs : List Expr} {scope : Scope} {own : List (Str × Nat)} {pos spos py : Pos} {i : Nat} {y : Str}
theorem ds_setLc (hc : X.calm = true) (hN : X.N.Nodup) (hy : X.N[i]? = some y) (hyl : X.env.scope.names.lookup y = some .local) (hsw : swapsWith (.ListComp elt [⟨tgx, iter, ifs, 0⟩] scope pos) (some (.Name y py)) spos.line X.env = pure true) (hi : Di X tgx iter fi) (ok : BlkOk X.N X.env.scope scope own)
    (hg : DgF (X.fam scope) X.K (own.map (·.2)) tgx g)
    (ht : ∀ (s : Shared) (H : Hp) (C : Addr) (cl : List (Str × Addr)) (fp : List Addr), DTs (X.blk s H scope (compEnvC scope cl C X.env) fp) ifs t)
    (he : ∀ (s : Shared) (H : Hp) (C : Addr) (cl : List (Str × Addr)) (fp : List Addr), De (X.blk s H scope (compEnvC scope cl C X.env) fp) elt fe) (hs : ∀ x, foldedSetIterable iter X.env x = pure x := by intro _; rfl) :
    Ds X (.Assign [.Name y py] (.ListComp elt [⟨tgx, iter, ifs, 0⟩] scope pos) spos) (sSet i (mLc (own.map (·.2)) fi g t fe)) := by
  obtain ⟨tg, pg, kg⟩ := hg
  refine PS.weak (ps_setLc (tt := tDt X.K t) (te := tD X.K fe) hc hN hy hyl hsw hi ok (fun s H C cl fp => pg (s, H, C, cl, fp)) ht he hs) fun D σ H ⟨ρ, S, mu, B, O, rl, q⟩ => ?_
  unfold sSet at q
  cases z : mLc (own.map (·.2)) fi g t fe ρ S with
  | bad => rw [z] at q; exact q.elim
  | ok w S1 =>
    rw [z, sOf_ok] at q
    refine lc_core' (fun J v w ws hJ mu B O H S st bn p => ?_) (fun σ => wipe_idem σ _) σ H _ (tD.mk rl z fun v H1 mu1 E r p => q _ H1 mu1 O (E.toS r.sto) (r.set i p))
    obtain ⟨h1, h2⟩ := hJ mu _ H S st bn p
    exact ⟨fun i d e => ⟨(h1 i d e).1, fun x H' hy => ⟨((h1 i d e).2 x H' hy).1, fun σ ρ ρ' Q r eg k => kg mu B O H' σ ρ ρ' S x d Q r ((h1 i d e).2 x H' hy).2 eg k⟩⟩, h2⟩
end
abbrev Gd := List Wd → Sto → R Wd
def spD (K : Fg) (g : Gd) (vs : List V) (H : Hp) (Q : VK) : Prop := ∃ ws S mu T, StOk K mu T H S ∧ Bn mu T H ∧ RpAll K mu T H vs ws ∧ ∃ w S', g ws S = .ok w S' ∧ ∀ v H' mu', Ext mu mu' H H' → StOk K mu' T H' S' → Rp K mu' T H' v w → Q v H'
structure FnD (G : Bool) (P : Program) (w : World) (K : Fg) (mg : Str → Option Value) (base : Heap) (k : Nat) (f : Addr) (fd : FuncData) (ps : List Str) (g : Gd) : Prop where
  len : ∀ ws S v S', g ws S = .ok v S' → ws.length = ps.length
  run : ∀ (A : Around) (outer : List Env) (s : Shared) (H : Hp) (args : Args) (us : List Value) (vs : List V) (Q : VK), Room k A → (G = true → A.guards = some []) → Env0 P w K mg base A outer s H → BindsTo s fd args (ps.zip us) → Vals vs us → spD K g vs H Q →
    codeAny (model P w) A (.call (.ref f) args) (CR CX0 outer P w H s Q E0) s
variable {G : Bool}
theorem nog {p : Prop} : (false = true → p) := fun z => by cases z
def startE (n : Nat) (ws : List Wd) : Ev := ws.map (fun w => some (.val w)) ++ List.replicate (n - ws.length) none
def runDef (n p : Nat) (m : Ms) : Gd := fun ws S => if ws.length = p then (match m (startE n ws) S with
  | .nx _ S' => .ok .none S'
  | .rt w S' => .ok w S'
  | _ => .bad) else .bad
theorem FnD.mono {P : Program} {w : World} {K : Fg} {mg : Str → Option Value} {base : Heap} {j k : Nat} {f : Addr} {fd : FuncData} {ps : List Str} {g : Gd} (F : FnD G P w K mg base j f fd ps g) (h : j ≤ k) : FnD G P w K mg base k f fd ps g :=
  ⟨F.len, fun A outer s H args us vs Q hr => F.run A outer s H args us vs Q (hr.mono h)⟩
theorem FnD.imp {P : Program} {w : World} {K : Fg} {mg : Str → Option Value} {base : Heap} {k : Nat} {f : Addr} {fd : FuncData} {ps : List Str} {g g' : Gd} (F : FnD G P w K mg base k f fd ps g) (h : ∀ ws S v S', g' ws S = .ok v S' → g ws S = .ok v S') : FnD G P w K mg base k f fd ps g' :=
  ⟨fun ws S v S' e => F.len ws S v S' (h _ _ _ _ e), fun A outer s H args us vs Q hr hg e0 hb r ⟨ws, S, mu, T, h1, h2, h3, v, S', e, q⟩ => F.run A outer s H args us vs Q hr hg e0 hb r ⟨ws, S, mu, T, h1, h2, h3, v, S', h _ _ _ _ e, q⟩⟩
theorem start_rel {K : Fg} {mu : List Addr} {T : Addr → Prop} {H : Hp} {S : Sto} {N : List Str} {vs : List V} {ws : List Wd} (st : StOk K mu T H S) (bn : Bn mu T H) (r : RpAll K mu T H vs ws) : Rel K mu T (fun _ => False) H (L2.start N vs) (startE N.length ws) S := by
  have tr : ∀ a, (T a ∨ False) → T a := fun a z => z.elim id False.elim
  have hl := r.length
  refine ⟨?_, fun i w e => ?_, fun i us e => ?_, fun i j us us' a e _ _ _ => ?_, st.weak tr, fun a t => bn a (tr a t)⟩
  · unfold L2.start startE
    rw [List.length_append, List.length_append, List.length_map, List.length_map, List.length_replicate, List.length_replicate, hl]
  · unfold startE at e
    by_cases c : i < ws.length
    · rw [List.getElem?_append_left (by rw [List.length_map]; exact c), List.getElem?_map] at e
      obtain ⟨w', e1, e2⟩ := Option.map_eq_some_iff.mp e
      cases e2
      obtain ⟨v, e3, e4⟩ := r.get e1
      refine ⟨v, ?_, e4.weak tr⟩
      unfold L2.start
      rw [List.getElem?_append_left (by rw [List.length_map, hl]; exact c), List.getElem?_map, e3]
      rfl
    · rw [List.getElem?_append_right (by rw [List.length_map]; omega)] at e
      have := List.mem_of_getElem? e
      rw [List.mem_replicate] at this
      cases this.2
  all_goals
    unfold startE at e
    by_cases c : i < ws.length
    · rw [List.getElem?_append_left (by rw [List.length_map]; exact c), List.getElem?_map] at e
      obtain ⟨w', e1, e2⟩ := Option.map_eq_some_iff.mp e
      cases e2
    · rw [List.getElem?_append_right (by rw [List.length_map]; omega)] at e
      have := List.mem_of_getElem? e
      rw [List.mem_replicate] at this
      cases this.2
section
variable {P : Program} {w : World} {K : Fg} {mg : Str → Option Value} {base : Heap} {x qual : Str} {params : Arguments} {body : List Stmt} {scope : Scope} {dvs : List V} {kws : List (Str × V)} {f : Addr} {fd : FuncData}
theorem fnD_of {N ps : List Str} {k n p : Nat} {m : Ms} (F : FunD K x qual params body scope dvs kws f fd) (Sc : FnScope N ps scope) (hn : N.length = n) (hp : ps.length = p)
    (hbody : ∀ (cdv : Value) (A : Around) (outer : List Env) (s : Shared) (H : Hp), Room k (A.deeper (envOfC qual scope s.heap.objs.size f cdv)) → (G = true → (A.deeper (envOfC qual scope s.heap.objs.size f cdv)).guards = some []) → Dss (cxOf CX0 P w K mg base N qual scope f cdv A outer s H E0).nox body m) :
    FnD G P w K mg base (k + 1) f fd ps (runDef n p m) := by
  subst hn hp
  obtain ⟨oc, od, dV, kV, doc, pm, an, cdv, ct, osl, rfl, lk, hcd, _, _⟩ := F.ex
  refine ⟨fun ws S v S' e => ?_, fun A outer s H args us vs Q hr hg e0 hb r h => ?_⟩
  · unfold runDef at e
    by_cases c : ws.length = ps.length
    · exact c
    · rw [if_neg c] at e
      cases e
  obtain ⟨ws, S, mu, T, st, bn, rp, v, S', e, q⟩ := h
  unfold runDef at e
  have c : ws.length = ps.length := by
    by_cases c : ws.length = ps.length
    · exact c
    · rw [if_neg c] at e
      cases e
  rw [if_pos c] at e
  have hlen : vs.length = ps.length := by rw [rp.length]; exact c
  have KX : K.In s.heap := e0.mod.kin.keeps fun b o z => (e0.bs b o z).1
  have lim : s.heap.NoLimit := e0.mod.nolimit.keeps fun b o z => (e0.bs b o z).1
  have hkind : ∀ y ∈ ps.zip us, scope.names.lookup y.1 = some .local ∨ (scope.names.lookup y.1 = some .cell ∧ ((cellsFrom (s.heap.objs.size + 1) scope.names []).lookup y.1).isSome = true) := by
    rintro ⟨nm, val⟩ hy
    rcases Sc.par nm (List.of_mem_zip hy).1 with z | z
    · exact .inl z
    · exact .inr ⟨z, PySem.W.cellsFrom_some _ _ _ (.inl z)⟩
  refine codeAny_call_function hr.depth (KX _ _ lk) rfl Sc.co Sc.gen rfl (PySem.W.codeRec_of KX hcd) (hb _ _ _ _ ?_)
  refine wpAny_newFunctionEnv_cells Sc.kind hkind fun env he s1 ic => ?_
  subst he
  refine ⟨lim.keeps ic.toInCall.keep, codeAny_func ?_⟩
  have I : Inv (cxOf CX0 P w K mg base N qual scope f cdv A outer s H E0) [] (L2.start N vs) H s1 := inv_start Sc hr.hd e0 hlen r ic
  have B := hbody cdv A outer s H (hr.deeper _) hg
  have go : tDs K m { nx := fun _ H' => Q .non H', rt := Q } (L2.start N vs) H := by
    refine ⟨startE N.length ws, S, mu, T, fun _ => False, start_rel st bn rp, ?_⟩
    have toE : ∀ {H' : Hp} {mu' : List Addr} {O' : Addr → Prop}, ExtS mu mu' (fun _ => False) O' H H' → Ext mu mu' H H' := fun y => ⟨y.pre, fun a o h n => y.keep a o h n fun z => z, y.new⟩
    cases z : m (startE N.length ws) S with
    | nx ρ' S2 =>
      rw [z] at e
      cases e
      exact fun σ' H' mu' O' y r' => q _ H' mu' (toE y) (r'.sto.weak fun a t => .inl t) .non
    | rt u S2 =>
      rw [z] at e
      cases e
      exact fun v' H' mu' O' y s' r' => q _ H' mu' (toE y) (s'.weak fun a t => .inl t) (r'.weak fun a t => .inl t)
    | bk ρ' S2 => rw [z] at e; cases e
    | ct ρ' S2 => rw [z] at e; cases e
    | bad => rw [z] at e; cases e
  refine wpAny_mono (B.nox.run [] s1 (L2.start N vs) H _ I go) (fun fl s' hs => ?_) fun e s' hs => hs
  have fin : ∀ {σ' : Sg} {H' : Hp} {v' : V} {u : Value}, Inv (cxOf CX0 P w K mg base N qual scope f cdv A outer s H E0) [] σ' H' s' → RelV v' u → Q v' H' → CE outer P w H s Q u s' :=
    fun {σ' H' v' u} J rv z => ⟨v', H', J.os, J.bare, J.base, J.hok, rv, z⟩
  cases fl with
  | ret u =>
    obtain ⟨v', σ', H', J, rv, z⟩ := hs
    exact fin J rv z
  | next =>
    obtain ⟨σ', H', J, z⟩ := hs
    exact fin (v' := V.non) (u := Value.none) J rfl z
  | brk =>
    obtain ⟨_, _, _, z⟩ := hs
    exact False.elim z
  | cont =>
    obtain ⟨_, _, _, z⟩ := hs
    exact False.elim z
end
def mCall (g : Gd) (fs : Ma) : Mx := fun ρ S => (fs ρ S).bnd fun ws S1 => g ws S1
def Dk (X : Cx) (kws : List Keyword) (f : Ma) : Prop := PK X kws (tDa X.K f)
def mCallK (g : Gd) (perm : List Wd → List Wd) (fs : Ma) : Mx := fun ρ S => (fs ρ S).bnd fun ws S1 => g (perm ws) S1
section
variable {X : Cx} {k : Nat} {f : Addr} {fd : FuncData} {ps : List Str} {g : Gd} {x : Str} {p pos : Pos} {e : Expr} {es : List Expr} {fs : Ma}
theorem run_fnD {pins : List (Addr × Obj)} {σ : Sg} {H : Hp} {s : Shared} {Q : VK} {args : Args} {us : List Value} {vs : List V} (F : FnD G X.prog X.w X.K X.mg X.base k f fd ps g) (hr : Room k X.A) (hg : G = true → X.A.guards = some []) (hb : BindsTo s fd args (ps.zip us))
    (I : Inv X pins σ H s) (r : Vals vs us) (h : spD X.K g vs H Q) : wpAny (model X.prog X.w) X.A (call (.ref f) args.pos args.kw) (EP X pins σ Q) X.xe s := by
  refine wpAny_call (codeAny_mono (F.run X.A X.stack s H args us vs Q hr hg I.env0 hb r h) fun r s' hq => ?_)
  cases r with
  | error e => exact False.elim hq
  | ok fl =>
    cases fl with
    | ret u => exact I.after hq
    | next => exact False.elim hq
    | brk => exact False.elim hq
    | cont => exact False.elim hq
theorem call_sp {ws : List Wd} {S1 : Sto} {v : Wd} {S' : Sto} {K : Fg} {mu mu1 : List Addr} {B O : Addr → Prop} {H H1 : Hp} {vs : List V} {Q : VK} (E : Ext mu mu1 H H1) (st : StOk K mu1 (fun a => B a ∨ O a) H1 S1) (bn : Bn mu1 (fun a => B a ∨ O a) H1) (p : RpAll K mu1 (fun a => B a ∨ O a) H1 vs ws) (e : g ws S1 = .ok v S')
    (q : ∀ v' H' mu', Ext mu mu' H H' → StOk K mu' (fun a => B a ∨ O a) H' S' → Rp K mu' (fun a => B a ∨ O a) H' v' v → Q v' H') : spD K g vs H1 Q :=
  ⟨ws, S1, mu1, _, st, bn, p, v, S', e, fun v' H' mu' x s' r' => q v' H' mu' (E.trans x) s' r'⟩
theorem de_call (F : FnD G X.prog X.w X.K X.mg X.base k f fd ps g) (hr : Room k X.A) (hgd : G = true → X.A.guards = some []) (hg : Gl X x) (hm : X.mg x = some (.ref f)) (hk : PySem.W.keepIn X.K (.ref f) = true) (hb : Binds X.K fd ps []) (ha : Da X (e :: es) fs)
    (hdb : (x == ("__debug__" : Str)) = false := by decide) (he : starEach (e :: es) X.env = (false, eval e X.env) :: starEach es X.env := by rfl) (hpl : (backTo pos (starEach es X.env)).any (·.1) = false := by rfl) : De X (.Call (.Name x p) (e :: es) [] pos) (mCall g fs) := by
  refine ⟨fun pins s σ H Q I ⟨ρ, S, mu, B, O, rl, v, S', e1, q⟩ => ?_⟩
  obtain ⟨ws, S1, e2, e3⟩ := R.bnd_inv e1
  refine wpAny_Call_Name_kw (ld_glob I hg hm ?_ hdb)
  refine PySem.W.callWith_K (h₀ := X.base) I.ok.mod.kin hk (thn (ha.run pos pins s σ H (fun vs H1 => ∃ mu1, Ext mu mu1 H H1 ∧ Rel X.K mu1 B O H1 σ ρ S1 ∧ RpAll X.K mu1 (fun a => B a ∨ O a) H1 vs ws) I (tDa.mk rl e2 fun vs H1 mu1 E r p => ⟨mu1, E, r, p⟩)) fun us s1 ⟨vs, H1, I1, r, mu1, E, rl1, p⟩ => ⟨I1.kIn, ?_⟩) he hpl
  have hl : (us ++ []).length = ps.length := by
    rw [List.append_nil, ← r.length, p.length]
    exact F.len _ _ _ _ e3
  have hb1 := hb s1 us I1.kIn hl
  rw [List.append_nil] at hb1
  exact run_fnD (args := ⟨us, []⟩) F hr hgd hb1 I1 r (call_sp E rl1.sto rl1.bn p e3 q)
theorem de_call0 (F : FnD G X.prog X.w X.K X.mg X.base k f fd ps g) (hr : Room k X.A) (hgd : G = true → X.A.guards = some []) (hg : Gl X x) (hm : X.mg x = some (.ref f)) (hk : PySem.W.keepIn X.K (.ref f) = true) (hb : Binds X.K fd ps [])
    (hdb : (x == ("__debug__" : Str)) = false := by decide) : De X (.Call (.Name x p) [] [] pos) (mCall g aNil) := by
  refine ⟨fun pins s σ H Q I ⟨ρ, S, mu, B, O, rl, v, S', e1, q⟩ => ?_⟩
  obtain ⟨ws, S1, e2, e3⟩ := R.bnd_inv e1
  cases e2
  refine wpAny_Call_Name_kw (ld_glob I hg hm ?_ hdb)
  have hb1 := hb s [] I.kIn (F.len _ _ _ _ e3)
  exact PySem.W.callWith_K0 I.kIn hk (run_fnD (args := ⟨[], []⟩) F hr hgd hb1 I .nil (call_sp (.refl _ _) rl.sto rl.bn .nil e3 q))
theorem dk_nil : Dk X [] aNil := ⟨fun pos pins s σ H Q I ⟨ρ, S, mu, B, O, rl, ws, S', e, q⟩ => by
  cases e
  exact pk_nil.run pos pins s σ H Q I (q [] H mu (.refl _ _) rl.sto .nil)⟩
theorem dk_cons {nm : Option Str} {kpos : Pos} {f1 : Mx} {kws : List Keyword} {fs : Ma} (ha : De X e f1) (hr : Dk X kws fs) : Dk X (⟨nm, e, kpos⟩ :: kws) (aCons f1 fs) := ⟨fun pos pins s σ H Q I ⟨ρ, S, mu, B, O, rl, ws, S', e1, q⟩ => by
  obtain ⟨w, S1, e2, e1⟩ := R.bnd_inv e1
  obtain ⟨wr, S2, e3, e1⟩ := R.bnd_inv e1
  cases e1
  exact (pk_cons ha hr).run pos pins s σ H Q I (tD.mk rl e2 fun v H1 mu1 E r p => tDa.mk r e3 fun vs H2 mu2 E2 r2 p2 => q _ H2 mu2 (E.trans E2) r2.sto (.cons (p.ext E2) p2))⟩
theorem de_callK {ks : List Str} {kws : List Keyword} {pick : List Nat} (F : FnD G X.prog X.w X.K X.mg X.base k f fd ps g) (hr : Room k X.A) (hgd : G = true → X.A.guards = some []) (hg : Gl X x) (hm : X.mg x = some (.ref f)) (hk : PySem.W.keepIn X.K (.ref f) = true)
    (hb : ∀ (s : Shared) (ws : List Value), X.K.In s.heap → ws.length = ks.length → BindsTo s fd ⟨[], ks.zip ws⟩ (ps.zip (pick.filterMap (ws[·]?)))) (hkw : Dk X kws fs) (hpick : ∀ i ∈ pick, i < ks.length)
    (hlen : ∀ ρ S ws S', fs ρ S = .ok ws S' → ws.length = ks.length)
    (hall : (backToKw pos (keywordEach kws X.env)).all (·.1.isSome) = true := by rfl) (hks : (backToKw pos (keywordEach kws X.env)).filterMap (·.1) = ks := by rfl) (hdb : (x == ("__debug__" : Str)) = false := by decide)
    (hpl : ((backTo pos (starEach [] X.env)).any (·.1) || (backToKw pos (keywordEach kws X.env)).any (·.1.isNone)) = false := by rfl) : De X (.Call (.Name x p) [] kws pos) (mCallK g (fun ws => pick.filterMap (ws[·]?)) fs) := by
  refine ⟨fun pins s σ H Q I ⟨ρ, S, mu, B, O, rl, v, S', e1, q⟩ => ?_⟩
  obtain ⟨ws, S1, e2, e3⟩ := R.bnd_inv e1
  refine wpAny_Call_Name_kw (ld_glob I hg hm ?_ hdb)
  refine PySem.W.callWith_KW0 (h₀ := X.base) I.ok.mod.kin hk hall (thn (hkw.run pos pins s σ H (fun vs H1 => ∃ mu1, Ext mu mu1 H H1 ∧ Rel X.K mu1 B O H1 σ ρ S1 ∧ RpAll X.K mu1 (fun a => B a ∨ O a) H1 vs ws) I (tDa.mk rl e2 fun vs H1 mu1 E r p => ⟨mu1, E, r, p⟩)) fun us s1 ⟨vs, H1, I1, r, mu1, E, rl1, p⟩ => ⟨I1.kIn, ?_⟩) hpl
  rw [hks]
  have hl : us.length = ks.length := by
    rw [← r.length, p.length]
    exact hlen _ _ _ _ e2
  have pk : ∀ (l : List Nat), (∀ i ∈ l, i < ks.length) → Vals (l.filterMap (vs[·]?)) (l.filterMap (us[·]?)) ∧ RpAll X.K mu1 (fun a => B a ∨ O a) H1 (l.filterMap (vs[·]?)) (l.filterMap (ws[·]?)) := by
    intro l
    induction l with
    | nil => intro _; exact ⟨.nil, .nil⟩
    | cons i l ih =>
      intro h
      obtain ⟨h1, h2⟩ := ih fun j hj => h j (List.mem_cons_of_mem _ hj)
      have hi : i < ks.length := h i List.mem_cons_self
      have hv : i < vs.length := by rw [r.length, hl]; exact hi
      have e4 : vs[i]? = some vs[i] := List.getElem?_eq_getElem hv
      obtain ⟨u, e5, r5⟩ := r.get e4
      obtain ⟨w, e6, r6⟩ := p.getV e4
      rw [List.filterMap_cons_some e4, List.filterMap_cons_some e5, List.filterMap_cons_some e6]
      exact ⟨.cons r5 h1, .cons r6 h2⟩
  obtain ⟨r2, p2⟩ := pk pick hpick
  exact run_fnD (args := ⟨[], ks.zip us⟩) F hr hgd (hb s1 us I1.kIn hl) I1 r2 (call_sp E rl1.sto rl1.bn p2 e3 q)
end
end DL
namespace DL
open PySem PySem.Spec PyProof.Rows L2
theorem call_dict_tup {prog : Program} {w : World} {A : Around} {E : Value → Shared → Prop} {s : Shared} {l : Addr} {ol : Obj} {items : Array Value} {n : Nat} {prs : List (Key × Value)} {Q : Value → Shared → Prop} (hh : A.handled = none)
    (hl : s.heap.get? l = some ol) (hc : ol.cls = .type "tuple") (hd : ol.dict = none) (hi : ol.data = .seq items n) (hs : items.size = prs.length) (hn : prs.length ≤ sizeLine)
    (ht : ∀ (j : Nat) (q : Key × Value), prs[j]? = some q → ∃ (b : Addr) (u : Value), items[j]? = some (.ref b) ∧ IsTup s.heap b #[u, q.2] ∧ keyIs q.1 u = true)
    (h : ∀ h' tk, h'.DictOf (mixKind prog w) s.heap.objs.size (merged [] prs) → (∀ b o, s.heap.get? b = some o → h'.get? b = some o) → Q (.ref s.heap.objs.size) { s with heap := h', toks := tk }) :
    wpAny (model prog w) A (call (.type "dict") [.ref l]) Q E s := by
  have pick : ∀ j : Nat, ∃ f : Addr × Value, ∀ q : Key × Value, prs[j]? = some q → items[j]? = some (Value.ref f.1) ∧ IsTup s.heap f.1 #[f.2, q.2] ∧ keyIs q.1 f.2 = true := fun j => by
    match e : prs[j]? with
    | none => exact ⟨(0, .none), fun q z => by cases z⟩
    | some p =>
      obtain ⟨b, u, z⟩ := ht j p e
      exact ⟨(b, u), fun q y => by cases y; exact z⟩
  obtain ⟨f, hf⟩ := Classical.axiomOfChoice pick
  have at_ : ∀ {j : Nat} {k v : Value}, (prs.mapIdx fun j q => ((f j).2, q.2))[j]? = some (k, v) → ∃ q, prs[j]? = some q ∧ (f j).2 = k ∧ q.2 = v := fun {j k v} z => by
    rw [List.getElem?_mapIdx] at z
    obtain ⟨q, z1, z2⟩ := Option.map_eq_some_iff.mp z
    cases z2
    exact ⟨q, z1, rfl, rfl⟩
  refine PySem.call_dict_pairs (knd := mixKind prog w) (kvs := prs) (.tuple l items (fun j => (f j).1) (prs.mapIdx fun j q => ((f j).2, q.2))) hh ⟨⟨ol, n, hl, hc, hd, hi⟩, by simpa using hs, fun j k v z => ?_⟩ ⟨by simp, fun j k v z => ?_⟩ (by simpa using hn)
    fun h' tk d k => h h' tk d fun b o e => k b o (by simp) e
  · obtain ⟨q, z1, rfl, rfl⟩ := at_ z
    exact ⟨(hf j q z1).1, .inl (hf j q z1).2.1⟩
  · obtain ⟨q, z1, rfl, rfl⟩ := at_ z
    exact ⟨q.1, z1, (hf j q z1).2.2⟩
def putD (ds : List (Wd × Wd)) (k v : Wd) : List (Wd × Wd) := if (ds.any fun q => PyData.eqv q.1 k) = true then ds.map (fun q => if PyData.eqv q.1 k = true then (q.1, v) else q) else ds ++ [(k, v)]
def mergeD (ds : List (Wd × Wd)) (ps : List (Wd × Wd)) : List (Wd × Wd) := ps.foldl (fun acc q => putD acc q.1 q.2) ds
def pairsD : List Wd → Option (List (Wd × Wd))
  | [] => some []
  | .tuple [k, v] :: r => if keyD k = true then (pairsD r).map ((k, v) :: ·) else none
  | _ => none
def gDict : List Wd → Option Wd
  | [.list ys] => (pairsD ys).map fun ps => .dict (mergeD [] ps)
  | [.tuple ys] => (pairsD ys).map fun ps => .dict (mergeD [] ps)
  | _ => none
section
variable {K : Fg} {mu : List Addr} {T : Addr → Prop} {H : Hp}
theorem key_of {v : V} {k : Wd} (h : Rp K mu T H v k) (e : keyD k = true) : ∃ kk : Key, v = kV kk ∧ k = kW kk := by
  cases h with
  | int i => exact ⟨.inl i, rfl, rfl⟩
  | str x => exact ⟨.inr x, rfl, rfl⟩
  | _ => cases e
theorem kv_any (k : Key) : ∀ {kvs : List (Key × V)} {ds : List (Wd × Wd)}, RpKv K mu T H kvs ds → (kvs.any fun q => decide (q.1 = k)) = ds.any fun q => PyData.eqv q.1 (kW k)
  | [], [], _ => rfl
  | (k', v) :: r, (_, d) :: ds, h => by
    cases h with
    | cons a b => rw [List.any_cons, List.any_cons, kv_any k b, eqv_key]
theorem kv_put {v : V} {w : Wd} (k : Key) (p : Rp K mu T H v w) : ∀ {kvs : List (Key × V)} {ds : List (Wd × Wd)}, RpKv K mu T H kvs ds → RpKv K mu T H (kvs.map fun q => if q.1 = k then (q.1, v) else q) (ds.map fun q => if PyData.eqv q.1 (kW k) = true then (q.1, w) else q)
  | [], [], _ => .nil
  | (k', v') :: r, (_, d) :: ds, h => by
    cases h with
    | cons a b =>
      have ih := kv_put k p b
      rw [List.map_cons, List.map_cons]
      by_cases c : k' = k
      · rw [if_pos c, eqv_key, decide_eq_true c, if_pos rfl]
        exact .cons p ih
      · rw [if_neg c, eqv_key, decide_eq_false c, if_neg Bool.false_ne_true]
        exact .cons a ih
theorem kv_snoc {v : V} {w : Wd} (k : Key) (p : Rp K mu T H v w) : ∀ {kvs : List (Key × V)} {ds : List (Wd × Wd)}, RpKv K mu T H kvs ds → RpKv K mu T H (kvs ++ [(k, v)]) (ds ++ [(kW k, w)])
  | [], [], _ => .cons p .nil
  | (k', v') :: r, (_, d) :: ds, h => by
    cases h with
    | cons a b => exact .cons a (kv_snoc k p b)
theorem kv_putK {v : V} {w : Wd} (k : Key) (p : Rp K mu T H v w) {kvs : List (Key × V)} {ds : List (Wd × Wd)} (h : RpKv K mu T H kvs ds) : RpKv K mu T H (putK kvs k v) (putD ds (kW k) w) := by
  unfold putK putD
  rw [kv_any k h]
  split
  · exact kv_put k p h
  · exact kv_snoc k p h
theorem pairs_rp : ∀ {vs : List V} {ws : List Wd} {ps : List (Wd × Wd)}, RpAll K mu T H vs ws → pairsD ws = some ps → ∃ (as : List Addr) (kvs : List (Key × V)), vs = as.map V.ref ∧ Paired (fun p kv => SqT K H p [kV kv.1, kv.2]) as kvs ∧ RpKv K mu T H kvs ps
  | [], [], _, _, e => by cases e; exact ⟨[], [], rfl, .nil, .nil⟩
  | v :: vs, w :: ws, ps, h, e => by
    cases h with
    | cons a b =>
      unfold pairsD at e
      split at e
      · rename_i z; cases z
      · rename_i k u r z
        cases z
        by_cases c : keyD k = true
        · rw [if_pos c] at e
          obtain ⟨m, e1, rfl⟩ := Option.map_eq_some_iff.mp e
          obtain ⟨as, kvs, rfl, h1, h2⟩ := pairs_rp b e1
          cases a with
          | @tup ad xs ds a1 b1 =>
            cases b1 with
            | cons pk b1 => cases b1 with
            | cons pu b1 =>
              cases b1
              obtain ⟨kk, rfl, rfl⟩ := key_of pk c
              exact ⟨ad :: as, (kk, _) :: kvs, rfl, .cons a1.sq h1, .cons pu h2⟩
        · rw [if_neg c] at e
          cases e
      · cases e
theorem merge_rp : ∀ {more : List (Key × V)} {ps : List (Wd × Wd)}, RpKv K mu T H more ps → ∀ {kvs : List (Key × V)} {ds : List (Wd × Wd)}, RpKv K mu T H kvs ds → RpKv K mu T H (mergeK kvs more) (mergeD ds ps)
  | [], [], _, _, _, h => h
  | (k, v) :: r, (_, d) :: ds, h, kvs, acc, h2 => by
    cases h with
    | cons a b => exact merge_rp b (kv_putK k a h2)
end
section
variable {X : Cx}
theorem cd_dict (hc : X.calm = true) : CallD X (.type "dict") gDict := by
  intro pins s σ H xs us Q mu T S ws w I r st bn p e q
  unfold gDict at e
  split at e
  · obtain ⟨ps, e1, rfl⟩ := Option.map_eq_some_iff.mp e
    cases p with
    | cons p1 p2 =>
      cases p2
      cases p1 with
      | lst a b =>
        obtain ⟨as, kvs, rfl, h1, h2⟩ := pairs_rp b e1
        exact call_dictP hc pins s σ H _ us Q I r ⟨_, as, kvs, rfl, a.sq, h1, fun l hl => q _ _ (same_upd hl) (new_dct st bn (merge_rp h2 .nil) hl)⟩
  · obtain ⟨ps, e1, rfl⟩ := Option.map_eq_some_iff.mp e
    cases p with
    | cons p1 p2 =>
      cases p2
      obtain ⟨u, rfl, rx⟩ := vals1 r
      cases p1 with
      | tup a b =>
        cases rx
        obtain ⟨as, kvs, rfl, h1, h2⟩ := pairs_rp b e1
        obtain ⟨its, rv, pt, hz⟩ := I.tuple a.sq
        have ei := refs_at rv
        subst ei
        rw [List.length_map] at hz
        obtain ⟨prs, rel, hl, hpr⟩ := pairs_of I h1
        obtain ⟨o, ho, hcl, n, hdat⟩ := pt
        have hdn : o.dict = none := by
          rcases a with ⟨⟨o', d, z⟩, _⟩ | ⟨_, o', z, d⟩
          · have z2 := (I.hok _ _ z).1
            rw [ho] at z2
            cases z2
            exact d
          · have z2 := I.kIn _ _ z
            rw [ho] at z2
            cases z2
            exact d
        refine call_dict_tup (prs := prs) (I.ok.hd hc) ho hcl hdn hdat (by simp [hl]) (by rw [hl]; exact hz) (fun j q' e => ?_) fun h' tk hd' k => ?_
        · obtain ⟨b, u, e1, e2, e3⟩ := hpr j q' e
          exact ⟨b, u, by simp [e1], e2, e3⟩
        · have hm : (s.heap.objs.size == sysModules) = false := beq_eq_false_iff_ne.mpr (Nat.ne_of_gt I.big)
          have hlen : (mergeK [] kvs).length ≤ sizeLine := by
            refine Nat.le_trans (length_mergeK kvs []) ?_
            rw [List.length_nil, Nat.zero_add, rel.length, hl]
            exact hz
          have nf : H s.heap.objs.size = none := I.hok.fresh (Nat.le_refl _)
          exact ⟨.ref s.heap.objs.size, upd H s.heap.objs.size (.dK (mergeK [] kvs)), I.laid (t' := tk) k (Nat.le_refl _) (show ObjOk X.prog X.w _ _ _ (.dK (mergeK [] kvs)) from ⟨hlen, hm, merged [] prs, KV.merge rel .nil, hd'⟩), rfl, q _ _ (same_upd nf) (new_dct st bn (merge_rp h2 .nil) nf)⟩
  · cases e
theorem de_gstr {x z : Str} {t : Tok} {pos : Pos} (hg : Gl X x) (hm : X.mg x = some (.str z t)) (hd : (x == ("__debug__" : Str)) = false := by decide) : De X (.Name x pos) (mC (.str z)) := de_c (pe_glob (v := .str z) hg hm ⟨t, rfl⟩ hd) fun _ _ _ => .str z
theorem de_gint {x : Str} {z : Int} {t : Tok} {pos : Pos} (hg : Gl X x) (hm : X.mg x = some (.int z t)) (hd : (x == ("__debug__" : Str)) = false := by decide) : De X (.Name x pos) (mC (.int z)) := de_c (pe_glob (v := .int z) hg hm ⟨t, rfl⟩ hd) fun _ _ _ => .int z
end
end DL
namespace DL
open PySem PySem.Spec PyProof.Rows L2
variable {G : Bool}
def Dfn (K : Fg) (mg : Str → Option Value) (x : Str) (st : Stmt) : Prop := ∃ f fd, mg x = some (.ref f) ∧ FunD K x x (defArgs st) (defBody st) (defScope st) [] [] f fd
def Cal (G : Bool) (P : Program) (w : World) (K : Fg) (mg : Str → Option Value) (base : Heap) (k : Nat) (x : Str) (st : Stmt) (ps : List Str) (g : Gd) : Prop :=
  ∃ f fd, mg x = some (.ref f) ∧ FunD K x x (defArgs st) (defBody st) (defScope st) [] [] f fd ∧ Binds K fd ps [] ∧ FnD G P w K mg base k f fd ps g
section
variable {X : Cx} {k k' : Nat} {x : Str} {st : Stmt} {ps : List Str} {g : Gd} {p pos : Pos} {e : Expr} {es : List Expr} {fs : Ma}
theorem dc_call (C : Cal G X.prog X.w X.K X.mg X.base k x st ps g) (hr : Room k' X.A) (hk : k ≤ k') (hgd : G = true → X.A.guards = some []) (hg : Gl X x) (ha : Da X (e :: es) fs)
    (hdb : (x == ("__debug__" : Str)) = false := by decide) (he : starEach (e :: es) X.env = (false, eval e X.env) :: starEach es X.env := by rfl) (hpl : (backTo pos (starEach es X.env)).any (·.1) = false := by rfl) : De X (.Call (.Name x p) (e :: es) [] pos) (mCall g fs) := by
  obtain ⟨f, fd, hm, F, hb, G⟩ := C
  exact de_call G (hr.mono hk) hgd hg hm F.kp hb ha hdb he hpl
theorem dc_call0 (C : Cal G X.prog X.w X.K X.mg X.base k x st ps g) (hr : Room k' X.A) (hk : k ≤ k') (hgd : G = true → X.A.guards = some []) (hg : Gl X x) (hdb : (x == ("__debug__" : Str)) = false := by decide) : De X (.Call (.Name x p) [] [] pos) (mCall g aNil) := by
  obtain ⟨f, fd, hm, F, hb, G⟩ := C
  exact de_call0 G (hr.mono hk) hgd hg hm F.kp hb hdb
theorem kw_binds {K : Fg} {fd : FuncData} {f : Addr} {x : Str} {ks : List Str} {pick : List Nat} (F : FunD K x x (defArgs st) (defBody st) (defScope st) [] [] f fd)
    (h : ∀ (kV doc pm : Value) (an : Option Addr) (cdv ct : Value) (ws : List Value), ws.length = ks.length → bindArgs (PySem.W.fnOf x x (defArgs st) (defBody st) (defScope st) .none kV doc pm an cdv ct) ⟨[], ks.zip ws⟩ = pure (ps.zip (pick.filterMap (ws[·]?)))) (s : Shared) (ws : List Value) (hl : ws.length = ks.length) :
    BindsTo s fd ⟨[], ks.zip ws⟩ (ps.zip (pick.filterMap (ws[·]?))) := by
  obtain ⟨oc, od, dV, kV, doc, pm, an, cdv, ct, osl, rfl, lk, hcd, hD, hK⟩ := F.ex
  rcases hD with ⟨_, rfl⟩ | ⟨z, _⟩
  · exact .of_eq (h kV doc pm an cdv ct ws hl)
  · exact absurd rfl z
theorem dc_callK {ks : List Str} {kws : List Keyword} (pick : List Nat) (C : Cal G X.prog X.w X.K X.mg X.base k x st ps g) (hr : Room k' X.A) (hk : k ≤ k') (hgd : G = true → X.A.guards = some []) (hg : Gl X x)
    (hb : ∀ (kV doc pm : Value) (an : Option Addr) (cdv ct : Value) (ws : List Value), ws.length = ks.length → bindArgs (PySem.W.fnOf x x (defArgs st) (defBody st) (defScope st) .none kV doc pm an cdv ct) ⟨[], ks.zip ws⟩ = pure (ps.zip (pick.filterMap (ws[·]?)))) (hkw : Dk X kws fs) (hpick : ∀ i ∈ pick, i < ks.length)
    (hlen : ∀ ρ S ws S', fs ρ S = .ok ws S' → ws.length = ks.length)
    (hall : (backToKw pos (keywordEach kws X.env)).all (·.1.isSome) = true := by rfl) (hks : (backToKw pos (keywordEach kws X.env)).filterMap (·.1) = ks := by rfl) (hdb : (x == ("__debug__" : Str)) = false := by decide)
    (hpl : ((backTo pos (starEach [] X.env)).any (·.1) || (backToKw pos (keywordEach kws X.env)).any (·.1.isNone)) = false := by rfl) : De X (.Call (.Name x p) [] kws pos) (mCallK g (fun ws => pick.filterMap (ws[·]?)) fs) := by
  obtain ⟨f, fd, hm, F, hbd, G⟩ := C
  exact de_callK G (hr.mono hk) hgd hg hm F.kp (fun s ws _ hl => kw_binds F hb s ws hl) hkw hpick hlen hall hks hdb hpl
theorem aNil_len : ∀ (ρ : Ev) (S : Sto) (ws : List Wd) (S' : Sto), aNil ρ S = .ok ws S' → ws.length = 0 := fun _ _ _ _ e => by cases e; rfl
theorem aCons_len {f : Mx} {fs : Ma} {n : Nat} (h : ∀ (ρ : Ev) (S : Sto) (ws : List Wd) (S' : Sto), fs ρ S = .ok ws S' → ws.length = n) : ∀ (ρ : Ev) (S : Sto) (ws : List Wd) (S' : Sto), aCons f fs ρ S = .ok ws S' → ws.length = n + 1 := fun ρ S ws S' e => by
  obtain ⟨w, S1, e1, e⟩ := R.bnd_inv e
  obtain ⟨wr, S2, e2, e⟩ := R.bnd_inv e
  cases e
  rw [List.length_cons, h _ _ _ _ e2]
end
section
variable {P : Program} {w : World} {K : Fg} {mg : Str → Option Value} {base : Heap} {x : Str} {st : Stmt}
theorem cal_of {N ps : List Str} {k n p : Nat} {m : Ms} (D : Dfn K mg x st) (Sc : FnScope N ps (defScope st)) (hn : N.length = n) (hp : ps.length = p)
    (hb : ∀ (kV doc pm : Value) (an : Option Addr) (cdv ct : Value) (us : List Value), us.length = ps.length → bindArgs (PySem.W.fnOf x x (defArgs st) (defBody st) (defScope st) .none kV doc pm an cdv ct) ⟨us, []⟩ = pure (ps.zip us))
    (hbody : ∀ (f : Addr) (cdv : Value) (A : Around) (outer : List Env) (s : Shared) (H : Hp), Room k (A.deeper (envOfC x (defScope st) s.heap.objs.size f cdv)) → (G = true → (A.deeper (envOfC x (defScope st) s.heap.objs.size f cdv)).guards = some []) → Dss (cxOf CX0 P w K mg base N x (defScope st) f cdv A outer s H E0).nox (defBody st) m) :
    Cal G P w K mg base (k + 1) x st ps (runDef n p m) := by
  obtain ⟨f, fd, hm, F⟩ := D
  exact ⟨f, fd, hm, F, F.bindsN hb, fnD_of F Sc hn hp fun cdv A outer s H hr hg => hbody f cdv A outer s H hr hg⟩
theorem Cal.mono {j k : Nat} {ps : List Str} {g : Gd} (C : Cal G P w K mg base j x st ps g) (h : j ≤ k) : Cal G P w K mg base k x st ps g := by
  obtain ⟨f, fd, hm, F, hb, G⟩ := C
  exact ⟨f, fd, hm, F, hb, G.mono h⟩
theorem Cal.imp {k : Nat} {ps : List Str} {g g' : Gd} (C : Cal G P w K mg base k x st ps g) (h : ∀ ws S v S', g' ws S = .ok v S' → g ws S = .ok v S') : Cal G P w K mg base k x st ps g' := by
  obtain ⟨f, fd, hm, F, hb, G⟩ := C
  exact ⟨f, fd, hm, F, hb, G.imp h⟩
end
theorem rp_ints {K : Fg} {mu : List Addr} {T : Addr → Prop} {H : Hp} : ∀ ns : List Int, RpAll K mu T H (ns.map V.int) (ns.map PyData.int)
  | [] => .nil
  | n :: ns => .cons (.int n) (rp_ints ns)
theorem mod_hide {K : Fg} {mg : Str → Option Value} {h : Heap} {H : Hp} (M : Mod K mg h) (away : ∀ b o, h.get? b = some o → K.lookup b = some o ∨ (∃ es ep, o.data = .dict es ep) → H b = none) : Mod K mg (hidT h H) := by
  have ns : ∀ {x : Addr} {m : Str → Option Value}, h.Ns x m → (hidT h H).Ns x m := fun ⟨o, es, ep, e, d, r⟩ => ⟨o, es, ep, hidT_get e (away _ _ e (.inr ⟨es, ep, d⟩)), d, r⟩
  obtain ⟨m1, m2, ⟨mb, m3, m4⟩, mc, m5, m6⟩ := M
  exact ⟨fun b o e => hidT_get (m1 b o e) (away _ _ (m1 b o e) (.inl e)), ns m2, ⟨mb, ns m3, m4⟩, mc, ns m5, m6⟩
section
variable {P : Program} {w : World} {K : Fg} {mg : Str → Option Value} {k : Nat} {fa a : Addr} {fd : FuncData} {x : Str} {g : Gd} {s : Shared} {vs : List Value} {ns : List Int}
abbrev LawEnds (s : Shared) (r : Result) (s' : Shared) : Prop := r = .ok (.ret (.bool true)) ∧ OldK s.heap s'.heap ∧ s'.os = s.os ∧ AllBare s'.gens
end
end DL
namespace DL
open PySem PySem.Spec PyProof.Rows L2
theorem _root_.L2.Room.u65 {k : Nat} {A : Around} (r : Room k A) : A.units + 65 < cLine := by have := r.un; omega
theorem _root_.L2.Room.u66 {k : Nat} {A : Around} (r : Room k A) : A.units + 66 < cLine := by have := r.un; omega
theorem _root_.L2.Room.u1 {k : Nat} {A : Around} (r : Room k A) : A.units + 1 < cLine := by have := r.un; omega
theorem bt_len : bootBuiltins "len" = some (.builtin "len") := by decide +kernel
theorem bt_all : bootBuiltins "all" = some (.builtin "all") := by decide +kernel
theorem bt_min : bootBuiltins "min" = some (.builtin "min") := by decide +kernel
theorem bt_max : bootBuiltins "max" = some (.builtin "max") := by decide +kernel
theorem bt_repr : bootBuiltins "repr" = some (.builtin "repr") := by decide +kernel
theorem bt_int : bootBuiltins "int" = some (.type "int") := by decide +kernel
theorem bt_bool : bootBuiltins "bool" = some (.type "bool") := by decide +kernel
theorem bt_str : bootBuiltins "str" = some (.type "str") := by decide +kernel
theorem bt_list : bootBuiltins "list" = some (.type "list") := by decide +kernel
theorem bt_tuple : bootBuiltins "tuple" = some (.type "tuple") := by decide +kernel
theorem bt_dict : bootBuiltins "dict" = some (.type "dict") := by decide +kernel
section
variable {X : Cx}
theorem vl (i : Nat) {x : Str} {pos : Pos} (hN : X.N[i]? = some x := by rfl) (hv : X.env.scope.names.lookup x = some .local := by rfl) (hd : (x == ("__debug__" : Str)) = false := by rfl) (hcd : (x == ("__classdict__" : Str)) = false := by rfl) : De X (.Name x pos) (mV i) := de_var hN (.inl hv) hd hcd
theorem vc (i : Nat) {x : Str} {pos : Pos} (hN : X.N[i]? = some x := by rfl) (hv : X.env.scope.names.lookup x = some .cell := by rfl) (hd : (x == ("__debug__" : Str)) = false := by rfl) (hcd : (x == ("__classdict__" : Str)) = false := by rfl) : De X (.Name x pos) (mV i) := de_var hN (.inr (.inl hv)) hd hcd
theorem vf (i : Nat) {x : Str} {pos : Pos} (hN : X.N[i]? = some x := by rfl) (hv : X.env.scope.names.lookup x = some .free := by rfl) (hd : (x == ("__debug__" : Str)) = false := by rfl) (hcd : (x == ("__classdict__" : Str)) = false := by rfl) : De X (.Name x pos) (mV i) := de_var hN (.inr (.inr hv)) hd hcd
end
theorem cal_bad {G : Bool} {P : Program} {w : World} {K : Fg} {mg : Str → Option Value} {base : Heap} {x : Str} {st : Stmt} {ps : List Str} {k : Nat} (D : Dfn K mg x st)
    (hb : ∀ (kV doc pm : Value) (an : Option Addr) (cdv ct : Value) (us : List Value), us.length = ps.length → bindArgs (PySem.W.fnOf x x (defArgs st) (defBody st) (defScope st) .none kV doc pm an cdv ct) ⟨us, []⟩ = pure (ps.zip us)) : Cal G P w K mg base k x st ps (fun _ _ => .bad) := by
  obtain ⟨f, fd, hm, F⟩ := D
  refine ⟨f, fd, hm, F, F.bindsN hb, ⟨fun ws S v S' e => ?_, fun A outer s H args us vs Q hr hg e0 hb' r h => ?_⟩⟩
  · cases e
  · obtain ⟨_, _, _, _, _, _, _, _, _, e, _⟩ := h
    cases e
end DL
namespace DL
open PySem PySem.Spec PyProof.Rows L2
section
variable {prog : Program} {w : World} {A : Around} {E : Value → Shared → Prop} {s : Shared} {zo Ti To T i1 i2 : Addr} {fp1 fp2 : List Addr} {n1 n2 k : Nat} {P1 P2 : Nat → Value → Prop} {St1 St2 : Nat → Heap → Prop} {b : Bool} {oT : Obj}
structure ZS (zo Ti To i1 i2 : Addr) (St1 St2 : Nat → Heap → Prop) (k : Nat) (h : Heap) : Prop where
  z : (IsZip h zo Ti To .none ∧ ∃ a c, IsTupOf2 h To a c) ∨ ∃ T b, IsZipHeld h zo Ti To T b ∧ (∃ o, h.get? T = some o) ∧ T ∉ [zo, To, i1, i2]
  ti : IsTupOf2 h Ti (.ref i1) (.ref i2)
  s1 : St1 k h
  s2 : St2 k h
theorem ZS.type {h : Heap} (x : ZS zo Ti To i1 i2 St1 St2 k h) : ∃ o, h.get? zo = some o ∧ o.cls = .type "zip" := by
  rcases x.z with ⟨q, _⟩ | ⟨T, b, q, _⟩
  · exact ⟨_, q, rfl⟩
  · exact ⟨_, q, rfl⟩
end
end DL
namespace DL
open PySem PySem.Spec
open AutoSeq1 (wpAny_loadPart')
def PairsIn (h0 h : Heap) (bad : List Addr) (xs ys acc : Array Value) : Prop := ∀ (j : Nat) (v : Value), acc[j]? = some v → ∃ (t : Addr) (x y : Value), v = .ref t ∧ xs[j]? = some x ∧ ys[j]? = some y ∧ IsPair h t x y ∧ t ∉ bad ∧ h0.objs.size ≤ t ∧ ∀ i, i < j → acc[i]? ≠ some v
abbrev ZT (zo Ti To i1 i2 l1 l2 : Addr) (xs ys : Array Value) := ZS zo Ti To i1 i2 (fun i h => h.IsTupleIter i1 l1 i ∧ h.IsTuple l1 xs) (fun i h => h.IsListIter i2 l2 i ∧ h.IsList l2 ys)
section
variable {prog : Program} {w : World} {A : Around} {E : Value → Shared → Prop} {s : Shared} {zo Ti To i1 i2 l1 l2 L : Addr} {xs ys : Array Value}
theorem ZT.fr {k : Nat} {h h' : Heap} (x : ZT zo Ti To i1 i2 l1 l2 xs ys k h) (al : ∀ c o, h.get? c = some o → ∃ o', h'.get? c = some o') (f : ∀ c ∈ [zo, Ti, To, i1, i2, l1, l2], ∀ o, h.get? c = some o → h'.get? c = some o) : ZT zo Ti To i1 i2 l1 l2 xs ys k h' where
  z := x.z.imp (fun ⟨a, b, c, d⟩ => ⟨f zo (by simp) _ a, b, c, f To (by simp) _ d⟩) fun ⟨T, b, a, ⟨o, c⟩, d⟩ => ⟨T, b, f zo (by simp) _ a, al T o c, d⟩
  ti := f Ti (by simp) _ x.ti
  s1 := ⟨x.s1.1.at (f i1 (by simp)), x.s1.2.at (f l1 (by simp))⟩
  s2 := ⟨x.s2.1.at (f i2 (by simp)), x.s2.2.at (f l2 (by simp))⟩
theorem PairsIn.mono {h0 h h' : Heap} {bad : List Addr} {acc : Array Value} (p : PairsIn h0 h bad xs ys acc) (f : ∀ c o, c ∉ bad → h.get? c = some o → h'.get? c = some o) : PairsIn h0 h' bad xs ys acc := fun j v hj =>
  let ⟨t, x, y, a1, a2, a3, a4, a5, a6⟩ := p j v hj
  ⟨t, x, y, a1, a2, a3, f t _ a5 a4, a5, a6⟩
theorem PairsIn.snoc {h0 h h' : Heap} {bad : List Addr} {acc : Array Value} {t : Addr} {x y : Value} (p : PairsIn h0 h bad xs ys acc) (f : ∀ c o, c ∉ bad → h.get? c = some o → h'.get? c = some o) (new : h.get? t = none) (hx : xs[acc.size]? = some x) (hy : ys[acc.size]? = some y)
    (ht : IsPair h' t x y) (hb : t ∉ bad) (h0t : h0.objs.size ≤ t) : PairsIn h0 h' bad xs ys (acc.push (.ref t)) := fun j v hj => by
  have old : ∀ {i : Nat} {u : Value}, i < acc.size → (acc.push (.ref t))[i]? = some u → acc[i]? = some u := fun {i u} hi e => by rwa [Array.getElem?_push, if_neg (Nat.ne_of_lt hi)] at e
  have le : j < acc.size + 1 := by simpa using (Array.getElem?_eq_some_iff.1 hj).1
  by_cases c : j < acc.size
  · obtain ⟨t', x', y', a1, a2, a3, a4, a5, a6, a7⟩ := p j v (old c hj)
    exact ⟨t', x', y', a1, a2, a3, f t' _ a5 a4, a5, a6, fun i hi e => a7 i hi (old (Nat.lt_trans hi c) e)⟩
  · obtain rfl : j = acc.size := by omega
    obtain rfl : Value.ref t = v := by simpa using hj
    refine ⟨t, x, y, rfl, hx, hy, ht, hb, h0t, fun i hi e => ?_⟩
    obtain ⟨t', _, _, a1, _, _, a4, _⟩ := p i _ (old hi e)
    cases a1
    exact absurd (new.symm.trans a4) nofun
end
end DL
namespace DL
open PySem PySem.Spec PyProof.Rows L2
section
variable {X : Cx} {pins : List (Addr × Obj)} {σ : Sg} {s1 : Shared}
end
section
variable {X : Cx} {a b : Expr} {fa fb : Mx} {p p2 pos pos2 : Pos}
end
end DL
namespace DL
open PySem PySem.Spec PyProof.Rows L2
variable {G : Bool}
theorem Cal.fnD {P : Program} {w : World} {K : Fg} {mg : Str → Option Value} {base : Heap} {k : Nat} {x : Str} {st : Stmt} {ps : List Str} {g : Gd} {f : Addr} {fd : FuncData} (C : Cal G P w K mg base k x st ps g) (hm : mg x = some (.ref f))
    (F : FunD K x x (defArgs st) (defBody st) (defScope st) [] [] f fd) : FnD G P w K mg base k f fd ps g := by
  obtain ⟨f', fd', hm', F', _, G⟩ := C
  rw [hm] at hm'
  cases hm'
  obtain ⟨_, _, _, _, _, _, _, _, _, _, _, l1, _⟩ := F.ex
  obtain ⟨_, _, _, _, _, _, _, _, _, _, _, l2, _⟩ := F'.ex
  rw [l1] at l2
  cases l2
  exact G
end DL
namespace DL
open PySem PySem.Spec PyProof.Rows L2
abbrev cdX (K : Fg) (x : Str) : Addr := He.codeOf K (x, none)
abbrev tbX (K : Fg) (x : Str) : Addr := He.tabOf K (cdX K x)
def StatO (h : Heap) : Prop := ∃ o, h.get? cStatics = some o ∧ PySem.W.nsIn [(cStatics, o)] cStatics "thirdparty.any" = some none
def xisB (K : Fg) (D : Addr) : Bool := (PySem.W.clsIn K D).isSome && (decide (PySem.W.findIn K (.ref D) "__getattribute__" = some (some (.builtin "BaseException.__getattribute__"))) && (decide (PySem.W.findIn K (.ref D) "__getattr__" = some none) &&
  (decide (PySem.W.subIn K (.ref D) (.type "BaseException") = some true) && (PySem.W.hasDictIn K D && (decide (PySem.W.findIn K (.ref D) "__class__" = some (some (.builtin "object.__class__"))) &&
  (decide (PySem.W.specialIn K (.builtin "object.__class__") "__get__" = some (some (.builtin "getset_descriptor.__get__"))) && (decide (PySem.W.takesIn K (.builtin "object.__class__") = some true) && decide (PySem.W.mroIn K D (.type "object") = some true))))))))
def clsB (K : Fg) (W c a b : Str) : Bool := xisB K (He.ga K c) && (decide (PySem.W.exmOne K (.ref (He.ga K c)) (.ref (He.ga K W)) = some true) && ((K.all fun q => q.2.cls != .ref (He.ga K c)) &&
  (decide (PySem.W.findIn K (.ref (He.ga K c)) a = some none) && decide (PySem.W.findIn K (.ref (He.ga K c)) b = some none))))
def isiB (K : Fg) (c T : Str) (b : Bool) : Bool := decide (PySem.W.kitOne K (.ref (He.ga K c)) (.ref (He.ga K T)) = some b)
def oexB (K : Fg) (C : Addr) : Bool := (match K.lookup C with
  | some ⟨.type "type", _, .cls cd, sl⟩ => (match cd.mro, sl.toList with
    | .ref C' :: bm, [_, _, _, _, some (.builtin n), _] => C' == C && (n == "ValueError.__new__" && (!cd.hasDel && (cd.hasDict && HandSPX.refsVE bm)))
    | _, _ => false)
  | _ => false) && (decide (PySem.W.findIn K (.ref C) "__setattr__" = some (some (.builtin "object.__setattr__"))) && (decide (PySem.W.subIn K (.ref C) (.type "BaseException") = some true) && (decide (PySem.W.typeIn K (.ref C) = some (.type "type")) && PySem.W.keepIn K (.ref C))))
def parB (p : Arguments) (a b : Str) : Bool := match p with
  | ⟨[], [x, y, z], none, [], [], none, []⟩ => x.arg == "self" && (y.arg == a && z.arg == b)
  | _ => false
def bodB (l : List Stmt) (a b : Str) : Bool := match l with
  | [.Expr (.Call (.Attribute (.Call (.Name s0 _) [] [] _) i0 p3) [.Name a0 _, .Name b0 _] [] p6) _, .Assign [.Attribute (.Name s1 _) a1 _] (.Name a2 _) _, .Assign [.Attribute (.Name s2 _) b1 _] (.Name b2 _) _] =>
    s0 == "super" && (i0 == "__init__" && (a0 == a && (b0 == b && (s1 == "self" && (a1 == a && (a2 == a && (s2 == "self" && (b1 == b && (b2 == b && p3.endLine == p6.line)))))))))
  | _ => false
def scoB (sc : Scope) (a b : Str) : Bool := !sc.isCoroutine && (!sc.isGenerator && (decide (sc.kind = .function) && ((sc.names.all fun x => decide (x.2 ≠ .cell)) && (decide (sc.names.lookup ("super" : Str) = some .globalImplicit) && (decide (sc.names.lookup ("__class__" : Str) = some .free) &&
  (decide (sc.names.lookup ("self" : Str) = some .local) && (decide (sc.names.lookup a = some .local) && decide (sc.names.lookup b = some .local))))))))
def isNone : Value → Bool
  | .none => true
  | _ => false
def fileOf (vs : Array Value) : Option Str := match (vs[2]? : Option Value) with
  | some (.str f _) => some f
  | _ => none
def cloOf : List (Str × Addr) → Option Addr
  | [(n, cc)] => if n = "__class__" then some cc else none
  | _ => none
def cellOf (K : Fg) (cc : Addr) : Option Addr := match K.lookup cc with
  | some ⟨_, _, .cell (some (.ref D)), _⟩ => some D
  | _ => none
def vsOf (K : Fg) (c : Addr) : Option (Array Value) := match K.lookup c with
  | some ⟨_, _, .fields vs, _⟩ => some vs
  | _ => none
def fdB (P : Program) (K : Fg) (C : Addr) (fd : FuncData) (a b : Str) : Bool := decide (fd.globals = mainGlobals) && (decide (fd.builtins = builtinsNs) && (isNone fd.defaults && (isNone fd.kwdefaults && (parB fd.params a b && (scoB fd.scope a b &&
  ((match fd.body with
    | .stmts l => bodB l a b
    | _ => false) && ((match cloOf fd.closure with
    | some cc => decide (cellOf K cc = some C)
    | none => false) && (match fd.code with
    | .ref cda => PySem.W.codeIn K (.ref cda) fd.qualname && (match (vsOf K cda).bind fileOf with
      | some file => (P.main.file : Str) == file
      | none => false)
    | _ => false))))))))
def idefB (P : Program) (K : Fg) (C : Addr) (a b : Str) : Bool := oexB K C && (decide (PySem.W.ks_superIn K C C "__init__" = some (some (.builtin "ValueError.__init__"))) && (decide (PySem.W.subIn K (.ref C) (.type "ValueError") = some true) && (decide (PySem.W.findIn K (.ref C) a = some none) &&
  (decide (PySem.W.findIn K (.ref C) b = some none) && (!(P.main.scope.names.lookup ("super" : Str)).isSome && (decide (PySem.W.findIn K (.ref C) "__init__" = some (some (.ref (He.ma K C "__init__")))) && (decide (PySem.W.typeIn K (.ref (He.ma K C "__init__")) = some (.type "function")) &&
  (match K.lookup (He.ma K C "__init__") with
    | some ⟨_, _, .func fd, _⟩ => fdB P K C fd a b
    | _ => false))))))))
def stB (g : Addr → Option Obj) : Bool := match g cStatics with
  | some o => decide (PySem.W.nsIn [(cStatics, o)] cStatics "thirdparty.any" = some none)
  | none => false
theorem stB_ok {h : Heap} (e : stB h.get? = true) : StatO h := by
  unfold stB at e
  cases z : h.get? cStatics with
  | none => rw [z] at e; cases e
  | some o =>
    rw [z] at e
    exact ⟨o, z, of_decide_eq_true e⟩
open He in
def obsE (n : Nat) (fa : List Fa) (fn : List DefD) (tf : List Defn) (ex : PySem.W.Frag → Bool) (g : Addr → Option Obj) : AlX × Bool := (obsX n fa fn [] tf ex g, stB g)
open He in
def hookE (n : Nat) (fa : List Fa) (fn : List DefD) (tf : List Defn) (ex : PySem.W.Frag → Bool) : PySem.W.Hook where
  α := AlX × Bool
  obs := fun s => obsE n fa fn tf ex s.heap.get?
  val := fun w => (valX fn [] w, true)
  says := fun w h => (∃ K : PySem.W.Frag, K.In h ∧ SaysX fa fn [] tf ex w h K) ∧ StatO h
  of := fun w s e => ⟨⟨_, frT_in, saysX_of (congrArg (fun z : AlX × Bool => z.1) e)⟩, stB_ok (congrArg (fun z : AlX × Bool => z.2) e)⟩
  keeps := fun _ _ _ ⟨⟨K, hK, c⟩, o, e, n⟩ k => ⟨⟨K, PySem.W.Frag.In.keeps hK k, ⟨c.t, c.more, c.hd, c.out, fun p hp => k _ _ (c.empty p hp)⟩⟩, o, k _ _ e, n⟩
open He in
theorem obsE_eq {n : Nat} {fa : List Fa} {fn : List DefD} {tf : List Defn} {ex : PySem.W.Frag → Bool} {g : Addr → Option Obj} {s : Shared} (h : ∀ a, g a = s.heap.get? a) : obsE n fa fn tf ex g = (hookE n fa fn tf ex).obs s := by
  have e : g = s.heap.get? := funext h
  rw [e] <;> rfl
end DL
set_option maxHeartbeats 0
namespace K04
open PySem PySem.Spec PyProof.Rows L2 DL
def top (i : Nat) : Stmt := PySem.Challenge.pw_whichfirst_k04_site_parts_told.main.body.getD i (.Pass ⟨0, 0, 0, 0⟩)
def d__law_feed : He.DefD := ⟨("_law_feed", none), "_law_feed", "_law_feed", defArgs (top 38), defBody (top 38), defScope (top 38), [], []⟩
def d__law_first_site : He.DefD := ⟨("_law_first_site", none), "_law_first_site", "_law_first_site", defArgs (top 44), defBody (top 44), defScope (top 44), [], []⟩
def d__law_draw : He.DefD := ⟨("_law_draw", none), "_law_draw", "_law_draw", defArgs (top 39), defBody (top 39), defScope (top 39), [], []⟩
def d__law_stays : He.DefD := ⟨("_law_stays", none), "_law_stays", "_law_stays", defArgs (top 42), defBody (top 42), defScope (top 42), [], []⟩
def d__law_limit : He.DefD := ⟨("_law_limit", none), "_law_limit", "_law_limit", defArgs (top 40), defBody (top 40), defScope (top 40), [], []⟩
def d__law_slack : He.DefD := ⟨("_law_slack", none), "_law_slack", "_law_slack", defArgs (top 41), defBody (top 41), defScope (top 41), [], []⟩
def d__law_site : He.DefD := ⟨("_law_site", none), "_law_site", "_law_site", defArgs (top 43), defBody (top 43), defScope (top 43), [], []⟩
def d_require_usable : He.DefD := ⟨("require_usable", none), "require_usable", "require_usable", defArgs (top 18), defBody (top 18), defScope (top 18), [], []⟩
def d_is_name : He.DefD := ⟨("is_name", none), "is_name", "is_name", defArgs (top 5), defBody (top 5), defScope (top 5), [], []⟩
def d_index_among : He.DefD := ⟨("index_among", none), "index_among", "index_among", defArgs (top 23), defBody (top 23), defScope (top 23), [], []⟩
def d_part_names : He.DefD := ⟨("part_names", none), "part_names", "part_names", defArgs (top 21), defBody (top 21), defScope (top 21), [], []⟩
def d_stays_of : He.DefD := ⟨("stays_of", none), "stays_of", "stays_of", defArgs (top 25), defBody (top 25), defScope (top 25), [], []⟩
def d_is_integer : He.DefD := ⟨("is_integer", none), "is_integer", "is_integer", defArgs (top 3), defBody (top 3), defScope (top 3), [], []⟩
def d_is_number : He.DefD := ⟨("is_number", none), "is_number", "is_number", defArgs (top 4), defBody (top 4), defScope (top 4), [], []⟩
def d_require_day : He.DefD := ⟨("require_day", none), "require_day", "require_day", defArgs (top 28), defBody (top 28), defScope (top 28), [], []⟩
def d_place_on : He.DefD := ⟨("place_on", none), "place_on", "place_on", defArgs (top 30), defBody (top 30), defScope (top 30), [], []⟩
def d_place_of : He.DefD := ⟨("place_of", none), "place_of", "place_of", defArgs (top 32), defBody (top 32), defScope (top 32), [], []⟩
def d_machine_names : He.DefD := ⟨("machine_names", none), "machine_names", "machine_names", defArgs (top 20), defBody (top 20), defScope (top 20), [], []⟩
def d_uses_of : He.DefD := ⟨("uses_of", none), "uses_of", "uses_of", defArgs (top 24), defBody (top 24), defScope (top 24), [], []⟩
def d_use_on : He.DefD := ⟨("use_on", none), "use_on", "use_on", defArgs (top 31), defBody (top 31), defScope (top 31), [], []⟩
def d_use_of : He.DefD := ⟨("use_of", none), "use_of", "use_of", defArgs (top 33), defBody (top 33), defScope (top 33), [], []⟩
def d__law_second_site : He.DefD := ⟨("_law_second_site", none), "_law_second_site", "_law_second_site", defArgs (top 45), defBody (top 45), defScope (top 45), [], []⟩
def d_require_place : He.DefD := ⟨("require_place", none), "require_place", "require_place", defArgs (top 29), defBody (top 29), defScope (top 29), [], []⟩
def d_parts_at : He.DefD := ⟨("parts_at", none), "parts_at", "parts_at", defArgs (top 34), defBody (top 34), defScope (top 34), [], []⟩
def d_tasks_of : He.DefD := ⟨("tasks_of", none), "tasks_of", "tasks_of", defArgs (top 35), defBody (top 35), defScope (top 35), [], []⟩
def d__law_hand_right : He.DefD := ⟨("_law_hand_right", none), "_law_hand_right", "_law_hand_right", defArgs (top 53), defBody (top 53), defScope (top 53), [], []⟩
def d__law_days_of : He.DefD := ⟨("_law_days_of", none), "_law_days_of", "_law_days_of", defArgs (top 49), defBody (top 49), defScope (top 49), [], []⟩
def d__law_place : He.DefD := ⟨("_law_place", none), "_law_place", "_law_place", defArgs (top 47), defBody (top 47), defScope (top 47), [], []⟩
def d__law_use : He.DefD := ⟨("_law_use", none), "_law_use", "_law_use", defArgs (top 48), defBody (top 48), defScope (top 48), [], []⟩
def d__law_days_right : He.DefD := ⟨("_law_days_right", none), "_law_days_right", "_law_days_right", defArgs (top 50), defBody (top 50), defScope (top 50), [], []⟩
def d__law_wide_right : He.DefD := ⟨("_law_wide_right", none), "_law_wide_right", "_law_wide_right", defArgs (top 54), defBody (top 54), defScope (top 54), [], []⟩
def d_task_names : He.DefD := ⟨("task_names", none), "task_names", "task_names", defArgs (top 22), defBody (top 22), defScope (top 22), [], []⟩
def d_number_of : He.DefD := ⟨("number_of", none), "number_of", "number_of", defArgs (top 26), defBody (top 26), defScope (top 26), [], []⟩
def d_task_of : He.DefD := ⟨("task_of", none), "task_of", "task_of", defArgs (top 27), defBody (top 27), defScope (top 27), [], []⟩
def d_part_of : He.DefD := ⟨("part_of", none), "part_of", "part_of", defArgs (top 36), defBody (top 36), defScope (top 36), [], []⟩
def d__law_names_right : He.DefD := ⟨("_law_names_right", none), "_law_names_right", "_law_names_right", defArgs (top 51), defBody (top 51), defScope (top 51), [], []⟩
def d__law_heard : He.DefD := ⟨("_law_heard", none), "_law_heard", "_law_heard", defArgs (top 46), defBody (top 46), defScope (top 46), [], []⟩
def d__law_strays_right : He.DefD := ⟨("_law_strays_right", none), "_law_strays_right", "_law_strays_right", defArgs (top 52), defBody (top 52), defScope (top 52), [], []⟩
def d_law : He.DefD := ⟨("law", none), "law", "law", defArgs (top 55), defBody (top 55), defScope (top 55), [], []⟩
def hfn : List He.DefD := [d__law_feed, d__law_first_site, d__law_draw, d__law_stays, d__law_limit, d__law_slack, d__law_site, d_require_usable, d_is_name, d_index_among, d_part_names, d_stays_of, d_is_integer, d_is_number, d_require_day, d_place_on, d_place_of, d_machine_names, d_uses_of, d_use_on, d_use_of, d__law_second_site, d_require_place, d_parts_at, d_tasks_of, d__law_hand_right, d__law_days_of, d__law_place, d__law_use, d__law_days_right, d__law_wide_right, d_task_names, d_number_of, d_task_of, d_part_of, d__law_names_right, d__law_heard, d__law_strays_right, d_law]
def hfa : List He.Fa := [.glo "_law_feed", .glo "_law_first_site", .glo "_law_draw", .glo "_law_stays", .glo "_law_limit", .glo "_law_slack", .glo "_law_site", .glo "require_usable", .glo "is_name", .glo "index_among", .glo "part_names", .glo "stays_of", .glo "is_integer", .glo "is_number", .glo "require_day", .glo "place_on", .glo "place_of", .glo "machine_names", .glo "uses_of", .glo "use_on", .glo "use_of", .glo "_law_second_site", .glo "require_place", .glo "parts_at", .glo "tasks_of", .glo "_law_hand_right", .glo "_law_days_of", .glo "_law_place", .glo "_law_use", .glo "_law_days_right", .glo "_law_wide_right", .glo "task_names", .glo "number_of", .glo "task_of", .glo "part_of", .glo "_law_names_right", .glo "_law_heard", .glo "_law_strays_right", .glo "law", .free "all", .free "bool", .free "dict", .free "int", .free "isinstance", .free "len", .free "list", .free "max", .free "min", .free "range", .free "repr", .free "set", .free "sorted", .free "str", .free "super", .free "tuple", .str "LETTERS" "abcdefghijklmnopqrstuvwxyz", .int "LONGEST_NAME" 8, .glo "BookError", .glo "InvalidPaper", .glo "InvalidRow", .glo "InvalidText", .glo "NeverKept", .glo "NotUsable", .glo "PaperError", .glo "SiteError", .glo "TextError", .glo "WhichError"]
def hex_ (K : Fg) : Bool := (clsB K "WhichError" "NotUsable" "word" "at" && (idefB (PySem.Challenge.rw_whichfirst_k04_site_parts_told).prog K (He.ga K "NotUsable") "word" "at" && (isiB K "NotUsable" "BookError" false && (isiB K "NotUsable" "InvalidPaper" false && (isiB K "NotUsable" "InvalidRow" false && (isiB K "NotUsable" "InvalidText" false && (isiB K "NotUsable" "NeverKept" false && (isiB K "NotUsable" "NotUsable" true && (isiB K "NotUsable" "PaperError" false && (isiB K "NotUsable" "SiteError" true && (isiB K "NotUsable" "TextError" false && (decide ((["_law_strays_right"] : List Str).map (tbX K)).Nodup && true))))))))))))
def htf : List He.Defn := [("_law_strays_right", none)]
abbrev hR : PySem.W.OpenRow := PySem.W.OpenLaw.row PySem.Challenge.rw_whichfirst_k04_site_parts_told
def hn0 : List PySem.Str := ["LETTERS", "LONGEST_NAME", "is_integer", "is_number", "is_name", "WhichError", "PaperError", "SiteError", "BookError", "TextError", "InvalidPaper", "NotUsable", "NeverKept", "InvalidText", "InvalidRow", "require_usable", "machine_names", "part_names", "task_names", "index_among", "uses_of", "stays_of", "number_of", "task_of", "require_day", "require_place", "place_on", "use_on", "place_of", "use_of"]
def hn1 : List PySem.Str := ["parts_at", "tasks_of", "part_of", "_law_feed", "_law_draw", "_law_limit", "_law_slack", "_law_stays", "_law_site", "_law_first_site", "_law_second_site", "_law_heard", "_law_place", "_law_use", "_law_days_of", "_law_days_right", "_law_names_right", "_law_strays_right", "_law_hand_right", "_law_wide_right"]
def hnames : List PySem.Str := hn0 ++ hn1
abbrev hhk : PySem.W.Hook := DL.hookE 4 hfa hfn htf hex_
def hob (s : PySem.W.SharedT) : He.AlX × Bool := DL.obsE 4 hfa hfn htf hex_ (HandSHeadRun.getT s)
theorem hob_eq (s : PySem.W.SharedT) : hob s = hhk.obs s.abs := DL.obsE_eq (HandSHeadRun.getT_eq s)
theorem hrun (w : World) : HandSHeadRun.RunEq hR (PySem.W.view hR.prog [55]) hhk hob 20000 hnames w := by
  intro os
  kernel_rfl
end K04
namespace DL
open PySem PySem.Spec PyProof.Rows L2
def wpE {α : Type} (x : R α) (Q : α → Sto → Prop) : Prop := match x with
  | .ok a S => Q a S
  | .bad => False
def wpS (o : Out) (N : Ev → Sto → Prop) (Rt : Wd → Sto → Prop) : Prop := match o with
  | .nx ρ S => N ρ S
  | .rt w S => Rt w S
  | _ => False
theorem wpE_mono {α : Type} {x : R α} {Q Q' : α → Sto → Prop} (h : wpE x Q) (q : ∀ a S, Q a S → Q' a S) : wpE x Q' := by
  cases x with
  | ok a S => exact q a S h
  | bad => exact h
theorem wpS_mono {x : Out} {N N' : Ev → Sto → Prop} {Q Q' : Wd → Sto → Prop} (h : wpS x N Q) (n : ∀ a S, N a S → N' a S) (q : ∀ a S, Q a S → Q' a S) : wpS x N' Q' := by
  cases x with
  | nx ρ S => exact n ρ S h
  | rt w S => exact q w S h
  | bk => exact h
  | ct => exact h
  | bad => exact h
@[simp] theorem wpE_ok {α : Type} {a : α} {S : Sto} {Q : α → Sto → Prop} : wpE (.ok a S) Q = Q a S := rfl
@[simp] theorem wpE_bad {α : Type} {Q : α → Sto → Prop} : wpE (.bad : R α) Q = False := rfl
@[simp] theorem wpE_bnd {α β : Type} {x : R α} {k : α → Sto → R β} {Q : β → Sto → Prop} : wpE (x.bnd k) Q = wpE x fun a S => wpE (k a S) Q := by cases x <;> rfl
@[simp] theorem wpE_ite {α : Type} {c : Prop} [Decidable c] {x y : R α} {Q : α → Sto → Prop} : wpE (if c then x else y) Q = if c then wpE x Q else wpE y Q := by split <;> rfl
theorem wpE_ex {α : Type} {x : R α} {Q : α → Sto → Prop} : wpE x Q ↔ ∃ a S, x = .ok a S ∧ Q a S := by
  cases x with
  | ok a S => exact ⟨fun h => ⟨a, S, rfl, h⟩, fun ⟨_, _, e, q⟩ => by cases e; exact q⟩
  | bad => exact ⟨fun h => h.elim, fun ⟨_, _, e, _⟩ => by cases e⟩
@[simp] theorem wpS_nx {ρ : Ev} {S : Sto} {N : Ev → Sto → Prop} {Q : Wd → Sto → Prop} : wpS (.nx ρ S) N Q = N ρ S := rfl
@[simp] theorem wpS_rt {ρ : Wd} {S : Sto} {N : Ev → Sto → Prop} {Q : Wd → Sto → Prop} : wpS (.rt ρ S) N Q = Q ρ S := rfl
@[simp] theorem wpS_bad {N : Ev → Sto → Prop} {Q : Wd → Sto → Prop} : wpS .bad N Q = False := rfl
@[simp] theorem wpS_ite {c : Prop} [Decidable c] {x y : Out} {N : Ev → Sto → Prop} {Q : Wd → Sto → Prop} : wpS (if c then x else y) N Q = if c then wpS x N Q else wpS y N Q := by split <;> rfl
section
variable {N : Ev → Sto → Prop} {Rt : Wd → Sto → Prop} {ρ : Ev} {S : Sto}
theorem wp_seq {m m' : Ms} : wpS (sSeq m m' ρ S) N Rt = wpS (m ρ S) (fun ρ' S' => wpS (m' ρ' S') N Rt) Rt := by
  unfold sSeq
  cases m ρ S <;> rfl
theorem wp_ret {f : Mx} : wpS (sRet f ρ S) N Rt = wpE (f ρ S) Rt := by
  unfold sRet
  cases f ρ S <;> rfl
theorem wp_expr {f : Mx} : wpS (sExpr f ρ S) N Rt = wpE (f ρ S) fun _ S1 => N ρ S1 := by
  unfold sExpr
  cases f ρ S <;> rfl
theorem wp_set {i : Nat} {f : Mx} : wpS (sSet i f ρ S) N Rt = wpE (f ρ S) fun w S1 => N (ρ.set i (some (.val w))) S1 := by
  unfold sSet
  cases f ρ S <;> rfl
theorem wp_ifS {t : Mt} {m m' : Ms} : wpS (sIf t m m' ρ S) N Rt = wpE (t ρ S) fun b S1 => if b = true then wpS (m ρ S1) N Rt else wpS (m' ρ S1) N Rt := by
  unfold sIf
  cases t ρ S with
  | ok b S1 => simp only [sTest_ok, wpE_ok, wpS_ite]
  | bad => rfl
theorem wp_asg {g : Mg} {f : Mx} : wpS (sAsg g f ρ S) N Rt = wpE (f ρ S) fun w S1 => ∃ ρ', g w ρ = some ρ' ∧ N ρ' S1 := by
  unfold sAsg
  cases f ρ S with
  | bad => rfl
  | ok w S1 =>
    simp only [sOf_ok, wpE_ok]
    cases h : g w ρ with
    | none => simp [wpS]
    | some ρ' => simp [wpS]
theorem wp_own {i : Nat} {fs : Ma} : wpS (sOwn i fs ρ S) N Rt = wpE (fs ρ S) fun ws S1 => ws.length ≤ sizeLine ∧ N (ρ.set i (some (.own ws))) S1 := by
  unfold sOwn
  cases fs ρ S with
  | bad => rfl
  | ok ws S1 =>
    simp only [wpE_ok, wpS_ite, wpS_nx, wpS_bad]
    by_cases h : ws.length ≤ sizeLine <;> simp [h]
theorem wp_app {i : Nat} {f : Mx} {ws : List Wd} (h : ρ[i]? = some (some (.own ws))) : wpS (sApp i f ρ S) N Rt = wpE (f ρ S) fun w S1 => ws.length < sizeLine ∧ N (ρ.set i (some (.own (ws ++ [w])))) S1 := by
  unfold sApp
  rw [h]
  cases f ρ S with
  | bad => rfl
  | ok w S1 =>
    simp only [sOf_ok, wpE_ok, wpS_ite, wpS_nx, wpS_bad]
    by_cases h : ws.length < sizeLine <;> simp [h]
theorem wp_par {i j : Nat} {fs : Ma} : wpS (sPar i j fs ρ S) N Rt = wpE (fs ρ S) fun ws S1 => ∃ v w, ws = [v, w] ∧ N ((ρ.set i (some (.val v))).set j (some (.val w))) S1 := by
  unfold sPar
  cases fs ρ S with
  | bad => rfl
  | ok ws S1 =>
    simp only [wpE_ok]
    match ws with
    | [] => simp
    | [_] => simp
    | [v, w] => exact propext ⟨fun h => ⟨v, w, rfl, h⟩, fun ⟨_, _, e, h⟩ => by cases e; exact h⟩
    | _ :: _ :: _ :: _ => simp
theorem wp_parO {i j : Nat} {f : Mx} : wpS (sParO i j f ρ S) N Rt = wpE (f ρ S) fun w S1 => N ((ρ.set j (some (.val w))).set i (some (.own []))) S1 := by
  unfold sParO
  cases f ρ S <;> rfl
theorem wp_put {fo : Mx} {x : Str} {f : Mx} : wpS (sPut fo x f ρ S) N Rt = wpE (f ρ S) fun w S1 => wpE (fo ρ S1) fun o S2 => ∃ l S3, o = oW l ∧ recPut S2 l x w = some S3 ∧ N ρ S3 := by
  unfold sPut
  cases f ρ S with
  | bad => rfl
  | ok w S1 =>
    simp only [sOf_ok, wpE_ok]
    cases fo ρ S1 with
    | bad => rfl
    | ok o S2 =>
      simp only [sOf_ok, wpE_ok]
      split
      · rename_i l
        cases h : recPut S2 l x w with
        | none =>
          simp only [wpS_bad, false_iff, eq_iff_iff]
          rintro ⟨l', S3, e, e2, _⟩
          cases e
          rw [h] at e2
          cases e2
        | some S3 =>
          simp only [wpS_nx, eq_iff_iff]
          constructor
          · intro n
            exact ⟨l, S3, rfl, h, n⟩
          · rintro ⟨l', S3', e, e2, n⟩
            cases e
            rw [h] at e2
            cases e2
            exact n
      · rename_i hn
        simp only [wpS_bad, eq_iff_iff, false_iff]
        rintro ⟨l, _, e, _⟩
        exact hn l e
theorem wp_for0 {fi : Mi} {g : Mg} {m : Ms} : wpS (sFor fi g m ρ S) N Rt = wpE (fi ρ S) fun ws S1 => wpS (forLoop g m ws ρ S1) N Rt := by
  unfold sFor
  cases fi ρ S <;> rfl
theorem wp_for {g : Mg} {m : Ms} (I : List Wd → Ev → Sto → Prop) (hs : ∀ w r ρ S, I (w :: r) ρ S → ∃ ρ1, g w ρ = some ρ1 ∧ wpS (m ρ1 S) (fun ρ2 S2 => I r ρ2 S2) Rt) (he : ∀ ρ S, I [] ρ S → N ρ S) : ∀ (ws : List Wd) (ρ : Ev) (S : Sto), I ws ρ S → wpS (forLoop g m ws ρ S) N Rt
  | [], ρ, S, h => he ρ S h
  | w :: r, ρ, S, h => by
    obtain ⟨ρ1, e, q⟩ := hs w r ρ S h
    unfold forLoop
    rw [e]
    simp only
    cases hm : m ρ1 S with
    | nx ρ2 S2 => rw [hm] at q; exact wp_for I hs he r ρ2 S2 q
    | rt w S2 => rw [hm] at q; exact q
    | bk _ _ => rw [hm] at q; exact q.elim
    | ct _ _ => rw [hm] at q; exact q.elim
    | bad => rw [hm] at q; exact q.elim
end
theorem wp_lc {g : Mg} {t : Mt} {fe : Mx} {ρ : Ev} {Q : List Wd → Sto → Prop} (I : List Wd → List Wd → Sto → Prop)
    (hs : ∀ w r acc S, I (w :: r) acc S → ∃ ρ1, g w ρ = some ρ1 ∧ wpE (t ρ1 S) fun b S1 => if b = true then wpE (fe ρ1 S1) fun y S2 => acc.length < sizeLine ∧ I r (acc ++ [y]) S2 else I r acc S1)
    (he : ∀ acc S, I [] acc S → Q acc S) : ∀ (ws acc : List Wd) (S : Sto), I ws acc S → wpE (lcLoop g t fe ρ ws acc S) Q
  | [], acc, S, h => he acc S h
  | w :: r, acc, S, h => by
    obtain ⟨ρ1, e, q⟩ := hs w r acc S h
    unfold lcLoop
    rw [e]
    simp only [wpE_bnd]
    refine wpE_mono q fun b S1 h1 => ?_
    cases b with
    | false =>
      simp only [Bool.false_eq_true, if_false] at h1 ⊢
      exact wp_lc I hs he r acc S1 h1
    | true =>
      simp only [if_true, wpE_bnd] at h1 ⊢
      refine wpE_mono h1 fun y S2 h2 => ?_
      rw [if_pos h2.1]
      exact wp_lc I hs he r _ S2 h2.2
theorem lc_pure {α : Type} {g : Mg} {t : Mt} {fe : Mx} {ρ : Ev} {S : Sto} {enc : α → Wd} {p : α → Bool} {out : α → Wd} : ∀ (xs : List α) (acc : List Wd), acc.length + xs.length ≤ sizeLine →
    (∀ x ∈ xs, ∃ ρ1, g (enc x) ρ = some ρ1 ∧ t ρ1 S = .ok (p x) S ∧ (p x = true → fe ρ1 S = .ok (out x) S)) → lcLoop g t fe ρ (xs.map enc) acc S = .ok (acc ++ (xs.filter p).map out) S
  | [], acc, _, _ => by simp [lcLoop]
  | x :: xs, acc, hl, h => by
    obtain ⟨ρ1, e1, e2, e3⟩ := h x (List.mem_cons_self ..)
    simp only [List.map_cons, List.length_cons] at hl ⊢
    unfold lcLoop
    rw [e1]
    simp only [e2, R.bnd_ok]
    cases hp : p x with
    | false =>
      simp only [Bool.false_eq_true, if_false]
      rw [lc_pure xs acc (by omega) fun y hy => h y (List.mem_cons_of_mem _ hy)]
      simp [hp]
    | true =>
      simp only [if_true, e3 hp, R.bnd_ok]
      rw [if_pos (by omega), lc_pure xs (acc ++ [out x]) (by simp; omega) fun y hy => h y (List.mem_cons_of_mem _ hy)]
      simp [hp]
structure Sz (n k : Nat) (d : Wd) : Prop where
  sh : d.showable = true
  cl : d.canLay0 = true
  dp : d.depth ≤ k
  ls : d.leavesShort 13 = true
  wt : d.weight ≤ n
theorem Sz.mono {n k n' k' : Nat} {d : Wd} (h : Sz n k d) (hn : n ≤ n') (hk : k ≤ k') : Sz n' k' d := ⟨h.sh, h.cl, Nat.le_trans h.dp hk, h.ls, Nat.le_trans h.wt hn⟩
theorem Sz.all {n k : Nat} : ∀ {xs : List Wd}, (∀ x ∈ xs, Sz n k x) → PyData.showableAll xs = true ∧ PyData.canLayAll0 xs = true ∧ PyData.depthAll xs ≤ k ∧ PyData.leavesShortAll 13 xs = true ∧ PyData.weightAll xs ≤ xs.length * (n + 1)
  | [], _ => by simp [PyData.showableAll, PyData.canLayAll0, PyData.depthAll, PyData.leavesShortAll, PyData.weightAll]
  | x :: xs, h => by
    have h1 := h x (List.mem_cons_self ..)
    obtain ⟨a, b, c, d, e⟩ := Sz.all fun y hy => h y (List.mem_cons_of_mem x hy)
    refine ⟨by simp [PyData.showableAll, h1.sh, a], by simp [PyData.canLayAll0, h1.cl, b], ?_, by simp [PyData.leavesShortAll, h1.ls, d], ?_⟩
    · have := h1.dp
      simp only [PyData.depthAll]
      omega
    · have := h1.wt
      simp only [PyData.weightAll, List.length_cons, Nat.succ_mul]
      omega
theorem Sz.tup {n k m n' : Nat} {xs : List Wd} (h : ∀ x ∈ xs, Sz n k x) (hm : xs.length ≤ m) (hn : m * (n + 1) ≤ n') : Sz n' (k + 1) (.tuple xs) := by
  obtain ⟨a, b, c, d, e⟩ := Sz.all h
  have := Nat.mul_le_mul_right (n + 1) hm
  exact ⟨by simp [PyData.showable, a], by simp [PyData.canLay0, b], by simp [PyData.depth, c], by simp [PyData.leavesShort, d], by simp only [PyData.weight]; omega⟩
theorem Sz.lst {n k m n' : Nat} {xs : List Wd} (h : ∀ x ∈ xs, Sz n k x) (hm : xs.length ≤ m) (hn : m * (n + 1) ≤ n') : Sz n' (k + 1) (.list xs) := by
  obtain ⟨a, b, c, d, e⟩ := Sz.all h
  have := Nat.mul_le_mul_right (n + 1) hm
  exact ⟨by simp [PyData.showable, a], by simp [PyData.canLay0, b], by simp [PyData.depth, c], by simp [PyData.leavesShort, d], by simp only [PyData.weight]; omega⟩
theorem Sz.int {i : Int} (h : i.natAbs < 2 ^ 30) : Sz 30 0 (.int i) := by
  have h1 : i.natAbs.log2 < 30 := by
    by_cases h0 : i.natAbs = 0
    · rw [h0]; decide
    · exact (Nat.log2_lt h0).2 h
  refine ⟨?_, rfl, Nat.le_refl _, ?_, ?_⟩
  · simp only [PyData.showable, decide_eq_true_eq]
    omega
  · simp only [PyData.leavesShort, decide_eq_true_eq]
    exact PyData.shown_int_le (by omega)
  · simp only [PyData.weight]
    split <;> omega
theorem Sz.non : Sz 0 0 .none := ⟨rfl, rfl, Nat.le_refl _, rfl, Nat.le_refl _⟩
theorem Sz.str {x : Str} {n : Nat} (h : PyData.strOk x = true) (hl : x.cps.size ≤ n) : Sz n 0 (.str x) := by
  refine ⟨rfl, by simpa [PyData.canLay0] using h, Nat.le_refl _, ?_, hl⟩
  simp only [PyData.leavesShort, List.all_eq_true, decide_eq_true_eq]
  intro c hc
  simp only [PyData.strOk, Array.all_eq_true', decide_eq_true_eq] at h
  have := h c (by simpa using hc)
  omega
theorem Sz.shaped {n k : Nat} {d : Wd} (h : Sz n k d) (hk : k ≤ 64) : SeqAt.shaped d = true := by
  have := h.dp
  simp only [SeqAt.shaped, h.cl, Bool.true_and, decide_eq_true_eq]
  omega
theorem Sz.repr {n k : Nat} {d : Wd} (h : Sz n k d) (hn : n ≤ 2 ^ 20) (hk : k ≤ 64) : gRepr [d] = some (.str d.shown) := by
  simp only [gRepr]
  rw [if_pos ⟨h.sh, h.shaped hk, PyData.shown_fits (by decide) (by decide) h.ls (Nat.le_trans h.wt hn)⟩]
end DL
namespace DL
open PySem PySem.Spec PyProof.Rows L2
def wpO {α : Type} (o : Option α) (k : α → Prop) : Prop := ∃ w, o = some w ∧ k w
theorem wpO_rfl {α : Type} {o : Option α} {w : α} {k : α → Prop} (h : o = some w) (q : k w) : wpO o k := ⟨w, h, q⟩
section
variable {N : Ev → Sto → Prop} {Rt : Wd → Sto → Prop} {ρ : Ev} {S : Sto} {Q : Wd → Sto → Prop} {Qb : Bool → Sto → Prop} {Qs : List Wd → Sto → Prop} {Qo : Option Int → Sto → Prop}
theorem zq15 {m m' : Ms} (h : wpS (m ρ S) (fun ρ' S' => wpS (m' ρ' S') N Rt) Rt) : wpS (sSeq m m' ρ S) N Rt := by rw [wp_seq]; exact h
theorem w_seqJ {m m' : Ms} (J : Ev → Sto → Prop) (h : wpS (m ρ S) J Rt) (h2 : ∀ ρ' S', J ρ' S' → wpS (m' ρ' S') N Rt) : wpS (sSeq m m' ρ S) N Rt := zq15 (wpS_mono h h2 fun _ _ h => h)
theorem w_ret {f : Mx} (h : wpE (f ρ S) Rt) : wpS (sRet f ρ S) N Rt := by rw [wp_ret]; exact h
theorem w_expr {f : Mx} (h : wpE (f ρ S) fun _ S1 => N ρ S1) : wpS (sExpr f ρ S) N Rt := by rw [wp_expr]; exact h
theorem w_set {i : Nat} {f : Mx} (h : wpE (f ρ S) fun w S1 => N (ρ.set i (some (.val w))) S1) : wpS (sSet i f ρ S) N Rt := by rw [wp_set]; exact h
theorem w_ifS {t : Mt} {m m' : Ms} (h : wpE (t ρ S) fun b S1 => if b = true then wpS (m ρ S1) N Rt else wpS (m' ρ S1) N Rt) : wpS (sIf t m m' ρ S) N Rt := by rw [wp_ifS]; exact h
theorem w_asg {g : Mg} {f : Mx} (h : wpE (f ρ S) fun w S1 => wpO (g w ρ) fun ρ' => N ρ' S1) : wpS (sAsg g f ρ S) N Rt := by rw [wp_asg]; exact h
theorem w_own {i : Nat} {fs : Ma} (h : wpE (fs ρ S) fun ws S1 => ws.length ≤ sizeLine ∧ N (ρ.set i (some (.own ws))) S1) : wpS (sOwn i fs ρ S) N Rt := by rw [wp_own]; exact h
theorem w_app {i : Nat} {f : Mx} {ws : List Wd} (h : ρ[i]? = some (some (.own ws))) (q : wpE (f ρ S) fun w S1 => ws.length < sizeLine ∧ N (ρ.set i (some (.own (ws ++ [w])))) S1) : wpS (sApp i f ρ S) N Rt := by rw [wp_app h]; exact q
theorem w_par {i j : Nat} {f g : Mx} (h : wpE (f ρ S) fun v S1 => wpE (g ρ S1) fun w S2 => N ((ρ.set i (some (.val v))).set j (some (.val w))) S2) : wpS (sPar i j (aCons f (aCons g aNil)) ρ S) N Rt := by
  rw [wp_par]
  simp only [aCons, aNil, wpE_bnd, wpE_ok]
  exact wpE_mono h fun v S1 h => wpE_mono h fun w S2 h => ⟨v, w, rfl, h⟩
theorem w_parO {i j : Nat} {f : Mx} (h : wpE (f ρ S) fun w S1 => N ((ρ.set j (some (.val w))).set i (some (.own []))) S1) : wpS (sParO i j f ρ S) N Rt := by rw [wp_parO]; exact h
theorem w_put {l : Nat} {fo : Mx} {x : Str} {f : Mx} (h : wpE (f ρ S) fun w S1 => wpE (fo ρ S1) fun o S2 => o = oW l ∧ wpO (recPut S2 l x w) fun S3 => N ρ S3) : wpS (sPut fo x f ρ S) N Rt := by
  rw [wp_put]
  exact wpE_mono h fun w S1 h => wpE_mono h fun o S2 ⟨e, S3, e2, n⟩ => ⟨l, S3, e, e2, n⟩
theorem w_frz {i : Nat} {m : Ms} (h : wpS (m (frzE i ρ) S) N Rt) : wpS (sFrz i m ρ S) N Rt := h
theorem w_nil (h : N ρ S) : wpS (sNil ρ S) N Rt := h
theorem w_for {fi : Mi} {g : Mg} {m : Ms} (h : wpE (fi ρ S) fun ws S1 => wpS (forLoop g m ws ρ S1) N Rt) : wpS (sFor fi g m ρ S) N Rt := by rw [wp_for0]; exact h
theorem w_C {w : Wd} (h : Q w S) : wpE (mC w ρ S) Q := h
theorem w_V {i : Nat} {w : Wd} (e : ρ[i]? = some (some (.val w))) (h : Q w S) : wpE (mV i ρ S) Q := by
  unfold mV
  rw [e]
  exact h
theorem w_bin {g : Wd → Wd → Option Wd} {fa fb : Mx} (h : wpE (fa ρ S) fun x S1 => wpE (fb ρ S1) fun y S2 => wpO (g x y) fun w => Q w S2) : wpE (mBin g fa fb ρ S) Q := by
  unfold mBin
  simp only [wpE_bnd]
  refine wpE_mono h fun x S1 h => wpE_mono h fun y S2 ⟨w, e, q⟩ => ?_
  rw [e]
  exact q
theorem w_un {g : Wd → Option Wd} {fa : Mx} (h : wpE (fa ρ S) fun x S1 => wpO (g x) fun w => Q w S1) : wpE (mUn g fa ρ S) Q := by
  unfold mUn
  simp only [wpE_bnd]
  refine wpE_mono h fun x S1 ⟨w, e, q⟩ => ?_
  rw [e]
  exact q
theorem w_CB {g : List Wd → Option Wd} {fs : Ma} (h : wpE (fs ρ S) fun x S1 => wpO (g x) fun w => Q w S1) : wpE (mCB g fs ρ S) Q := by
  unfold mCB
  simp only [wpE_bnd]
  refine wpE_mono h fun x S1 ⟨w, e, q⟩ => ?_
  rw [e]
  exact q
theorem w_ix {fa fb : Mx} (h : wpE (fa ρ S) fun x S1 => wpE (fb ρ S1) fun y S2 => wpO (gIx S2 x y) fun w => Q w S2) : wpE (mIx fa fb ρ S) Q := by
  unfold mIx
  simp only [wpE_bnd]
  refine wpE_mono h fun x S1 h => wpE_mono h fun y S2 ⟨w, e, q⟩ => ?_
  rw [e]
  exact q
theorem w_and {fa fb : Mx} (h : wpE (fa ρ S) fun x S1 => wpO (truD x) fun b => if b = true then wpE (fb ρ S1) Q else Q x S1) : wpE (mAnd fa fb ρ S) Q := by
  unfold mAnd
  simp only [wpE_bnd]
  refine wpE_mono h fun x S1 ⟨b, e, q⟩ => ?_
  rw [e]
  cases b <;> exact q
theorem w_or {fa fb : Mx} (h : wpE (fa ρ S) fun x S1 => wpO (truD x) fun b => if b = true then Q x S1 else wpE (fb ρ S1) Q) : wpE (mOr fa fb ρ S) Q := by
  unfold mOr
  simp only [wpE_bnd]
  refine wpE_mono h fun x S1 ⟨b, e, q⟩ => ?_
  rw [e]
  cases b <;> exact q
theorem w_not {fa : Mx} (h : wpE (fa ρ S) fun x S1 => wpO (truD x) fun b => Q (.bool (!b)) S1) : wpE (mNot fa ρ S) Q := by
  unfold mNot
  simp only [wpE_bnd]
  refine wpE_mono h fun x S1 ⟨b, e, q⟩ => ?_
  rw [e]
  exact q
theorem w_if {t : Mt} {fa fb : Mx} (h : wpE (t ρ S) fun b S1 => if b = true then wpE (fa ρ S1) Q else wpE (fb ρ S1) Q) : wpE (mIf t fa fb ρ S) Q := by
  unfold mIf
  simp only [wpE_bnd, wpE_ite]
  exact h
theorem w_tru {f : Mx} (h : wpE (f ρ S) fun x S1 => wpO (truD x) fun b => Qb b S1) : wpE (mTru f ρ S) Qb := by
  unfold mTru
  simp only [wpE_bnd]
  refine wpE_mono h fun x S1 ⟨b, e, q⟩ => ?_
  rw [e]
  exact q
theorem w_andT {t u : Mt} (h : wpE (t ρ S) fun b S1 => if b = true then wpE (u ρ S1) Qb else Qb false S1) : wpE (mAndT t u ρ S) Qb := by
  unfold mAndT
  simp only [wpE_bnd, wpE_ite, wpE_ok]
  exact h
theorem w_orT {t u : Mt} (h : wpE (t ρ S) fun b S1 => if b = true then Qb true S1 else wpE (u ρ S1) Qb) : wpE (mOrT t u ρ S) Qb := by
  unfold mOrT
  simp only [wpE_bnd, wpE_ite, wpE_ok]
  exact h
theorem w_notT {t : Mt} (h : wpE (t ρ S) fun b S1 => Qb (!b) S1) : wpE (mNotT t ρ S) Qb := by
  unfold mNotT
  simp only [wpE_bnd, wpE_ok]
  exact h
theorem w_true (h : Qb true S) : wpE (tTrue ρ S) Qb := h
theorem w_aNil (h : Qs [] S) : wpE (aNil ρ S) Qs := h
theorem w_aCons {f : Mx} {fs : Ma} (h : wpE (f ρ S) fun x S1 => wpE (fs ρ S1) fun xs S2 => Qs (x :: xs) S2) : wpE (aCons f fs ρ S) Qs := by
  unfold aCons
  simp only [wpE_bnd, wpE_ok]
  exact h
theorem w_lst {fs : Ma} (h : wpE (fs ρ S) fun ws S1 => ws.length ≤ sizeLine ∧ Q (.list ws) S1) : wpE (mLst fs ρ S) Q := by
  unfold mLst
  simp only [wpE_bnd, wpE_ite, wpE_ok]
  exact wpE_mono h fun ws S1 h => by rw [if_pos h.1]; exact h.2
theorem w_tup {fs : Ma} (h : wpE (fs ρ S) fun ws S1 => ws.length ≤ sizeLine ∧ Q (.tuple ws) S1) : wpE (mTup fs ρ S) Q := by
  unfold mTup
  simp only [wpE_bnd, wpE_ite, wpE_ok]
  exact wpE_mono h fun ws S1 h => by rw [if_pos h.1]; exact h.2
theorem w_oNone (h : Qo none S) : wpE (oNone ρ S) Qo := h
theorem w_oSome {f : Mx} (h : wpE (f ρ S) fun w S1 => ∃ i, w = .int i ∧ Qo (some i) S1) : wpE (oSome f ρ S) Qo := by
  unfold oSome
  simp only [wpE_bnd]
  refine wpE_mono h fun w S1 ⟨i, e, q⟩ => ?_
  subst e
  exact q
theorem w_sl {f : Mx} {lo hi : Mo} (h : wpE (f ρ S) fun x S1 => wpE (lo ρ S1) fun l S2 => wpE (hi ρ S2) fun u S3 => wpO (gSl l u x) fun w => Q w S3) : wpE (mSl f lo hi ρ S) Q := by
  unfold mSl
  simp only [wpE_bnd]
  refine wpE_mono h fun x S1 h => wpE_mono h fun y S2 h => wpE_mono h fun z S3 ⟨w, e, q⟩ => ?_
  rw [e]
  exact q
theorem w_rec {names : List Str} {fs : Ma} (h : wpE (fs ρ S) fun ws S1 => Q (oW S1.length) (S1 ++ [.dct (names.zip ws)])) : wpE (mRec names fs ρ S) Q := by
  unfold mRec
  simp only [wpE_bnd, wpE_ok]
  exact h
theorem w_call {g : Gd} {fs : Ma} (h : wpE (fs ρ S) fun ws S1 => wpE (g ws S1) Q) : wpE (mCall g fs ρ S) Q := by
  unfold mCall
  simp only [wpE_bnd]
  exact h
theorem w_callK {g : Gd} {perm : List Wd → List Wd} {fs : Ma} (h : wpE (fs ρ S) fun ws S1 => wpE (g (perm ws) S1) Q) : wpE (mCallK g perm fs ρ S) Q := by
  unfold mCallK
  simp only [wpE_bnd]
  exact h
theorem w_lc {vs : List Nat} {fi : Mi} {g : Mg} {t : Mt} {fe : Mx} (h : wpE (fi ρ S) fun ws S1 => wpE (lcLoop g t fe (wipeE ρ vs) ws [] S1) fun acc S2 => Q (.list acc) S2) : wpE (mLc vs fi g t fe ρ S) Q := by
  unfold mLc
  simp only [wpE_bnd, wpE_ok]
  exact h
theorem w_iSeq {f : Mx} (h : wpE (f ρ S) fun w S1 => wpO (itemsD w) fun ws => Qs ws S1) : wpE (iSeq f ρ S) Qs := by
  unfold iSeq
  simp only [wpE_bnd]
  refine wpE_mono h fun x S1 ⟨b, e, q⟩ => ?_
  rw [e]
  exact q
theorem w_range1 {f : Mx} (h : wpE (f ρ S) fun w S1 => ∃ j, w = .int j ∧ (-(2 ^ 62) ≤ j ∧ j < 2 ^ 62) ∧ Qs (rangeD 0 j.toNat) S1) : wpE (iRange1 (aCons f aNil) ρ S) Qs := by
  unfold iRange1 aCons aNil
  simp only [wpE_bnd, wpE_ok]
  refine wpE_mono h fun w S1 ⟨j, e, hj, q⟩ => ?_
  subst e
  simp only [if_pos hj]
  exact q
theorem w_iStr {f : Mx} (h : wpE (f ρ S) fun w S1 => ∃ y, w = .str y ∧ Qs (signsD y) S1) : wpE (iStr f ρ S) Qs := by
  unfold iStr
  simp only [wpE_bnd]
  refine wpE_mono h fun w S1 ⟨j, e, q⟩ => ?_
  subst e
  exact q
theorem w_ok {α : Type} {a : α} {Q : α → Sto → Prop} (h : Q a S) : wpE (.ok a S) Q := h
theorem w_eq {α : Type} {x : R α} {a : α} {S' : Sto} {Q : α → Sto → Prop} (e : x = .ok a S') (h : Q a S') : wpE x Q := by rw [e]; exact h
theorem w_def {n p : Nat} {m : Ms} {ws : List Wd} (h : ws.length = p) (q : wpS (m (startE n ws) S) (fun _ S' => Q .none S') Q) : wpE (runDef n p m ws S) Q := by
  unfold runDef
  rw [if_pos h]
  cases hm : m (startE n ws) S <;> rw [hm] at q <;> first | exact q | exact q.elim
theorem w_t {A B : Prop} (h : A) : if true = true then A else B := h
theorem w_f {A B : Prop} (h : B) : if false = true then A else B := h
theorem w_b {b : Bool} {A B : Prop} (h : b = true → A) (h2 : b = false → B) : if b = true then A else B := by cases b; exact h2 rfl; exact h rfl
theorem w_bt {b : Bool} {A B : Prop} (e : b = true) (h : A) : if b = true then A else B := by rw [if_pos e]; exact h
theorem w_bf {b : Bool} {A B : Prop} (e : b = false) (h : B) : if b = true then A else B := by subst e; exact h
theorem w_len {A : Prop} {ws : List Wd} (h : A) (e : decide (ws.length ≤ sizeLine) = true) : ws.length ≤ sizeLine ∧ A := ⟨of_decide_eq_true e, h⟩
theorem wpR_ok {g : Gd} {ws : List Wd} {w : Wd} {S' : Sto} (h : wpE (g ws S) fun w' S1 => w' = w ∧ S1 = S') : g ws S = .ok w S' := by
  obtain ⟨a, S1, e, rfl, rfl⟩ := wpE_ex.1 h
  exact e
end
theorem wo_le {i j : Int} {k : Wd → Prop} (h : k (.bool (decide (i ≤ j)))) : wpO (gLe (.int i) (.int j)) k := ⟨_, rfl, h⟩
theorem wo_lt {i j : Int} {k : Wd → Prop} (h : k (.bool (decide (i < j)))) : wpO (gLt (.int i) (.int j)) k := ⟨_, rfl, h⟩
theorem wo_ge {i j : Int} {k : Wd → Prop} (h : k (.bool (decide (j ≤ i)))) : wpO (gGe (.int i) (.int j)) k := ⟨_, rfl, h⟩
theorem wo_gt {i j : Int} {k : Wd → Prop} (h : k (.bool (decide (j < i)))) : wpO (gGt (.int i) (.int j)) k := ⟨_, rfl, h⟩
theorem wo_eqi {i j : Int} {k : Wd → Prop} (h : k (.bool (decide (i = j)))) : wpO (gEq (.int i) (.int j)) k := ⟨_, by show some (PyData.bool (i == j)) = _; rw [show (i == j) = decide (i = j) from rfl], h⟩
theorem wo_nei {i j : Int} {k : Wd → Prop} (h : k (.bool (!decide (i = j)))) : wpO (gNe (.int i) (.int j)) k := ⟨_, by show some (PyData.bool (!(i == j))) = _; rw [show (i == j) = decide (i = j) from rfl], h⟩
theorem wo_mod {i j : Int} {k : Wd → Prop} (h : 0 < j) (q : k (.int (i % j))) : wpO (gMod (.int i) (.int j)) k := ⟨_, by simp only [gMod]; rw [if_pos h], q⟩
theorem wo_div {i j : Int} {k : Wd → Prop} (h : 0 < j) (h1 : j < 1073741824) (q : k (.int (i / j))) : wpO (gDiv (.int i) (.int j)) k := ⟨_, by simp only [gDiv]; rw [if_pos ⟨h, h1⟩], q⟩
theorem wo_mul {i j : Int} {k : Wd → Prop} (h : (-(2 ^ 64) < i ∧ i < 2 ^ 64) ∨ (-(2 ^ 64) < j ∧ j < 2 ^ 64)) (q : k (.int (i * j))) : wpO (gMul (.int i) (.int j)) k := ⟨_, by simp only [gMul]; rw [if_pos h], q⟩
theorem wo_pow {i j : Int} {k : Wd → Prop} (h : 0 ≤ j ∧ j ≤ 1000000 ∧ i.natAbs < 2 ^ 64) (q : k (.int (i ^ j.toNat))) : wpO (gPow (.int i) (.int j)) k := ⟨_, by simp only [gPow]; rw [if_pos h], q⟩
section
variable {c : List Int} {a l t i : Int} {S0 : Sto}
end
theorem cells_shaped {c : List Int} : SeqAt.shaped (.list (c.map PyData.int)) = true := by
    have h1 : PyData.canLayAll0 (c.map PyData.int) = true ∧ PyData.depthAll (c.map PyData.int) = 0 := by
      induction c with
      | nil => exact ⟨rfl, rfl⟩
      | cons x c ih => simp only [List.map_cons, PyData.canLayAll0, PyData.depthAll, PyData.canLay0, PyData.depth, ih.1, ih.2]; exact ⟨rfl, rfl⟩
    simp only [SeqAt.shaped, PyData.canLay0, PyData.depth, h1.1, h1.2]
    rfl
theorem gEq_cells {c : List Int} : gEq (.list (c.map PyData.int)) (.list []) = some (.bool c.isEmpty) := by
  have h := @cells_shaped c
  simp only [gEq]
  rw [if_pos ⟨h, rfl⟩]
  cases c <;> rfl
section
variable {c : List Int} {a l t i : Int} {S0 : Sto} {k : Sto → Prop}
theorem gNe_cells {c : List Int} : gNe (.list (c.map PyData.int)) (.list []) = some (.bool (!c.isEmpty)) := by
  have h := @cells_shaped c
  simp only [gNe]
  rw [if_pos ⟨h, rfl⟩]
  cases c <;> rfl
theorem wo_cells {k : Wd → Prop} (h : k (.bool c.isEmpty)) : wpO (gEq (.list (c.map PyData.int)) (.list [])) k := ⟨_, gEq_cells, h⟩
end
theorem lc_map {α : Type} {g : Mg} {fe : Mx} {ρ : Ev} {S : Sto} {enc : α → Wd} {out : α → Wd} {Q : List Wd → Sto → Prop} (xs : List α) (hl : xs.length ≤ sizeLine)
    (h : ∀ x ∈ xs, ∃ ρ1, g (enc x) ρ = some ρ1 ∧ fe ρ1 S = .ok (out x) S) (q : Q (xs.map out) S) : wpE (lcLoop g tTrue fe ρ (xs.map enc) [] S) Q := by
  rw [lc_pure (t := tTrue) (p := fun _ => true) (out := out) xs [] (by simpa using hl) fun x hx => let ⟨ρ1, a, b⟩ := h x hx; ⟨ρ1, a, rfl, fun _ => b⟩]
  rw [List.filter_eq_self.2 (fun _ _ => rfl)]
  exact q
theorem gIx_look {S : Sto} {ds : List (Wd × Wd)} {x : Str} {w : Wd} (h : lookD ds (.str x) = some w) : gIx S (.dict ds) (.str x) = some w := by
  unfold gIx
  split
  · rename_i h1 h2; cases h1
  · rename_i h1 h2; cases h1
  · rename_i h1 h2; cases h1
  · rename_i h1 h2
    cases h1
    simp [lookD, PyData.eqv] at h
  · rename_i h1 _
    cases h1
    rw [if_pos (show keyD (.str x) = true from rfl)]
    exact h
  · rename_i h5 _ _
    first | exact absurd rfl (h5 ds) | exact (h5 ds _ rfl rfl).elim | simp_all
theorem atI_in {α : Type} {xs : List α} {i : Int} (h0 : 0 ≤ i) (h1 : i < xs.length) : atI xs i = some (xs[i.toNat]'(by omega)) := by
  unfold atI ixN
  rw [if_pos h0, if_pos h1]
  simp only [Option.bind_some]
  exact List.getElem?_eq_getElem (by omega)
end DL
namespace DL
open PySem PySem.Spec PyProof.Rows L2
section
variable {X : Cx} {fi : Mi} {g : Mg} {t : Mt} {fe : Mx} {elt tgx iter : Expr} {ifs : List Expr} {scope : Scope} {own : List (Str × Nat)} {pos spos py : Pos} {i : Nat} {y : Str}
end
theorem RpAll.reverse {K : Fg} {mu : List Addr} {T : Addr → Prop} {H : Hp} : ∀ {vs : List V} {ws : List Wd}, RpAll K mu T H vs ws → RpAll K mu T H vs.reverse ws.reverse
  | [], [], _ => .nil
  | _ :: _, _ :: _, h => by
    cases h with
    | cons a b =>
      rw [List.reverse_cons, List.reverse_cons]
      exact b.reverse.append (.cons a .nil)
section
variable {X : Cx} {e : Expr} {f : Mx} {es : List Expr} {fs : Ma} {pos : Pos}
end
theorem bt_sorted : bootBuiltins "sorted" = some (.builtin "sorted") := by decide +kernel
section
variable {X : Cx} {e : Expr} {f : Mx} {pos : Pos} {i : Nat} {x : Str}
def mLenO (i : Nat) : Mx := fun ρ S => match ρ[i]? with
  | some (some (.own ws)) => .ok (.int ws.length) S
  | _ => .bad
def sExt (i : Nat) (f : Mx) : Ms := fun ρ S => match ρ[i]? with
  | some (some (.own ws)) => sOf (f ρ S) fun w S1 => match w with
    | .list zs => if ws.length + zs.length ≤ sizeLine then .nx (ρ.set i (some (.own (ws ++ zs)))) S1 else .bad
    | _ => .bad
  | _ => .bad
def rExtW (K : Fg) : V → List V → Hp → VK → Prop := fun x vs H Q => ∃ l b xs zs, x = .ref l ∧ vs = [.ref b] ∧ H l = some (.lst xs) ∧ (∃ mu T, LsR K mu T H b zs) ∧ xs.length + zs.length ≤ sizeLine ∧ Q .non (upd H l (.lst (xs ++ zs)))
theorem mt_extW : MtM X "list.extend" (rExtW X.K) := by
  intro pins s σ H x vs v us Q I rx rv h
  obtain ⟨l, b, xs, zs, rfl, rfl, hH, ⟨_, _, hB⟩, hz, q⟩ := h
  cases rx
  obtain ⟨u, rfl, ru⟩ := rv.one
  cases ru
  obtain ⟨z, its, n, r, hl, e⟩ := I.lstM hH
  obtain ⟨i2, n2, r2, z2, e2⟩ := lst_at I hB
  have l2 := r2.length
  have l1 := r.length
  have hs : its.toArray.size + i2.toArray.size ≤ sizeLine := by rw [List.size_toArray, List.size_toArray]; omega
  refine call_meets F.slot_list_extend ⟨_, e, rfl⟩ F.entry_list_extend (F.args_list_extend_2 _ _)
    (AutoSeq1.list_extend_list_list_0 l its.toArray n b i2.toArray n2 (by rw [notLongL hs, Bool.and_false]; exact Bool.false_ne_true) (by rw [List.size_toArray]; omega) (by rw [List.size_toArray] at *; omega)) ⟨e, e2, ?_⟩
  exact ⟨.non, _, I.lset (its' := its ++ i2) hH e (by simp) (r.append r2) (by rw [List.length_append]; omega), rfl, q⟩
theorem ds_extend {apos cpos xpos : Pos} (hN : X.N[i]? = some x) (hv : Vis X.env.scope x) (he : De X e f) (hd : (x == ("__debug__" : Str)) = false := by decide) (hcd : (x == ("__classdict__" : Str)) = false := by decide)
    (hbase : attributeBase (.Name x xpos) "extend" X.env (eval (.Name x xpos) X.env) = eval (.Name x xpos) X.env := by rfl)
    (hfew : ((backTo cpos (starEach [e] X.env)).all (fun x => !x.1) && (backToKw cpos (keywordEach [] X.env)).all (fun x => x.1.isSome) && decide ([e].length + ([] : List Keyword).length + (if ([] : List Keyword).isEmpty then 0 else 1) < 30)) = true := by rfl)
    (hline : (apos.endLine == cpos.line) = true := by rfl) (hs1 : starEach [e] X.env = [(false, eval e X.env)] := by rfl)
    (hs : swapsWith (.Call (.Attribute (.Name x xpos) "extend" apos) [e] [] cpos) none pos.line X.env = pure false := by rfl) : Ds X (.Expr (.Call (.Attribute (.Name x xpos) "extend" apos) [e] [] cpos) pos) (sExt i f) :=
  PS.weak (ps_expr (pe_bm PySem.F.plainAttrs_list PySem.F.slot_list_extend PySem.F.type_list_extend mt_extW (pe_var hN hv hd hcd) (pa_cons he pa_nil hs1) hbase hfew hline hs1 rfl) hs) fun D σ H ⟨ρ, S, mu, B, O, rl, q⟩ => by
    unfold sExt at q
    split at q
    · rename_i ws hi
      cases z : f ρ S with
      | bad => rw [z] at q; exact q.elim
      | ok w S1 =>
        rw [z, sOf_ok] at q
        split at q
        · rename_i zs
          by_cases hz : ws.length + zs.length ≤ sizeLine
          · rw [if_pos hz] at q
            obtain ⟨a, xs, h1, h2, h3, h4, h5⟩ := rl.own i ws hi
            refine ⟨.ref a, h1, .inl ⟨rfl, xs, .inl (.inl h4)⟩, ?_⟩
            refine tD.mk rl z fun v H1 mu1 E r p => ?_
            cases p with
            | lst b c =>
              have h4' : H1 a = some (.lst xs) := E.keep a _ h4 (rl.bn a (.inr h2)).2
              refine ⟨a, _, xs, _, rfl, rfl, h4', ⟨_, _, b⟩, by rw [h5.length, c.length]; exact hz, ?_⟩
              exact q σ _ mu1 O ((E.toS r.sto).trans (ExtS.at_own h2)) (r.grow (xs := xs) hi h1 h2 h3 ((h5.ext E).append c))
          · rw [if_neg hz] at q
            exact q.elim
        · exact q.elim
    · exact q.elim
end
end DL
namespace DL
open PySem PySem.Spec PyProof.Rows L2
section
variable {X : Cx} {pos p xp : Pos} {i : Nat} {x : Str}
end
section
variable {X : Cx} {e : Expr} {ta : TA} {p pos tpos : Pos} {elts : List Expr} {kk : Nat}
end
section
variable {N : Ev → Sto → Prop} {Rt : Wd → Sto → Prop} {ρ : Ev} {S : Sto} {Q : Wd → Sto → Prop} {Qs : List Wd → Sto → Prop}
theorem w_lenO {i : Nat} {ws : List Wd} (h : ρ[i]? = some (some (.own ws))) (q : Q (.int ws.length) S) : wpE (mLenO i ρ S) Q := by
  unfold mLenO
  rw [h]
  exact q
theorem w_ext {i : Nat} {f : Mx} {ws : List Wd} (h : ρ[i]? = some (some (.own ws))) (q : wpE (f ρ S) fun w S1 => ∃ zs, w = .list zs ∧ ws.length + zs.length ≤ sizeLine ∧ N (ρ.set i (some (.own (ws ++ zs)))) S1) : wpS (sExt i f ρ S) N Rt := by
  unfold sExt
  rw [h]
  cases z : f ρ S with
  | bad => rw [z] at q; exact q.elim
  | ok w S1 =>
    rw [z] at q
    obtain ⟨zs, rfl, hl, q⟩ := q
    simp only [sOf_ok, if_pos hl]
    exact q
end
end DL
namespace DL
open PySem PySem.Spec PyProof.Rows L2
section
variable {X : Cx}
end
end DL
namespace DL
open PySem PySem.Spec PyProof.Rows L2
variable {G : Bool}
mutual
def bndW (n : Nat) : Wd → Bool
  | .list ws => bndAll n ws
  | .tuple ws => bndAll n ws
  | .dict kvs => bndKv n kvs
  | _ => true
def bndAll (n : Nat) : List Wd → Bool
  | [] => true
  | w :: ws => bndW n w && bndAll n ws
def bndKv (n : Nat) : List (Wd × Wd) → Bool
  | [] => true
  | (k, v) :: r => (match k, v with
    | .none, .int i => decide (i.toNat < n)
    | _, _ => bndW n v) && bndKv n r
end
def Rec.bnd (n : Nat) : Rec → Bool
  | .dct fs => fs.all fun q => bndW n q.2
  | .tdc kvs => kvs.all fun q => bndW n q.2
  | .tab _ => true
  | .exn _ fs => fs.all fun q => bndW n q.2
section
variable {K : Fg} {mu : List Addr} {T : Addr → Prop} {H : Hp} {n : Nat}
theorem take_notin {a : Addr} (h : a ∉ mu) : a ∉ mu.take n := fun q => h (List.mem_of_mem_take q)
mutual
theorem Rp.take : ∀ (w : Wd) (v : V), bndW n w = true → Rp K mu T H v w → Rp K (mu.take n) T H v w
  | .none, _, _, h => by cases h; exact .non
  | .bool b, _, _, h => by cases h; exact .bl b
  | .int i, _, _, h => by cases h; exact .int i
  | .str x, _, _, h => by cases h; exact .str x
  | .list ds, _, c, h => by
    cases h with
    | lst a b => exact .lst (a.imp (fun z => ⟨z.1, take_notin z.2.1, z.2.2⟩) id) (RpAll.takeM ds _ c b)
  | .tuple ds, _, c, h => by
    cases h with
    | tup a b => exact .tup (a.imp (fun z => ⟨z.1, take_notin z.2.1, z.2.2⟩) id) (RpAll.takeM ds _ c b)
  | .dict ds, _, c, h => by
    cases h with
    | dct a b => exact .dct ⟨a.1, take_notin a.2.1, a.2.2⟩ (RpKv.takeM ds _ c b)
    | @obj a l e =>
      refine .obj ?_
      have hl : l < n := by
        unfold bndW bndKv at c
        simp only [Bool.and_eq_true, decide_eq_true_eq] at c
        exact c.1
      rw [List.getElem?_take]
      rw [if_pos hl]
      exact e
theorem RpAll.takeM : ∀ (ws : List Wd) (vs : List V), bndAll n ws = true → RpAll K mu T H vs ws → RpAll K (mu.take n) T H vs ws
  | [], _, _, h => by cases h; exact .nil
  | d :: ds, _, c, h => by
    cases h with
    | cons a b =>
      unfold bndAll at c
      obtain ⟨c1, c2⟩ := Bool.and_eq_true_iff.mp c
      exact .cons (Rp.take d _ c1 a) (RpAll.takeM ds _ c2 b)
theorem RpKv.takeM : ∀ (ws : List (Wd × Wd)) (vs : List (Key × V)), bndKv n ws = true → RpKv K mu T H vs ws → RpKv K (mu.take n) T H vs ws
  | [], _, _, h => by cases h; exact .nil
  | (_, d) :: ds, _, c, h => by
    cases h with
    | @cons k v r d ds a b =>
      unfold bndKv at c
      obtain ⟨c1, c2⟩ := Bool.and_eq_true_iff.mp c
      refine .cons (Rp.take d _ ?_ a) (RpKv.takeM ds _ c2 b)
      cases k with
      | inl i => exact c1
      | inr x => exact c1
end
theorem FsR.takeM : ∀ {kvs : List (Key × V)} {fs : List (Str × Wd)}, (fs.all fun q => bndW n q.2) = true → FsR K mu T H kvs fs → FsR K (mu.take n) T H kvs fs
  | [], [], _, _ => trivial
  | (k, v) :: r, (x, d) :: ds, c, h => by
    rw [List.all_cons] at c
    obtain ⟨c1, c2⟩ := Bool.and_eq_true_iff.mp c
    exact ⟨h.1, Rp.take _ _ c1 h.2.1, FsR.takeM c2 h.2.2⟩
  | [], _ :: _, _, h => h.elim
  | _ :: _, [], _, h => h.elim
theorem bnd_ints (k : List Int) : bndAll n (k.map PyData.int) = true := by
  induction k with
  | nil => rfl
  | cons x k ih => simp only [List.map_cons, bndAll, bndW, ih]; rfl
theorem TdR.takeM : ∀ {kvs : List (List Int × Wd)} {es : List (List Int × Addr × Value)}, (kvs.all fun q => bndW n q.2) = true → TdR K mu T H kvs es → TdR K (mu.take n) T H kvs es
  | [], [], _, _ => trivial
  | (k, d) :: r, (k', b, u) :: es, c, h => by
    rw [List.all_cons] at c
    obtain ⟨c1, c2⟩ := Bool.and_eq_true_iff.mp c
    obtain ⟨v, h1, h2⟩ := h.2.2.1
    exact ⟨h.1, Rp.take _ _ (by unfold bndW; exact bnd_ints k) h.2.1, ⟨v, h1, Rp.take _ _ c1 h2⟩, TdR.takeM c2 h.2.2.2⟩
  | [], _ :: _, _, h => h.elim
  | _ :: _, [], _, h => h.elim
theorem lookup_mem' {y : Str} {w : Wd} : ∀ {l : List (Str × Wd)}, l.lookup y = some w → (y, w) ∈ l
  | [], h => by cases h
  | (x, v) :: l, h => by
    by_cases c : y = x
    · subst c
      have e : List.lookup y ((y, v) :: l) = some v := by simp [List.lookup]
      rw [e] at h
      cases h
      exact List.mem_cons_self
    · have e : List.lookup y ((x, v) :: l) = l.lookup y := by simp [List.lookup, beq_eq_false_iff_ne.mpr c]
      rw [e] at h
      exact List.mem_cons_of_mem _ (lookup_mem' h)
theorem RecOk.takeM {a : Addr} : ∀ {r : Rec}, r.bnd n = true → RecOk K mu T H a r → RecOk K (mu.take n) T H a r
  | .dct fs, c, ⟨kvs, h, q⟩ => ⟨kvs, h, FsR.takeM c q⟩
  | .tdc fs, c, ⟨es, h, q⟩ => ⟨es, h, TdR.takeM c q⟩
  | .tab x, c, ⟨h0, ps, h, q, z⟩ => ⟨h0, ps, h, q, fun pos cv hc => let ⟨c, h1, h2, h3⟩ := z pos cv hc; ⟨c, h1, h2, fun m => h3 (List.mem_of_mem_take m)⟩⟩
  | .exn x fs, c, ⟨oe, dx, vs, fv, h1, h2, h3, h4, h5, h6, q⟩ => ⟨oe, dx, vs, fv, h1, h2, h3, h4, h5, fun m => h6 (List.mem_of_mem_take m), fun y w z => let ⟨v, p1, p2⟩ := q y w z; ⟨v, p1, Rp.take _ _ (List.all_eq_true.mp c (y, w) (lookup_mem' z)) p2⟩⟩
theorem StOk.takeM {S : Sto} (h : StOk K mu T H S) (c : ((S.take n).all fun r => r.bnd n) = true) : StOk K (mu.take n) T H (S.take n) := by
  refine ⟨by rw [List.length_take, List.length_take, h.len], h.nd.sublist (List.take_sublist _ _), fun l a r h1 h2 => ?_⟩
  have hr : r ∈ S.take n := List.mem_of_getElem? h2
  rw [List.getElem?_take] at h1 h2
  split at h1
  · rename_i hl
    rw [if_pos hl] at h2
    exact RecOk.takeM (List.all_eq_true.mp c r hr) (h.ok l a r h1 h2)
  · cases h1
end
section
variable {P : Program} {w : World} {K : Fg} {mg : Str → Option Value} {base : Heap}
end
section
variable {X : Cx} {pos : Pos}
theorem StOk.newRec0 {K : Fg} {mu : List Addr} {T : Addr → Prop} {H : Hp} {S : Sto} {p : Addr} {o : HO} {r : Rec} (st : StOk K mu T H S) (np : H p = none) (hr : RecOk K (mu ++ [p]) T (upd H p o) p r) : Ext mu (mu ++ [p]) H (upd H p o) ∧ StOk K (mu ++ [p]) T (upd H p o) (S ++ [r]) := by
  have hpm : p ∉ mu := st.fresh np
  have E : Ext mu (mu ++ [p]) H (upd H p o) := ⟨fun l a z => by rw [List.getElem?_append_left (List.getElem?_eq_some_iff.mp z).1]; exact z, fun a u z _ => by rw [upd_ne (ne_of_none z np)]; exact z, fun a m n => by
    rcases List.mem_append.mp m with m | m
    · exact absurd m n
    · rw [List.mem_singleton.mp m]; exact np⟩
  refine ⟨E, by rw [List.length_append, List.length_append, st.len]; rfl, ?_, fun l a q h1 h2 => ?_⟩
  · rw [List.nodup_append]
    refine ⟨st.nd, by simp, fun x hx y hy => ?_⟩
    rw [List.mem_singleton] at hy
    subst hy
    exact fun e => hpm (e ▸ hx)
  · by_cases c : l < S.length
    · rw [List.getElem?_append_left c] at h2
      rw [List.getElem?_append_left (by rw [st.len]; exact c)] at h1
      have na : a ≠ p := fun e => hpm (e ▸ List.mem_of_getElem? h1)
      exact RecOk.map (fun _ z => by rw [upd_ne na]; exact z) (fun _ _ z => z.ext E) (fun c _ _ z n => ⟨by rw [upd_ne (ne_of_none z np)]; exact z, E.notin z n⟩) (st.ok l a q h1 h2)
    · rw [List.getElem?_append_right (by omega)] at h2
      rw [List.getElem?_append_right (by rw [st.len]; omega)] at h1
      have hl : l - S.length = 0 := by
        have := (List.getElem?_eq_some_iff.mp h2).1
        simp at this
        omega
      rw [st.len, hl] at h1
      rw [hl] at h2
      cases h1
      cases h2
      exact hr
end
def lookT (k : List Int) : List (List Int × Wd) → Option Wd
  | [] => none
  | (k', d) :: r => if k' = k then some d else lookT k r
def putT (k : List Int) (w : Wd) (kvs : List (List Int × Wd)) : List (List Int × Wd) := if (kvs.any fun q => decide (q.1 = k)) = true then kvs.map (fun q => if q.1 = k then (q.1, w) else q) else kvs ++ [(k, w)]
def inlE (x : List Int × Addr × Value) : List Key × Addr × Value := (x.1.map Sum.inl, x.2)
theorem inl_inj : ∀ {a b : List Int}, (a.map (Sum.inl (β := Str)) : List Key) = b.map Sum.inl → a = b
  | [], [], _ => rfl
  | x :: a, y :: b, h => by
    rw [List.map_cons, List.map_cons] at h
    injection h with h1 h2
    injection h1 with h1
    rw [h1, inl_inj h2]
  | [], _ :: _, h => by cases h
  | _ :: _, [], h => by cases h
section
variable {K : Fg} {mu : List Addr} {T : Addr → Prop} {H : Hp}
theorem TdR.look {k : List Int} {w : Wd} : ∀ {kvs : List (List Int × Wd)} {es : List (List Int × Addr × Value)}, TdR K mu T H kvs es → lookT k kvs = some w → ∃ b u v, atKey (es.map inlE) (k.map Sum.inl) = some (b, u) ∧ RelV v u ∧ Rp K mu T H v w
  | [], [], _, e => by cases e
  | (k1, d) :: r, (k2, b, u) :: es, h, e => by
    obtain ⟨rfl, _, ⟨v, h1, h2⟩, h3⟩ := h
    unfold lookT at e
    by_cases c : k1 = k
    · rw [if_pos c] at e
      cases e
      subst c
      refine ⟨b, u, v, ?_, h1, h2⟩
      simp [atKey, inlE]
    · rw [if_neg c] at e
      obtain ⟨b', u', v', q1, q2, q3⟩ := TdR.look h3 e
      refine ⟨b', u', v', ?_, q2, q3⟩
      rw [← q1]
      unfold atKey
      rw [List.map_cons, List.find?_cons_of_neg]
      exact fun z => c (inl_inj (of_decide_eq_true z))
  | [], _ :: _, h, _ => h.elim
  | _ :: _, [], h, _ => h.elim
theorem TdR.length : ∀ {kvs : List (List Int × Wd)} {es : List (List Int × Addr × Value)}, TdR K mu T H kvs es → kvs.length = es.length
  | [], [], _ => rfl
  | (k1, d) :: r, (k2, b, u) :: es, h => by rw [List.length_cons, List.length_cons, TdR.length h.2.2.2]
  | [], _ :: _, h => h.elim
  | _ :: _, [], h => h.elim
theorem TdR.any (k : List Int) : ∀ {kvs : List (List Int × Wd)} {es : List (List Int × Addr × Value)}, TdR K mu T H kvs es → (kvs.any fun q => decide (q.1 = k)) = (es.any fun q => decide (q.1 = k))
  | [], [], _ => rfl
  | (k1, d) :: r, (k2, b, u) :: es, h => by
    rw [List.any_cons, List.any_cons, TdR.any k h.2.2.2, h.1]
  | [], _ :: _, h => h.elim
  | _ :: _, [], h => h.elim
def putE (k : List Int) (b : Addr) (u : Value) (es : List (List Int × Addr × Value)) : List (List Int × Addr × Value) := if (es.any fun q => decide (q.1 = k)) = true then es.map (fun q => if q.1 = k then (q.1, q.2.1, u) else q) else es ++ [(k, b, u)]
theorem TdR.putM {k : List Int} {v : V} {u : Value} {w : Wd} (rv : RelV v u) (p : Rp K mu T H v w) : ∀ {kvs : List (List Int × Wd)} {es : List (List Int × Addr × Value)}, TdR K mu T H kvs es → TdR K mu T H (kvs.map (fun q => if q.1 = k then (q.1, w) else q)) (es.map (fun q => if q.1 = k then (q.1, q.2.1, u) else q))
  | [], [], _ => trivial
  | (k1, d) :: r, (k2, b, u') :: es, h => by
    obtain ⟨rfl, h1, h2, h3⟩ := h
    rw [List.map_cons, List.map_cons]
    by_cases c : k1 = k
    · rw [if_pos c, if_pos c]
      exact ⟨rfl, h1, ⟨v, rv, p⟩, TdR.putM rv p h3⟩
    · rw [if_neg c, if_neg c]
      exact ⟨rfl, h1, h2, TdR.putM rv p h3⟩
  | [], _ :: _, h => h.elim
  | _ :: _, [], h => h.elim
theorem TdR.snoc {k : List Int} {b : Addr} {v : V} {u : Value} {w : Wd} (hk : Rp K mu T H (.ref b) (.tuple (k.map .int))) (rv : RelV v u) (p : Rp K mu T H v w) : ∀ {kvs : List (List Int × Wd)} {es : List (List Int × Addr × Value)}, TdR K mu T H kvs es → TdR K mu T H (kvs ++ [(k, w)]) (es ++ [(k, b, u)])
  | [], [], _ => ⟨rfl, hk, ⟨v, rv, p⟩, trivial⟩
  | (k1, d) :: r, (k2, b, u') :: es, h => ⟨h.1, h.2.1, h.2.2.1, TdR.snoc hk rv p h.2.2.2⟩
  | [], _ :: _, h => h.elim
  | _ :: _, [], h => h.elim
theorem TdR.put {k : List Int} {b : Addr} {v : V} {u : Value} {w : Wd} (hk : Rp K mu T H (.ref b) (.tuple (k.map .int))) (rv : RelV v u) (p : Rp K mu T H v w) {kvs : List (List Int × Wd)} {es : List (List Int × Addr × Value)} (h : TdR K mu T H kvs es) : TdR K mu T H (putT k w kvs) (putE k b u es) := by
  unfold putT putE
  rw [h.any k]
  split
  · exact TdR.putM rv p h
  · exact TdR.snoc hk rv p h
end
section
variable {X : Cx} {pos : Pos} {pins : List (Addr × Obj)} {σ : Sg} {H : Hp} {s : Shared}
end
section
variable {X : Cx} {a b : Expr} {fa fb : Mx} {pos : Pos}
theorem StOk.setRec {K : Fg} {mu : List Addr} {T : Addr → Prop} {H : Hp} {S : Sto} {l : Nat} {a : Addr} {r : Rec} {o : HO} (st : StOk K mu T H S) (hl : mu[l]? = some a) (hr : RecOk K mu T (upd H a o) a r) : Ext mu mu H (upd H a o) ∧ StOk K mu T (upd H a o) (S.set l r) := by
  have hm : a ∈ mu := List.mem_of_getElem? hl
  have ex : Ext mu mu H (upd H a o) := .at_mu hm
  refine ⟨ex, by rw [List.length_set]; exact st.len, st.nd, fun j b q h1 h2 => ?_⟩
  by_cases c : j = l
  · subst c
    rw [hl] at h1
    cases h1
    have hj : j < S.length := by rw [← st.len]; exact (List.getElem?_eq_some_iff.mp hl).1
    rw [List.getElem?_set_self hj] at h2
    cases h2
    exact hr
  · rw [List.getElem?_set_ne (Ne.symm c)] at h2
    have nb : b ≠ a := fun z => c (nodup_ad st.nd h1 (z ▸ hl))
    exact RecOk.map (fun _ z => by rw [upd_ne nb]; exact z) (fun _ _ z => z.ext ex) (fun c _ _ z n => ⟨ex.keep _ _ z n, n⟩) (st.ok j b q h1 h2)
end
end DL
namespace DL
open PySem PySem.Spec PyProof.Rows L2
theorem RpKv.imp {K : Fg} {mu mu' : List Addr} {T T' : Addr → Prop} {H H' : Hp} (f : ∀ v w, Rp K mu T H v w → Rp K mu' T' H' v w) : ∀ {kvs : List (Key × V)} {ds : List (Wd × Wd)}, RpKv K mu T H kvs ds → RpKv K mu' T' H' kvs ds
  | [], [], _ => .nil
  | (k, v) :: r, (_, d) :: ds, h => by
    cases h with
    | cons a b => exact .cons (f _ _ a) (RpKv.imp f b)
section
variable {X : Cx} {fi : Mi} {g : Mg} {t : Mt} {vs : List Nat}
variable {fk fv : Mx} {kx vx tgx iter : Expr} {ifs : List Expr} {scope : Scope} {own : List (Str × Nat)} {pos : Pos}
end
end DL
namespace DL
open PySem PySem.Spec PyProof.Rows L2
variable {G : Bool}
def pureG (g : Gd) : Gd := fun ws S => if bndAll 0 ws = true then (match g ws [] with
  | .ok w _ => if bndW 0 w = true then .ok w S else .bad
  | .bad => .bad) else .bad
theorem pureG_inv {g : Gd} {ws : List Wd} {S S1 : Sto} {w : Wd} (e : pureG g ws S = .ok w S1) : bndAll 0 ws = true ∧ bndW 0 w = true ∧ S1 = S ∧ ∃ S', g ws [] = .ok w S' := by
  unfold pureG at e
  split at e
  · rename_i c
    cases h : g ws [] with
    | bad => rw [h] at e; cases e
    | ok v S' =>
      rw [h] at e
      simp only at e
      split at e
      · rename_i c2
        cases e
        exact ⟨c, c2, rfl, S', rfl⟩
      · cases e
  · cases e
section
variable {K : Fg} {mu : List Addr} {T : Addr → Prop} {H : Hp}
abbrev banM (T : Addr → Prop) (mu : List Addr) : Addr → Prop := fun a => T a ∨ a ∈ mu
mutual
theorem Rp.inn : ∀ (w : Wd) (v : V), bndW 0 w = true → Rp K mu T H v w → Rp K [] (banM T mu) H v w
  | .none, _, _, h => by cases h; exact .non
  | .bool b, _, _, h => by cases h; exact .bl b
  | .int i, _, _, h => by cases h; exact .int i
  | .str x, _, _, h => by cases h; exact .str x
  | .list ds, _, c, h => by
    cases h with
    | lst a b => exact .lst (a.imp (fun z => ⟨z.1, by simp, fun q => q.elim z.2.2 z.2.1⟩) id) (RpAll.inn ds _ c b)
  | .tuple ds, _, c, h => by
    cases h with
    | tup a b => exact .tup (a.imp (fun z => ⟨z.1, by simp, fun q => q.elim z.2.2 z.2.1⟩) id) (RpAll.inn ds _ c b)
  | .dict ds, _, c, h => by
    cases h with
    | dct a b => exact .dct ⟨a.1, by simp, fun q => q.elim a.2.2 a.2.1⟩ (RpKv.inn ds _ c b)
    | @obj a l e =>
      unfold bndW bndKv at c
      simp at c
theorem RpAll.inn : ∀ (ws : List Wd) (vs : List V), bndAll 0 ws = true → RpAll K mu T H vs ws → RpAll K [] (banM T mu) H vs ws
  | [], _, _, h => by cases h; exact .nil
  | d :: ds, _, c, h => by
    cases h with
    | cons a b =>
      unfold bndAll at c
      obtain ⟨c1, c2⟩ := Bool.and_eq_true_iff.mp c
      exact .cons (Rp.inn d _ c1 a) (RpAll.inn ds _ c2 b)
theorem RpKv.inn : ∀ (ws : List (Wd × Wd)) (vs : List (Key × V)), bndKv 0 ws = true → RpKv K mu T H vs ws → RpKv K [] (banM T mu) H vs ws
  | [], _, _, h => by cases h; exact .nil
  | (_, d) :: ds, _, c, h => by
    cases h with
    | @cons k v r d ds a b =>
      unfold bndKv at c
      obtain ⟨c1, c2⟩ := Bool.and_eq_true_iff.mp c
      refine .cons (Rp.inn d _ ?_ a) (RpKv.inn ds _ c2 b)
      cases k with
      | inl i => exact c1
      | inr x => exact c1
end
mutual
theorem Rp.out {mu' : List Addr} : ∀ (w : Wd) (v : V), bndW 0 w = true → Rp K mu' (banM T mu) H v w → Rp K mu T H v w
  | .none, _, _, h => by cases h; exact .non
  | .bool b, _, _, h => by cases h; exact .bl b
  | .int i, _, _, h => by cases h; exact .int i
  | .str x, _, _, h => by cases h; exact .str x
  | .list ds, _, c, h => by
    cases h with
    | lst a b => exact .lst (a.imp (fun z => ⟨z.1, fun q => z.2.2 (.inr q), fun q => z.2.2 (.inl q)⟩) id) (RpAll.out ds _ c b)
  | .tuple ds, _, c, h => by
    cases h with
    | tup a b => exact .tup (a.imp (fun z => ⟨z.1, fun q => z.2.2 (.inr q), fun q => z.2.2 (.inl q)⟩) id) (RpAll.out ds _ c b)
  | .dict ds, _, c, h => by
    cases h with
    | dct a b => exact .dct ⟨a.1, fun q => a.2.2 (.inr q), fun q => a.2.2 (.inl q)⟩ (RpKv.out ds _ c b)
    | @obj a l e =>
      unfold bndW bndKv at c
      simp at c
theorem RpAll.out {mu' : List Addr} : ∀ (ws : List Wd) (vs : List V), bndAll 0 ws = true → RpAll K mu' (banM T mu) H vs ws → RpAll K mu T H vs ws
  | [], _, _, h => by cases h; exact .nil
  | d :: ds, _, c, h => by
    cases h with
    | cons a b =>
      unfold bndAll at c
      obtain ⟨c1, c2⟩ := Bool.and_eq_true_iff.mp c
      exact .cons (Rp.out d _ c1 a) (RpAll.out ds _ c2 b)
theorem RpKv.out {mu' : List Addr} : ∀ (ws : List (Wd × Wd)) (vs : List (Key × V)), bndKv 0 ws = true → RpKv K mu' (banM T mu) H vs ws → RpKv K mu T H vs ws
  | [], _, _, h => by cases h; exact .nil
  | (_, d) :: ds, _, c, h => by
    cases h with
    | @cons k v r d ds a b =>
      unfold bndKv at c
      obtain ⟨c1, c2⟩ := Bool.and_eq_true_iff.mp c
      refine .cons (Rp.out d _ ?_ a) (RpKv.out ds _ c2 b)
      cases k with
      | inl i => exact c1
      | inr x => exact c1
end
end
section
variable {P : Program} {w : World} {K : Fg} {mg : Str → Option Value} {base : Heap}
theorem FnD.pure {k : Nat} {f : Addr} {fd : FuncData} {ps : List Str} {g : Gd} (F : FnD G P w K mg base k f fd ps g) : FnD G P w K mg base k f fd ps (pureG g) := by
  refine ⟨fun ws S v S' e => ?_, fun A outer s H args us vs Q hr hg e0 hb r ⟨ws, S, mu, T, h1, h2, h3, v, S1, e, q⟩ => ?_⟩
  · obtain ⟨_, _, _, S2, e1⟩ := pureG_inv e
    exact F.len _ _ _ _ e1
  · obtain ⟨c1, c2, rfl, S2, e1⟩ := pureG_inv e
    refine F.run A outer s H args us vs Q hr hg e0 hb r ⟨ws, [], [], fun a => banM T mu a ∧ ∀ ps, H a ≠ some (.tbl ps), ⟨rfl, List.nodup_nil, fun l a q h => by simp at h⟩, fun a t => ⟨?_, by simp⟩, (RpAll.inn _ _ c1 h3).weak fun a t => t.1, v, S2, e1, fun u H' mu' E st rp => ?_⟩
    · rcases t.1 with y | y
      · exact (h2 a y).1
      · exact ⟨h1.pl y, t.2⟩
    · have sm : Same H H' := fun a o h => E.keep a o h (by simp)
      refine q u H' mu (.same sm) (h1.same sm) (Rp.out _ _ c2 (rp.banT fun a t => ?_))
      by_cases c : ∃ ps, H a = some (.tbl ps)
      · obtain ⟨ps, e⟩ := c
        exact .inr ⟨ps, sm _ _ e⟩
      · exact .inl ⟨t, fun ps e => c ⟨ps, e⟩⟩
theorem Cal.pure {k : Nat} {x : Str} {st : Stmt} {ps : List Str} {g : Gd} (C : Cal G P w K mg base k x st ps g) : Cal G P w K mg base k x st ps (pureG g) := by
  obtain ⟨f, fd, hm, F, hb, G⟩ := C
  exact ⟨f, fd, hm, F, hb, G.pure⟩
end
section
variable {X : Cx}
end
end DL
namespace DL
open PySem PySem.Spec PyProof.Rows L2
section
variable {X : Cx} {fs : Ma} {pos : Pos}
end
end DL
namespace DL
open PySem PySem.Spec PyProof.Rows L2
section
variable {X : Cx} {es : List Expr} {b : Expr} {fs : Ma} {g : Mx} {pos lp : Pos}
end
section
variable {X : Cx}
end
section
variable {X : Cx} {f g : Mx} {pos : Pos}
end
end DL
namespace DL
open PySem PySem.Spec PyProof.Rows L2
section
variable {prog : Program} {w : World} {A : Around} {E : Value → Shared → Prop} {s : Shared}
abbrev set0 (w : World) : Obj := { cls := .type "set", dict := none, data := .set #[] 0 (.fresh 0 0 (!w.params.followText "set-order")) }
theorem set_init_ints {l : Addr} {items : Array Value} (ns : List Int) {R : Result → Shared → Prop} (hh : A.handled = none) (hl : s.heap.IsList l items) (hi : IntsAre items.toList ns) (hb : ns.length + 1 < scanBound)
    (q : ∀ (h' : Heap) (tk c : Nat), SetR w h' s.heap.objs.size (fun j => decide (j ∈ ns)) c → c ≤ ns.length → (∀ b o, s.heap.get? b = some o → h'.get? b = some o) → R (.ok (.ret .none)) { s with heap := h', toks := tk }) :
    codeAny (model prog w) A (.call (.builtin "set.__init__") ⟨[.ref s.heap.objs.size, .ref l], []⟩) R { s with heap := s.heap.push (set0 w) } := by
  have at0 : (s.heap.push (set0 w)).get? s.heap.objs.size = some (set0 w) := Heap.get?_push_size _ rfl
  have li := hl.push (set0 w)
  obtain ⟨⟨lc, ld, la, ls⟩, el, cl, nl, dl⟩ := id li
  dsimp only at cl dl
  subst cl dl
  have ne : l ≠ s.heap.objs.size := by
    obtain ⟨o, e, _⟩ := hl
    exact Nat.ne_of_lt (Heap.lt_size e)
  have n1 := F.sub_list_set
  have n2 := F.sub_list_frozenset
  refine codeAny_call_builtin F.called_set.init.plain F.entry_set_init (check_set_init_1 ⟨_, at0, rfl⟩ ?_)
  unfold Builtin.«set.__init__» Builtin.Frozenset.updateFrom
  wp_walk using wpAny_pyIter_list li
  have old : ∀ {b : Addr} {o : Obj}, s.heap.get? b = some o → b ≠ s.heap.objs.size ∧ b ≠ (s.heap.push (set0 w)).objs.size := fun e => by
    have := Heap.lt_size e
    rw [Heap.size_push]
    exact ⟨Nat.ne_of_lt this, Nat.ne_of_lt (Nat.lt_succ_of_lt this)⟩
  have lf : l ≠ (s.heap.push (set0 w)).objs.size := by
    have := Heap.lt_size el
    exact Nat.ne_of_lt this
  have far : s.heap.objs.size ∉ [(s.heap.push (set0 w)).objs.size, l] := by
    simp only [Heap.size_push, List.mem_cons, List.not_mem_nil, or_false, not_or]
    exact ⟨by omega, Ne.symm ne⟩
  have sz : items.size = ns.length := by simpa using hi.length
  refine set_update_ints (Walks.list (by simp [hh]) (s.heap.push (set0 w)).objs.size l lf items).toS s.heap.objs.size far ns sz hb (fun i v e => ?_) items.size 0 _ rfl (Nat.zero_le _) ⟨⟨_, Heap.get?_push_size _ rfl, rfl, rfl⟩, li.push _⟩
    ⟨0, Nat.le_refl _, setR_new_at (Heap.get?_push_of_some _ at0)⟩ fun s' c mv hc R2 => ?_
  · obtain ⟨t, e2⟩ := IntsAre.int_at hi i v (by rwa [Array.getElem?_toList])
    have hlt : i < ns.length := by rw [← sz]; exact (Array.getElem?_eq_some_iff.mp e).1
    exact ⟨ns[i], t, List.getElem?_eq_getElem hlt, by rw [e2, List.getD_eq_getElem?_getD, List.getElem?_eq_getElem hlt, Option.getD_some]⟩
  · obtain ⟨h2, g2, d2, t2, o2⟩ := s'
    obtain rfl : g2 = s.gens := mv.gens
    obtain rfl : d2 = s.drawn := mv.drawn
    obtain rfl : o2 = s.os := mv.os
    refine wpAny_pure (wpAny_pure (q h2 t2 c R2 (by omega) fun b o e => mv.heap b o ?_ (Heap.get?_push_of_some _ (Heap.get?_push_of_some _ e))))
    have := old e
    simp only [List.mem_cons, List.not_mem_nil, or_false, not_or]
    exact this
theorem set_of_ints {l : Addr} {items : Array Value} (ns : List Int) {Q : Value → Shared → Prop} (hh : A.handled = none) (hl : s.heap.IsList l items) (hi : IntsAre items.toList ns) (hb : ns.length + 1 < scanBound)
    (q : ∀ (h' : Heap) (tk c : Nat), SetR w h' s.heap.objs.size (fun j => decide (j ∈ ns)) c → c ≤ ns.length → (∀ b o, s.heap.get? b = some o → h'.get? b = some o) → Q (.ref s.heap.objs.size) { s with heap := h', toks := tk }) :
    wpAny (model prog w) A (call (.type "set") [.ref l]) Q E s := by
  have new := code_set_led1 (P := prog) (w := w) (A := A.in1) (s := s) (E := E) (.ref l) (Q₁ := fun obj u => obj = .ref s.heap.objs.size ∧ u = { s with heap := s.heap.push (set0 w) }) ⟨rfl, rfl⟩
  have at0 : (s.heap.push (set0 w)).get? s.heap.objs.size = some (set0 w) := Heap.get?_push_size _ rfl
  have ini := set_init_ints (prog := prog) (w := w) (A := A.in1) ns (R := wants (fun r u => r = .none ∧ Q (.ref s.heap.objs.size) u) E) (by simp [hh]) hl hi hb fun h' tk c a b k => ⟨rfl, q h' tk c a b k⟩
  have f := F.called_set
  have f1 := f.notType
  have f2 := f.canCreate
  have f3 := F.typeCall_set_1 (.ref l)
  have f4 := f.made
  have f5 := f.sub
  have f6 := f.init.lookup
  have f7 := f.init.bind (.ref s.heap.objs.size)
  obtain ⟨_, _, f8⟩ := f.mro
  refine wpAny_call (codeAny_of_tree (wpAny_pure ⟨Code.quiet_builtin _ (by decide +kernel), codeAny_builtin F.entry_type_call ?_⟩))
  rw [Around.under_plain (weight_type_call_type "set" [.ref l] []) rfl]
  unfold Builtin.«type.__call__»
  wp_walk
  refine codeAny_mono new fun r u hr => ?_
  match r, hr with
  | .error e, hr => exact hr
  | .ok (.ret v), ⟨e1, e2⟩ =>
    subst e1 e2
    have ty : ∀ tk, (⟨s.heap.push (set0 w), s.gens, s.drawn, tk, s.os⟩ : Shared).TypeIs (.ref s.heap.objs.size) "set" := fun _ => ⟨_, at0, rfl⟩
    wp_walk
    refine codeAny_mono ini fun r u hr => ?_
    match r, hr with
    | .error e, hr => exact hr
    | .ok (.ret v), ⟨e1, hq⟩ =>
      subst e1
      wp_walk
      exact hq
end
def insU (x : Int) : List Int → List Int
  | [] => [x]
  | y :: ys => if x < y then x :: y :: ys else if x = y then y :: ys else y :: insU x ys
def sortU : List Int → List Int
  | [] => []
  | x :: xs => insU x (sortU xs)
theorem mem_insU {x k : Int} : ∀ {l : List Int}, k ∈ insU x l ↔ k = x ∨ k ∈ l
  | [] => by simp [insU]
  | y :: ys => by
    unfold insU
    split
    · simp
    · split
      · rename_i h
        subst h
        simp
      · rw [List.mem_cons, mem_insU, List.mem_cons]
        exact ⟨fun h => by rcases h with h | h | h <;> simp [h], fun h => by rcases h with h | h | h <;> simp [h]⟩
theorem mem_sortU {k : Int} : ∀ {l : List Int}, k ∈ sortU l ↔ k ∈ l
  | [] => by simp [sortU]
  | x :: xs => by rw [sortU, mem_insU, mem_sortU, List.mem_cons]
theorem insU_pw {x : Int} : ∀ {l : List Int}, l.Pairwise (· < ·) → (insU x l).Pairwise (· < ·)
  | [], _ => by simp [insU]
  | y :: ys, h => by
    obtain ⟨h1, h2⟩ := List.pairwise_cons.1 h
    unfold insU
    split
    · rename_i c
      refine List.pairwise_cons.2 ⟨fun z hz => ?_, h⟩
      rcases List.mem_cons.1 hz with rfl | hz
      · exact c
      · exact Int.lt_trans c (h1 z hz)
    · split
      · exact h
      · refine List.pairwise_cons.2 ⟨fun z hz => ?_, insU_pw h2⟩
        rcases mem_insU.1 hz with rfl | hz
        · omega
        · exact h1 z hz
theorem sortU_pw : ∀ l : List Int, (sortU l).Pairwise (· < ·)
  | [] => .nil
  | x :: xs => insU_pw (sortU_pw xs)
theorem insU_len {x : Int} : ∀ {l : List Int}, (insU x l).length ≤ l.length + 1
  | [] => by simp [insU]
  | y :: ys => by
    have := insU_len (x := x) (l := ys)
    unfold insU
    split
    · simp
    · split <;> simp <;> omega
theorem sortU_len : ∀ {l : List Int}, (sortU l).length ≤ l.length
  | [] => Nat.le_refl _
  | x :: xs => by
    have := insU_len (x := x) (l := sortU xs)
    have := sortU_len (l := xs)
    rw [sortU, List.length_cons]
    omega
theorem asc_uniq : ∀ {a b : List Int}, a.Pairwise (· < ·) → b.Pairwise (· < ·) → (∀ k, k ∈ a ↔ k ∈ b) → a = b
  | [], [], _, _, _ => rfl
  | [], y :: ys, _, _, h => by have := (h y).2 (List.mem_cons_self ..); cases this
  | x :: xs, [], _, _, h => by have := (h x).1 (List.mem_cons_self ..); cases this
  | x :: xs, y :: ys, ha, hb, h => by
    obtain ⟨a1, a2⟩ := List.pairwise_cons.1 ha
    obtain ⟨b1, b2⟩ := List.pairwise_cons.1 hb
    have e : x = y := by
      rcases List.mem_cons.1 ((h x).1 (List.mem_cons_self ..)) with e | m
      · exact e
      · rcases List.mem_cons.1 ((h y).2 (List.mem_cons_self ..)) with e | m2
        · exact e.symm
        · have := b1 x m
          have := a1 y m2
          omega
    subst e
    rw [asc_uniq a2 b2 fun k => ⟨fun m => ?_, fun m => ?_⟩]
    · rcases List.mem_cons.1 ((h k).1 (List.mem_cons_of_mem _ m)) with e | q
      · have := a1 k m
        omega
      · exact q
    · rcases List.mem_cons.1 ((h k).2 (List.mem_cons_of_mem _ m)) with e | q
      · have := b1 k m
        omega
      · exact q
section
variable {X : Cx} {e : Expr} {es : List Expr} {fs : Ma} {pos pos2 p p2 : Pos}
def Thn (K : Fg) (r1 r2 : List V → Hp → VK → Prop) (g : List Wd → Option Wd) : Prop :=
  ∀ (mu : List Addr) (T : Addr → Prop) (S : Sto) (ws : List Wd) (w : Wd) (H : Hp) (xs : List V) (Q : VK), StOk K mu T H S → Bn mu T H → RpAll K mu T H xs ws → g ws = some w → (∀ v H', Same H H' → Rp K mu T H' v w → Q v H') → r2 xs H fun x H1 => r1 [x] H1 Q
theorem thn_weak {K : Fg} {r1 r2 : List V → Hp → VK → Prop} {g : List Wd → Option Wd} (h : Thn K r1 r2 g) : ∀ σ H Q, tD K (mCB g fs) σ H Q → tCB r1 (tCons (tCB r2 (tDa K fs)) tNil) σ H Q := fun σ H Q ⟨ρ, S, mu, B, O, rl, w, S', e1, q⟩ => by
  obtain ⟨xs, S1, e2, e1⟩ := R.bnd_inv e1
  obtain ⟨e3, rfl⟩ := R.of_inv e1
  exact tDa.mk rl e2 fun vs H1 mu1 E r p1 => h mu1 _ S1 xs w H1 vs Q r.sto r.bn p1 e3 fun v H2 sm pv => q v H2 mu1 (E.trans (.same sm)) (r.sto.same sm) pv
theorem de_BT {id T : String} {x y : Str} {r1 r2 : List V → Hp → VK → Prop} {g : List Wd → Option Wd} (h : Thn X.K r1 r2 g) (h1 : CallR X (.builtin id) r1) (h2 : CallR X (.type T) r2) (hg : Gl X x) (hm : X.mg x = none) (hv : bootBuiltins x = some (.builtin id))
    (hg2 : Gl X y) (hm2 : X.mg y = none) (hv2 : bootBuiltins y = some (.type T)) (ha : Da X (e :: es) fs) (hn : x ≠ "__name__" := by decide) (hd : (x == ("__debug__" : Str)) = false := by decide) (hn2 : y ≠ "__name__" := by decide) (hd2 : (y == ("__debug__" : Str)) = false := by decide)
    (he : starEach (e :: es) X.env = (false, eval e X.env) :: starEach es X.env := by rfl) (hpl : (backTo pos2 (starEach es X.env)).any (·.1) = false := by rfl) : De X (.Call (.Name x p) [.Call (.Name y p2) (e :: es) [] pos2] [] pos) (mCB g fs) :=
  PE.weak (pe_callB h1 hg hm hv (pa_cons (pe_callTy h2 hg2 hm2 hv2 ha hn2 hd2 he hpl) pa_nil) hn hd) (thn_weak h)
theorem bt_set : bootBuiltins "set" = some (.type "set") := by decide +kernel
end
end DL
namespace WF
open PySem PySem.Spec PyProof.Rows L2 DL
def m_feed_k01 : Ms := (sRet (mRec ["cells", "at", "left", "count"] (aCons (mCB gList (aCons (mSl (mV 0) oNone (oSome (mC (.int 63)))) aNil)) (aCons (mC (.int 0)) (aCons (mC (.int 0)) (aCons (mC (.int 0)) aNil))))))
def g_feed_k01 : Gd := runDef 1 1 m_feed_k01
end WF
namespace WF
open PySem PySem.Spec PyProof.Rows L2 DL
def m_draw_k01 : Ms := (sSeq (sPut (mV 0) "count" (mBin gAdd (mIx (mV 0) (mC (.str "count"))) (mC (.int 1)))) (sSeq (sIf (mTru (mBin gGt (mIx (mV 0) (mC (.str "left"))) (mC (.int 0)))) (sSeq (sSet 2 (mBin gMod (mCB gInt (aCons (mIx (mV 0) (mC (.str "left"))) aNil)) (mV 1))) (sSeq (sPut (mV 0) "left" (mBin gDiv (mIx (mV 0) (mC (.str "left"))) (mV 1))) (sRet (mV 2)))) sNil) (sSeq (sSet 3 (mIx (mV 0) (mC (.str "at")))) (sSeq (sPut (mV 0) "at" (mBin gAdd (mV 3) (mC (.int 1)))) (sSeq (sSet 4 (mIf (mTru (mBin gNe (mIx (mV 0) (mC (.str "cells"))) (mLst aNil))) (mIx (mIx (mV 0) (mC (.str "cells"))) (mBin gMod (mCB gInt (aCons (mV 3) aNil)) (mCB gLen (aCons (mIx (mV 0) (mC (.str "cells"))) aNil)))) (mC (.int 47)))) (sSeq (sIf (mAndT (mTru (mBin gGe (mV 4) (mBin gPow (mC (.int 10)) (mC (.int 18))))) (mTru (mBin gLt (mV 3) (mCB gLen (aCons (mIx (mV 0) (mC (.str "cells"))) aNil))))) (sSeq (sPut (mV 0) "left" (mBin gDiv (mV 4) (mV 1))) (sRet (mBin gMod (mCB gInt (aCons (mV 4) aNil)) (mV 1)))) sNil) (sSeq (sSet 5 (mBin gMod (mCB gInt (aCons (mBin gAdd (mBin gAdd (mBin gMod (mCB gInt (aCons (mV 4) aNil)) (mC (.int 1000000531))) (mBin gMul (mC (.int 230017)) (mIx (mV 0) (mC (.str "count"))))) (mC (.int 101))) aNil)) (mC (.int 2147482951)))) (sSeq (sSet 5 (mBin gMod (mCB gInt (aCons (mBin gAdd (mBin gAdd (mBin gMul (mV 5) (mV 5)) (mBin gMul (mC (.int 5100007)) (mIx (mV 0) (mC (.str "count"))))) (mC (.int 59))) aNil)) (mC (.int 2147482949)))) (sRet (mBin gMod (mCB gInt (aCons (mBin gDiv (mBin gMod (mCB gInt (aCons (mBin gAdd (mBin gMul (mV 5) (mV 5)) (mBin gMul (mC (.int 103)) (mV 5))) aNil)) (mC (.int 2147482873))) (mC (.int 16))) aNil)) (mV 1)))))))))))
def g_draw_k01 : Gd := runDef 6 2 m_draw_k01
end WF
namespace DL
open PySem PySem.Spec PyProof.Rows L2
section
variable {X : Cx} {x : Str} {c : Value} {body suite : List Stmt} {b₀ : Stmt} {np pos pos' : Pos} {m : Ms}
end
end DL
namespace DL
open PySem PySem.Spec PyProof.Rows L2
section
variable {ι : Type} {F : ι → Cx} {K : Fg} {vs : List Nat} {pos : Pos}
end
section
variable {X : Cx}
end
section
variable {prog : Program} {w : World} {A : Around} {E : Value → Shared → Prop} {s : Shared}
end
section
variable {X : Cx} {e : Expr} {f : Mx} {pos : Pos}
end
section
variable {X : Cx} {e e2 : Expr} {ta : TA} {p pos tpos : Pos} {elts : List Expr} {kk : Nat}
end
section
variable {X : Cx} {pos xp : Pos} {i : Nat} {x : Str} {b : Expr} {fb : Mx}
end
end DL
namespace DL
open PySem PySem.Spec PyProof.Rows L2
def gIadd : Wd → Wd → Option Wd
  | .int i, .int j => some (.int (i + j))
  | .str a, .str b => if a.length + b.length ≤ sizeLine then some (.str (a ++ b)) else none
  | _, _ => none
def sAug (i : Nat) (g : Wd → Wd → Option Wd) (f : Mx) : Ms := fun ρ S => match ρ[i]? with
  | some (some (.val x)) => sOf (f ρ S) fun y S1 => match g x y with
    | some w => .nx (ρ.set i (some (.val w))) S1
    | none => .bad
  | _ => .bad
section
variable {X : Cx} {e : Expr} {f : Mx} {pos pos' : Pos} {op : Operator} {g : Wd → Wd → Option Wd}
theorem od_iadd : OpD X (inplaceOp .Add) gIadd := by
  intro pins s σ H x y v u Q mu T S dx dy w I rx ry st bn r1 r2 e q
  unfold gIadd at e
  split at e
  · cases e; cases r1; cases r2
    exact iop_add pins s σ H _ _ v u Q I rx ry ⟨_, _, rfl, rfl, q _ H (Same.refl H) (.int _)⟩
  · obtain ⟨hz, rfl⟩ := ite_inv e
    cases r1; cases r2
    exact iop_add_str pins s σ H _ _ v u Q I rx ry ⟨_, _, rfl, rfl, hz, q _ H (Same.refl H) (.str _)⟩
  · cases e
theorem ds_aug {i : Nat} {x : Str} (hN : X.N.Nodup) (hi : X.N[i]? = some x) (hx : Loc X.env.scope x) (ho : OpD X (inplaceOp op) g) (he : De X e f)
    (hf : X.fn x = true ∨ X.env.scope.names.lookup x = some .local := by first | exact .inl rfl | exact .inr rfl | assumption) : Ds X (.AugAssign (.Name x pos') op e pos) (sAug i g f) := by
  have hp : PIp X op fun a b H Q => ∃ mu T S dx dy w, StOk X.K mu T H S ∧ Bn mu T H ∧ Rp X.K mu T H a dx ∧ Rp X.K mu T H b dy ∧ g dx dy = some w ∧ ∀ v H', Same H H' → Rp X.K mu T H' v w → Q v H' :=
    fun pins s σ H a b v u Q I ra rb ⟨mu, T, S, dx, dy, w, st, bn, r1, r2, e, q⟩ => ho pins s σ H a b v u Q mu T S dx dy w I ra rb st bn r1 r2 e q
  refine PS.weak (ps_aug hN hi hx he hp hf) fun D σ H ⟨ρ, S, mu, B, O, rl, q⟩ => ?_
  unfold sAug at q
  split at q
  · rename_i dx hd
    obtain ⟨v, hv, rv⟩ := rl.val i dx hd
    refine ⟨v, hv, ?_⟩
    cases z : f ρ S with
    | bad => rw [z] at q; exact q.elim
    | ok y S1 =>
      rw [z, sOf_ok] at q
      refine tD.mk rl z fun b H1 mu1 E r p => ?_
      cases z2 : g dx y with
      | none => rw [z2] at q; exact q.elim
      | some w =>
        rw [z2] at q
        refine ⟨mu1, _, S1, dx, y, w, r.sto, r.bn, rv.ext E, p, z2, fun c H2 sm pc => ?_⟩
        have E2 := E.trans (.same sm)
        have st2 := r.sto.same sm
        exact q _ H2 mu1 O (E2.toS st2) ((r.ext (.same sm) st2).set i pc)
  · exact q.elim
end
def pickL {α : Type} (xs : List α) (lo hi st : Option Int) : List α :=
  (sliceRange (sliceBounds lo hi st xs.length).1 (sliceBounds lo hi st xs.length).2.1 (sliceBounds lo hi st xs.length).2.2).filterMap (xs[·]?)
theorem pick_pickL (items : List Value) (lo hi st : Option Int) : slicePick items.toArray lo hi st = (pickL items lo hi st).toArray := by
  unfold slicePick pickL
  simp only [List.size_toArray, List.getElem?_toArray]
theorem vals_pick {vs : List V} {us : List Value} (h : Vals vs us) (lo hi st : Option Int) : Vals (pickL vs lo hi st) (pickL us lo hi st) := by
  unfold pickL
  rw [h.length]
  generalize sliceRange _ _ _ = ks
  induction ks with
  | nil => exact .nil
  | cons k ks ih =>
    rw [List.filterMap_cons, List.filterMap_cons]
    cases e : vs[k]? with
    | none =>
      have : us[k]? = none := by
        rw [List.getElem?_eq_none_iff] at e ⊢
        rw [← h.length]
        exact e
      rw [this]
      exact ih
    | some v =>
      obtain ⟨u, hu, r⟩ := h.get e
      rw [hu]
      exact .cons r ih
theorem rp_pick {K : Fg} {mu : List Addr} {T : Addr → Prop} {H : Hp} {vs : List V} {ws : List Wd} (h : RpAll K mu T H vs ws) (lo hi st : Option Int) : RpAll K mu T H (pickL vs lo hi st) (pickL ws lo hi st) := by
  unfold pickL
  rw [h.length]
  generalize sliceRange _ _ _ = ks
  induction ks with
  | nil => exact .nil
  | cons k ks ih =>
    rw [List.filterMap_cons, List.filterMap_cons]
    cases e : ws[k]? with
    | none =>
      have : vs[k]? = none := by
        rw [List.getElem?_eq_none_iff] at e ⊢
        rw [h.length]
        exact e
      rw [this]
      exact ih
    | some w =>
      obtain ⟨v, hv, r⟩ := h.get e
      rw [hv]
      exact .cons r ih
theorem pick_len {α : Type} (xs : List α) (lo hi st : Option Int) (a : Array Value) (h : a.size = xs.length) : (pickL xs lo hi st).length ≤ xs.length := by
  have h1 := slicePick_size_le a lo hi st
  unfold pickL
  unfold slicePick at h1
  rw [h] at h1
  rw [List.size_toArray] at h1
  refine Nat.le_trans (Nat.le_of_eq ?_) h1
  generalize sliceRange _ _ _ = ks
  induction ks with
  | nil => rfl
  | cons k ks ih =>
    rw [List.filterMap_cons, List.filterMap_cons]
    by_cases c : k < xs.length
    · rw [List.getElem?_eq_getElem c, Array.getElem?_eq_getElem (by omega)]
      simp only [List.length_cons, ih]
    · rw [List.getElem?_eq_none (by omega), Array.getElem?_eq_none (by omega)]
      exact ih
def gSlk (k : Int) (lo hi : Option Int) : Wd → Option Wd
  | .list ws => if k = 0 then none else some (.list (pickL ws lo hi (some k)))
  | _ => none
def mSlk (k : Int) (f : Mx) (lo hi : Mo) : Mx := fun ρ S => (f ρ S).bnd fun x S1 => (lo ρ S1).bnd fun l S2 => (hi ρ S2).bnd fun u S3 => R.of (gSlk k l u x) S3
section
variable {X : Cx} {e : Expr} {lo hi : Option Expr} {f : Mx} {ml mh : Mo} {pos p2 p3 : Pos}
theorem de_slk {n kk : Nat} (he : De X e f) (hl : Dso X lo ml) (hh : Dso X hi mh) : De X (.Subscript e (.Slice lo hi (some (.Constant (.int n) kk p3)) p2) pos) (mSlk n f ml mh) := by
  refine ⟨fun pins s σ H Q I ⟨ρ, S, mu, B, O, rl, w, S', e1, q⟩ => ?_⟩
  obtain ⟨w0, S1, a1, e1⟩ := R.bnd_inv e1
  obtain ⟨l0, S2, a2, e1⟩ := R.bnd_inv e1
  obtain ⟨h0, S3, a3, e1⟩ := R.bnd_inv e1
  obtain ⟨e3, rfl⟩ := R.of_inv e1
  have st : PO X (some (.Constant (.int n) kk p3)) (tPart (tC (.int n))) := po_some pe_int
  refine Subscript_ (thn (he.run pins s σ H (fun v H1 => ∃ ws mu1, w0 = .list ws ∧ (n : Int) ≠ 0 ∧ w = .list (pickL ws l0 h0 (some n)) ∧ Rp X.K mu1 (fun a => B a ∨ O a) H1 v (.list ws) ∧ Ext mu mu1 H H1 ∧ Rel X.K mu1 B O H1 σ ρ S1) I (tD.mk rl a1 fun v H1 mu1 E r p => ?_)) fun v s1 ⟨x, H1, I1, r1, ws, mu1, ew, hk, ew2, hr, E1, rl1⟩ => ?_)
  · unfold gSlk at e3
    split at e3
    · split at e3
      · cases e3
      · rename_i hk
        cases e3
        exact ⟨_, mu1, rfl, hk, rfl, p, E, r⟩
    · cases e3
  subst ew ew2
  refine wpAny_Slice (thn (hl.run pins s1 σ H1 (fun o H2 => o = l0 ∧ ∃ mu2, Ext mu1 mu2 H1 H2 ∧ Rel X.K mu2 B O H2 σ ρ S2) I1 (tDo.mk rl1 a2 fun H2 mu2 E r => ⟨rfl, mu2, E, r⟩)) fun vl s2 ⟨l, H2, I2, pl, el, mu2, E2, rl2⟩ => ?_)
  subst el
  refine thn (hh.run pins s2 σ H2 (fun o H3 => o = h0 ∧ ∃ mu3, Ext mu2 mu3 H2 H3 ∧ Rel X.K mu3 B O H3 σ ρ _) I2 (tDo.mk rl2 a3 fun H3 mu3 E r => ⟨rfl, mu3, E, r⟩)) fun vu s3 ⟨u, H3, I3, pu, eu, mu3, E3, rl3⟩ => ?_
  subst eu
  refine thn (st.run pins s3 σ H3 (fun o H4 => o = some (n : Int) ∧ H4 = H3) I3 ⟨n, rfl, rfl, rfl⟩) fun vs s4 ⟨o, H4, I4, ps, eo, e4⟩ => ?_
  subst eo e4
  have I5 : Inv X pins σ H4 { s4 with heap := s4.heap.push { cls := .type "slice", data := .fields #[vl, vu, vs] } } := I4.kept (t' := s4.toks) fun b ob q => Heap.get?_push_of_some _ q
  have hr := (hr.ext E2).ext E3
  cases hr with
  | @lst a xs _ t1 t2 =>
  cases r1
  obtain ⟨its, r, ht, hz⟩ := I5.list t1.sq
  have ht' : ({ s4 with heap := s4.heap.push { cls := .type "slice", data := .fields #[vl, vu, vs] } } : Shared).heap.IsList a its.toArray := ht.isList
  have hlen := r.length
  refine tail_any (ops := [.ref a, .ref s4.heap.objs.size]) ht'.typeIs PySem.slot_list_getitem.lookup (wpAny_getItem_list_slice ht' (Heap.IsSliceOf.new _ vl vu vs) pl pu ps (fun z => hk (by cases z; rfl)) ?_ (by rw [List.size_toArray]; omega)) (by with_unfolding_all rfl)
  rw [pick_pickL]
  have fr := I5.hok.fresh (Nat.le_refl _)
  refine ⟨.ref _, _, I5.laid (t' := s4.toks) (o := .lst (pickL xs l u (some n))) (fun b ob q => Heap.get?_push_of_some _ q) (Nat.le_refl _) ⟨?_, _, 0, vals_pick r l u (some n), Heap.get?_push_size _ rfl⟩, rfl, ?_⟩
  · refine Nat.le_trans (pick_len xs l u (some n) its.toArray (by rw [List.size_toArray]; exact r.length.symm)) hz
  · exact q _ _ mu3 (((E1.trans E2).trans E3).trans (.same (same_upd fr))) (rl3.sto.same (same_upd fr)) (new_lst rl3.sto rl3.bn (rp_pick t2 l u (some n)) fr)
end
section
variable {X : Cx}
end
end DL
namespace DL
open PySem PySem.Spec PyProof.Rows L2
variable {G : Bool}
section
variable {X : Cx} {k k' i : Nat} {f : Addr} {fd : FuncData} {ps : List Str} {g : Gd} {x y : Str} {xp p pos : Pos} {es : List Expr} {fs : Ma}
end
end DL
namespace WF
open PySem PySem.Spec PyProof.Rows L2 DL
def m_stays_k01 : Ms := (sSeq (sParO 2 3 (mC (.int 0))) (sSeq (sFor (iRange1 (aCons (mBin gAdd (mC (.int 1)) (mCall WF.g_draw_k01 (aCons (mV 0) (aCons (mC (.int 3)) aNil)))) aNil)) (gtN 4) (sSeq (sApp 2 (mTup (aCons (mV 3) (aCons (mIx (mBin gAdd (mV 1) (mLst (aCons (mC .none) aNil))) (mCall WF.g_draw_k01 (aCons (mV 0) (aCons (mBin gAdd (mCB gLen (aCons (mV 1) aNil)) (mC (.int 1))) aNil)))) aNil)))) (sAug 3 gIadd (mBin gAdd (mC (.int 1)) (mIx (mLst (aCons (mC (.int 0)) (aCons (mC (.int 1)) (aCons (mC (.int 4)) (aCons (mC (.int 9)) aNil))))) (mCall WF.g_draw_k01 (aCons (mV 0) (aCons (mC (.int 4)) aNil)))))))) (sFrz 2 (sRet (mCB gTuple (aCons (mV 2) aNil))))))
def g_stays_k01 : Gd := runDef 5 2 m_stays_k01
end WF
namespace WF
open PySem PySem.Spec PyProof.Rows L2 DL
def m_limit_k01 (g : Gd) : Ms := (sSeq (sSet 2 (mCall WF.g_draw_k01 (aCons (mV 0) (aCons (mC (.int 8)) aNil)))) (sSeq (sIf (mOrT (mTru (mBin gLt (mV 2) (mC (.int 5)))) (mTru (mBin gEq (mV 1) (mC (.int 0))))) (sSeq (sSet 3 (mIx (mLst (aCons (mC (.int 1)) (aCons (mC (.int 2)) (aCons (mC (.int 5)) (aCons (mC (.int 7)) (aCons (mC (.int 40)) (aCons (mC (.int 99)) aNil))))))) (mCall WF.g_draw_k01 (aCons (mV 0) (aCons (mC (.int 6)) aNil))))) (sRet (mTup (aCons (mIx (mLst (aCons (mC (.str "hours")) (aCons (mC (.str "cycles")) (aCons (mC (.str "days")) aNil)))) (mBin gMod (mCB gInt (aCons (mV 2) aNil)) (mC (.int 3)))) (aCons (mV 3) aNil))))) sNil) (sSeq (sSet 4 (mCB gTuple (aCons (mLc [5] (iRange1 (aCons (mBin gAdd (mC (.int 1)) (mCall WF.g_draw_k01 (aCons (mV 0) (aCons (mC (.int 3)) aNil)))) aNil)) (gtN 5) tTrue (mCall g (aCons (mV 0) (aCons (mBin gSub (mV 1) (mC (.int 1))) aNil)))) aNil))) (sRet (mTup (aCons (mIx (mLst (aCons (mC (.str "first")) (aCons (mC (.str "later")) aNil))) (mBin gMod (mCB gInt (aCons (mV 2) aNil)) (mC (.int 2)))) (aCons (mV 4) aNil)))))))
def g_limit_k01 : Nat → Gd
  | 0 => fun _ _ => .bad
  | n + 1 => runDef 6 2 (m_limit_k01 (g_limit_k01 n))
end WF
namespace WF
open PySem PySem.Spec PyProof.Rows L2 DL
def m_slack_k01 : Ms := (sRet (mCB gTuple (aCons (mLc [1] (iRange1 (aCons (mC (.int 3)) aNil)) (gtN 1) tTrue (mIx (mLst (aCons (mC (.int 0)) (aCons (mC (.int 0)) (aCons (mC (.int 1)) (aCons (mC (.int 3)) (aCons (mC (.int 9)) aNil)))))) (mCall WF.g_draw_k01 (aCons (mV 0) (aCons (mC (.int 5)) aNil))))) aNil)))
def g_slack_k01 : Gd := runDef 2 1 m_slack_k01
end WF
namespace WF
open PySem PySem.Spec PyProof.Rows L2 DL
def m_site_k01 : Ms := (sSeq (sSet 1 (mIx (mLst (aCons (mTup (aCons (mC (.str "lift")) (aCons (mC (.str "mill")) aNil))) (aCons (mTup (aCons (mC (.str "a")) aNil)) (aCons (mTup (aCons (mC (.str "first")) (aCons (mC (.str "machine")) (aCons (mC (.str "zzzzzzzz")) aNil)))) (aCons (mTup (aCons (mC (.str "days")) (aCons (mC (.str "part")) aNil))) aNil))))) (mCall WF.g_draw_k01 (aCons (mV 0) (aCons (mC (.int 4)) aNil))))) (sSeq (sSet 2 (mIx (mLst (aCons (mTup (aCons (mC (.str "pump")) (aCons (mC (.str "saw")) aNil))) (aCons (mTup (aCons (mC (.str "a")) (aCons (mC (.str "b")) (aCons (mC (.str "c")) (aCons (mC (.str "d")) aNil))))) (aCons (mTup (aCons (mC (.str "part")) (aCons (mC (.str "task")) aNil))) (aCons (mTup (aCons (mC (.str "x")) aNil)) aNil))))) (mCall WF.g_draw_k01 (aCons (mV 0) (aCons (mC (.int 4)) aNil))))) (sSeq (sSet 3 (mIx (mLst (aCons (mTup (aCons (mC (.str "clean")) (aCons (mC (.str "oil")) aNil))) (aCons (mTup aNil) (aCons (mTup (aCons (mC (.str "fresh")) (aCons (mC (.str "kept")) (aCons (mC (.str "task")) aNil)))) (aCons (mTup (aCons (mC (.str "a")) (aCons (mC (.str "b")) (aCons (mC (.str "c")) (aCons (mC (.str "d")) aNil))))) aNil))))) (mCall WF.g_draw_k01 (aCons (mV 0) (aCons (mC (.int 4)) aNil))))) (sSeq (sOwn 4 aNil) (sSeq (sFor (iSeq (mV 1)) (gtN 5) (sSeq (sSet 6 (mLc [11] (iRange1 (aCons (mBin gAdd (mC (.int 1)) (mCall WF.g_draw_k01 (aCons (mV 0) (aCons (mC (.int 3)) aNil)))) aNil)) (gtN 11) tTrue (mTup (aCons (mCall WF.g_draw_k01 (aCons (mV 0) (aCons (mC (.int 21)) aNil))) (aCons (mCall WF.g_draw_k01 (aCons (mV 0) (aCons (mC (.int 6)) aNil))) aNil))))) (sApp 4 (mTup (aCons (mV 5) (aCons (mCB gTuple (aCons (mV 6) aNil)) aNil)))))) (sFrz 4 (sSeq (sSet 7 (mLc [5] (iSeq (mV 2)) (gtN 5) tTrue (mTup (aCons (mV 5) (aCons (mCall WF.g_stays_k01 (aCons (mV 0) (aCons (mCB gList (aCons (mV 1) aNil)) aNil))) aNil))))) (sSeq (sOwn 8 aNil) (sSeq (sFor (iSeq (mV 3)) (gtN 5) (sSeq (sPar 9 10 (aCons (mIx (mV 2) (mCall WF.g_draw_k01 (aCons (mV 0) (aCons (mCB gLen (aCons (mV 2) aNil)) aNil)))) (aCons (mIx (mLst (aCons (mC (.str "fresh")) (aCons (mC (.str "kept")) aNil))) (mCall WF.g_draw_k01 (aCons (mV 0) (aCons (mC (.int 2)) aNil)))) aNil))) (sApp 8 (mTup (aCons (mV 5) (aCons (mV 9) (aCons (mV 10) (aCons (mCall (WF.g_limit_k01 12) (aCons (mV 0) (aCons (mC (.int 2)) aNil))) (aCons (mCall WF.g_slack_k01 (aCons (mV 0) aNil)) aNil))))))))) (sFrz 8 (sRet (mTup (aCons (mCB gTuple (aCons (mV 4) aNil)) (aCons (mCB gTuple (aCons (mV 7) aNil)) (aCons (mCB gTuple (aCons (mV 8) aNil)) aNil)))))))))))))))
def g_site_k01 : Gd := runDef 12 1 m_site_k01
end WF
namespace WF
open PySem PySem.Spec PyProof.Rows L2 DL
def m_second_site_k02 : Ms := (sSeq (sSet 0 (mTup (aCons (mTup (aCons (mC (.str "days")) (aCons (mTup (aCons (mTup (aCons (mC (.int 0)) (aCons (mC (.int 0)) aNil))) (aCons (mTup (aCons (mC (.int 20)) (aCons (mC (.int 3)) aNil))) (aCons (mTup (aCons (mC (.int 1)) (aCons (mC (.int 1)) aNil))) aNil)))) aNil))) (aCons (mTup (aCons (mC (.str "task")) (aCons (mTup (aCons (mTup (aCons (mC (.int 5)) (aCons (mC (.int 5)) aNil))) aNil)) aNil))) aNil)))) (sSeq (sSet 1 (mTup (aCons (mTup (aCons (mC (.str "machine")) (aCons (mTup (aCons (mTup (aCons (mC (.int 0)) (aCons (mC .none) aNil))) (aCons (mTup (aCons (mC (.int 1)) (aCons (mC (.str "task")) aNil))) (aCons (mTup (aCons (mC (.int 2)) (aCons (mC .none) aNil))) (aCons (mTup (aCons (mC (.int 9)) (aCons (mC (.str "days")) aNil))) aNil))))) aNil))) (aCons (mTup (aCons (mC (.str "task")) (aCons (mTup (aCons (mTup (aCons (mC (.int 0)) (aCons (mC (.str "days")) aNil))) (aCons (mTup (aCons (mC (.int 3)) (aCons (mC (.str "task")) aNil))) aNil))) aNil))) aNil)))) (sSeq (sSet 2 (mTup (aCons (mC (.str "later")) (aCons (mTup (aCons (mTup (aCons (mC (.str "first")) (aCons (mTup (aCons (mTup (aCons (mC (.str "cycles")) (aCons (mC (.int 3)) aNil))) (aCons (mTup (aCons (mC (.str "later")) (aCons (mTup (aCons (mTup (aCons (mC (.str "days")) (aCons (mC (.int 2)) aNil))) aNil)) aNil))) aNil))) aNil))) (aCons (mTup (aCons (mC (.str "hours")) (aCons (mC (.int 1)) aNil))) (aCons (mTup (aCons (mC (.str "cycles")) (aCons (mC (.int 3)) aNil))) aNil)))) aNil)))) (sSeq (sSet 3 (mTup (aCons (mTup (aCons (mC (.str "first")) (aCons (mC (.str "task")) (aCons (mC (.str "kept")) (aCons (mV 2) (aCons (mTup (aCons (mC (.int 3)) (aCons (mC (.int 1)) (aCons (mC (.int 0)) aNil)))) aNil)))))) (aCons (mTup (aCons (mC (.str "part")) (aCons (mC (.str "machine")) (aCons (mC (.str "fresh")) (aCons (mTup (aCons (mC (.str "cycles")) (aCons (mC (.int 99)) aNil))) (aCons (mTup (aCons (mC (.int 0)) (aCons (mC (.int 9)) (aCons (mC (.int 9)) aNil)))) aNil)))))) aNil)))) (sRet (mTup (aCons (mV 0) (aCons (mV 1) (aCons (mBin gAdd (mV 3) (mTup (aCons (mTup (aCons (mC (.str "task")) (aCons (mC (.str "task")) (aCons (mC (.str "kept")) (aCons (mTup (aCons (mC (.str "first")) (aCons (mTup (aCons (mTup (aCons (mC (.str "days")) (aCons (mC (.int 1)) aNil))) aNil)) aNil))) (aCons (mTup (aCons (mC (.int 0)) (aCons (mC (.int 0)) (aCons (mC (.int 5)) aNil)))) aNil)))))) aNil))) aNil)))))))))
def g_second_site_k02 : Gd := runDef 4 0 m_second_site_k02
end WF
namespace WF
open PySem PySem.Spec PyProof.Rows L2 DL
def m_first_site_k01 : Ms := (sSeq (sSet 0 (mTup (aCons (mC (.str "oil")) (aCons (mC (.str "pump")) (aCons (mC (.str "kept")) (aCons (mTup (aCons (mC (.str "first")) (aCons (mTup (aCons (mTup (aCons (mC (.str "hours")) (aCons (mC (.int 40)) aNil))) (aCons (mTup (aCons (mC (.str "days")) (aCons (mC (.int 7)) aNil))) aNil))) aNil))) (aCons (mTup (aCons (mC (.int 8)) (aCons (mC (.int 0)) (aCons (mC (.int 1)) aNil)))) aNil))))))) (sSeq (sSet 1 (mTup (aCons (mC (.str "clean")) (aCons (mC (.str "saw")) (aCons (mC (.str "fresh")) (aCons (mTup (aCons (mC (.str "days")) (aCons (mC (.int 6)) aNil))) (aCons (mTup (aCons (mC (.int 0)) (aCons (mC (.int 0)) (aCons (mC (.int 0)) aNil)))) aNil))))))) (sSeq (sSet 2 (mTup (aCons (mTup (aCons (mC (.str "lift")) (aCons (mTup (aCons (mTup (aCons (mC (.int 8)) (aCons (mC (.int 2)) aNil))) aNil)) aNil))) (aCons (mTup (aCons (mC (.str "mill")) (aCons (mTup (aCons (mTup (aCons (mC (.int 2)) (aCons (mC (.int 5)) aNil))) (aCons (mTup (aCons (mC (.int 6)) (aCons (mC (.int 0)) aNil))) aNil))) aNil))) aNil)))) (sRet (mTup (aCons (mV 2) (aCons (mTup (aCons (mTup (aCons (mC (.str "pump")) (aCons (mTup (aCons (mTup (aCons (mC (.int 0)) (aCons (mC (.str "lift")) aNil))) aNil)) aNil))) (aCons (mTup (aCons (mC (.str "saw")) (aCons (mTup (aCons (mTup (aCons (mC (.int 0)) (aCons (mC (.str "mill")) aNil))) (aCons (mTup (aCons (mC (.int 4)) (aCons (mC (.str "lift")) aNil))) aNil))) aNil))) aNil))) (aCons (mTup (aCons (mV 1) (aCons (mV 0) aNil))) aNil))))))))
def g_first_site_k01 : Gd := runDef 3 0 m_first_site_k01
end WF
namespace DL
open PySem PySem.Spec PyProof.Rows L2
section
variable {X : Cx} {e : Expr} {f : Mx} {pos bpos xpos pos' : Pos} {i : Nat} {x : Str}
end
end DL
namespace DL
open PySem PySem.Spec PyProof.Rows L2
section
variable {X : Cx}
end
abbrev kS (x : Str) : List Nat := x.cps.toList
end DL
namespace DL
open PySem PySem.Spec PyProof.Rows L2
theorem len_of_sub {α : Type} [DecidableEq α] : ∀ {l m : List α}, l.Nodup → (∀ x ∈ l, x ∈ m) → l.length ≤ m.length
  | [], _, _, _ => Nat.zero_le _
  | x :: l, m, nd, h => by
    obtain ⟨n1, n2⟩ := List.nodup_cons.mp nd
    have hx := h x List.mem_cons_self
    have := len_of_sub (l := l) (m := m.erase x) n2 fun y hy => (List.mem_erase_of_ne (fun e => n1 (by rw [← e]; exact hy))).mpr (h y (List.mem_cons_of_mem _ hy))
    rw [List.length_erase_of_mem hx] at this
    have := List.length_pos_of_mem hx
    rw [List.length_cons]
    omega
theorem setR_few {w : World} {h : Heap} {a : Addr} {ns : List Int} {c : Nat} (R : SetR w h a (fun j => decide (j ∈ ns)) c) : c ≤ (sortU ns).length := by
  obtain ⟨o, es, ep, t, _, _, _, _, nd, hm, _, _, hn, _⟩ := R
  have := len_of_sub (m := sortU ns) nd fun k hk => mem_sortU.mpr (of_decide_eq_true ((hm k).2 hk))
  rw [List.length_map, Array.length_toList, hn] at this
  exact this
section
variable {X : Cx}
def rSetIW (K : Fg) (w : World) : List V → Hp → VK → Prop := fun vs H Q => ∃ (l : Addr) (ns : List Int), vs = [V.ref l] ∧ (SqL K H l (ns.map V.int) ∨ SqT K H l (ns.map V.int)) ∧ ns.length < 1000 ∧
  ∀ (p : Addr) (c : Nat), H p = none → c ≤ (sortU ns).length → Q (.ref p) (upd H p (SetO w p (fun j => decide (j ∈ ns)) c))
theorem cr_setIW (hc : X.calm = true) : CallR X (.type "set") (rSetIW X.K X.w) := by
  intro pins s σ H vs us Q I r h
  obtain ⟨l, ns, rfl, hl, hz, q⟩ := h
  rw [Vals.ref1 r]
  have room : ns.length + 1 < scanBound := by unfold scanBound; omega
  have fin : ∀ (h' : Heap) (tk c : Nat), SetR X.w h' s.heap.objs.size (fun j => decide (j ∈ ns)) c → c ≤ ns.length → (∀ b o, s.heap.get? b = some o → h'.get? b = some o) → EP X pins σ Q (.ref s.heap.objs.size) { s with heap := h', toks := tk } := fun h' tk c R _ k =>
    ⟨.ref s.heap.objs.size, _, I.laid k (Nat.le_refl _) (setO_new R), rfl, q _ c (I.hok.fresh (Nat.le_refl _)) (setR_few R)⟩
  rcases hl with hl | hl
  · obtain ⟨its, rv, pl, _⟩ := I.list hl
    exact set_of_ints ns (I.ok.hd hc) pl.isList (by simpa using ints_of_vals rv) room fin
  · obtain ⟨its, rv, pl, _⟩ := I.tuple hl
    exact call_set_tupI ns (I.ok.hd hc) pl (by simpa using ints_of_vals rv) room fin
def gSortSetW : List Wd → Option Wd
  | [.list ws] => (intsD ws).bind fun ns => if ns.length < 1000 ∧ (sortU ns).length < 64 then some (.list ((sortU ns).map .int)) else none
  | _ => none
theorem thn_setW {K : Fg} {w : World} : Thn K (rSortedSet w) (rSetIW K w) gSortSetW := by
  intro mu T S ws d H xs Q st bn p e q
  unfold gSortSetW at e
  split at e
  · obtain ⟨ns, e1, e⟩ := Option.bind_eq_some_iff.mp e
    obtain ⟨hl, rfl⟩ := ite_inv e
    cases p with
    | cons p1 p2 =>
      cases p2
      cases p1 with
      | lst a b =>
        have z := ints_of b e1
        subst z
        refine ⟨_, ns, rfl, .inl a.sq, hl.1, fun a c hn hc => ⟨a, _, c, rfl, upd_same, by omega, fun ms b pw hm _ hb => ?_⟩⟩
        obtain rfl : ms = sortU ns := asc_uniq pw (sortU_pw ns) fun k => by rw [hm, mem_sortU, decide_eq_true_iff]
        have sm := same_upd (o := SetO w a (fun j => decide (j ∈ ns)) c) hn
        exact q _ _ (fun x o z => same_upd hb _ _ (sm _ _ z)) (new_lst (st.same sm) (bn.ext (.same sm)) (rp_ints _) hb)
  · cases e
end
end DL
namespace WF
open PySem PySem.Spec PyProof.Rows L2 DL
def m_days_of_k04 : Ms := (sSeq (sOwn 1 (aCons (mC (.int 0)) (aCons (mC (.int 1)) (aCons (mC (.int 99)) (aCons (mBin gPow (mC (.int 10)) (mC (.int 59))) aNil))))) (sSeq (sFor (iSeq (mIx (mV 0) (mC (.int 1)))) (gtT (gtCons (gtN 2) (gtCons (gtN 3) gtNil))) (sFor (iSeq (mV 3)) (gtT (gtCons (gtN 4) (gtCons (gtN 5) gtNil))) (sExt 1 (mLst (aCons (mCB gMax (aCons (mC (.int 0)) (aCons (mBin gSub (mV 4) (mC (.int 1))) aNil))) (aCons (mV 4) (aCons (mBin gAdd (mV 4) (mC (.int 1))) aNil))))))) (sFrz 1 (sRet (mCB gSortSetW (aCons (mBin gAdd (mV 1) (mLc [2, 6] (iSeq (mIx (mV 0) (mC (.int 0)))) (gtT (gtCons (gtN 2) (gtCons (gtN 6) gtNil))) tTrue (mCB gLen (aCons (mV 6) aNil)))) aNil))))))
def g_days_of_k04 : Gd := runDef 7 1 m_days_of_k04
end WF
namespace WF
open PySem PySem.Spec PyProof.Rows L2 DL
def m_place_k04 : Ms := (sRet (mIx (mLc [2] (iSeq (mV 0)) (gtN 2) (mTru (mBin gLe (mIx (mV 2) (mC (.int 0))) (mV 1))) (mIx (mV 2) (mC (.int 1)))) (mUn gNeg (mC (.int 1)))))
def g_place_k04 : Gd := runDef 3 2 m_place_k04
end WF
namespace WF
open PySem PySem.Spec PyProof.Rows L2 DL
def m_require_usable : Ms := (sIf (mNotT (mTru (mV 0))) sBad sNil)
def g_require_usable : Gd := runDef 3 3 m_require_usable
end WF
namespace WF
open PySem PySem.Spec PyProof.Rows L2 DL
def m_is_name : Ms := (sSeq (sIf (mOrT (mNotT (mTru (mUn (gIsi "str") (mV 0)))) (mNotT (mTru (mChain gLe gLe (mC (.int 1)) (mCB gLen (aCons (mV 0) aNil)) (mC (.int 8)))))) (sRet (mC (.bool false))) sNil) (sRet (mCB gAll (aCons (mLc [1] (DL.iStr (mV 0)) (gtN 1) tTrue (mBin gIn (mV 1) (mC (.str "abcdefghijklmnopqrstuvwxyz")))) aNil))))
def g_is_name : Gd := runDef 2 1 m_is_name
end WF
namespace WF
open PySem PySem.Spec PyProof.Rows L2 DL
def m_index_among : Ms := (sSeq (sExpr (mCall WF.g_require_usable (aCons (mAnd (mCall WF.g_is_name (aCons (mV 1) aNil)) (mBin gIn (mV 1) (mV 0))) (aCons (mV 2) (aCons (mUn gNeg (mC (.int 1))) aNil))))) (sRet (mBin gIndex (mV 0) (mV 1))))
def g_index_among : Gd := runDef 3 3 m_index_among
end WF
namespace WF
open PySem PySem.Spec PyProof.Rows L2 DL
def m_part_names : Ms := (sRet (mLc [1, 2] (iSeq (mIx (mV 0) (mC (.int 1)))) (gtT (gtCons (gtN 1) (gtCons (gtN 2) gtNil))) tTrue (mV 1)))
def g_part_names : Gd := runDef 3 1 m_part_names
end WF
namespace WF
open PySem PySem.Spec PyProof.Rows L2 DL
def m_stays_of : Ms := (sRet (mIx (mIx (mIx (mV 0) (mC (.int 1))) (mCall WF.g_index_among (aCons (mCall WF.g_part_names (aCons (mV 0) aNil)) (aCons (mV 1) (aCons (mC (.str "part")) aNil))))) (mC (.int 1))))
def g_stays_of : Gd := runDef 2 2 m_stays_of
end WF
namespace WF
open PySem PySem.Spec PyProof.Rows L2 DL
def m_is_integer : Ms := (sRet (mAnd (mUn (gIsi "int") (mV 0)) (mNot (mUn (gIsi "bool") (mV 0)))))
def g_is_integer : Gd := runDef 1 1 m_is_integer
end WF
namespace WF
open PySem PySem.Spec PyProof.Rows L2 DL
def m_is_number : Ms := (sRet (mAnd (mCall WF.g_is_integer (aCons (mV 0) aNil)) (mBin gGe (mV 0) (mC (.int 0)))))
def g_is_number : Gd := runDef 1 1 m_is_number
end WF
namespace WF
open PySem PySem.Spec PyProof.Rows L2 DL
def m_require_day : Ms := (sExpr (mCall WF.g_require_usable (aCons (mCall WF.g_is_number (aCons (mV 0) aNil)) (aCons (mC (.str "day")) (aCons (mUn gNeg (mC (.int 1))) aNil)))))
def g_require_day : Gd := runDef 1 1 m_require_day
end WF
namespace WF
open PySem PySem.Spec PyProof.Rows L2 DL
def m_place_on : Ms := (sRet (mIx (mLc [2, 3] (iSeq (mV 0)) (gtT (gtCons (gtN 2) (gtCons (gtN 3) gtNil))) (mTru (mBin gLe (mV 2) (mV 1))) (mV 3)) (mUn gNeg (mC (.int 1)))))
def g_place_on : Gd := runDef 4 2 m_place_on
end WF
namespace WF
open PySem PySem.Spec PyProof.Rows L2 DL
def m_place_of : Ms := (sSeq (sSet 3 (mCall WF.g_stays_of (aCons (mV 0) (aCons (mV 1) aNil)))) (sSeq (sExpr (mCall WF.g_require_day (aCons (mV 2) aNil))) (sRet (mCall WF.g_place_on (aCons (mV 3) (aCons (mV 2) aNil))))))
def g_place_of : Gd := runDef 4 3 m_place_of
end WF
namespace WF
open PySem PySem.Spec PyProof.Rows L2 DL
def m_machine_names : Ms := (sRet (mLc [1, 2] (iSeq (mIx (mV 0) (mC (.int 0)))) (gtT (gtCons (gtN 1) (gtCons (gtN 2) gtNil))) tTrue (mV 1)))
def g_machine_names : Gd := runDef 3 1 m_machine_names
end WF
namespace WF
open PySem PySem.Spec PyProof.Rows L2 DL
def m_uses_of : Ms := (sRet (mIx (mIx (mIx (mV 0) (mC (.int 0))) (mCall WF.g_index_among (aCons (mCall WF.g_machine_names (aCons (mV 0) aNil)) (aCons (mV 1) (aCons (mC (.str "machine")) aNil))))) (mC (.int 1))))
def g_uses_of : Gd := runDef 2 2 m_uses_of
end WF
namespace WF
open PySem PySem.Spec PyProof.Rows L2 DL
def m_use_on : Ms := (sRet (mIx (mV 0) (mCB gMin (aCons (mV 1) (aCons (mBin gSub (mCB gLen (aCons (mV 0) aNil)) (mC (.int 1))) aNil)))))
def g_use_on : Gd := runDef 2 2 m_use_on
end WF
namespace WF
open PySem PySem.Spec PyProof.Rows L2 DL
def m_use_of : Ms := (sSeq (sSet 3 (mCall WF.g_uses_of (aCons (mV 0) (aCons (mV 1) aNil)))) (sSeq (sExpr (mCall WF.g_require_day (aCons (mV 2) aNil))) (sRet (mCall WF.g_use_on (aCons (mV 3) (aCons (mV 2) aNil))))))
def g_use_of : Gd := runDef 4 3 m_use_of
end WF
namespace WF
open PySem PySem.Spec PyProof.Rows L2 DL
def m_use_k04 : Ms := (sSeq (sIf (mTru (mBin gIsN (mV 1) (mC .none))) (sRet (mTup (aCons (mC (.int 0)) (aCons (mC (.int 0)) aNil)))) sNil) (sSeq (sSet 3 (mIx (mCB gDict (aCons (mV 0) aNil)) (mV 1))) (sRet (mIx (mV 3) (mCB gMin (aCons (mV 2) (aCons (mBin gSub (mCB gLen (aCons (mV 3) aNil)) (mC (.int 1))) aNil)))))))
def g_use_k04 : Gd := runDef 4 3 m_use_k04
end WF
namespace WF
open PySem PySem.Spec PyProof.Rows L2 DL
def m_require_place : Ms := (sExpr (mCall WF.g_require_usable (aCons (mOr (mBin gIsN (mV 1) (mC .none)) (mAnd (mCall WF.g_is_name (aCons (mV 1) aNil)) (mBin gIn (mV 1) (mCall WF.g_machine_names (aCons (mV 0) aNil))))) (aCons (mC (.str "place")) (aCons (mUn gNeg (mC (.int 1))) aNil)))))
def g_require_place : Gd := runDef 2 2 m_require_place
end WF
namespace WF
open PySem PySem.Spec PyProof.Rows L2 DL
def m_parts_at : Ms := (sSeq (sExpr (mCall WF.g_require_place (aCons (mV 0) (aCons (mV 1) aNil)))) (sSeq (sExpr (mCall WF.g_require_day (aCons (mV 2) aNil))) (sRet (mCB gTuple (aCons (mLc [3, 4] (iSeq (mIx (mV 0) (mC (.int 1)))) (gtT (gtCons (gtN 3) (gtCons (gtN 4) gtNil))) (mTru (mBin gEq (mCall WF.g_place_on (aCons (mV 4) (aCons (mV 2) aNil))) (mV 1))) (mV 3)) aNil)))))
def g_parts_at : Gd := runDef 5 3 m_parts_at
end WF
namespace WF
open PySem PySem.Spec PyProof.Rows L2 DL
def m_days_right_k04 : Ms := (sSeq (sFor (iSeq (mCall WF.g_days_of_k04 (aCons (mV 0) aNil))) (gtN 1) (sSeq (sSet 2 (mLc [7, 8] (iSeq (mIx (mV 0) (mC (.int 1)))) (gtT (gtCons (gtN 7) (gtCons (gtN 8) gtNil))) tTrue (mTup (aCons (mV 7) (aCons (mCall WF.g_place_k04 (aCons (mV 8) (aCons (mV 1) aNil))) aNil))))) (sSeq (sIf (mTru (mBin gNe (mCB gRepr (aCons (mLc [9] (iSeq (mV 2)) (gtN 9) tTrue (mCall WF.g_place_of (aCons (mV 0) (aCons (mIx (mV 9) (mC (.int 0))) (aCons (mV 1) aNil))))) aNil)) (mCB gRepr (aCons (mLc [9] (iSeq (mV 2)) (gtN 9) tTrue (mIx (mV 9) (mC (.int 1)))) aNil)))) (sRet (mC (.bool false))) sNil) (sSeq (sFor (iSeq (mIx (mV 0) (mC (.int 0)))) (gtT (gtCons (gtN 3) (gtCons (gtN 4) gtNil))) (sIf (mTru (mBin gNe (mCB gRepr (aCons (mCall WF.g_use_of (aCons (mV 0) (aCons (mV 3) (aCons (mV 1) aNil)))) aNil)) (mCB gRepr (aCons (mCall WF.g_use_k04 (aCons (mIx (mV 0) (mC (.int 0))) (aCons (mV 3) (aCons (mV 1) aNil)))) aNil)))) (sRet (mC (.bool false))) sNil)) (sFor (iSeq (mBin gAdd (mLc [3, 4] (iSeq (mIx (mV 0) (mC (.int 0)))) (gtT (gtCons (gtN 3) (gtCons (gtN 4) gtNil))) tTrue (mV 3)) (mLst (aCons (mC .none) aNil)))) (gtN 5) (sSeq (sSet 6 (mCB gTuple (aCons (mLc [7, 9] (iSeq (mV 2)) (gtT (gtCons (gtN 7) (gtCons (gtN 9) gtNil))) (mTru (mBin gEq (mV 9) (mV 5))) (mV 7)) aNil))) (sIf (mTru (mBin gNe (mCB gRepr (aCons (mCall WF.g_parts_at (aCons (mV 0) (aCons (mV 5) (aCons (mV 1) aNil)))) aNil)) (mCB gRepr (aCons (mV 6) aNil)))) (sRet (mC (.bool false))) sNil))))))) (sRet (mC (.bool true))))
def g_days_right_k04 : Gd := runDef 10 1 m_days_right_k04
end WF
namespace WF
open PySem PySem.Spec PyProof.Rows L2 DL
def m_tasks_of : Ms := (sSeq (sExpr (mCall WF.g_index_among (aCons (mCall WF.g_part_names (aCons (mV 0) aNil)) (aCons (mV 1) (aCons (mC (.str "part")) aNil))))) (sRet (mCB gTuple (aCons (mLc [2] (iSeq (mIx (mV 0) (mC (.int 2)))) (gtN 2) (mTru (mBin gEq (mIx (mV 2) (mC (.int 1))) (mV 1))) (mIx (mV 2) (mC (.int 0)))) aNil))))
def g_tasks_of : Gd := runDef 3 2 m_tasks_of
end WF
namespace WF
open PySem PySem.Spec PyProof.Rows L2 DL
def m_task_names : Ms := (sRet (mLc [1] (iSeq (mIx (mV 0) (mC (.int 2)))) (gtN 1) tTrue (mIx (mV 1) (mC (.int 0)))))
def g_task_names : Gd := runDef 2 1 m_task_names
end WF
namespace WF
open PySem PySem.Spec PyProof.Rows L2 DL
def m_number_of : Ms := (sRet (mCall WF.g_index_among (aCons (mCall WF.g_task_names (aCons (mV 0) aNil)) (aCons (mV 1) (aCons (mC (.str "task")) aNil)))))
def g_number_of : Gd := runDef 2 2 m_number_of
end WF
namespace WF
open PySem PySem.Spec PyProof.Rows L2 DL
def m_task_of : Ms := (sRet (mIx (mIx (mV 0) (mC (.int 2))) (mCall WF.g_number_of (aCons (mV 0) (aCons (mV 1) aNil)))))
def g_task_of : Gd := runDef 2 2 m_task_of
end WF
namespace WF
open PySem PySem.Spec PyProof.Rows L2 DL
def m_part_of : Ms := (sRet (mIx (mCall WF.g_task_of (aCons (mV 0) (aCons (mV 1) aNil))) (mC (.int 1))))
def g_part_of : Gd := runDef 2 2 m_part_of
end WF
namespace WF
open PySem PySem.Spec PyProof.Rows L2 DL
def m_names_right_k04 : Ms := (sSeq (sFor (iSeq (mIx (mV 0) (mC (.int 1)))) (gtT (gtCons (gtN 1) (gtCons (gtN 2) gtNil))) (sIf (mTru (mBin gNe (mCB gRepr (aCons (mCall WF.g_tasks_of (aCons (mV 0) (aCons (mV 1) aNil))) aNil)) (mCB gRepr (aCons (mCB gTuple (aCons (mLc [5] (iSeq (mIx (mV 0) (mC (.int 2)))) (gtN 5) (mTru (mBin gEq (mIx (mV 5) (mC (.int 1))) (mV 1))) (mIx (mV 5) (mC (.int 0)))) aNil)) aNil)))) (sRet (mC (.bool false))) sNil)) (sSeq (sFor (iRange1 (aCons (mCB gLen (aCons (mIx (mV 0) (mC (.int 2))) aNil)) aNil)) (gtN 3) (sSeq (sAsg (gtT (gtCons (gtN 1) (gtCons (gtN 4) gtNil))) (mSl (mIx (mIx (mV 0) (mC (.int 2))) (mV 3)) oNone (oSome (mC (.int 2))))) (sIf (mTru (mBin gNe (mCB gRepr (aCons (mLst (aCons (mCall WF.g_part_of (aCons (mV 0) (aCons (mV 1) aNil))) (aCons (mCall WF.g_number_of (aCons (mV 0) (aCons (mV 1) aNil))) aNil))) aNil)) (mCB gRepr (aCons (mLst (aCons (mV 4) (aCons (mV 3) aNil))) aNil)))) (sRet (mC (.bool false))) sNil))) (sRet (mC (.bool true)))))
def g_names_right_k04 : Gd := runDef 6 1 m_names_right_k04
end WF
namespace DL
open PySem PySem.Spec PySem.W PySem.Calls PyProof.Rows PySem.HandSPX
def Bd2 (body : List Stmt) (a b : Str) : Prop := ∃ p1 p2 p3 p4 p5 p6 p7 p8 p9 p10 p11 p12 p13 p14 p15 : Pos,
  body = [.Expr (.Call (.Attribute (.Call (.Name "super" p1) [] [] p2) "__init__" p3) [.Name a p4, .Name b p5] [] p6) p7,
    .Assign [.Attribute (.Name "self" p8) a p9] (.Name a p10) p11, .Assign [.Attribute (.Name "self" p12) b p13] (.Name b p14) p15] ∧ (p3.endLine == p6.line) = true
structure Sc2 (sc : Scope) (a b : Str) : Prop where
  co : sc.isCoroutine = false
  gen : sc.isGenerator = false
  kind : sc.kind = .function
  nocell : ∀ x ∈ sc.names, x.2 ≠ .cell
  sup : sc.names.lookup ("super" : Str) = some .globalImplicit
  cl : sc.names.lookup ("__class__" : Str) = some .free
  self : sc.names.lookup ("self" : Str) = some .local
  a : sc.names.lookup a = some .local
  b : sc.names.lookup b = some .local
structure IDef (P : Program) (K : Frag) (C : Addr) (a b : Str) : Prop where
  T : L2.OexC K C
  sup : ks_superIn K C C "__init__" = some (some (.builtin "ValueError.__init__"))
  sub : subIn K (.ref C) (.type "ValueError") = some true
  na : findIn K (.ref C) a = some none
  nb : findIn K (.ref C) b = some none
  top : (P.main.scope.names.lookup ("super" : Str)).isSome = false
  fd : ∃ (fI : Addr) (oc : Value) (od : Option Addr) (osl : Array (Option Value)) (name qual : Str) (params : Arguments) (body : List Stmt) (scope : Scope) (dV kV doc pm ct : Value) (an : Option Addr) (cda cc : Addr) (ccl cl : Value) (cdd cld : Option Addr)
      (ccs csl : Array (Option Value)) (vs : Array Value) (file : Str) (tf : Tok) (ar : Arg),
    findIn K (.ref C) "__init__" = some (some (.ref fI)) ∧ typeIn K (.ref fI) = some (.type "function") ∧
    K.lookup fI = some ⟨oc, od, .func (ksFn name qual params body scope dV kV doc pm an (.ref cda) ct cc), osl⟩ ∧ codeIn K (.ref cda) qual = true ∧ K.lookup cda = some ⟨ccl, cdd, .fields vs, ccs⟩ ∧ vs[2]? = some (.str file tf) ∧ ((P.main.file : Str) == file) = true ∧
    K.lookup cc = some ⟨cl, cld, .cell (some (.ref C)), csl⟩ ∧
    (∀ u1 u2 u3 : Value, bindArgs (ksFn name qual params body scope dV kV doc pm an (.ref cda) ct cc) ⟨[u1, u2, u3], []⟩ = pure [(("self" : Str), u1), (a, u2), (b, u3)]) ∧ (params.posonlyargs ++ params.args).head? = some ar ∧ ar.arg = "self" ∧ Sc2 scope a b ∧ Bd2 body a b
def StatB (base : Heap) : Prop := ∀ (M : Model) (h : Heap) (C : Addr), (∀ b o, base.get? b = some o → h.get? b = some o) → Looks M h (opaqueClassAbove (.ref C)) none
section
variable {P : Program} {w : World} {A : Around} {K : Frag} {C : Addr} {a b : Str} {R : Result → Shared → Prop} {s : Shared} {base : Heap} {mg mb : Str → Option Value} {u1 u2 : Value}
theorem meth_eq {env : Env} {o : Expr} {name : Str} {apos pos : Pos} {args : List Expr} (hf : methodCallForm args.length (backTo pos (starEach args env)) [] = true) (hl : (apos.endLine == pos.line) = true) :
    eval (.Call (.Attribute o name apos) args [] pos) env = (do
      let ov ← attributeBase o name env (eval o env)
      standAt apos.atName
      let (f, first) ← holding [ov] (getMethod ov name (L2.plainOf o env))
      callWith pos f first (backTo pos (starEach args env)) []) := by
  rw [arm_eval_Call]
  have e : ∀ ov : Value, methodCall o name apos pos env ov (args.length + ([] : List Keyword).length) (backTo pos (starEach args env)) (backToKw pos (keywordEach [] env)) = (do
      let (f, first) ← holding [ov] (getMethod ov name (L2.plainOf o env))
      callWith pos f first (backTo pos (starEach args env)) []) := fun ov => L2.mcall_line hf hl
  congr 1
  funext ov
  congr 1
  funext _
  exact e ov
theorem super_run {hp : Heap} {g : Array GenState} {d : Drawn} {t : Nat} {os : OsState} {E : Value → Shared → Prop} {fI cda cc e t0 L : Addr} {oc dV kV doc pm ct ccl cl : Value} {od an cdd cld : Option Addr} {osl ccs csl : Array (Option Value)} {name qual : Str} {params : Arguments} {body : List Stmt} {scope : Scope}
    {vs : Array Value} {file : Str} {tf : Tok} {ar : Arg} {m : Str → Option Value} {p1 p2 p3 p4 p5 p6 p7 : Pos} {Q : Flow → Shared → Prop} (T : L2.OexC K C) (sup : ks_superIn K C C "__init__" = some (some (.builtin "ValueError.__init__"))) (sub : subIn K (.ref C) (.type "ValueError") = some true)
    (top : (P.main.scope.names.lookup ("super" : Str)).isSome = false) (lk : K.lookup fI = some ⟨oc, od, .func (ksFn name qual params body scope dV kV doc pm an (.ref cda) ct cc), osl⟩) (hcode : K.lookup cda = some ⟨ccl, cdd, .fields vs, ccs⟩) (hvs : vs[2]? = some (.str file tf)) (hfile : ((P.main.file : Str) == file) = true)
    (hcell : K.lookup cc = some ⟨cl, cld, .cell (some (.ref C)), csl⟩) (hp1 : (params.posonlyargs ++ params.args).head? = some ar) (har : ar.arg = "self") (Sc : Sc2 scope a b) (hl : (p3.endLine == p6.line) = true)
    (X : K.In hp) (hG : hp.Ns mainGlobals mg) (hgs : mg "super" = none) (hB : hp.Ns builtinsNs mb) (hbs : mb "super" = some (.type "super")) (hst : ∀ (M : Model) (h : Heap) (C : Addr), (∀ b o, hp.get? b = some o → h.get? b = some o) → Looks M h (opaqueClassAbove (.ref C)) none)
    (he : hp.get? e = some (excO C t0)) (hns : hp.Ns L m) (ms : m "self" = some (.ref e)) (ma : m a = some u1) (mb' : m b = some u2) (hda : (a == ("__debug__" : Str)) = false) (hdb : (b == ("__debug__" : Str)) = false)
    (hq : ∀ h' t1 tk, (∀ x o, x ≠ e → hp.get? x = some o → h'.get? x = some o) → h'.get? e = some (excO C t1) → Q .next ⟨h', g, d, tk, os⟩) :
    _root_.PySem.wpAt (model P w) A (.func body (ksEnv qual scope L fI (.ref cda) cc)) (exec (.Expr (.Call (.Attribute (.Call (.Name "super" p1) [] [] p2) "__init__" p3) [.Name a p4, .Name b p5] [] p6) p7) (ksEnv qual scope L fI (.ref cda) cc)) Q E ⟨hp, g, d, t, os⟩ := by
  obtain ⟨nm, q, N, bs, bm, sn, sb, ab, col, dd, k0, k1, k2, k3, k5, hC, hbm⟩ := T.cls
  have hcl : clsIn K C = some { name := nm, bases := bs, mro := .ref C :: bm, ns := N, qualname := q, hasDict := true, slotNames := sn, subclasses := sb, abstract := ab, collection := col, hasDel := false } := by unfold clsIn; rw [hC] <;> rfl
  have hCh := X _ _ hC
  have mro0 : mroIn K C (.ref C) = some true := by unfold mroIn; rw [hcl]; simp
  refine ks_wpAt_Expr_any (ks_wpAt_MethodCall (pl := L2.plainOf (.Call (.Name "super" p1) [] [] p2) (ksEnv qual scope L fI (.ref cda) cc)) ?_ (meth_eq (by rfl) hl)) (by show (scope.kind == .module && _) = false; rw [Sc.kind]; rfl)
  refine ks_wpAt_super_base (env := ksEnv qual scope L fI (.ref cda) cc) Sc.sup Sc.cl rfl rfl (X _ _ lk) rfl hp1 rfl (X _ _ hcode) rfl hvs hfile top ?_
  refine ks_loadName_global Sc.kind Sc.sup (loadGlobal_builtin (env := ksEnv qual scope L fI (.ref cda) cc) hG hgs hB hbs ⟨rfl, ?_⟩)
  refine wpAny_loadName_free Sc.kind Sc.cl rfl ⟨_, X _ _ hcell, rfl⟩ ?_
  rw [har]
  refine wpAny_loadName_local Sc.kind Sc.self hns ms ?_
  refine ks_wpAny_isType_cls hCh rfl ⟨rfl, ?_⟩
  refine ks_wpAny_call_super hCh rfl he rfl (fun c z => by cases z) (looks_mroIn X mro0) (fun h1 e1 k1 => ?_)
  have X1 : K.In h1 := X.keeps k1
  have sup2 := sup
  unfold ks_superIn at sup2
  rw [hcl] at sup2
  have hne : e ≠ C := fun z => by
    rw [z, hCh] at he
    cases he
  have he1 := k1 _ _ he
  refine kxs_getMethod kxs_ValueError e1 (hst _ _ _ k1) (l₀ := .ref C :: bm) ?_ rfl X1 sup2 (Looks.andThen (a := .ref C) (fun A Q E s k q => wpAny_typeOf_ref (k _ _ he1) q) (looks_subIn X1 sub)) hne rfl ?_
  · exact fun A Q E s k q => wpAny_bind ((looks_clsIn X1 hcl) A _ E s k (wpAny_pure q))
  have k2 : ∀ x o, h1.get? x = some o → (h1.push (kxs_mw "ValueError.__init__" e)).get? x = some o := fun x o z => Heap.get?_push_of_some _ z
  have hmw : (h1.push (kxs_mw "ValueError.__init__" e)).get? h1.objs.size = some (kxs_mw "ValueError.__init__" e) := Heap.get?_push_size _ rfl
  obtain ⟨oL, es, ep, hL, r⟩ := hns
  have hns2 : (h1.push (kxs_mw "ValueError.__init__" e)).Ns L m := ⟨oL, es, ep, k2 _ _ (k1 _ _ hL), r⟩
  have he2 := k2 _ _ he1
  have hC2 := k2 _ _ (k1 _ _ hCh)
  show wpAny _ _ (callWith p6 (Value.ref h1.objs.size) [] (backTo p6 (starEach [.Name a p4, .Name b p5] _)) []) _ _ _
  refine kxs_callWith (i := "ValueError.__init__") (x := e) rfl ?_
  refine evalArgs_plain ?_
  refine Calls.spliced_cons (wpAny_Name (wpAny_loadName_local Sc.kind Sc.a hns2 ma ?_) hda)
  refine Calls.spliced_cons (wpAny_Name (wpAny_loadName_local Sc.kind Sc.b hns2 mb' ?_) hdb)
  refine Calls.spliced_nil ⟨hmw, ?_⟩
  refine wpAny_call (codeAny_of_tree ?_)
  show wpAny _ A.in1 (callAny (.ref h1.objs.size) ⟨[u1, u2], []⟩) _ _ _
  simp only [callAny]
  refine wpAny_bind (wpAny_load hmw ?_)
  simp only [kxs_mw, show (Value.type "method-wrapper" == Value.type "method" || Value.type "method-wrapper" == Value.type "builtin_function_or_method" || Value.type "method-wrapper" == Value.type "method-wrapper") = true by decide, if_true]
  refine KFB.if_so (by decide) ?_
  refine wpAny_bind (check_bound_init F.excBase_ValueError.toExcCallFacts hC2 he2 rfl ?_)
  refine wpAny_bind (wpAny_pure (wpAny_pure ?_))
  refine ⟨plainId_quiet F.excBase_ValueError.init.plain _, codeAny_builtin F.excBase_ValueError.initEntry ?_⟩
  refine exc_init_tree (cls := .ref C) (t0 := t0) (dv := none) (c2 := .none) (c3 := .none) (b4 := .bool false) he2 (by show 2 ≤ sizeLine; rw [sizeLine_eq]; omega) fun h' k' e' _ => ?_
  exact hq h' _ _ (fun x o hx z => k' x o hx (k2 _ _ (k1 _ _ z))) e'
theorem exc_made (D : IDef P K C a b) (hab : a ≠ b) (hsa : ("self" : Str) ≠ a) (hsb : ("self" : Str) ≠ b) (hda : (a == ("__debug__" : Str)) = false) (hdb : (b == ("__debug__" : Str)) = false) (X : K.In s.heap) (hG : s.heap.Ns mainGlobals mg) (hgs : mg "super" = none) (hB : s.heap.Ns builtinsNs mb) (hbs : mb "super" = some (.type "super"))
    (hst : ∀ (M : Model) (h : Heap) (C : Addr), (∀ b o, s.heap.get? b = some o → h.get? b = some o) → Looks M h (opaqueClassAbove (.ref C)) none) (hlim : s.heap.NoLimit) (hr : A.depth + 1 < recursionLimit)
    (hq : ∀ h' e dx t1 tk, (∀ x o, s.heap.get? x = some o → h'.get? x = some o) → s.heap.objs.size ≤ e → s.heap.objs.size ≤ dx → dx ≠ e → h'.get? e = some ({ cls := .ref C, dict := some dx, data := .fields #[.ref t1, .none, .none, .none, .bool false, .none] } : Obj) →
      h'.Ns1 dx (fun y => if y = b then some u2 else if y = a then some u1 else none) → R (.ok (.ret (.ref e))) ⟨h', s.gens, s.drawn, tk, s.os⟩) :
    codeAny (model P w) A (.call (.ref C) ⟨[u1, u2], []⟩) R s := by
  obtain ⟨hp, g, d, t, os⟩ := s
  obtain ⟨T, sup, sub, na, nb, top, fI, oc, od, osl, name, qual, params, body, scope, dV, kV, doc, pm, ct, an, cda, cc, ccl, cl, cdd, cld, ccs, csl, vs, file, tf, ar, hi, ty, lk, hcd, hcode, hvs, hfile, hcell, hbind, hp1, har, Sc, p1, p2, p3, p4, p5, p6, p7, p8, p9, p10, p11, p12, p13, p14, p15, rfl, hl⟩ := D
  obtain ⟨nm, q, N, bs, bm, sn, sb, ab, col, dd, k0, k1, k2, k3, k5, hC, hbm⟩ := id T.cls
  have hcl : clsIn K C = some { name := nm, bases := bs, mro := .ref C :: bm, ns := N, qualname := q, hasDict := true, slotNames := sn, subclasses := sb, abstract := ab, collection := col, hasDel := false } := by unfold clsIn; rw [hC] <;> rfl
  have hsz : ([u1, u2] : List Value).length ≤ sizeLine := by rw [sizeLine_eq]; show 2 ≤ _; omega
  refine call_own F.excBase_ValueError (fun Y => refsVE_contains Y bm hbm) (X _ _ hC) (looks_findIn X hi) (fun self => bind_fn X self ty) hsz ?_
  have kk : ∀ x o, hp.get? x = some o → ((hp.push (W.kdv_tup [u1, u2])).push (excO C hp.objs.size)).get? x = some o := fun x o z => Heap.get?_push_of_some _ (Heap.get?_push_of_some _ z)
  have he : ((hp.push (W.kdv_tup [u1, u2])).push (excO C hp.objs.size)).get? (hp.objs.size + 1) = some (excO C hp.objs.size) := by heap_get
  have X2 := X.keeps kk
  refine ks_codeAny_call_defAt (fd := ksFn name qual params _ scope dV kV doc pm an (.ref cda) ct cc) (binds := [(("self" : Str), .ref (hp.objs.size + 1)), (a, u1), (b, u2)]) ?_ (X2 _ _ lk) rfl (hlim.keeps kk) (codeRec_of X2 hcd) rfl (.of_eq (hbind _ _ _)) Sc.nocell ?_ (fun h₀ hns hk => ?_) Sc.co Sc.gen Sc.kind
  · show A.depth + 1 < recursionLimit
    exact hr
  · intro x hx
    rcases List.mem_cons.mp hx with rfl | hx
    · exact Sc.self
    rcases List.mem_cons.mp hx with rfl | hx
    · exact Sc.a
    rw [List.mem_singleton] at hx
    subst hx
    exact Sc.b
  have kh : ∀ x o, hp.get? x = some o → h₀.get? x = some o := fun x o z => hk _ _ (kk _ _ z)
  have he0 := hk _ _ he
  have X0 := X.keeps kh
  have e1 : (("self" : Str) == a) = false := beq_eq_false_iff_ne.mpr hsa
  have e2 : (("self" : Str) == b) = false := beq_eq_false_iff_ne.mpr hsb
  have e3 : (a == b) = false := beq_eq_false_iff_ne.mpr hab
  have ms : ([(("self" : Str), Value.ref (hp.objs.size + 1)), (a, u1), (b, u2)].reverse.lookup ("self" : Str)) = some (.ref (hp.objs.size + 1)) := by
    simp [List.lookup, e1, e2]
  have ma : ([(("self" : Str), Value.ref (hp.objs.size + 1)), (a, u1), (b, u2)].reverse.lookup a) = some u1 := by
    simp [List.lookup, e3]
  have mb2 : ([(("self" : Str), Value.ref (hp.objs.size + 1)), (a, u1), (b, u2)].reverse.lookup b) = some u2 := by
    simp [List.lookup]
  have ns_keep : ∀ {h h' : Heap} {x : Addr} {m : Str → Option Value}, h.Ns x m → (∀ y o, y ≠ hp.objs.size + 1 → h.get? y = some o → h'.get? y = some o) → x ≠ hp.objs.size + 1 → h'.Ns x m := fun {h h' x m} ⟨o, es, ep, z, r⟩ k ne => ⟨o, es, ep, k _ _ ne z, r⟩
  refine ks_wpAt_execs_cons (super_run (L := ((hp.push (W.kdv_tup [u1, u2])).push (excO C hp.objs.size)).objs.size) T sup sub top lk hcode hvs hfile hcell hp1 har Sc hl X0 (hG.keeps kh) hgs (hB.keeps kh) hbs (fun M h C k => hst M h C fun x o z => k _ _ (kh _ _ z)) he0 hns ms ma mb2 hda hdb fun h1 t1 tk1 k1 e1 => ?_)
  have nL : ((hp.push (W.kdv_tup [u1, u2])).push (excO C hp.objs.size)).objs.size ≠ hp.objs.size + 1 := by
    rw [Heap.size_push, Heap.size_push]
    omega
  have hns1 : h1.Ns _ _ := ns_keep hns k1 nL
  have X1 : K.In h1 := fun x o z => k1 _ _ (fun y => by
    have l1 := Heap.lt_size (X _ _ z)
    rw [y] at l1
    exact absurd l1 (by show ¬ hp.objs.size + 1 < hp.objs.size; omega)) (X0 _ _ z)
  refine wpAt_of_wpAny (wpAny_execs_cons ?_)
  refine plainObj_wpAny_Assign_Attribute (wpAny_Name (wpAny_loadName_local Sc.kind Sc.a hns1 ma ?_) hda)
  refine wpAny_Name (wpAny_loadName_local Sc.kind Sc.self hns1 ms ?_) (by decide)
  refine set_plain X1 (ox := excO C t1) (od := none) ⟨e1, rfl, rfl, trivial⟩ T.sa ?_
  refine exc_osa X1 e1 hcl (show refsVE (.ref C :: bm) = true from hbm) rfl na (fun h2 tk2 dx k2 dn dne hx2 hn2 => ?_)
  have lt1 : ∀ x o, hp.get? x = some o → x ≠ hp.objs.size + 1 := fun x o z y => by
    have l1 := Heap.lt_size z
    rw [y] at l1
    exact absurd l1 (by show ¬ hp.objs.size + 1 < hp.objs.size; omega)
  have K1 : ∀ x o, hp.get? x = some o → h1.get? x = some o := fun x o z => k1 _ _ (lt1 _ _ z) (kh _ _ z)
  have K2 : ∀ x o, hp.get? x = some o → h2.get? x = some o := fun x o z => k2 _ _ (lt1 _ _ z) (K1 _ _ z)
  have X2' : K.In h2 := X.keeps K2
  have hns2 : h2.Ns _ _ := ns_keep hns1 k2 nL
  refine wpAny_execs_cons ?_
  refine plainObj_wpAny_Assign_Attribute (wpAny_Name (wpAny_loadName_local Sc.kind Sc.b hns2 mb2 ?_) hdb)
  refine wpAny_Name (wpAny_loadName_local Sc.kind Sc.self hns2 ms ?_) (by decide)
  obtain ⟨oD, esD, epD, hoD, hdD, _⟩ := hn2.count (Within.cons a u1 Within.nil)
  refine set_plain X2' (ox := { cls := .ref C, dict := some dx, data := .fields #[.ref t1, .none, .none, .none, .bool false, .none] }) (od := some oD) ⟨hx2, rfl, rfl, hoD⟩ T.sa ?_
  refine PySem.OEX.osa_old X2' hx2 hn2 (Within.cons a u1 Within.nil) (by show 1 ≤ 1000; omega) hcl (show refsVE (.ref C :: bm) = true from hbm) rfl nb (fun h3 tk3 k3 hn3 => ?_)
  refine wpAny_execs_nil ?_
  have sz1 : hp.objs.size ≤ dx := by
    have l0 : hp.objs.size + 1 < h1.objs.size := Heap.lt_size e1
    have l1 : h1.objs.size ≤ dx := dn
    exact Nat.le_of_lt (Nat.lt_of_lt_of_le (Nat.lt_of_succ_lt l0) l1)
  exact ⟨rfl, hq h3 (hp.objs.size + 1) dx t1 tk3 (fun x o z => k3 _ _ (Nat.ne_of_lt (Nat.lt_of_lt_of_le (Heap.lt_size z) sz1)) (K2 _ _ z)) (Nat.le_succ _) sz1 dne (k3 _ _ (Ne.symm dne) hx2) hn3⟩
end
end DL
namespace DL
open PySem PySem.Spec PyProof.Rows L2
variable {G : Bool}
structure Xn where
  c : Str
  fs : List (Str × Wd)
abbrev Xm := Ev → Sto → Option (Xn × Sto)
abbrev Xd := List Wd → Sto → Option (Xn × Sto)
def XAt (K : Fg) (mg : Str → Option Value) (mu : List Addr) (T : Addr → Prop) (H : Hp) (cls : Value) (d : Option Addr) (x : Xn) : Prop :=
  ∃ C dx fs, cls = .ref C ∧ mg x.c = some (.ref C) ∧ d = some dx ∧ H dx = some (.xd fs) ∧ ∀ f w, x.fs.lookup f = some w → ∃ v, fs.lookup f = some v ∧ Rp K mu T H v w
theorem XAt.weak {K : Fg} {mg : Str → Option Value} {mu : List Addr} {T T' : Addr → Prop} {H : Hp} {cls : Value} {d : Option Addr} {x : Xn} (h : XAt K mg mu T H cls d x) (t : ∀ a, T' a → T a) : XAt K mg mu T' H cls d x := by
  obtain ⟨C, dx, fs, e1, e2, e3, e4, q⟩ := h
  exact ⟨C, dx, fs, e1, e2, e3, e4, fun f w z => let ⟨v, a, b⟩ := q f w z; ⟨v, a, b.weak t⟩⟩
def xW (X : Cx) (mu : List Addr) (B O : Addr → Prop) (H : Hp) (e : Xn) (S' : Sto) : WX := fun cls d _ H' => ∃ mu' O', ExtS mu mu' O O' H H' ∧ StOk X.K mu' (fun a => B a ∨ O' a) H' S' ∧ XAt X.K X.mg mu' (fun a => B a ∨ O' a) H' cls d e
def tXs (X : Cx) (f : Xm) (σ : Sg) (H : Hp) : Prop := ∃ ρ S mu B O, Rel X.K mu B O H σ ρ S ∧ ∃ e S', f ρ S = some (e, S') ∧ Takes X (xW X mu B O H e S')
def xWe (X : Cx) (mu : List Addr) (B O : Addr → Prop) (H : Hp) (e : Xn) (S' : Sto) : WX := fun cls d _ H' => ∃ mu', Ext mu mu' H H' ∧ StOk X.K mu' (fun a => B a ∨ O a) H' S' ∧ XAt X.K X.mg mu' (fun a => B a ∨ O a) H' cls d e
def tXe (X : Cx) (f : Xm) (σ : Sg) (H : Hp) : Prop := ∃ ρ S mu B O, Rel X.K mu B O H σ ρ S ∧ ∃ e S', f ρ S = some (e, S') ∧ Takes X (xWe X mu B O H e S')
theorem tXs.e {X : Cx} {f : Xm} {σ : Sg} {H : Hp} (h : tXs X f σ H) : tXe X f σ H := by
  obtain ⟨ρ, S, mu, B, O, rl, e, S', e1, t⟩ := h
  exact ⟨ρ, S, mu, B, O, rl, e, S', e1, t.imp fun _ _ _ _ ⟨mu', a, b, c⟩ => ⟨mu', O, a.toS b, b, c⟩⟩
def Xe (X : Cx) (e : Expr) (f : Xm) : Prop := PE X e fun σ H _ => tXe X f σ H
def Xs (X : Cx) (st : Stmt) (f : Xm) : Prop := PS X st fun _ σ H => tXs X f σ H
def Xss (X : Cx) (st : List Stmt) (f : Xm) : Prop := PSs X st fun _ σ H => tXs X f σ H
def xNo : Xm := fun _ _ => none
section
variable {X : Cx} {mu m1 : List Addr} {B O O1 : Addr → Prop} {H H1 : Hp} {σ : Sg} {ρ : Ev} {S S1 S' : Sto} {e : Xn}
theorem takes_ext (t : Takes X (xW X mu B O H e S')) (x : ExtS mu m1 O O1 H H1) : Takes X (xW X m1 B O1 H1 e S') := t.imp fun _ _ _ _ ⟨mu', O', a, b, c⟩ => ⟨mu', O', x.trans a, b, c⟩
theorem takes_exte (t : Takes X (xWe X mu B O H e S')) (x : Ext mu m1 H H1) : Takes X (xWe X m1 B O H1 e S') := t.imp fun _ _ _ _ ⟨mu', a, b, c⟩ => ⟨mu', x.trans a, b, c⟩
theorem tXe.mk {f : Xm} (rl : Rel X.K mu B O H σ ρ S) (e1 : f ρ S = some (e, S')) (t : Takes X (xWe X mu B O H e S')) : tXe X f σ H := ⟨ρ, S, mu, B, O, rl, e, S', e1, t⟩
theorem tXs.mk {f : Xm} (rl : Rel X.K mu B O H σ ρ S) (e1 : f ρ S = some (e, S')) (t : Takes X (xW X mu B O H e S')) : tXs X f σ H := ⟨ρ, S, mu, B, O, rl, e, S', e1, t⟩
end
section
variable {X : Cx} {st : Stmt} {rest : List Stmt} {m : Ms} {fx fr : Xm} {e : Expr} {es : List Expr} {pos : Pos}
theorem xss_no : Xss X rest xNo := ⟨fun _ _ _ _ _ _ ⟨_, _, _, _, _, _, _, _, e, _⟩ => by cases e⟩
def xSeq (fx : Xm) (m : Ms) (fr : Xm) : Xm := fun ρ S => match fx ρ S with
  | some r => some r
  | none => match m ρ S with
    | .nx ρ' S' => fr ρ' S'
    | _ => none
theorem xss_cons (hx : Xs X st fx) (hd : Ds X st m) (hr : Xss X rest fr) : Xss X (st :: rest) (xSeq fx m fr) := by
  refine ⟨fun pins s σ H D I ⟨ρ, S, mu, B, O, rl, e, S', e1, t⟩ => ?_⟩
  unfold xSeq at e1
  cases z : fx ρ S with
  | some r =>
    rw [z] at e1
    cases e1
    refine wpAny_execs_cons (thn (hx.run pins s σ H { nx := fun _ _ => False, rt := fun _ _ => False, bk := fun _ _ => False, ct := fun _ _ => False } I (tXs.mk rl z t)) fun f s1 q => ?_)
    cases f with
    | next => obtain ⟨_, _, _, q⟩ := q; exact q.elim
    | ret v => obtain ⟨_, _, _, _, _, q⟩ := q; exact q.elim
    | brk => obtain ⟨_, _, _, q⟩ := q; exact q.elim
    | cont => obtain ⟨_, _, _, q⟩ := q; exact q.elim
  | none =>
    rw [z] at e1
    refine (pss_cons hd hr).run pins s σ H D I ?_
    refine ⟨ρ, S, mu, B, O, rl, ?_⟩
    have e1 : (match m ρ S with | .nx ρ' S' => fr ρ' S' | _ => none) = some (e, S') := e1
    cases y : m ρ S with
    | nx ρ' S2 =>
      rw [y] at e1
      exact fun σ' H' mu' O' x r => tXs.mk r e1 (takes_ext t x)
    | rt w S' => rw [y] at e1; cases e1
    | bk ρ' S' => rw [y] at e1; cases e1
    | ct ρ' S' => rw [y] at e1; cases e1
    | bad => rw [y] at e1; cases e1
theorem xss_one (hx : Xs X st fx) : Xss X [st] fx := pss_one hx
theorem xss_last (hx : Xs X st fx) : Xss X (st :: rest) fx := by
  refine ⟨fun pins s σ H D I h => ?_⟩
  refine wpAny_execs_cons (thn (hx.run pins s σ H { nx := fun _ _ => False, rt := fun _ _ => False, bk := fun _ _ => False, ct := fun _ _ => False } I h) fun f s1 q => ?_)
  cases f with
  | next => obtain ⟨_, _, _, q⟩ := q; exact q.elim
  | ret v => obtain ⟨_, _, _, _, _, q⟩ := q; exact q.elim
  | brk => obtain ⟨_, _, _, q⟩ := q; exact q.elim
  | cont => obtain ⟨_, _, _, q⟩ := q; exact q.elim
theorem xs_expr (he : Xe X e fx) (hs : swapsWith e none pos.line X.env = pure false := by rfl) : Xs X (.Expr e pos) fx := PS.weak (ps_expr he hs) fun D σ H h => h.e
theorem xs_ret (he : Xe X e fx) : Xs X (.Return (some e) pos) fx := PS.weak (ps_ret he) fun D σ H h => h.e
theorem xs_set {i : Nat} {x : Str} {pos' : Pos} (hN : X.N.Nodup) (hi : X.N[i]? = some x) (hx : Loc X.env.scope x) (he : Xe X e fx) (hs : swapsWith e (some (.Name x pos')) pos.line X.env = pure false := by rfl) (hf : X.fn x = true ∨ X.env.scope.names.lookup x = some .local := by first | exact .inl rfl | exact .inr (by assumption)) :
    Xs X (.Assign [.Name x pos'] e pos) fx := PS.weak (ps_set hN hi hx he hs hf) fun D σ H h => h.e
def xIf (t : Mt) (fb fo : Xm) : Xm := fun ρ S => match t ρ S with
  | .ok true S1 => fb ρ S1
  | .ok false S1 => fo ρ S1
  | .bad => none
theorem xs_if {c : Expr} {b o : List Stmt} {t : Mt} {fb fo : Xm} (hc : Dt X c t) (hb : Xss X b fb) (ho : Xss X o fo) : Xs X (.If c b o pos) (xIf t fb fo) := PS.weak (ps_if hc hb ho) fun D σ H ⟨ρ, S, mu, B, O, rl, e, S', e1, tk⟩ => by
  unfold xIf at e1
  cases z : t ρ S with
  | bad => rw [z] at e1; cases e1
  | ok d S1 =>
    rw [z] at e1
    refine tDt.mk rl z fun H1 mu1 E r => ?_
    cases d with
    | true => exact tXs.mk r e1 (takes_ext tk (E.toS r.sto))
    | false => exact tXs.mk r e1 (takes_ext tk (E.toS r.sto))
def xHd (fx : Xm) (m : Mx) (fr : Xm) : Xm := fun ρ S => match fx ρ S with
  | some r => some r
  | none => match m ρ S with
    | .ok _ S1 => fr ρ S1
    | .bad => none
theorem xe_no : Xe X e xNo := ⟨fun _ _ _ _ _ _ ⟨_, _, _, _, _, _, _, _, e, _⟩ => by cases e⟩
end
def spX (K : Fg) (mg : Str → Option Value) (x : Xd) (vs : List V) (H : Hp) (E : XK) : Prop := ∃ ws S mu T, StOk K mu T H S ∧ Bn mu T H ∧ RpAll K mu T H vs ws ∧ ∃ e S', x ws S = some (e, S') ∧
  ∀ cls d H' mu', Ext mu mu' H H' → StOk K mu' T H' S' → XAt K mg mu' T H' cls d e → E cls d H'
structure FnX (G : Bool) (P : Program) (w : World) (K : Fg) (mg : Str → Option Value) (base : Heap) (k : Nat) (f : Addr) (fd : FuncData) (ps : List Str) (x : Xd) : Prop where
  len : ∀ ws S r, x ws S = some r → ws.length = ps.length
  run : ∀ (A : Around) (outer : List Env) (s : Shared) (H : Hp) (args : Args) (us : List Value) (vs : List V) (E : XK), Room k A → (G = true → A.guards = some []) → Env0 P w K mg base A outer s H → BindsTo s fd args (ps.zip us) → Vals vs us → spX K mg x vs H E →
    codeAny (model P w) A (.call (.ref f) args) (CR (CX P w) outer P w H s (fun _ _ => False) E) s
theorem FnX.mono {P : Program} {w : World} {K : Fg} {mg : Str → Option Value} {base : Heap} {j k : Nat} {f : Addr} {fd : FuncData} {ps : List Str} {x : Xd} (F : FnX G P w K mg base j f fd ps x) (h : j ≤ k) : FnX G P w K mg base k f fd ps x :=
  ⟨F.len, fun A outer s H args us vs E hr => F.run A outer s H args us vs E (hr.mono h)⟩
def runDefX (n p : Nat) (f : Xm) : Xd := fun ws S => if ws.length = p then f (startE n ws) S else none
section
variable {P : Program} {w : World} {K : Fg} {mg : Str → Option Value} {base : Heap} {x qual : Str} {params : Arguments} {body : List Stmt} {scope : Scope} {dvs : List V} {kws : List (Str × V)} {f : Addr} {fd : FuncData}
theorem fnX_of {N ps : List Str} {k n p : Nat} {m : Xm} (F : FunD K x qual params body scope dvs kws f fd) (Sc : FnScope N ps scope) (hn : N.length = n) (hp : ps.length = p)
    (hbody : ∀ (cdv : Value) (A : Around) (outer : List Env) (s : Shared) (H : Hp) (E : XK), Room k (A.deeper (envOfC qual scope s.heap.objs.size f cdv)) → (G = true → (A.deeper (envOfC qual scope s.heap.objs.size f cdv)).guards = some []) → Xss (cxOf (CX P w) P w K mg base N qual scope f cdv A outer s H E) body m) :
    FnX G P w K mg base (k + 1) f fd ps (runDefX n p m) := by
  subst hn hp
  obtain ⟨oc, od, dV, kV, doc, pm, an, cdv, ct, osl, rfl, lk, hcd, _, _⟩ := F.ex
  refine ⟨fun ws S r e => ?_, fun A outer s H args us vs E hr hg e0 hb r h => ?_⟩
  · unfold runDefX at e
    by_cases c : ws.length = ps.length
    · exact c
    · rw [if_neg c] at e
      cases e
  obtain ⟨ws, S, mu, T, st, bn, rp, e, S', ee, q⟩ := h
  unfold runDefX at ee
  have c : ws.length = ps.length := by
    by_cases c : ws.length = ps.length
    · exact c
    · rw [if_neg c] at ee
      cases ee
  rw [if_pos c] at ee
  have hlen : vs.length = ps.length := by rw [rp.length]; exact c
  have KX : K.In s.heap := e0.mod.kin.keeps fun b o z => (e0.bs b o z).1
  have lim : s.heap.NoLimit := e0.mod.nolimit.keeps fun b o z => (e0.bs b o z).1
  have hkind : ∀ y ∈ ps.zip us, scope.names.lookup y.1 = some .local ∨ (scope.names.lookup y.1 = some .cell ∧ ((cellsFrom (s.heap.objs.size + 1) scope.names []).lookup y.1).isSome = true) := by
    rintro ⟨nm, val⟩ hy
    rcases Sc.par nm (List.of_mem_zip hy).1 with z | z
    · exact .inl z
    · exact .inr ⟨z, PySem.W.cellsFrom_some _ _ _ (.inl z)⟩
  refine codeAny_call_function hr.depth (KX _ _ lk) rfl Sc.co Sc.gen rfl (PySem.W.codeRec_of KX hcd) (hb _ _ _ _ ?_)
  refine wpAny_newFunctionEnv_cells Sc.kind hkind fun env he s1 ic => ?_
  subst he
  refine ⟨lim.keeps ic.toInCall.keep, codeAny_func ?_⟩
  have I : Inv (cxOf (CX P w) P w K mg base N qual scope f cdv A outer s H E) [] (L2.start N vs) H s1 := inv_start Sc hr.hd e0 hlen r ic
  have Bd := hbody cdv A outer s H E (hr.deeper _) hg
  have tk : Takes (cxOf (CX P w) P w K mg base N qual scope f cdv A outer s H E) (fun cls d _ H => E cls d H) := takes_of (E := E) rfl rfl rfl rfl
  refine wpAny_mono (Bd.run [] s1 (L2.start N vs) H { nx := fun _ _ => False, rt := fun _ _ => False, bk := fun _ _ => False, ct := fun _ _ => False } I (tXs.mk (start_rel st bn rp) ee (tk.imp fun cls d σ' H' ⟨mu', O', y, s', xa⟩ => ?_))) (fun fl s' hs => ?_) fun e s' hs => hs
  · exact q cls d H' mu' ⟨y.pre, fun a o h n => y.keep a o h n fun z => z, y.new⟩ (s'.weak fun a t => .inl t) (xa.weak fun a t => .inl t)
  · cases fl with
    | next => obtain ⟨_, _, _, q⟩ := hs; exact q.elim
    | ret v => obtain ⟨_, _, _, _, _, q⟩ := hs; exact q.elim
    | brk => obtain ⟨_, _, _, q⟩ := hs; exact q.elim
    | cont => obtain ⟨_, _, _, q⟩ := hs; exact q.elim
end
def xCall (g : Xd) (fs : Ma) : Xm := fun ρ S => match fs ρ S with
  | .ok ws S1 => g ws S1
  | .bad => none
section
variable {X : Cx} {k : Nat} {f : Addr} {fd : FuncData} {ps : List Str} {g : Xd} {x : Str} {p pos : Pos} {e : Expr} {es : List Expr} {fs : Ma} {fa : Xm}
theorem run_fnX {pins : List (Addr × Obj)} {σ : Sg} {H : Hp} {s : Shared} {Q : Value → Shared → Prop} {args : Args} {us : List Value} {vs : List V} {W : WX} {E : XK} (F : FnX G X.prog X.w X.K X.mg X.base k f fd ps g) (hr : Room k X.A) (hg : G = true → X.A.guards = some []) (hb : BindsTo s fd args (ps.zip us))
    (I : Inv X pins σ H s) (r : Vals vs us) (tk : Takes X W) (hW : ∀ cls d H', E cls d H' → W cls d σ H') (h : spX X.K X.mg g vs H E) : wpAny (model X.prog X.w) X.A (call (.ref f) args.pos args.kw) Q X.xe s := by
  refine wpAny_call (codeAny_mono (F.run X.A X.stack s H args us vs E hr hg I.env0 hb r h) fun r s' hq => ?_)
  cases r with
  | error e => exact tk e s' (XE.of_call I hW hq)
  | ok fl =>
    cases fl with
    | ret u =>
      obtain ⟨_, _, _, _, _, _, _, q⟩ := hq
      exact q.elim
    | next => exact False.elim hq
    | brk => exact False.elim hq
    | cont => exact False.elim hq
theorem xe_call (F : FnX G X.prog X.w X.K X.mg X.base k f fd ps g) (hr : Room k X.A) (hgd : G = true → X.A.guards = some []) (hg : Gl X x) (hm : X.mg x = some (.ref f)) (hk : PySem.W.keepIn X.K (.ref f) = true) (hb : Binds X.K fd ps []) (ha : Da X (e :: es) fs)
    (hdb : (x == ("__debug__" : Str)) = false := by decide) (he : starEach (e :: es) X.env = (false, eval e X.env) :: starEach es X.env := by rfl) (hpl : (backTo pos (starEach es X.env)).any (·.1) = false := by rfl) : Xe X (.Call (.Name x p) (e :: es) [] pos) (xCall g fs) := by
  refine ⟨fun pins s σ H Q I ⟨ρ, S, mu, B, O, rl, e, S', e1, tk⟩ => ?_⟩
  unfold xCall at e1
  cases z : fs ρ S with
  | bad => rw [z] at e1; cases e1
  | ok ws S1 =>
    rw [z] at e1
    have e3 : g ws S1 = some (e, S') := e1
    refine wpAny_Call_Name_kw (ld_glob I hg hm ?_ hdb)
    refine PySem.W.callWith_K (h₀ := X.base) I.ok.mod.kin hk (thn (ha.run pos pins s σ H (fun vs H1 => ∃ mu1, Ext mu mu1 H H1 ∧ Rel X.K mu1 B O H1 σ ρ S1 ∧ RpAll X.K mu1 (fun a => B a ∨ O a) H1 vs ws) I (tDa.mk rl z fun vs H1 mu1 E r p => ⟨mu1, E, r, p⟩)) fun us s1 ⟨vs, H1, I1, r, mu1, E, rl1, p⟩ => ⟨I1.kIn, ?_⟩) he hpl
    have hl : (us ++ []).length = ps.length := by
      rw [List.append_nil, ← r.length, p.length]
      exact F.len _ _ _ e3
    have hb1 := hb s1 us I1.kIn hl
    rw [List.append_nil] at hb1
    refine run_fnX (args := ⟨us, []⟩) (E := fun cls d H' => xWe X mu B O H e S' cls d σ H') F hr hgd hb1 I1 r tk (fun _ _ _ h => h) ⟨ws, S1, mu1, _, rl1.sto, rl1.bn, p, e, S', e3, fun cls d H' mu' x' s' xa => ⟨mu', E.trans x', s', xa⟩⟩
end
section
variable {X : Cx} {C : Addr} {a b x : Str} {e1 e2 : Expr} {fs : Ma} {p pos : Pos}
def xMk (c : Str) (names : List Str) (fs : Ma) : Xm := fun ρ S => match fs ρ S with
  | .ok ws S1 => if ws.length = names.length then some (⟨c, names.zip ws⟩, S1) else none
  | .bad => none
def tXr (K : Fg) (mg : Str → Option Value) (f : Xm) : Sg → Hp → XK → Prop := fun σ H E => ∃ ρ S mu B O, Rel K mu B O H σ ρ S ∧ ∃ e S', f ρ S = some (e, S') ∧ ∀ cls d H' mu', Ext mu mu' H H' → StOk K mu' (fun a => B a ∨ O a) H' S' → XAt K mg mu' (fun a => B a ∨ O a) H' cls d e → E cls d H'
theorem pmk_x2 (D : IDef X.prog X.K C a b) (hab : a ≠ b) (hsa : ("self" : Str) ≠ a) (hsb : ("self" : Str) ≠ b) (hda : (a == ("__debug__" : Str)) = false) (hdb : (b == ("__debug__" : Str)) = false) (hst : StatB X.base) (hsu : X.mg "super" = none) (hbs : bootBuiltins "super" = some (.type "super")) (hr : Room 1 X.A)
    (hg : Gl X x) (hm : X.mg x = some (.ref C)) (ha : Da X [e1, e2] fs)
    (hdx : (x == ("__debug__" : Str)) = false := by decide) (he : starEach [e1, e2] X.env = (false, eval e1 X.env) :: starEach [e2] X.env := by rfl) (hpl : (backTo pos (starEach [e2] X.env)).any (·.1) = false := by rfl) : PMk X (.Call (.Name x p) [e1, e2] [] pos) (tXr X.K X.mg (xMk x [a, b] fs)) := by
  intro pins s σ H Q I ⟨ρ, S, mu, B, O, rl, e, S', ee, q⟩
  unfold xMk at ee
  cases z : fs ρ S with
  | bad => rw [z] at ee; cases ee
  | ok ws S1 =>
    rw [z] at ee
    have ee : (if ws.length = 2 then some ((⟨x, [a, b].zip ws⟩, S1) : Xn × Sto) else none) = some (e, S') := ee
    obtain ⟨hl2, ee⟩ := ite_inv ee
    cases ee
    refine wpAny_Call_Name_kw (ld_glob I hg hm ?_ hdx)
    refine PySem.W.callWith_K (h₀ := X.base) I.ok.mod.kin D.T.kC (thn (ha.run pos pins s σ H (fun vs H1 => ∃ mu1, Ext mu mu1 H H1 ∧ Rel X.K mu1 B O H1 σ ρ S' ∧ RpAll X.K mu1 (fun a => B a ∨ O a) H1 vs ws) I (tDa.mk rl z fun vs H1 mu1 E r p => ⟨mu1, E, r, p⟩)) fun us s1 ⟨vs, H1, I1, r, mu1, E, rl1, p⟩ => ⟨I1.kIn, ?_⟩) he hpl
    obtain ⟨w1, w2, rfl⟩ : ∃ w1 w2, ws = [w1, w2] := by
      match ws, hl2 with
      | [w1, w2], _ => exact ⟨w1, w2, rfl⟩
    cases p with
    | @cons v1 _ _ _ p1 p => cases p with
      | @cons v2 _ _ _ p2 p =>
        cases p
        cases r with
        | @cons _ u1 _ _ r1 r => cases r with
          | @cons _ u2 _ _ r2 r =>
            cases r
            obtain ⟨mb, hB, hbb⟩ := I1.mod.blt
            have gk := I1.bk
            refine wpAny_call (exc_made (mb := mb) D hab hsa hsb hda hdb I1.kIn (I1.mod.glob.keeps gk) hsu (hB.keeps gk) ((hbb _ (by decide)).trans hbs) (fun M h C k => hst M h C fun b o y => k _ _ (gk _ _ y)) I1.nolimit (by have := hr.depth; have := hr.dp; omega) fun h' e dx t1 tk k se sd ne ge hn => ?_)
            obtain ⟨G, g1, g2⟩ := restrict h' fun y => decide (y ≠ e)
            have gk2 : ∀ y, y ≠ e → G.get? y = h'.get? y := fun y hy => g1 y (decide_eq_true hy)
            have ne' : G.get? e = none := g2 e (by simp)
            have old : ∀ y o, s1.heap.get? y = some o → G.get? y = some o := fun y o hy => by
              rw [gk2 y (Nat.ne_of_lt (Nat.lt_of_lt_of_le (Heap.lt_size hy) se))]
              exact k _ _ hy
            have n1 : H1 dx = none := I1.hok.fresh sd
            have n2 : H1 e = none := I1.hok.fresh se
            have J : Inv X pins σ (upd H1 dx (.xd [(b, v2), (a, v1)])) { s1 with heap := G, toks := tk } := I1.laid (a := dx) (o := .xd [(b, v2), (a, v1)]) old sd ⟨_, hn.at fun o y => (gk2 dx ne).trans y, fun f => by
              by_cases cb : f = b
              · subst cb
                rw [lookup_put, if_pos rfl, if_pos rfl]
                exact r2
              · rw [lookup_put, if_neg cb, if_neg cb]
                by_cases ca : f = a
                · subst ca
                  rw [lookup_put, if_pos rfl, if_pos rfl]
                  exact r1
                · rw [lookup_put, if_neg ca, if_neg ca]
                  exact True.intro⟩
            refine ⟨e, _, _, { s1 with heap := G, toks := tk }, upd H1 dx (.xd [(b, v2), (a, v1)]), .ref C, some dx, rfl, J, fun y o hy => ?_, ne', ge, ⟨rfl, rfl⟩, rfl, rfl, ?_, rfl, I1.bare, raises_own D.T.exC D.T.tyC, ?_⟩
            · by_cases c : y = e
              · subst c
                have hy : G.get? y = some o := hy
                rw [ne'] at hy
                cases hy
              · exact (gk2 y c).symm.trans hy
            · rw [upd_ne (Ne.symm ne)]
              exact n2
            · have sm : Same H1 (upd H1 dx (.xd [(b, v2), (a, v1)])) := same_upd n1
              refine q _ _ _ mu1 (E.trans (.same sm)) (rl1.sto.same sm) ⟨C, dx, _, rfl, hm, rfl, upd_same, fun f w hf => ?_⟩
              have hf : ([(a, w1), (b, w2)] : List (Str × Wd)).lookup f = some w := hf
              by_cases ca : f = a
              · subst ca
                have : (([(f, w1), (b, w2)] : List (Str × Wd)).lookup f) = some w1 := by simp [List.lookup]
                rw [this] at hf
                cases hf
                refine ⟨v1, ?_, p1.same sm⟩
                rw [lookup_put, if_neg hab, lookup_put, if_pos rfl]
              · by_cases cb : f = b
                · subst cb
                  have e3 : (f == a) = false := beq_eq_false_iff_ne.mpr ca
                  have : (([(a, w1), (f, w2)] : List (Str × Wd)).lookup f) = some w2 := by simp [List.lookup, e3]
                  rw [this] at hf
                  cases hf
                  refine ⟨v2, ?_, p2.same sm⟩
                  rw [lookup_put, if_pos rfl]
                · have e3 : (f == a) = false := beq_eq_false_iff_ne.mpr ca
                  have e4 : (f == b) = false := beq_eq_false_iff_ne.mpr cb
                  simp [List.lookup, e3, e4] at hf
theorem xs_raise {e : Expr} {f : Xm} (hc : X.calm = true) (he : PMk X e (tXr X.K X.mg f)) : Xs X (.Raise (some e) none pos) f := by
  refine ⟨fun pins s σ H D I ⟨ρ, S, mu, B, O, rl, e, S', ee, tk⟩ => ?_⟩
  exact (ps_raise hc tk he).run pins s σ H D I ⟨ρ, S, mu, B, O, rl, e, S', ee, fun cls d H' mu' x s' xa => ⟨mu', O, x.toS s', s', xa⟩⟩
end
end DL
namespace DL
open PySem PySem.Spec PyProof.Rows L2
def recExn (S : Sto) : Wd → Option (Str × List (Str × Wd))
  | .dict [(.none, .int (.ofNat l))] => match S[l]? with
    | some (.exn c fs) => some (c, fs)
    | _ => none
  | _ => none
theorem recExn_inv {S : Sto} {w : Wd} {c : Str} {fs : List (Str × Wd)} (h : recExn S w = some (c, fs)) : ∃ l : Nat, w = oW l ∧ S[l]? = some (.exn c fs) := by
  unfold recExn at h
  split at h
  · rename_i l
    split at h
    · rename_i c' fs' e
      cases h
      exact ⟨l, rfl, e⟩
    · cases h
  · cases h
structure XIs (K : Fg) (D : Addr) : Prop where
  cl : (PySem.W.clsIn K D).isSome = true
  hg : PySem.W.findIn K (.ref D) "__getattribute__" = some (some (.builtin "BaseException.__getattribute__"))
  hk : PySem.W.findIn K (.ref D) "__getattr__" = some none
  hs : PySem.W.subIn K (.ref D) (.type "BaseException") = some true
  hd : PySem.W.hasDictIn K D = true
  ha : PySem.W.findIn K (.ref D) "__class__" = some (some (.builtin "object.__class__"))
  hn : PySem.W.specialIn K (.builtin "object.__class__") "__get__" = some (some (.builtin "getset_descriptor.__get__"))
  ht : PySem.W.takesIn K (.builtin "object.__class__") = some true
  hm : PySem.W.mroIn K D (.type "object") = some true
theorem xisB_ok {K : Fg} {D : Addr} (h : xisB K D = true) : XIs K D := by
  unfold xisB at h
  obtain ⟨h1, h⟩ := Bool.and_eq_true_iff.mp h
  obtain ⟨h2, h⟩ := Bool.and_eq_true_iff.mp h
  obtain ⟨h3, h⟩ := Bool.and_eq_true_iff.mp h
  obtain ⟨h4, h⟩ := Bool.and_eq_true_iff.mp h
  obtain ⟨h5, h⟩ := Bool.and_eq_true_iff.mp h
  obtain ⟨h6, h⟩ := Bool.and_eq_true_iff.mp h
  obtain ⟨h7, h⟩ := Bool.and_eq_true_iff.mp h
  obtain ⟨h8, h9⟩ := Bool.and_eq_true_iff.mp h
  exact ⟨h1, of_decide_eq_true h2, of_decide_eq_true h3, of_decide_eq_true h4, h5, of_decide_eq_true h6, of_decide_eq_true h7, of_decide_eq_true h8, of_decide_eq_true h9⟩
section
variable {X : Cx} {a : Expr} {f : Mx} {pos p p2 : Pos}
theorem exn_at {pins : List (Addr × Obj)} {σ : Sg} {H : Hp} {s : Shared} {mu : List Addr} {T : Addr → Prop} {ad : Addr} {c : Str} {fs : List (Str × Wd)} (I : Inv X pins σ H s) (h : ExnR X.K mu T H ad c fs) : ∃ (oe : Obj) (dx : Addr) (od : Obj) (mA : Str → Option Value) (fv : List (Str × V)), s.heap.get? ad = some oe ∧ PySem.W.InstAt s.heap ad oe (He.ga X.K c) (some od) ∧ oe.dict = some dx ∧
    s.heap.get? dx = some od ∧ (∀ name, PySem.W.lookIn name od = some (mA name)) ∧ (∀ y, RelO (fv.lookup y) (mA y)) ∧ ∀ y w, fs.lookup y = some w → ∃ v, fv.lookup y = some v ∧ Rp X.K mu T H v w := by
  obtain ⟨oe, dx, vs, fv, h1, h2, h3, h4, h5, h6, q⟩ := h
  have x1 : ObjOk X.prog X.w H s.heap ad (.frz oe (.ext fun _ => True)) := I.hok ad _ h1
  have x2 : ObjOk X.prog X.w H s.heap dx (.xd fv) := I.hok dx _ h5
  obtain ⟨mA, hns, hr⟩ := x2
  obtain ⟨od, ho, hl⟩ := lookIn_ns hns
  exact ⟨oe, dx, od, mA, fv, x1.1, ⟨x1.1, h2, by unfold PySem.W.notCls; rw [h4] <;> rfl, by rw [h3]; exact ho⟩, h3, ho, hl, hr, q⟩
def mIsX (tbl : List (Str × Bool)) (f : Mx) : Mx := fun ρ S => (f ρ S).bnd fun w S1 => R.of ((recExn S1 w).bind fun q => (tbl.lookup q.1).map PyData.bool) S1
def rIsX (K : Fg) (u : Value) : List V → Hp → VK → Prop := fun xs H Q => ∃ (ad : Addr) (c : V) (mu : List Addr) (T : Addr → Prop) (x : Str) (fs : List (Str × Wd)) (b : Bool), xs = [.ref ad, c] ∧ ClsV c u ∧ ExnR K mu T H ad x fs ∧ XIs K (He.ga K x) ∧ PySem.W.kitOne K (.ref (He.ga K x)) u = some b ∧ Q (.bl b) H
theorem cr_isX {u : Value} : CallR X (.builtin "isinstance") (rIsX X.K u) := by
  intro pins s σ H xs us Q I r h
  obtain ⟨ad, c, mu, T, x, fs, b, rfl, k, ex, xi, e, q⟩ := h
  cases r with
  | cons r1 r => cases r with
    | cons r2 r =>
      cases r
      cases r1
      have e2 := k.eq r2
      subst e2
      obtain ⟨oe, dx, od, mA, fv, h1, h2, h3, h4, h5, h6, h7⟩ := exn_at I ex
      exact PySem.W.kia_one (PySem.W.kitx_exc xi.cl xi.hg xi.hk xi.hs xi.ha xi.hn xi.ht xi.hm) I.kIn h2 e (fun z => nomatch z) fun tk => ⟨.bl b, H, I.tok tk, rfl, q⟩
theorem de_isX {x : Str} {CT : Addr} {tbl : List (Str × Bool)} (hg : Gl X "isinstance") (hm : X.mg "isinstance" = none) (gx : Gl X x) (mx : X.mg x = some (.ref CT)) (ht : ∀ q ∈ tbl, XIs X.K (He.ga X.K q.1) ∧ PySem.W.kitOne X.K (.ref (He.ga X.K q.1)) (.ref CT) = some q.2) (ha : De X a f)
    (dx : (x == ("__debug__" : Str)) = false := by decide) (he : starEach [a, .Name x p2] X.env = (false, eval a X.env) :: starEach [.Name x p2] X.env := by rfl) (h2 : starEach [Expr.Name x p2] X.env = [(false, eval (.Name x p2) X.env)] := by rfl) (hpl : (backTo pos (starEach [Expr.Name x p2] X.env)).any (·.1) = false := by rfl) :
    De X (.Call (.Name "isinstance" p) [a, .Name x p2] [] pos) (mIsX tbl f) := by
  have hT : PE X (.Name x p2) (tC (.ref CT)) := pe_glob gx mx rfl dx
  refine PE.weak (pe_callB (cr_isX (u := .ref CT)) hg hm (by decide +kernel) (pa_cons ha (pa_cons hT pa_nil h2) he) (by decide) (by decide) he hpl) fun σ H Q ⟨ρ, S, mu, B, O, rl, w, S', e, q⟩ => ?_
  obtain ⟨d, S1, e1, e⟩ := R.bnd_inv e
  obtain ⟨e2, rfl⟩ := R.of_inv e
  obtain ⟨⟨c, fs⟩, e3, e4⟩ := Option.bind_eq_some_iff.mp e2
  obtain ⟨b, e5, rfl⟩ := Option.map_eq_some_iff.mp e4
  obtain ⟨l, rfl, e6⟩ := recExn_inv e3
  obtain ⟨t1, t2⟩ := ht _ (PySem.mem_of_lookup e5)
  refine tD.mk rl e1 fun v H1 mu1 E r p => ?_
  cases p with
  | obj z => exact ⟨_, .ref CT, mu1, _, c, fs, b, rfl, .own CT, r.sto.ok _ _ _ z e6, t1, t2, q _ H1 mu1 E r.sto (.bl b)⟩
  | dct z1 z2 => exact (kv_none z2).elim
inductive ClsA (X : Cx) : List Expr → List Addr → Prop where
  | nil : ClsA X [] []
  | cons {x : Str} {p : Pos} {es : List Expr} {C : Addr} {Cs : List Addr} (gx : Gl X x) (mx : X.mg x = some (.ref C)) (r : ClsA X es Cs) (dx : (x == ("__debug__" : Str)) = false := by decide) (hs : starEach (.Name x p :: es) X.env = (false, eval (.Name x p) X.env) :: starEach es X.env := by rfl) : ClsA X (.Name x p :: es) (C :: Cs)
theorem ClsA.pa {es : List Expr} {Cs : List Addr} (h : ClsA X es Cs) : PA X es fun σ H Q => Q (Cs.map V.ref) H := by
  induction h with
  | nil => exact ⟨fun pp pins s σ H Q I h => pa_nil.run pp pins s σ H Q I h⟩
  | cons gx mx r dx hs ih => exact ⟨fun pp pins s σ H Q I h => (pa_cons (te := tC (.ref _)) (pe_glob gx mx rfl dx) ih hs).run pp pins s σ H Q I h⟩
def mXf (cs : List Str) (n : Str) (f : Mx) : Mx := fun ρ S => (f ρ S).bnd fun w S1 => R.of ((recExn S1 w).bind fun q => if q.1 ∈ cs then q.2.lookup n else none) S1
theorem de_xf {n : Str} {cs : List Str} (ht : ∀ c ∈ cs, XIs X.K (He.ga X.K c) ∧ PySem.W.findIn X.K (.ref (He.ga X.K c)) n = some none) (ha : De X a f) (hb : attributeBase a n X.env (eval a X.env) = eval a X.env := by rfl) : De X (.Attribute a n pos) (mXf cs n f) := by
  refine ⟨fun pins s σ H Q I ⟨ρ, S, mu, B, O, rl, w, S', e, q⟩ => ?_⟩
  obtain ⟨d, S1, e1, e⟩ := R.bnd_inv e
  obtain ⟨e2, rfl⟩ := R.of_inv e
  obtain ⟨⟨c, fs⟩, e3, e4⟩ := Option.bind_eq_some_iff.mp e2
  obtain ⟨l, rfl, e6⟩ := recExn_inv e3
  obtain ⟨hc, e5⟩ : c ∈ cs ∧ fs.lookup n = some w := by
    by_cases z : c ∈ cs
    · exact ⟨z, by simpa [z] using e4⟩
    · simp [z] at e4
  obtain ⟨xi, hno⟩ := ht c hc
  refine attr_of hb (thn (ha.run pins s σ H (fun v H1 => ∃ mu1, Ext mu mu1 H H1 ∧ Rel X.K mu1 B O H1 σ ρ S1 ∧ Rp X.K mu1 (fun a => B a ∨ O a) H1 v (oW l)) I (tD.mk rl e1 fun v H1 mu1 E r p => ⟨mu1, E, r, p⟩)) fun u s1 ⟨v, H1, I1, r1, mu1, E, r, p⟩ => ?_)
  cases p with
  | obj z =>
    cases r1
    obtain ⟨oe, dx, od, mA, fv, h1, h2, h3, h4, h5, h6, h7⟩ := exn_at I1 (r.sto.ok _ _ _ z e6)
    obtain ⟨v2, g1, g2⟩ := h7 n w e5
    obtain ⟨u2, hu, ru⟩ := RelO.some_of (v := v2) (o := mA n) (by rw [← g1]; exact h6 n)
    exact HandSPX.exc_get I1.kIn h2 xi.hg xi.hk xi.hs (PySem.W.findObj_own xi.hd hno rfl (by rw [h5, hu])) (handed_of ru) ⟨v2, H1, I1.tok _, ru, q v2 H1 mu1 E r.sto g2⟩
  | dct z1 z2 => exact (kv_none z2).elim
end
end DL
namespace DL
open PySem PySem.Spec PyProof.Rows L2
section
variable {P : Program} {w : World} {K : Fg} {mg : Str → Option Value} {base : Heap} {x qual : Str} {params : Arguments} {body : List Stmt} {scope : Scope} {dvs : List V} {kws : List (Str × V)} {f : Addr} {fd : FuncData}
end
def delA (H : Hp) (a : Addr) : Hp := fun b => if b = a then none else H b
theorem delA_same {H : Hp} {a : Addr} : delA H a a = none := if_pos rfl
theorem delA_ne {H : Hp} {a b : Addr} (h : b ≠ a) : delA H a b = H b := if_neg h
theorem funFrames_sub {base base' h : Heap} (sub : ∀ b o, base'.get? b = some o → base.get? b = some o) : ∀ {l : List Env}, h.FunFrames base l → h.FunFrames base' l
  | [], _ => trivial
  | env :: l, h => by
    obtain ⟨hk, ⟨L, o, hf, hn, ho, hd⟩, hr⟩ := h
    refine ⟨hk, ⟨L, o, hf, ?_, ho, hd⟩, funFrames_sub sub hr⟩
    cases z : base'.get? L with
    | none => rfl
    | some u => rw [sub _ _ z] at hn; cases hn
section
variable {X : Cx} {a : Addr} {oe : Obj} {pn : List (Addr × Obj)} {x en y : Str} {i k : Nat} {f : Addr} {fd : FuncData} {g : Gd} {p p2 pos : Pos}
abbrev exO (oe : Obj) : HO := .frz oe (.ext fun _ => True)
end
end DL
namespace DL
open PySem PySem.Spec PyProof.Rows L2
section
variable {K : Fg} {mu : List Addr} {T : Addr → Prop} {H : Hp} {S : Sto} {a : Addr} {oe : Obj}
theorem Rp.delA {v : V} {w : Wd} (h : Rp K mu T H v w) (ha : H a = some (exO oe)) : Rp K mu T (delA H a) v w := by
  have keep : ∀ {b : Addr} {o : HO}, H b = some o → o ≠ exO oe → DL.delA H a b = some o := fun {b o} e n => by
    rw [delA_ne (fun c => by rw [c, ha] at e; exact n (Option.some.inj e).symm)]
    exact e
  refine Rp.map (fun b xs q => q.imp (fun ⟨x, y, z⟩ => ⟨?_, y, z⟩) id) (fun b xs q => q.imp (fun ⟨⟨o, d, x⟩, y, z⟩ => ⟨⟨o, d, keep x (fun c => by cases c)⟩, y, z⟩) id) (fun b kvs q => ⟨keep q.1 (fun c => by cases c), q.2.1, q.2.2⟩) (fun _ _ q => q) _ _ h
  rcases x with x | ⟨o, x⟩
  · exact .inl (keep x fun c => by cases c)
  · exact .inr ⟨o, keep x fun c => by cases c⟩
theorem StOk.delA (h : StOk K mu T H S) (ha : H a = some (exO oe)) (n : a ∉ mu) : StOk K mu T (delA H a) S :=
  ⟨h.len, h.nd, fun l b r q1 q2 => RecOk.map (fun o z => by rw [delA_ne (fun c => n (by rw [← c]; exact List.mem_of_getElem? q1))]; exact z) (fun _ _ z => z.delA ha)
    (fun c o f z m => ⟨by
      rw [delA_ne (fun e => by
        rw [e, ha] at z
        have z := Option.some.inj z
        rcases f with ⟨_, _, f⟩ | ⟨_, f⟩ <;> rw [f] at z <;> cases z)]
      exact z, m⟩) (h.ok l b r q1 q2)⟩
theorem hot_sp {mg : Str → Option Value} {cls : Value} {d : Option Addr} {e : Xn} {g : Gd} {Q : VK} {w : Wd} {S2 : Sto} (st : StOk K mu T H S) (bn : Bn mu T H) (xa : XAt K mg mu T H cls d e) (hmg : mg e.c = some (.ref (He.ga K e.c))) (hz : Zc cls d oe) (hv : ∃ vs, oe.data = .fields vs) (na : H a = none)
    (hg : g [oW S.length] (S ++ [.exn e.c e.fs]) = .ok w S2) (hb : bndW S.length w = true) (hS : ((S2.take S.length).all fun r => r.bnd S.length) = true)
    (q : ∀ v H' , Ext mu mu H H' → StOk K mu T H' (S2.take S.length) → Rp K mu T H' v w → Q v H') : spD K g [.ref a] (upd H a (exO oe)) fun v H2 => H2 a = some (exO oe) → Q v (delA H2 a) := by
  obtain ⟨C, dx, fv, ec, em, ed, ex, hf⟩ := xa
  obtain ⟨vs, hv⟩ := hv
  have eC : C = He.ga K e.c := by
    rw [em] at hmg
    exact Value.ref.inj (Option.some.inj hmg)
  have dm : dx ∉ mu := fun m => (st.pl m).2 _ (.inr ⟨fv, rfl⟩) ex
  have da : dx ≠ a := ne_of_none ex na
  have n := st.fresh na
  have sm : Same H (upd H a (exO oe)) := same_upd na
  have E0 : Ext mu (mu ++ [a]) H (upd H a (exO oe)) := ⟨fun l b z => by rw [List.getElem?_append_left (List.getElem?_eq_some_iff.mp z).1]; exact z, fun b u z _ => sm b u z, fun b m z => by
    rcases List.mem_append.mp m with m | m
    · exact absurd m z
    · rw [List.mem_singleton.mp m]; exact na⟩
  have hr : RecOk K (mu ++ [a]) T (upd H a (exO oe)) a (.exn e.c e.fs) := ⟨oe, dx, vs, fv, upd_same, by rw [hz.1, ec, eC], by rw [hz.2, ed], hv, by rw [upd_ne da]; exact ex, fun m => (List.mem_append.mp m).elim dm fun m => da (List.mem_singleton.mp m),
    fun y u z => let ⟨v, p1, p2⟩ := hf y u z; ⟨v, p1, p2.ext E0⟩⟩
  obtain ⟨E, st1⟩ := st.newRec0 na hr
  have pl : PlH (some (exO oe)) := ⟨.frz, fun _ z => by cases z⟩
  have lm : mu.length = S.length := st.len
  refine ⟨[oW S.length], S ++ [.exn e.c e.fs], mu ++ [a], T, st1, bn.ext E, .cons (.obj (by rw [← lm, List.getElem?_append_right (Nat.le_refl _), Nat.sub_self]; rfl)) .nil, w, S2, hg, fun v H2 mu2 E2 st2 p2 ha => ?_⟩
  have tk : mu2.take S.length = mu := by
    apply List.ext_getElem?
    intro i
    rw [List.getElem?_take]
    split
    · rename_i hi
      have h1 : mu[i]? = some mu[i] := List.getElem?_eq_getElem (by rw [lm]; exact hi)
      rw [h1, E2.pre i mu[i] (E.pre i _ h1)]
    · rename_i hi
      exact (List.getElem?_eq_none (by omega)).symm
  have st3 := st2.takeM hS
  rw [tk] at st3
  have p3 := Rp.take _ _ hb p2
  rw [tk] at p3
  refine q v (DL.delA H2 a) ⟨fun _ _ z => z, fun b o z m => ?_, fun b m z => absurd m z⟩ (st3.delA ha n) (p3.delA ha)
  have ba := ne_of_none z na
  rw [delA_ne ba]
  exact E2.keep b o (sm b o z) fun y => (List.mem_append.mp y).elim m fun y => ba (List.mem_singleton.mp y)
end
def tTupF (t : TA) : TE := fun σ H Q => t σ H fun xs H1 => xs.length ≤ sizeLine ∧ ∀ (p : Addr) (o : Obj), H1 p = none → o.dict = none → Q (.ref p) (upd H1 p (.frz o (.tup xs)))
theorem pe_tupF {X : Cx} {es : List Expr} {t : TA} {pos : Pos} {k : Nat} (h : PA X es t) : PE X (.Tuple es k pos) (tTupF t) := by
  refine ⟨fun pins s σ H Q I hq => ?_⟩
  refine wpAny_Tuple_spliced (thn (h.run pos pins s σ H _ I hq) fun us s1 ⟨xs, H1, I1, r, z, q⟩ => ⟨by rw [← r.length]; exact z, ?_⟩)
  exact ⟨.ref s1.heap.objs.size, _, Inv.ftup (t' := s1.toks) I1 r z, rfl, q _ _ (I1.hok.fresh (Nat.le_refl _)) rfl⟩
def TTh (K : Fg) (WC : Addr) (lbl : Str) (g : Gd) : (XK → Hp → VK → Prop) → Hp → VK → Prop := fun tl H Q =>
  tl (fun cls d H' => PySem.W.exmOne K cls (.ref WC) = some true ∧ (∀ q ∈ K, q.2.cls ≠ cls) ∧ ∀ (a : Addr) (oe : Obj), Zc cls d oe → (∃ vs, oe.data = .fields vs) → H' a = none → spD K g [.ref a] (upd H' a (exO oe)) fun v H2 => H2 a = some (exO oe) → Q v (delA H2 a)) H
    fun v H' => ∀ (p : Addr) (o : Obj), H' p = none → o.dict = none → Q (.ref p) (upd H' p (.frz o (.tup [.str lbl, v])))
section
variable {X : Cx} {pins : List (Addr × Obj)} {σ : Sg} {H : Hp} {s : Shared} {mu : List Addr} {B O : Addr → Prop} {ρ : Ev} {S : Sto} {l : Nat} {P c : Addr} {xo : Str} {params : Arguments} {body : Expr} {scope : Scope} {pos : Pos}
theorem lam_new {E Q : Value → Shared → Prop} (I : Inv X pins σ H s) (rl : Rel X.K mu B O H σ ρ S) (hl : mu[l]? = some P) (hS : S[l]? = some (.tab xo)) (TB : LamX.TabB X.base X.mg c P) (hcode : X.env.code = .ref c) (hq : X.env.qual = xo ++ ".<locals>.") (hdef : defaultsOf params X.env = ([], []))
    (hfree : ∀ y ∈ scope.names, y.2 = .free → ∃ c, X.env.cells.lookup y.1 = some c)
    (h : ∀ (f c' : Addr) (pm ctv : Value) (H1 : Hp) (s' : Shared), Inv X pins σ H1 s' → Ext mu mu H H1 → Rel X.K mu B O H1 σ ρ S → s'.heap.get? f = some (PySem.W.kla_obj "<lambda>" (X.env.qual ++ "<lambda>") params body scope (cloFrom X.env.cells scope.names []) pm c' ctv) →
      H1 f = none → f ∉ frs X.stack → H1 c' = some (LamX.CodeO c' (X.env.qual ++ "<lambda>")) → Q (.ref f) s') : wpAny (model X.prog X.w) X.A (eval (.Lambda params body scope pos) X.env) Q E s := by
  obtain ⟨hP0, ps, hP, hT, hC⟩ := rl.sto.ok l P (.tab xo) hl hS
  rw [← hq] at hC
  have away : ∀ b, s.heap.objs.size ≤ b → b ∉ frs X.stack := fun b hb m => by
    rcases List.mem_cons.mp (I.stkSub _ m) with e | m
    · rw [e] at hb
      exact absurd I.lt (Nat.not_lt.mpr hb)
    · exact I.nofs hb m
  have pP : s.heap.get? P = some (PySem.W.tabObj ps) := I.hok P _ hP
  have aP : s.heap.BuiltinsAt X.mg P := TB.bm.keeps I.bk
  refine PySem.W.kla_eval hdef ?_
  cases hit : codeAmong pos ps.toList with
  | some cv =>
    obtain ⟨c', rfl, hc1, _⟩ := hC pos cv hit
    refine PySem.W.kla_makeFunctionHit (mg := X.mg) (c := c) (P := P) (ps := ps) (closure_ok hfree) I.ok.glob (I.mod.glob.keeps I.bk) hcode (TB.code.keeps I.bk) pP hT hit aP fun ctv h' tk k sz => ?_
    exact h _ c' _ ctv H _ (I.kept (t' := tk) fun b o e => Heap.get?_push_of_some _ (k b o e)) (.refl _ _) rl (Heap.get?_push_size _ rfl) (I.hok.fresh sz) (away _ sz) hc1
  | none =>
    refine PySem.W.kla_makeFunction (mg := X.mg) (c := c) (P := P) (ps := ps) (closure_ok hfree) I.ok.glob (I.mod.glob.keeps I.bk) hcode (TB.code.keeps I.bk) pP hT hit TB.gP aP fun c' ctv h' tk k ge lt rec_ tb => ?_
    obtain ⟨c2, oc, vs, t, e2, g1, g2, g3⟩ := rec_
    cases e2
    have sz : s.heap.objs.size ≤ h'.objs.size := Nat.le_trans ge (Nat.le_of_lt lt)
    have nC : H c' = none := I.hok.fresh ge
    have cP : P ≠ c' := ne_of_none hP nC
    have J := LamX.inv_table (t' := tk) (more := #[rawInt pos.line, rawInt pos.col, .ref c']) (h' := h'.push (PySem.W.kla_obj "<lambda>" (X.env.qual ++ "<lambda>") params body scope (cloFrom X.env.cells scope.names []) ((X.mg "__name__").getD .none) c' ctv)) I hP
      (fun b o hb e => Heap.get?_push_of_some _ (k b o hb e)) (Heap.get?_push_of_some _ tb) ge ⟨oc, vs, t, Heap.get?_push_of_some _ g1, g2, g3⟩
    have eH : upd (upd H P (.tbl (ps ++ #[rawInt pos.line, rawInt pos.col, .ref c']))) c' (LamX.CodeO c' (X.env.qual ++ "<lambda>")) = upd (upd H c' (LamX.CodeO c' (X.env.qual ++ "<lambda>"))) P (.tbl (ps ++ #[rawInt pos.line, rawInt pos.col, .ref c'])) := by
      funext b
      by_cases b1 : b = P
      · rw [b1, upd_ne cP, upd_same, upd_same]
      · rw [upd_ne b1]
        by_cases b2 : b = c'
        · rw [b2, upd_same, upd_same]
        · rw [upd_ne b2, upd_ne b2, upd_ne b1]
    rw [eH] at J
    have sm : Same H (upd H c' (LamX.CodeO c' (X.env.qual ++ "<lambda>"))) := same_upd nC
    have st0 := rl.sto.same sm
    have cm : c' ∉ mu := rl.sto.fresh nC
    have hr : RecOk X.K mu (fun a => B a ∨ O a) (upd (upd H c' (LamX.CodeO c' (X.env.qual ++ "<lambda>"))) P (.tbl (ps ++ #[rawInt pos.line, rawInt pos.col, .ref c']))) P (.tab xo) := by
      refine ⟨hP0, _, upd_same, by rw [Array.toList_append]; exact PySem.TriplesOk_snoc _ _ _ _ hT, fun p' cv hcv => ?_⟩
      rw [← hq]
      rw [Array.toList_append] at hcv
      rcases LamX.among_app (pos := pos) (p' := p') (c := .ref c') ps.toList hT hcv with z | z
      · obtain ⟨c0, e1, e2, e3⟩ := hC p' cv z
        exact ⟨c0, e1, by rw [upd_ne (fun e => by rw [e, hP] at e2; cases e2)]; exact sm _ _ e2, e3⟩
      · exact ⟨c', z, by rw [upd_ne (Ne.symm cP)]; exact upd_same, cm⟩
    obtain ⟨E2, st2⟩ := st0.setRec hl hr
    have eS : S.set l (.tab xo) = S := by
      apply List.ext_getElem?
      intro i
      by_cases c : i = l
      · subst c
        rw [List.getElem?_set_self (List.getElem?_eq_some_iff.mp hS).1, hS]
      · rw [List.getElem?_set_ne (Ne.symm c)]
    rw [eS] at st2
    have EX := (Ext.same (mu := mu) sm).trans E2
    refine h _ c' _ ctv _ _ J EX (rl.ext EX st2) (Heap.get?_push_size _ rfl) ?_ (away _ sz) (by rw [upd_ne (Ne.symm cP)]; exact upd_same)
    have n1 : h'.objs.size ≠ c' := Nat.ne_of_gt lt
    have n2 : h'.objs.size ≠ P := Nat.ne_of_gt (Nat.lt_of_lt_of_le (Heap.lt_size pP) sz)
    rw [upd_ne n2, upd_ne n1]
    exact I.hok.fresh sz
end
def hotR (g : Gd) (e : Xn) (S : Sto) : R Wd := match g [oW S.length] (S ++ [.exn e.c e.fs]) with
  | .ok w S2 => if bndW S.length w = true ∧ ((S2.take S.length).all fun r => r.bnd S.length) = true then .ok w (S2.take S.length) else .bad
  | .bad => .bad
def tabAt (S : Sto) (xo : Str) : Option Nat := S.findIdx? fun r => match r with
  | .tab x => x == xo
  | _ => false
def mLam (xo lbl : Str) (cs : List Str) (gh : Gd) (fE : Mx) (xE : Xm) : Mx := fun ρ S => match tabAt S xo with
  | none => .bad
  | some _ => match fE ρ S with
    | .ok w S1 => .ok (.tuple [.str lbl, w]) S1
    | .bad => match xE ρ S with
      | some (e, S1) => if e.c ∈ cs then hotR gh e S1 else .bad
      | none => .bad
theorem tabAt_inv {S : Sto} {xo : Str} {l : Nat} (h : tabAt S xo = some l) : S[l]? = some (.tab xo) := by
  unfold tabAt at h
  obtain ⟨h1, h2, _⟩ := List.findIdx?_eq_some_iff_getElem.mp h
  rw [List.getElem?_eq_getElem h1]
  split at h2
  · rename_i x e
    rw [e, beq_iff_eq.mp h2]
  · cases h2
def tXE (K : Fg) (mg : Str → Option Value) (xE : Xm) (E : XK) (σ : Sg) (H : Hp) : Prop := ∃ ρ S mu B O, Rel K mu B O H σ ρ S ∧ ∃ e S', xE ρ S = some (e, S') ∧ ∀ cls d H' mu', Ext mu mu' H H' → StOk K mu' (fun a => B a ∨ O a) H' S' → XAt K mg mu' (fun a => B a ∨ O a) H' cls d e → E cls d H'
section
variable {X : Cx}
theorem de_lam {x a xo lbl : Str} {cs : List Str} {g c P WC : Addr} {k : Nat} {pg : Arguments} {bg : List Stmt} {sg : Scope} {dV kV doc pm cdv ct oc : Value} {an od : Option Addr} {osl : Array (Option Value)} {Ng : List Str} {gh : Gd} {fE : Mx} {xE : Xm}
    {params : Arguments} {body : Expr} {scope : Scope} {p lpos pos : Pos} (hg : Gl X x) (hm : X.mg x = some (.ref g)) (hk : PySem.W.keepIn X.K (.ref g) = true)
    (lk : X.K.lookup g = some ⟨oc, od, .func (PySem.W.fnOf x x pg bg sg dV kV doc pm an cdv ct), osl⟩) (hcg : PySem.W.codeIn X.K cdv x = true) (hb : L2.Binds X.K (PySem.W.fnOf x x pg bg sg dV kV doc pm an cdv ct) [a] []) (Sg : FnScope Ng [a] sg) (hNg : Ng[0]? = some a) (hva : Vis sg a)
    (hG : LamX.GivesTo X Ng x sg g cdv bg a (X.env.qual ++ "<lambda>") (TTh X.K WC lbl gh))
    (TB : LamX.TabB X.base X.mg c P) (hP : P = He.tabOf X.K (He.codeOf X.K (xo, none))) (hcode : X.env.code = .ref c) (hq : X.env.qual = xo ++ ".<locals>.") (hr : Room (k + 2) X.A) (L : LamX.LamS X.env.scope scope) (hdef : defaultsOf params X.env = ([], []))
    (hbind : ∀ (q : Str) (cl : List (Str × Addr)) (pm cv ctv : Value), bindArgs (PySem.W.kla_fn "<lambda>" q params body scope cl pm cv ctv) ⟨[], []⟩ = pure [])
    (hcs : ∀ c ∈ cs, X.mg c = some (.ref (He.ga X.K c)) ∧ PySem.W.exmOne X.K (.ref (He.ga X.K c)) (.ref WC) = some true ∧ ∀ q ∈ X.K, q.2.cls ≠ .ref (He.ga X.K c))
    (hE : ∀ (A : Around) (outer : List Env) (s : Shared) (H : Hp) (E : XK) (f c' : Addr), Room k (A.deeper (LamX.lamEnv X scope s.heap.objs.size f c')) → De (LamX.lamCx X A outer s H E scope f c').nox body fE)
    (hX : ∀ (A : Around) (outer : List Env) (s : Shared) (H : Hp) (E : XK) (f c' : Addr), Room k (A.deeper (LamX.lamEnv X scope s.heap.objs.size f c')) → Xe (LamX.lamCx X A outer s H E scope f c') body xE)
    (hdb : (x == ("__debug__" : Str)) = false := by decide) (hd : (a == ("__debug__" : Str)) = false := by decide) (hcd : (a == ("__classdict__" : Str)) = false := by decide) :
    De X (.Call (.Name x p) [.Lambda params body scope lpos] [] pos) (mLam xo lbl cs gh fE xE) := by
  refine ⟨fun pins s σ H Q I ⟨ρ, S, mu, B, O, rl, w, S', e, q⟩ => ?_⟩
  unfold mLam at e
  cases hS : tabAt S xo with
  | none => rw [hS] at e; cases e
  | some l =>
  rw [hS] at e
  have hS := tabAt_inv hS
  obtain ⟨b, hl⟩ : ∃ b, mu[l]? = some b := by
    have := (List.getElem?_eq_some_iff.mp hS).1
    rw [← rl.sto.len] at this
    exact ⟨_, List.getElem?_eq_getElem this⟩
  obtain ⟨eb, _⟩ := rl.sto.ok l b (.tab xo) hl hS
  rw [← hP] at eb
  subst eb
  refine wpAny_Call_Name_kw (ld_glob I hg hm ?_ hdb)
  refine PySem.W.callWith_K (h₀ := X.base) I.ok.mod.kin hk ?_ (by rfl) (by rfl)
  show wpAny _ _ (spliced ((false, eval (.Lambda params body scope lpos) X.env) :: backTo pos (starEach [] X.env))) _ _ s
  refine Calls.spliced_cons (lam_new I rl hl hS TB hcode hq hdef (L.has I.ok) fun f c' pm' ctv H1 s' I1 EX rl1 hf hfn hfr hco => ?_)
  refine Calls.spliced_nil ⟨I1.kIn, ?_⟩
  have rc : codeAny (model X.prog X.w) X.A (.call (.ref g) ⟨[.ref f], []⟩) (CR C8.CX0 X.stack X.prog X.w H1 s' Q C8.E0) s' := by
    refine LamX.run_ofS (N := Ng) (ps := [a]) (us := [.ref f]) (vs := [.ref f]) lk hcg Sg hr I1.env0 (hb s' [.ref f] I1.kIn rfl) (.cons rfl .nil) rfl fun hr' => ?_
    have hTT : TTh X.K WC lbl gh (fun E H' Q' => tD X.K fE σ H' Q' ∨ tXE X.K X.mg xE E σ H') H1 Q := by
      show (tD X.K fE σ H1 _ ∨ tXE X.K X.mg xE _ σ H1)
      have e : (match fE ρ S with
        | .ok w S1 => (.ok (.tuple [.str lbl, w]) S1 : R Wd)
        | .bad => match xE ρ S with
          | some (e, S1) => if e.c ∈ cs then hotR gh e S1 else .bad
          | none => .bad) = .ok w S' := e
      cases z : fE ρ S with
      | ok w1 S1 =>
        rw [z] at e
        cases e
        refine .inl (tD.mk rl1 z fun v H2 mu2 E2 r p => fun p' o np d => ?_)
        have sm : Same H2 (upd H2 p' (.frz o (.tup [.str lbl, v]))) := same_upd np
        exact q _ _ mu2 ((EX.trans E2).trans (.same sm)) (r.sto.same sm) (new_tup r.sto r.bn (.cons (.str lbl) (.cons p .nil)) np d)
      | bad =>
        rw [z] at e
        cases y : xE ρ S with
        | none => rw [y] at e; cases e
        | some es =>
          obtain ⟨e1, S1⟩ := es
          rw [y] at e
          have e : (if e1.c ∈ cs then hotR gh e1 S1 else .bad) = (.ok w S' : R Wd) := e
          by_cases hc : e1.c ∈ cs
          · rw [if_pos hc] at e
            obtain ⟨c1, c2, c3⟩ := hcs _ hc
            unfold hotR at e
            cases u : gh [oW S1.length] (S1 ++ [.exn e1.c e1.fs]) with
            | bad => rw [u] at e; cases e
            | ok w2 S2 =>
              rw [u] at e
              have e : (if bndW S1.length w2 = true ∧ ((S2.take S1.length).all fun r => r.bnd S1.length) = true then (.ok w2 (S2.take S1.length) : R Wd) else .bad) = .ok w S' := e
              by_cases hb : bndW S1.length w2 = true ∧ ((S2.take S1.length).all fun r => r.bnd S1.length) = true
              · rw [if_pos hb] at e
                cases e
                refine .inr ⟨ρ, S, mu, B, O, rl1, e1, S1, y, fun cls d H' mu' x' st' xa => ?_⟩
                have ec : cls = .ref (He.ga X.K e1.c) := by
                  obtain ⟨C, _, _, z1, z2, _⟩ := xa
                  rw [c1] at z2
                  rw [z1, Value.ref.inj (Option.some.inj z2)]
                refine ⟨by rw [ec]; exact c2, fun q hq => by rw [ec]; exact c3 q hq, fun a oe hz hv na => ?_⟩
                exact hot_sp st' (rl1.bn.ext x') xa c1 hz hv na u hb.1 hb.2 fun v H2 E2 st2 p2 => q v H2 mu' ((EX.trans x').trans E2) st2 p2
              · rw [if_neg hb] at e
                cases e
          · rw [if_neg hc] at e
            cases e
    obtain ⟨t', ht', hq'⟩ := hG f c' s' H1 Q (fun E H' Q' => tD X.K fE σ H' Q' ∨ tXE X.K X.mg xE E σ H')
      (fun W pn xe E p1 p2 tk hW => LamX.pe_act (i := 0) (tb := fun σ H Q => tD X.K fE σ H Q ∨ tXE X.K X.mg xE E σ H) I1 L hf hfn hfr (hbind _ _ _ _ _) tk hW hr' (fun A outer s H hr2 => ⟨fun pins s2 σ2 H2 Q2 I2 h2 => h2.elim (fun h2 => (PE.nox (hE A outer s H E f c' hr2)).run pins s2 σ2 H2 Q2 I2 h2)
        fun ⟨ρ2, S2, mu2, B2, O2, r2, e2, S3, e3, q3⟩ => (hX A outer s H E f c' hr2).run pins s2 σ2 H2 Q2 I2 (tXe.mk r2 e3 ((takes_of (X := LamX.lamCx X A outer s H E scope f c') (E := E) rfl rfl rfl rfl).imp fun cls d _ H' ⟨mu', x', st', xa⟩ => q3 cls d H' mu' x' st' xa))⟩) hNg hva hd hcd) hco hTT
    exact ⟨t', ht'.nox, hq'⟩
  refine wpAny_call (codeAny_mono rc fun r s2 hq => ?_)
  cases r with
  | error e => exact (show False from hq).elim
  | ok fl =>
    cases fl with
    | ret u => exact I1.after hq
    | next => exact False.elim hq
    | brk => exact False.elim hq
    | cont => exact False.elim hq
end
end DL
namespace DL
open PySem PySem.Spec PyProof.Rows L2
variable {G : Bool}
theorem StatO.in_ {h : Heap} {o : Obj} (e : h.get? cStatics = some o) : PySem.W.Frag.In [(cStatics, o)] h := fun a u z => by
  by_cases c : a = cStatics
  · subst c
    have : ([(cStatics, o)] : Fg).lookup cStatics = some o := by simp [List.lookup]
    rw [this] at z
    cases z
    exact e
  · have : ([(cStatics, o)] : Fg).lookup a = none := by simp [List.lookup, beq_eq_false_iff_ne.mpr c]
    rw [this] at z
    cases z
theorem StatO.b {h : Heap} (x : StatO h) : StatB h := by
  obtain ⟨o, e, n⟩ := x
  exact fun M h' C k => PySem.W.looks_opaque (StatO.in_ (k _ _ e)) n
theorem StatO.dict {o : Obj} (e : PySem.W.nsIn [(cStatics, o)] cStatics "thirdparty.any" = some none) : ∃ es ep, o.data = .dict es ep := by
  unfold PySem.W.nsIn at e
  split at e
  · rename_i c d es n sl ho
    have : ([(cStatics, o)] : Fg).lookup cStatics = some o := by simp [List.lookup]
    rw [this] at ho
    cases ho
    exact ⟨es, n, rfl⟩
  · cases e
section
variable {P : Program} {w : World} {K : Fg} {mg : Str → Option Value} {k : Nat} {fa a : Addr} {fd : FuncData} {y : Str} {g : Gd} {s : Shared} {vs : List Value} {ns : List Int} {xs : List Str}
theorem tabs_ok {H : Hp} (h : ∀ x ∈ xs, H (tbX K x) = some (.tbl #[])) (nd : (xs.map (tbX K)).Nodup) : StOk K (xs.map (tbX K)) (fun _ => False) H (xs.map Rec.tab) := by
  refine ⟨by rw [List.length_map, List.length_map], nd, fun l b r e1 e2 => ?_⟩
  rw [List.getElem?_map] at e1 e2
  obtain ⟨x, h1, rfl⟩ := Option.map_eq_some_iff.mp e1
  obtain ⟨x', h2, rfl⟩ := Option.map_eq_some_iff.mp e2
  rw [h1] at h2
  cases h2
  exact ⟨rfl, #[], h x (List.mem_of_getElem? h1), True.intro, fun pos cv hc => by simp [codeAmong] at hc⟩
theorem law_runT {H : Hp} (M : Mod K mg (hidT s.heap H)) (hT : ∀ x ∈ xs, s.heap.get? (tbX K x) = some { cls := .none, data := .fields #[] }) (hC : ∀ x ∈ xs, PySem.W.CodeHd s.heap (cdX K x) (tbX K x)) (nd : (xs.map (tbX K)).Nodup) (tr : ∀ x ∈ xs, H (tbX K x) = some (.tbl #[]))
    (fz : ∀ b u, H b = some u → b ∈ xs.map (tbX K) ∨ ∃ o v, u = .frz o v) (hok : HOk P w H s.heap) (hS : LsR K (xs.map (tbX K)) (fun _ => False) H a (ns.map V.int)) (hgn : s.gens = #[]) (hr : Room k callerA)
    (F : FnD G P w K mg (hidT s.heap H) k fa fd [y] g) (hbind : ∀ (s : Shared) (u : Value), BindsTo s fd ⟨[u], []⟩ [(y, u)]) (hg : ∃ S', g [.list (ns.map PyData.int)] (xs.map Rec.tab) = .ok (.bool true) S') :
    codeAny (model P w) callerA (.call (.ref fa) ⟨[.ref a], []⟩) (LawEnds s) s := by
  obtain ⟨S', hg⟩ := hg
  have none_of : ∀ {b : Addr} {p : Prop}, b ∈ ([] : List Addr) → p := fun h => by cases h
  refine codeAny_mono (F.run callerA [] s H ⟨[.ref a], []⟩ [.ref a] [.ref a] (fun v _ => v = .bl true) hr (fun _ => rfl) ⟨rfl, M, fun _ _ => of_hidT, Nat.le_of_eq (hidT_size ..), trivial, fun _ => none_of, hok, .of_eq hgn⟩ (hbind s _) (.cons rfl .nil)
    ⟨_, xs.map Rec.tab, xs.map (tbX K), fun _ => False, tabs_ok tr nd, fun _ => False.elim, .cons (.lst hS (rp_ints ns)) .nil, _, S', hg, fun _ _ _ _ _ z => by cases z; rfl⟩) fun r s' h => ?_
  match r, h with
  | .ok (.ret u), ⟨v, H', os, bare, un, hok', hv, q⟩ =>
    subst q
    obtain rfl : u = Value.bool true := hv
    have stays : ∀ b o, b ∉ xs.map (tbX K) → s.heap.get? b = some o → s'.heap.get? b = some o := fun b o nb e => by
      cases z : H b with
      | none => exact un.keep b o e z none_of (by simp)
      | some z' =>
        rcases fz b z' z with m | ⟨o', v', rfl⟩
        · exact absurd m nb
        · have same := (hok b _ z).1.symm.trans e
          cases same
          exact (hok' b _ (un.frzs b _ _ z)).1
    have grows : ∀ x ∈ xs, ∃ more : Array Value, s'.heap.get? (tbX K x) = some { cls := .none, data := .fields more } := fun x hx => by
      obtain ⟨more, z⟩ := un.tbls _ _ (tr x hx)
      exact ⟨_, hok' _ _ z⟩
    refine ⟨rfl, ⟨fun b o e => ?_, fun b o e => ?_⟩, os, bare⟩ <;> by_cases m : b ∈ xs.map (tbX K)
    · obtain ⟨x, hx, rfl⟩ := List.mem_map.mp m
      obtain ⟨more, hm⟩ := grows x hx
      rw [hT x hx] at e
      cases e
      exact .inr (.inl ⟨((hC x hx).tab (hT x hx)).isCodeTable, rfl, #[], more, rfl, by rw [Array.empty_append]; exact hm⟩)
    · exact .inl (stays b o m e)
    · obtain ⟨x, hx, rfl⟩ := List.mem_map.mp m
      obtain ⟨more, hm⟩ := grows x hx
      exact ⟨_, hm⟩
    · exact ⟨o, stays b o m e⟩
theorem law_DT {mb : Str → Option Value} (KX : K.In s.heap) (hns : s.heap.Ns mainGlobals mg) (hb : s.heap.Ns builtinsNs mb) (hbb : ∀ x : Str, x ≠ "__name__" → mb x = bootBuiltins x) (hlim : s.heap.NoLimit) (hgn : s.gens = #[]) (hst : StatO s.heap)
    (hbm : ∃ bm ob, mg "__builtins__" = some (.ref bm) ∧ bm ≠ builtinsNs ∧ s.heap.get? bm = some ob ∧ ob.cls = .type "module" ∧ ob.dict = some builtinsNs ∧ ob.data = .plain)
    (hT : ∀ x ∈ xs, s.heap.get? (tbX K x) = some { cls := .none, data := .fields #[] }) (nT : ∀ x ∈ xs, K.lookup (tbX K x) = none) (hC : ∀ x ∈ xs, PySem.W.codeHdIn K (cdX K x) (tbX K x) = true) (nd : (xs.map (tbX K)).Nodup)
    (ha : s.heap.get? a = some { cls := .type "list", data := .seq vs.toArray }) (hi : IntsAre vs ns) (hl : ns.length ≤ sizeLine) (hr : Room k callerA)
    (F : ∀ base : Heap, K.In base → base.Ns mainGlobals mg → StatB base → (∀ x ∈ xs, LamX.TabB base mg (cdX K x) (tbX K x)) → FnD G P w K mg base k fa fd [y] g) (hbind : ∀ (s : Shared) (u : Value), BindsTo s fd ⟨[u], []⟩ [(y, u)])
    (hg : ∃ S', g [.list (ns.map PyData.int)] (xs.map Rec.tab) = .ok (.bool true) S') : codeAny (model P w) callerA (.call (.ref fa) ⟨[.ref a], []⟩) (LawEnds s) s := by
  have M : Mod K mg s.heap := ⟨KX, hns, ⟨mb, hb, hbb⟩, hlim⟩
  have z : (ns.map V.int).length ≤ sizeLine := by rw [List.length_map]; exact hl
  obtain ⟨so, hso, hsn⟩ := hst
  obtain ⟨ses, sep, hsd⟩ := StatO.dict hsn
  have isT : ∀ b, b ∈ xs.map (tbX K) → s.heap.get? b = some { cls := .none, data := .fields #[] } ∧ K.lookup b = none := fun b m => by
    obtain ⟨x, hx, rfl⟩ := List.mem_map.mp m
    exact ⟨hT x hx, nT x hx⟩
  have aT : a ∉ xs.map (tbX K) := fun m => by
    have e := (isT a m).1
    rw [ha] at e
    have e := congrArg Obj.data (Option.some.inj e)
    cases e
  have go : ∀ H : Hp, (∀ x ∈ xs, H (tbX K x) = some (.tbl #[])) → (∀ b u, H b = some u → b ∈ xs.map (tbX K) ∨ (b = a ∧ K.lookup a = none ∧ ∃ o v, u = .frz o v)) → HOk P w H s.heap → LsR K (xs.map (tbX K)) (fun _ => False) H a (ns.map V.int) →
      codeAny (model P w) callerA (.call (.ref fa) ⟨[.ref a], []⟩) (LawEnds s) s := fun H tr al hok hS => by
    have free : ∀ b o, s.heap.get? b = some o → (K.lookup b = some o ∨ (∃ es ep, o.data = .dict es ep) ∨ o.data = .plain) → H b = none := fun b o e c => by
      cases q : H b with
      | none => rfl
      | some u =>
        exfalso
        rcases al b u q with m | ⟨rfl, hk, _⟩
        · obtain ⟨e1, e2⟩ := isT b m
          rw [e1] at e
          cases e
          rcases c with c | ⟨_, _, c⟩ | c
          · rw [e2] at c; cases c
          · cases c
          · cases c
        · rw [ha] at e
          cases e
          rcases c with c | ⟨_, _, c⟩ | c
          · rw [hk] at c; cases c
          · cases c
          · cases c
    have M2 := mod_hide M (H := H) fun b o e c => free b o e (c.imp id .inl)
    have at2 : ∀ {b : Addr} {o : Obj}, s.heap.get? b = some o → H b = none → (hidT s.heap H).get? b = some o := fun e n => hidT_get e n
    have S2 : StatB (hidT s.heap H) := StatO.b ⟨so, at2 hso (free _ _ hso (.inr (.inl ⟨_, _, hsd⟩))), hsn⟩
    have TB : ∀ x ∈ xs, LamX.TabB (hidT s.heap H) mg (cdX K x) (tbX K x) := fun x hx => by
      obtain ⟨gd, ge, gp, g1, g2, _⟩ := hns
      refine NdefX.tabB_of_K M2.kin (hC x hx) ?_ fun e => ?_
      · obtain ⟨bm, ob, b1, b2, b3, b4, b5, b6⟩ := hbm
        refine ⟨bm, ob, b1, b2, fun e => ?_, fun e => ?_, at2 b3 (free _ _ b3 (.inr (.inr b6))), b4, b5, b6⟩
        · rw [e, g1] at b3
          cases b3
          rw [g2] at b6
          cases b6
        · rw [e, hT x hx] at b3
          cases b3
          cases b6
      · rw [e, hT x hx] at g1
        cases g1
        cases g2
    exact law_runT M2 hT (fun x hx => PySem.W.codeHd_of_K KX (hC x hx)) nd tr (fun b u e => (al b u e).imp id fun h => h.2.2) hok hS hgn hr (F _ M2.kin M2.glob S2 TB) hbind hg
  cases hk : K.lookup a with
  | some o =>
    obtain rfl := Option.some.inj ((KX a o hk).symm.trans ha)
    refine go (fun b => if b ∈ xs.map (tbX K) then some (.tbl #[]) else none) (fun x hx => if_pos (List.mem_map.mpr ⟨x, hx, rfl⟩)) (fun b u e => ?_) (fun b u e => ?_) (.inr ⟨vs, _, hk, vals_ints hi, z⟩)
    · by_cases m : b ∈ xs.map (tbX K)
      · exact .inl m
      · rw [if_neg m] at e
        cases e
    · dsimp only at e
      by_cases m : b ∈ xs.map (tbX K)
      · rw [if_pos m] at e
        cases e
        exact (isT b m).1
      · rw [if_neg m] at e
        cases e
  | none =>
    refine go (fun b => if b ∈ xs.map (tbX K) then some (.tbl #[]) else if b = a then some (.frz { cls := .type "list", data := .seq vs.toArray } (.lst (ns.map V.int))) else none) (fun x hx => if_pos (List.mem_map.mpr ⟨x, hx, rfl⟩)) (fun b u e => ?_) (fun b u e => ?_)
      (.inl ⟨.inr ⟨_, (if_neg aT).trans (if_pos rfl)⟩, aT, id⟩)
    · by_cases m : b ∈ xs.map (tbX K)
      · exact .inl m
      · rw [if_neg m] at e
        by_cases c : b = a
        · rw [if_pos c] at e
          exact .inr ⟨c, hk, _, _, (Option.some.inj e).symm⟩
        · rw [if_neg c] at e
          cases e
    · dsimp only at e
      by_cases m : b ∈ xs.map (tbX K)
      · rw [if_pos m] at e
        cases e
        exact (isT b m).1
      · rw [if_neg m] at e
        by_cases c : b = a
        · subst c
          rw [if_pos rfl] at e
          cases e
          exact ⟨ha, z, vs, _, vals_ints hi, ha⟩
        · rw [if_neg c] at e
          cases e
end
theorem walk_DT {l : PySem.W.OpenLaw} {n k : Nat} {q : Program} {loose : List Str} {XP : (Str → Option Value) → Heap → Prop} {YP : World → Heap → Prop} {d : DefRec} {y : Str} {g : Gd} {xs : List Str} (hn : l.most = some n) (hn2 : n ≤ sizeLine) (hdf : d.params.defaults = []) (hr : Room k callerA)
    (F : ∀ (w : World) (mg : Str → Option Value) (fa : Addr) (h : Heap), YP w h → h.Ns mainGlobals mg → mg d.name = some (.ref fa) →
      ∃ (K : Fg) (fd : FuncData), K.In h ∧ StatO h ∧ (∀ x ∈ xs, h.get? (tbX K x) = some { cls := .none, data := .fields #[] }) ∧ (∀ x ∈ xs, K.lookup (tbX K x) = none) ∧ (∀ x ∈ xs, PySem.W.codeHdIn K (cdX K x) (tbX K x) = true) ∧ (xs.map (tbX K)).Nodup ∧ (∀ (s : Shared) (u : Value), BindsTo s fd ⟨[u], []⟩ [(y, u)]) ∧
        ∀ base : Heap, K.In base → base.Ns mainGlobals mg → StatB base → (∀ x ∈ xs, LamX.TabB base mg (cdX K x) (tbX K x)) → FnD G l.prog w K mg base k fa fd [y] g)
    (hg : ∀ ns : List Int, ns.length ≤ n → ∃ S', g [.list (ns.map PyData.int)] (xs.map Rec.tab) = .ok (.bool true) S') : PySem.W.WalkO q loose XP YP l.row.toRowW d [] (fun f vs => PySem.call f vs) := by
  refine Att.attach_call hn hdf fun w s₀ s₁ mg mb fa o pm cd doc a vs ns G Y ho hd hcd hmg hobj hints hlen hgn => ?_
  obtain ⟨K, fd, KX, hst, hT, nT, hC, nd, hb, hF⟩ := F w mg fa _ Y G.T.g hmg
  exact law_DT KX G.T.g G.T.b G.T.builtins G.T.nolimit hgn hst G.T.bmain hT nT hC nd hobj hints (Nat.le_trans hlen hn2) hr hF hb (hg ns hlen)
end DL
namespace DL
open PySem PySem.Spec PyProof.Rows L2
variable {G : Bool}
theorem _root_.L2H.RoomH.units {k : Nat} {A : Around} (r : L2H.RoomH k A) : A.units + 64 < cLine := by have := r.un; omega
theorem _root_.L2H.RoomH.u65 {k : Nat} {A : Around} (r : L2H.RoomH k A) : A.units + 65 < cLine := by have := r.un; omega
theorem _root_.L2H.RoomH.u66 {k : Nat} {A : Around} (r : L2H.RoomH k A) : A.units + 66 < cLine := by have := r.un; omega
theorem _root_.L2H.RoomH.u1 {k : Nat} {A : Around} (r : L2H.RoomH k A) : A.units + 1 < cLine := by have := r.un; omega
theorem _root_.L2.Room.one {k : Nat} {A : Around} (r : Room k A) : Room 1 A ∨ k = 0 := by
  cases k with
  | zero => exact .inr rfl
  | succ k => exact .inl ⟨r.hd, by have := r.dp; omega, by have := r.un; omega⟩
section
variable {X : Cx} {st : Stmt} {rest : List Stmt} {m : Ms} {fx fr : Xm} {t : TS}
theorem PS.nox' (h : PS X.nox st t) : PS X st t := ⟨fun pins s σ H D I hw => wpAny_mono (h.run pins s σ H D (I.wish _) hw) (fun _ _ q => q.unwish) fun _ _ z => False.elim z⟩
theorem xss_consN (hx : Xs X st fx) (hd : Ds X.nox st m) (hr : Xss X rest fr) : Xss X (st :: rest) (xSeq fx m fr) := xss_cons hx (PS.nox' hd) hr
end
def CalX (G : Bool) (P : Program) (w : World) (K : Fg) (mg : Str → Option Value) (base : Heap) (k : Nat) (x : Str) (st : Stmt) (ps : List Str) (g : Xd) : Prop :=
  ∃ f fd, mg x = some (.ref f) ∧ FunD K x x (defArgs st) (defBody st) (defScope st) [] [] f fd ∧ Binds K fd ps [] ∧ FnX G P w K mg base k f fd ps g
section
variable {X : Cx} {k k' : Nat} {x : Str} {st : Stmt} {ps : List Str} {g : Xd} {p pos : Pos} {e : Expr} {es : List Expr} {fs : Ma} {fa : Xm}
theorem xdc_call (C : CalX G X.prog X.w X.K X.mg X.base k x st ps g) (hr : Room k' X.A) (hk : k ≤ k') (hgd : G = true → X.A.guards = some []) (hg : Gl X x) (ha : Da X (e :: es) fs)
    (hdb : (x == ("__debug__" : Str)) = false := by decide) (he : starEach (e :: es) X.env = (false, eval e X.env) :: starEach es X.env := by rfl) (hpl : (backTo pos (starEach es X.env)).any (·.1) = false := by rfl) : Xe X (.Call (.Name x p) (e :: es) [] pos) (xCall g fs) := by
  obtain ⟨f, fd, hm, F, hb, Gx⟩ := C
  exact xe_call (Gx.mono hk) hr hgd hg hm F.kp hb ha hdb he hpl
end
section
variable {P : Program} {w : World} {K : Fg} {mg : Str → Option Value} {base : Heap} {x : Str} {st : Stmt}
theorem calX_of {N ps : List Str} {k n p : Nat} {m : Xm} (D : Dfn K mg x st) (Sc : FnScope N ps (defScope st)) (hn : N.length = n) (hp : ps.length = p)
    (hb : ∀ (kV doc pm : Value) (an : Option Addr) (cdv ct : Value) (us : List Value), us.length = ps.length → bindArgs (PySem.W.fnOf x x (defArgs st) (defBody st) (defScope st) .none kV doc pm an cdv ct) ⟨us, []⟩ = pure (ps.zip us))
    (hbody : ∀ (f : Addr) (cdv : Value) (A : Around) (outer : List Env) (s : Shared) (H : Hp) (E : XK), Room k (A.deeper (envOfC x (defScope st) s.heap.objs.size f cdv)) → (G = true → (A.deeper (envOfC x (defScope st) s.heap.objs.size f cdv)).guards = some []) → Xss (cxOf (CX P w) P w K mg base N x (defScope st) f cdv A outer s H E) (defBody st) m) :
    CalX G P w K mg base (k + 1) x st ps (runDefX n p m) := by
  obtain ⟨f, fd, hm, F⟩ := D
  exact ⟨f, fd, hm, F, F.bindsN hb, fnX_of F Sc hn hp fun cdv A outer s H E hr hg => hbody f cdv A outer s H E hr hg⟩
section
variable {qual : Str} {params : Arguments} {body : List Stmt} {scope : Scope} {dvs : List V} {kws : List (Str × V)} {f : Addr} {fd : FuncData}
theorem fnD_ofC {N ps : List Str} {k n p : Nat} {m : Ms} (F : FunD K x qual params body scope dvs kws f fd) (Sc : FnScope N ps scope) (hn : N.length = n) (hp : ps.length = p)
    (hbody : ∀ (cdv : Value), (∃ (oc dV kV doc pm ct : Value) (od an : Option Addr) (osl : Array (Option Value)), K.lookup f = some ⟨oc, od, .func (PySem.W.fnOf x qual params body scope dV kV doc pm an cdv ct), osl⟩ ∧ PySem.W.codeIn K cdv qual = true) → ∀ (A : Around) (outer : List Env) (s : Shared) (H : Hp), Room k (A.deeper (envOfC qual scope s.heap.objs.size f cdv)) → (G = true → (A.deeper (envOfC qual scope s.heap.objs.size f cdv)).guards = some []) → Dss (cxOf CX0 P w K mg base N qual scope f cdv A outer s H E0).nox body m) :
    FnD G P w K mg base (k + 1) f fd ps (runDef n p m) := by
  subst hn hp
  obtain ⟨oc, od, dV, kV, doc, pm, an, cdv, ct, osl, rfl, lk, hcd, _, _⟩ := F.ex
  refine ⟨fun ws S v S' e => ?_, fun A outer s H args us vs Q hr hg e0 hb r h => ?_⟩
  · unfold runDef at e
    by_cases c : ws.length = ps.length
    · exact c
    · rw [if_neg c] at e
      cases e
  obtain ⟨ws, S, mu, T, st, bn, rp, v, S', e, q⟩ := h
  unfold runDef at e
  have c : ws.length = ps.length := by
    by_cases c : ws.length = ps.length
    · exact c
    · rw [if_neg c] at e
      cases e
  rw [if_pos c] at e
  have hlen : vs.length = ps.length := by rw [rp.length]; exact c
  have KX : K.In s.heap := e0.mod.kin.keeps fun b o z => (e0.bs b o z).1
  have lim : s.heap.NoLimit := e0.mod.nolimit.keeps fun b o z => (e0.bs b o z).1
  have hkind : ∀ y ∈ ps.zip us, scope.names.lookup y.1 = some .local ∨ (scope.names.lookup y.1 = some .cell ∧ ((cellsFrom (s.heap.objs.size + 1) scope.names []).lookup y.1).isSome = true) := by
    rintro ⟨nm, val⟩ hy
    rcases Sc.par nm (List.of_mem_zip hy).1 with z | z
    · exact .inl z
    · exact .inr ⟨z, PySem.W.cellsFrom_some _ _ _ (.inl z)⟩
  refine codeAny_call_function hr.depth (KX _ _ lk) rfl Sc.co Sc.gen rfl (PySem.W.codeRec_of KX hcd) (hb _ _ _ _ ?_)
  refine wpAny_newFunctionEnv_cells Sc.kind hkind fun env he s1 ic => ?_
  subst he
  refine ⟨lim.keeps ic.toInCall.keep, codeAny_func ?_⟩
  have I : Inv (cxOf CX0 P w K mg base N qual scope f cdv A outer s H E0) [] (L2.start N vs) H s1 := inv_start Sc hr.hd e0 hlen r ic
  have B := hbody cdv ⟨_, _, _, _, _, _, _, _, _, lk, hcd⟩ A outer s H (hr.deeper _) hg
  have go : tDs K m { nx := fun _ H' => Q .non H', rt := Q } (L2.start N vs) H := by
    refine ⟨startE N.length ws, S, mu, T, fun _ => False, start_rel st bn rp, ?_⟩
    have toE : ∀ {H' : Hp} {mu' : List Addr} {O' : Addr → Prop}, ExtS mu mu' (fun _ => False) O' H H' → Ext mu mu' H H' := fun y => ⟨y.pre, fun a o h n => y.keep a o h n fun z => z, y.new⟩
    cases z : m (startE N.length ws) S with
    | nx ρ' S2 =>
      rw [z] at e
      cases e
      exact fun σ' H' mu' O' y r' => q _ H' mu' (toE y) (r'.sto.weak fun a t => .inl t) .non
    | rt u S2 =>
      rw [z] at e
      cases e
      exact fun v' H' mu' O' y s' r' => q _ H' mu' (toE y) (s'.weak fun a t => .inl t) (r'.weak fun a t => .inl t)
    | bk ρ' S2 => rw [z] at e; cases e
    | ct ρ' S2 => rw [z] at e; cases e
    | bad => rw [z] at e; cases e
  refine wpAny_mono (B.nox.run [] s1 (L2.start N vs) H _ I go) (fun fl s' hs => ?_) fun e s' hs => hs
  have fin : ∀ {σ' : Sg} {H' : Hp} {v' : V} {u : Value}, Inv (cxOf CX0 P w K mg base N qual scope f cdv A outer s H E0) [] σ' H' s' → RelV v' u → Q v' H' → CE outer P w H s Q u s' :=
    fun {σ' H' v' u} J rv z => ⟨v', H', J.os, J.bare, J.base, J.hok, rv, z⟩
  cases fl with
  | ret u =>
    obtain ⟨v', σ', H', J, rv, z⟩ := hs
    exact fin J rv z
  | next =>
    obtain ⟨σ', H', J, z⟩ := hs
    exact fin (v' := V.non) (u := Value.none) J rfl z
  | brk =>
    obtain ⟨_, _, _, z⟩ := hs
    exact False.elim z
  | cont =>
    obtain ⟨_, _, _, z⟩ := hs
    exact False.elim z
end
theorem cal_ofC {N ps : List Str} {k n p : Nat} {m : Ms} (D : Dfn K mg x st) (hx : mg x = some (.ref (He.ga K x))) (Sc : FnScope N ps (defScope st)) (hn : N.length = n) (hp : ps.length = p)
    (hb : ∀ (kV doc pm : Value) (an : Option Addr) (cdv ct : Value) (us : List Value), us.length = ps.length → bindArgs (PySem.W.fnOf x x (defArgs st) (defBody st) (defScope st) .none kV doc pm an cdv ct) ⟨us, []⟩ = pure (ps.zip us))
    (hbody : ∀ (f : Addr) (A : Around) (outer : List Env) (s : Shared) (H : Hp), Room k (A.deeper (envOfC x (defScope st) s.heap.objs.size f (.ref (cdX K x)))) → (G = true → (A.deeper (envOfC x (defScope st) s.heap.objs.size f (.ref (cdX K x)))).guards = some []) →
      Dss (cxOf CX0 P w K mg base N x (defScope st) f (.ref (cdX K x)) A outer s H E0).nox (defBody st) m) :
    Cal G P w K mg base (k + 1) x st ps (runDef n p m) := by
  obtain ⟨f, fd, hm, F⟩ := D
  obtain rfl : f = He.ga K x := by
    rw [hm] at hx
    exact Value.ref.inj (Option.some.inj hx)
  refine ⟨_, fd, hm, F, F.bindsN hb, fnD_ofC F Sc hn hp fun cdv ⟨oc, dV, kV, doc, pm, ct, od, an, osl, lk, hcd⟩ A outer s H hr hg => ?_⟩
  obtain ⟨c, rfl⟩ := He.codeIn_ref hcd
  have e : cdX K x = c := He.codeOf_eq (K := K) (p := (x, none)) (c := c) lk rfl
  rw [← e] at hr hg ⊢
  exact hbody _ A outer s H hr hg
def CatchD (P : Program) (w : World) (K : Fg) (mg : Str → Option Value) (k : Nat) (x : Str) (st : Stmt) (lbl : Str) (cs : List Str) (gh : Gd) : Prop :=
  ∃ (g WC : Addr) (Ng : List Str) (a : Str) (oc dV kV doc pm cdv ct : Value) (an od : Option Addr) (osl : Array (Option Value)), mg x = some (.ref g) ∧ PySem.W.keepIn K (.ref g) = true ∧
    K.lookup g = some ⟨oc, od, .func (PySem.W.fnOf x x (defArgs st) (defBody st) (defScope st) dV kV doc pm an cdv ct), osl⟩ ∧ PySem.W.codeIn K cdv x = true ∧ L2.Binds K (PySem.W.fnOf x x (defArgs st) (defBody st) (defScope st) dV kV doc pm an cdv ct) [a] [] ∧
    FnScope Ng [a] (defScope st) ∧ Ng[0]? = some a ∧ Vis (defScope st) a ∧ (a == ("__debug__" : Str)) = false ∧ (a == ("__classdict__" : Str)) = false ∧
    (∀ (X : Cx), X.prog = P → X.w = w → X.K = K → X.mg = mg → Room (k + 1) X.A → ∀ q, LamX.GivesTo X Ng x (defScope st) g cdv (defBody st) a q (TTh K WC lbl gh)) ∧
    ∀ c ∈ cs, mg c = some (.ref (He.ga K c)) ∧ PySem.W.exmOne K (.ref (He.ga K c)) (.ref WC) = some true ∧ ∀ q ∈ K, q.2.cls ≠ .ref (He.ga K c)
section
variable {X : Cx} {xo lbl : Str} {cs : List Str} {gh : Gd} {fE : Mx} {xE : Xm} {lam : Expr} {params : Arguments} {body : Expr} {scope : Scope} {p lpos pos : Pos} {k kE kh : Nat}
theorem dc_lam (C : CatchD X.prog X.w X.K X.mg kh x st lbl cs gh) (hr : Room k X.A) (h1 : kE + 2 ≤ k) (h2 : kh + 1 ≤ k) (hg : Gl X x) (TB : LamX.TabB X.base X.mg (cdX X.K xo) (tbX X.K xo)) (hcode : X.env.code = .ref (cdX X.K xo)) (hq : X.env.qual = xo ++ ".<locals>.") (L : LamX.lamSB X.env.scope scope = true)
    (hdef : defaultsOf params X.env = ([], []))
    (hbind : ∀ (q : Str) (cl : List (Str × Addr)) (pm cv ctv : Value), bindArgs (PySem.W.kla_fn "<lambda>" q params body scope cl pm cv ctv) ⟨[], []⟩ = pure [])
    (hE : ∀ (A : Around) (outer : List Env) (s : Shared) (H : Hp) (E : XK) (f c' : Addr), Room kE (A.deeper (LamX.lamEnv X scope s.heap.objs.size f c')) → De (LamX.lamCx X A outer s H E scope f c').nox body fE)
    (hX : ∀ (A : Around) (outer : List Env) (s : Shared) (H : Hp) (E : XK) (f c' : Addr), Room kE (A.deeper (LamX.lamEnv X scope s.heap.objs.size f c')) → Xe (LamX.lamCx X A outer s H E scope f c') body xE)
    (hdb : (x == ("__debug__" : Str)) = false := by decide) : De X (.Call (.Name x p) [.Lambda params body scope lpos] [] pos) (mLam xo lbl cs gh fE xE) := by
  obtain ⟨g, WC, Ng, a, oc, dV, kV, doc, pm, cdv, ct, an, od, osl, hm, hk, lk, hcg, hb, Sg, hNg, hva, d1, d2, hG, hcs⟩ := C
  exact de_lam (k := kE) hg hm hk lk hcg hb Sg hNg hva (hG X rfl rfl rfl rfl (hr.mono h2) _) TB rfl hcode hq (hr.mono h1) (LamX.lamS_by L) hdef hbind hcs hE hX hdb d1 d2
end
structure ClsF (K : Fg) (W c a b : Str) : Prop where
  xi : XIs K (He.ga K c)
  ex : PySem.W.exmOne K (.ref (He.ga K c)) (.ref (He.ga K W)) = some true
  ni : ∀ q ∈ K, q.2.cls ≠ .ref (He.ga K c)
  fa : PySem.W.findIn K (.ref (He.ga K c)) a = some none
  fb : PySem.W.findIn K (.ref (He.ga K c)) b = some none
theorem clsB_ok {W c a b : Str} (h : clsB K W c a b = true) : ClsF K W c a b := by
  unfold clsB at h
  obtain ⟨h1, h⟩ := Bool.and_eq_true_iff.mp h
  obtain ⟨h2, h⟩ := Bool.and_eq_true_iff.mp h
  obtain ⟨h3, h⟩ := Bool.and_eq_true_iff.mp h
  obtain ⟨h4, h5⟩ := Bool.and_eq_true_iff.mp h
  exact ⟨xisB_ok h1, of_decide_eq_true h2, fun q hq => by simpa using List.all_eq_true.mp h3 q hq, of_decide_eq_true h4, of_decide_eq_true h5⟩
end
end DL
namespace DL
open PySem PySem.Spec PyProof.Rows L2
theorem bt_super : bootBuiltins "super" = some (.type "super") := by decide +kernel
theorem oexB_ok {K : Fg} {C : Addr} (h : oexB K C = true) : OexC K C := by
  unfold oexB at h
  obtain ⟨q, h⟩ := Bool.and_eq_true_iff.mp h
  obtain ⟨h2, h⟩ := Bool.and_eq_true_iff.mp h
  obtain ⟨h3, h⟩ := Bool.and_eq_true_iff.mp h
  obtain ⟨h4, h5⟩ := Bool.and_eq_true_iff.mp h
  refine ⟨?_, of_decide_eq_true h2, of_decide_eq_true h3, of_decide_eq_true h4, h5⟩
  split at q
  · rename_i dd cd sl ho
    split at q
    · rename_i C' bm k0 k1 k2 k3 n k5 hm hs
      obtain ⟨q1, q⟩ := Bool.and_eq_true_iff.mp q
      obtain ⟨q2, q⟩ := Bool.and_eq_true_iff.mp q
      obtain ⟨q3, q⟩ := Bool.and_eq_true_iff.mp q
      obtain ⟨q4, q5⟩ := Bool.and_eq_true_iff.mp q
      have e1 := beq_iff_eq.mp q1
      have e2 := beq_iff_eq.mp q2
      obtain ⟨nm, bs, mro, ns, qn, hd, sn, sub, ab, col, del⟩ := cd
      obtain ⟨l⟩ := sl
      dsimp only at hm q3 q4 hs
      subst hm hs e1 e2 q4
      obtain rfl : del = false := by simpa using q3
      exact ⟨nm, qn, ns, bs, bm, sn, sub, ab, col, dd, k0, k1, k2, k3, k5, ho, q5⟩
    · cases q
  · cases q
theorem parB_ok {p : Arguments} {a b : Str} (h : parB p a b = true) : ∃ x2 x3 y2 y3 z2 z3, p = ⟨[], [⟨"self", x2, x3⟩, ⟨a, y2, y3⟩, ⟨b, z2, z3⟩], none, [], [], none, []⟩ := by
  unfold parB at h
  split at h
  · rename_i x y z
    obtain ⟨x1, x2, x3⟩ := x
    obtain ⟨y1, y2, y3⟩ := y
    obtain ⟨z1, z2, z3⟩ := z
    simp only [Bool.and_eq_true, beq_iff_eq] at h
    obtain ⟨rfl, rfl, rfl⟩ := h
    exact ⟨_, _, _, _, _, _, rfl⟩
  · cases h
theorem bodB_ok {l : List Stmt} {a b : Str} (h : bodB l a b = true) : Bd2 l a b := by
  unfold bodB at h
  split at h
  · rename_i s0 p1 p2 i0 p3 a0 p4 b0 p5 p6 p7 s1 p8 a1 p9 a2 p10 p11 s2 p12 b1 p13 b2 p14 p15
    simp only [Bool.and_eq_true, beq_iff_eq] at h
    obtain ⟨rfl, rfl, rfl, rfl, rfl, rfl, rfl, rfl, rfl, rfl, e⟩ := h
    exact ⟨_, _, _, _, _, _, _, _, _, _, _, _, _, _, _, rfl, by simpa using e⟩
  · cases h
theorem scoB_ok {sc : Scope} {a b : Str} (h : scoB sc a b = true) : Sc2 sc a b := by
  unfold scoB at h
  obtain ⟨h1, h⟩ := Bool.and_eq_true_iff.mp h
  obtain ⟨h2, h⟩ := Bool.and_eq_true_iff.mp h
  obtain ⟨h3, h⟩ := Bool.and_eq_true_iff.mp h
  obtain ⟨h4, h⟩ := Bool.and_eq_true_iff.mp h
  obtain ⟨h5, h⟩ := Bool.and_eq_true_iff.mp h
  obtain ⟨h6, h⟩ := Bool.and_eq_true_iff.mp h
  obtain ⟨h7, h⟩ := Bool.and_eq_true_iff.mp h
  obtain ⟨h8, h9⟩ := Bool.and_eq_true_iff.mp h
  exact ⟨by simpa using h1, by simpa using h2, of_decide_eq_true h3, fun x hx => of_decide_eq_true (List.all_eq_true.mp h4 x hx), of_decide_eq_true h5, of_decide_eq_true h6, of_decide_eq_true h7, of_decide_eq_true h8, of_decide_eq_true h9⟩
theorem isNone_ok {v : Value} (h : isNone v = true) : v = .none := by cases v <;> first | rfl | cases h
theorem fileOf_ok {vs : Array Value} {f : Str} (h : fileOf vs = some f) : ∃ t, vs[2]? = some (.str f t) := by
  unfold fileOf at h
  split at h
  · rename_i f' t e
    cases h
    exact ⟨t, e⟩
  · cases h
theorem cloOf_ok {l : List (Str × Addr)} {cc : Addr} (h : cloOf l = some cc) : l = [(("__class__" : Str), cc)] := by
  match l, h with
  | [(n, c)], h =>
    have h : (if n = "__class__" then some c else none) = some cc := h
    obtain ⟨e1, e2⟩ := ite_inv h
    rw [e1, e2]
theorem cellOf_ok {K : Fg} {cc D : Addr} (h : cellOf K cc = some D) : ∃ cl cld csl, K.lookup cc = some ⟨cl, cld, .cell (some (.ref D)), csl⟩ := by
  unfold cellOf at h
  split at h
  · rename_i e
    cases h
    exact ⟨_, _, _, e⟩
  · cases h
theorem vsOf_ok {K : Fg} {c : Addr} {vs : Array Value} (h : vsOf K c = some vs) : ∃ cl cld csl, K.lookup c = some ⟨cl, cld, .fields vs, csl⟩ := by
  unfold vsOf at h
  split at h
  · rename_i e
    cases h
    exact ⟨_, _, _, e⟩
  · cases h
def BindP (a b : Str) : Prop := ∀ (name qual : Str) (x2 y2 z2 : Option Expr) (x3 y3 z3 : Pos) (body : List Stmt) (scope : Scope) (doc pm ct cdv : Value) (an : Option Addr) (cc : Addr) (u1 u2 u3 : Value),
  bindArgs (PySem.W.ksFn name qual ⟨[], [⟨"self", x2, x3⟩, ⟨a, y2, y3⟩, ⟨b, z2, z3⟩], none, [], [], none, []⟩ body scope .none .none doc pm an cdv ct cc) ⟨[u1, u2, u3], []⟩ = pure [(("self" : Str), u1), (a, u2), (b, u3)]
theorem bind_word_at : BindP "word" "at" := fun _ _ _ _ _ _ _ _ _ _ _ _ _ _ _ _ _ _ _ => rfl
theorem idefB_ok {P : Program} {K : Fg} {C : Addr} {a b : Str} (hbd : BindP a b) (h : idefB P K C a b = true) : IDef P K C a b := by
  unfold idefB at h
  obtain ⟨h1, h⟩ := Bool.and_eq_true_iff.mp h
  obtain ⟨h2, h⟩ := Bool.and_eq_true_iff.mp h
  obtain ⟨h3, h⟩ := Bool.and_eq_true_iff.mp h
  obtain ⟨h4, h⟩ := Bool.and_eq_true_iff.mp h
  obtain ⟨h5, h⟩ := Bool.and_eq_true_iff.mp h
  obtain ⟨h6, h⟩ := Bool.and_eq_true_iff.mp h
  obtain ⟨h7, h⟩ := Bool.and_eq_true_iff.mp h
  obtain ⟨h8, h⟩ := Bool.and_eq_true_iff.mp h
  refine ⟨oexB_ok h1, of_decide_eq_true h2, of_decide_eq_true h3, of_decide_eq_true h4, of_decide_eq_true h5, by simpa using h6, ?_⟩
  have h7 := of_decide_eq_true h7
  have h8 := of_decide_eq_true h8
  split at h
  · rename_i oc od fd osl ho
    obtain ⟨name, qual, params, body, scope, gl, clo, dV, kV, doc, pm, an, cdv, ct, bl⟩ := fd
    unfold fdB at h
    dsimp only at h
    obtain ⟨g1, h⟩ := Bool.and_eq_true_iff.mp h
    obtain ⟨g2, h⟩ := Bool.and_eq_true_iff.mp h
    obtain ⟨g3, h⟩ := Bool.and_eq_true_iff.mp h
    obtain ⟨g4, h⟩ := Bool.and_eq_true_iff.mp h
    obtain ⟨g5, h⟩ := Bool.and_eq_true_iff.mp h
    obtain ⟨g6, h⟩ := Bool.and_eq_true_iff.mp h
    obtain ⟨g7, h⟩ := Bool.and_eq_true_iff.mp h
    obtain ⟨g8, g9⟩ := Bool.and_eq_true_iff.mp h
    have i1 := of_decide_eq_true g1
    have i2 := of_decide_eq_true g2
    have i3 := isNone_ok g3
    have i4 := isNone_ok g4
    clear g1 g2 g3 g4
    subst i1 i2 i3 i4
    cases body with
    | expr e => cases g7
    | stmts l =>
      have g7 := bodB_ok g7
      cases e1 : cloOf clo with
      | none => rw [e1] at g8; cases g8
      | some cc =>
        rw [e1] at g8
        have k1 := cloOf_ok e1
        subst k1
        obtain ⟨cl, cld, csl, hcc⟩ := cellOf_ok (of_decide_eq_true (show decide (cellOf K cc = some C) = true from g8))
        cases cdv with
        | ref cda =>
          obtain ⟨j1, j2⟩ := Bool.and_eq_true_iff.mp g9
          cases e2 : (vsOf K cda).bind fileOf with
          | none => rw [e2] at j2; cases j2
          | some file =>
            rw [e2] at j2
            obtain ⟨vs, e3, e4⟩ := Option.bind_eq_some_iff.mp e2
            obtain ⟨ccl, cdd, ccs, hcda⟩ := vsOf_ok e3
            obtain ⟨tf, hvs⟩ := fileOf_ok e4
            obtain ⟨x2, x3, y2, y3, z2, z3, rfl⟩ := parB_ok g5
            exact ⟨_, oc, od, osl, name, qual, _, l, scope, _, _, doc, pm, ct, an, cda, cc, ccl, cl, cdd, cld, ccs, csl, vs, file, tf, ⟨"self", x2, x3⟩, h7, h8, ho, j1, hcda, hvs, j2, hcc, fun u1 u2 u3 => hbd _ _ _ _ _ _ _ _ _ _ _ _ _ _ _ _ _ _ _, rfl, rfl, scoB_ok g6, g7⟩
        | _ => cases g9
  · cases h
end DL
namespace DL
open PySem PySem.Spec PyProof.Rows L2
abbrev CxT (X : Cx) (a : Addr) (oe : Obj) (pn : List (Addr × Obj)) : Cx := { X.suite a pn with base := hidT X.base (fun b => if b = a then some (exO oe) else none), H_0 := upd X.H_0 a (exO oe) }
def offA (a : Addr) (l : List (Addr × Obj)) : List (Addr × Obj) := l.filter fun p => decide (p.1 ≠ a)
section
variable {X : Cx} {a : Addr} {oe : Obj} {pn pins : List (Addr × Obj)} {σ σ' : Sg} {H H' : Hp} {s s' : Shared}
theorem notK_of (hni : ∀ q ∈ X.K, q.2.cls ≠ oe.cls) (I : Inv (X.suite a ((a, oe) :: pn)) pins σ H s) (pg : s.heap.get? a = some oe) : ∀ o, X.K.lookup a = some o → False := fun o z => by
  have e := I.kIn _ _ z
  rw [pg] at e
  have e2 : oe = o := Option.some.inj e
  exact hni (a, o) (He.lookup_mem z) (by rw [e2])
theorem hid_sub : ∀ b o, (hidT X.base (fun b => if b = a then some (exO oe) else none)).get? b = some o → X.base.get? b = some o ∧ b ≠ a := fun b o z => by
  obtain ⟨z1, z2⟩ := of_hidT z
  refine ⟨z1, fun e => ?_⟩
  rw [if_pos e] at z2
  cases z2
theorem inv_track (hni : ∀ q ∈ X.K, q.2.cls ≠ oe.cls) (hoe : ∃ vs, oe.data = .fields vs) (I : Inv (X.suite a ((a, oe) :: pn)) pins σ H s) : Inv (CxT X a oe (offA a (pn ++ pins))) [] σ (upd H a (exO oe)) s := by
  obtain ⟨vsE, hdE⟩ := hoe
  obtain ⟨pg, pnn, pl, pf, pc⟩ := I.pin (a, oe) (List.mem_append_left _ List.mem_cons_self)
  have pg : s.heap.get? a = some oe := pg
  have pnn : H a = none := pnn
  have pl : a ≠ X.env.locals := pl
  have pf : a ∉ X.fs := pf
  have nK := notK_of hni I pg
  have M2 : Mod X.K X.mg (hidT X.base fun b => if b = a then some (exO oe) else none) := mod_hide I.mod fun b o e c => if_neg fun q => by
    subst q
    rcases c with c | ⟨es, ep, d⟩
    · exact nK _ c
    · have e2 := I.bk _ _ e
      rw [pg] at e2
      cases e2
      rw [hdE] at d
      cases d
  have ok := I.ok
  have ne : ∀ {b : Addr}, upd X.H_0 a (exO oe) b = none → b ≠ a ∧ X.H_0 b = none := fun {b} z => by
    have c : b ≠ a := fun e => by rw [e, upd_same] at z; cases z
    rw [upd_ne c] at z
    exact ⟨c, z⟩
  have hok1 : HOk X.prog X.w (upd H a (exO oe)) s.heap := fun b o q => by
    by_cases hb : b = a
    · subst hb
      rw [upd_same] at q
      cases q
      exact ⟨pg, True.intro, ⟨_, pg⟩, fun _ _ _ _ => True.intro⟩
    · rw [upd_ne hb] at q
      exact (I.hok b o q).stay (fun c u _ z => z) (fun c z => by rw [upd_ne (ne_of_none z pnn)]; exact z) fun c xs z => by rw [upd_ne (ne_of_none z pnn)]; exact z
  refine ⟨⟨M2, ok.kind, ok.glob, ok.blt, ok.above, ok.inj, ok.has, ok.cab, ok.hd, ok.frames, ok.stk, ok.exf, fun b o z => ?_, ?_, fun b o z => ok.noex b o (hid_sub b o z).1, ok.exfs, funFrames_sub (fun b o z => (hid_sub b o z).1) ok.funs, fun b z => ?_⟩, I.os, I.bare, ?_, I.loc, I.cell, ?_, fun x c z => ?_, fun p hp => ?_, hok1, I.len⟩
  · obtain ⟨z1, z2⟩ := hid_sub b o z
    exact ⟨(ok.bs b o z1).1, by show upd X.H_0 a (exO oe) b = none; rw [upd_ne z2]; exact (ok.bs b o z1).2⟩
  · show (hidT X.base _).objs.size ≤ _
    rw [hidT_size]
    exact ok.bsz
  · show upd X.H_0 a (exO oe) b = none
    rw [upd_ne (fun e => pf (by rw [← e]; exact z))]
    exact ok.frf b z
  · exact {
      keep := fun b o z n hf hx => I.base.keep b o z (ne n).2 hf hx
      slot := fun b o z n hf hx => I.base.slot b o z (ne n).2 hf hx
      free := fun b o z n hx => by rw [upd_ne (ne n).1]; exact I.base.free b o z (ne n).2 hx
      there := I.base.there
      tups := fun b xs z => by
        have z : upd X.H_0 a (exO oe) b = _ := z
        by_cases c : b = a
        · rw [c, upd_same] at z; cases z
        · rw [upd_ne c] at z ⊢
          exact I.base.tups b xs z
      frzs := fun b o u z => by
        have z : upd X.H_0 a (exO oe) b = _ := z
        by_cases c : b = a
        · rw [c, upd_same] at z ⊢
          exact z
        · rw [upd_ne c] at z ⊢
          exact I.base.frzs b o u z
      tbls := fun b ps z => by
        have z : upd X.H_0 a (exO oe) b = _ := z
        by_cases c : b = a
        · rw [c, upd_same] at z; cases z
        · rw [upd_ne c] at z
          obtain ⟨more, e⟩ := I.base.tbls b ps z
          exact ⟨more, by rw [upd_ne c]; exact e⟩ }
  · show upd H a (exO oe) X.env.locals = none
    rw [upd_ne (Ne.symm pl)]
    exact I.free
  · have c1 : c ≠ a := fun e => by
      obtain ⟨v, ob, ho, hd⟩ := I.cell x c z
      rw [e, pg] at ho
      exact pc v (by rw [Option.some.inj ho]; exact hd)
    rw [upd_ne c1]
    exact I.freeC x c z
  · rw [List.append_nil] at hp
    obtain ⟨hp1, hp2⟩ := List.mem_filter.mp hp
    have c : p.1 ≠ a := of_decide_eq_true hp2
    obtain ⟨q1, q2, q3⟩ := I.pin p (List.mem_cons_of_mem (a, oe) hp1)
    exact ⟨q1, by rw [upd_ne c]; exact q2, q3⟩
theorem inv_back (I : Inv (X.suite a ((a, oe) :: pn)) pins σ H s) (J : Inv (CxT X a oe (offA a (pn ++ pins))) [] σ' H' s') : H' a = some (exO oe) ∧ Inv (X.suite a ((a, oe) :: pn)) pins σ' (delA H' a) s' := by
  obtain ⟨pg, pnn, pl, pf, pc⟩ := I.pin (a, oe) (List.mem_append_left _ List.mem_cons_self)
  have pg : s.heap.get? a = some oe := pg
  have pnn : H a = none := pnn
  have pl : a ≠ X.env.locals := pl
  have pf : a ∉ X.fs := pf
  have fa : H' a = some (exO oe) := J.base.frzs a _ _ upd_same
  have ga : s'.heap.get? a = some oe := (J.hok a _ fa).1
  have na : X.H_0 a = none ∨ ∃ o, X.H_0 a = some o := by
    cases X.H_0 a with
    | none => exact .inl rfl
    | some o => exact .inr ⟨o, rfl⟩
  have hn : ∀ {b : Addr}, X.H_0 b = none → b ≠ a → upd X.H_0 a (exO oe) b = none := fun n c => by rw [upd_ne c]; exact n
  refine ⟨fa, I.ok, J.os, J.bare, ?_, J.loc, J.cell, ?_, fun x c z => ?_, fun p hp => ?_, fun b o z => ?_, J.len⟩
  · exact {
      keep := fun b o z n hf hx => by
        by_cases c : b = a
        · subst c
          have e := I.base.keep b o z n hf hx
          rw [pg] at e
          cases e
          exact ga
        · exact J.base.keep b o z (hn n c) hf hx
      slot := fun b o z n hf hx => J.base.slot b o z (hn n fun e => pf (by rw [← e]; exact hf)) hf hx
      free := fun b o z n hx => by
        by_cases c : b = a
        · rw [c]; exact delA_same
        · rw [delA_ne c]
          exact J.base.free b o z (hn n c) hx
      there := J.base.there
      tups := fun b xs z => by
        have c : b ≠ a := fun e => by
          have q := I.base.tups b xs z
          rw [e, pnn] at q
          cases q
        rw [delA_ne c]
        exact J.base.tups b xs (by show upd X.H_0 a (exO oe) b = _; rw [upd_ne c]; exact z)
      frzs := fun b o u z => by
        have c : b ≠ a := fun e => by
          have q := I.base.frzs b o u z
          rw [e, pnn] at q
          cases q
        rw [delA_ne c]
        exact J.base.frzs b o u (by show upd X.H_0 a (exO oe) b = _; rw [upd_ne c]; exact z)
      tbls := fun b ps z => by
        have c : b ≠ a := fun e => by
          obtain ⟨_, q⟩ := I.base.tbls b ps z
          rw [e, pnn] at q
          cases q
        obtain ⟨more, e⟩ := J.base.tbls b ps (by show upd X.H_0 a (exO oe) b = _; rw [upd_ne c]; exact z)
        exact ⟨more, by rw [delA_ne c]; exact e⟩ }
  · show delA H' a X.env.locals = none
    rw [delA_ne (Ne.symm pl)]
    exact J.free
  · by_cases c1 : c = a
    · rw [c1]; exact delA_same
    · rw [delA_ne c1]
      exact J.freeC x c z
  · by_cases c : p.1 = a
    · obtain ⟨q1, _, q3⟩ := I.pin p hp
      have e : p.2 = oe := by
        rw [c, pg] at q1
        exact (Option.some.inj q1).symm
      exact ⟨by rw [c, e]; exact ga, by rw [c]; exact delA_same, q3⟩
    · have hm : p ∈ offA a (pn ++ pins) := by
        refine List.mem_filter.mpr ⟨?_, decide_eq_true c⟩
        rcases List.mem_append.mp hp with h | h
        · rcases List.mem_cons.mp h with h | h
          · exact absurd (by rw [h]) c
          · exact List.mem_append_left _ h
        · exact List.mem_append_right _ h
      obtain ⟨q1, q2, q3⟩ := J.pin p (List.mem_append_left _ hm)
      exact ⟨q1, by rw [delA_ne c]; exact q2, q3⟩
  · by_cases c : b = a
    · rw [c, delA_same] at z
      cases z
    · rw [delA_ne c] at z
      exact (J.hok b o z).stay (fun c u _ z => z) (fun c z => by
        rw [delA_ne (fun e => by rw [e, fa] at z; cases z)]
        exact z) fun c xs z => by
        rw [delA_ne (fun e => by rw [e, fa] at z; cases z)]
        exact z
end
def inlG (n : Nat) (m : Ms) : Gd := fun ws S => match ws with
  | [w] => match m ((List.replicate n none).set 1 (some (.val w))) S with
    | .rt u S' => .ok u S'
    | _ => .bad
  | _ => .bad
theorem pss_inl {X : Cx} {a : Addr} {oe : Obj} {pn : List (Addr × Obj)} {st : List Stmt} {m : Ms} {n : Nat} (hn : X.N.length = n) (h1 : 1 < n) (hni : ∀ q ∈ X.K, q.2.cls ≠ oe.cls) (hoe : ∃ vs, oe.data = .fields vs) (hb : ∀ pn', Dss (CxT X a oe pn') st m) :
    PSs (X.suite a ((a, oe) :: pn)) st (fun D σ H => σ[1]? = some (some (V.ref a)) ∧ spD X.K (inlG n m) [.ref a] (upd H a (exO oe)) fun v H2 => H2 a = some (exO oe) → D.rt v (delA H2 a)) := by
  subst hn
  refine ⟨fun pins s σ H D I ⟨hs, ws, S, mu, T, st0, bn, rp, v, S', e, q⟩ => ?_⟩
  have I2 := inv_track hni hoe I
  cases rp with
  | cons r1 rp =>
  cases rp
  rename_i w
  unfold inlG at e
  simp only at e
  cases z : m ((List.replicate X.N.length none).set 1 (some (.val w))) S with
  | nx _ _ => rw [z] at e; cases e
  | bk _ _ => rw [z] at e; cases e
  | ct _ _ => rw [z] at e; cases e
  | bad => rw [z] at e; cases e
  | rt u S2 =>
    rw [z] at e
    cases e
    have tr : ∀ b, (T b ∨ False) → T b := fun b z => z.elim id False.elim
    have at1 : ∀ (i : Nat) (x : Sl), ((List.replicate X.N.length none).set 1 (some (Sl.val w)))[i]? = some (some x) → i = 1 ∧ x = .val w := fun i x y => by
      by_cases c : i = 1
      · subst c
        rw [List.getElem?_set_self (by rw [List.length_replicate]; exact h1)] at y
        cases y
        exact ⟨rfl, rfl⟩
      · rw [List.getElem?_set_ne (Ne.symm c), List.getElem?_replicate] at y
        split at y <;> cases y
    have rl : Rel X.K mu T (fun _ => False) (upd H a (exO oe)) σ ((List.replicate X.N.length none).set 1 (some (.val w))) S := by
      refine ⟨?_, fun i x y => ?_, fun i xs y => ?_, fun i j xs xs' b y => ?_, st0.weak tr, fun b t => bn b (tr b t)⟩
      · rw [List.length_set, List.length_replicate]
        exact I.len
      · obtain ⟨rfl, e⟩ := at1 i _ y
        cases e
        exact ⟨_, hs, r1.weak tr⟩
      · obtain ⟨_, e⟩ := at1 i _ y
        cases e
      · obtain ⟨_, e⟩ := at1 i _ y
        cases e
    have toE : ∀ {H' : Hp} {mu' : List Addr} {O' : Addr → Prop}, ExtS mu mu' (fun _ => False) O' (upd H a (exO oe)) H' → Ext mu mu' (upd H a (exO oe)) H' := fun y => ⟨y.pre, fun a o h n => y.keep a o h n fun z => z, y.new⟩
    have go : tDs X.K m { nx := fun _ _ => False, rt := fun v H2 => H2 a = some (exO oe) → D.rt v (delA H2 a) } σ (upd H a (exO oe)) := by
      refine ⟨_, S, mu, T, fun _ => False, rl, ?_⟩
      rw [z]
      exact fun v' H' mu' O' y s' r' => q _ H' mu' (toE y) (s'.weak fun a t => .inl t) (r'.weak fun a t => .inl t)
    refine wpAny_mono ((hb (offA a (pn ++ pins))).run [] s σ (upd H a (exO oe)) _ I2 go) (fun fl s' hs => ?_) fun e s' hs => hs
    cases fl with
    | ret u =>
      obtain ⟨v', σ', H', J, rv, y⟩ := hs
      obtain ⟨fa, J2⟩ := inv_back I J
      exact ⟨v', σ', delA H' a, J2, rv, y fa⟩
    | next => obtain ⟨_, _, _, y⟩ := hs; exact y.elim
    | brk => obtain ⟨_, _, _, y⟩ := hs; exact False.elim y
    | cont => obtain ⟨_, _, _, y⟩ := hs; exact False.elim y
theorem call_givesS {X : Cx} {Ng : List Str} {x a q lbl W n : Str} {sg : Scope} {g WC : Addr} {cdg : Value} {m : Ms} {b₀ : Stmt} {su : List Stmt} {j kk : Nat} {p1 p2 p3 p4 p5 p6 p11 p12 : Pos} (hgW : sg.names.lookup W = some .globalImplicit) (hmW : X.mg W = some (.ref WC)) (hdW : (W == ("__debug__" : Str)) = false)
    (hF : ∀ (s : Shared) (H : Hp) (b : Addr) (oe : Obj) (pn : List (Addr × Obj)), Dss (CxT (cxOf C8.CX0 X.prog X.w X.K X.mg X.base Ng x sg g cdg X.A X.stack s H C8.E0).nox b oe pn) (b₀ :: su) m)
    (hN : Ng.Nodup) (hi : Ng[1]? = some n) (hln : sg.names.lookup n = some .local) (h0 : ∀ f : Addr, (L2.start Ng [V.ref f])[0]? = some (some (V.ref f))) :
    LamX.GivesTo X Ng x sg g cdg [.Try [.Return (some (.Tuple [.Constant (.str lbl) j p1, .Call (.Name a p2) [] [] p3] kk p4)) p5] [.ExceptHandler (some (.Name W p6)) (some n) (b₀ :: su) p11] [] [] p12] a q (TTh X.K WC lbl (inlG Ng.length m)) := by
  intro f c' s H Q tl act hc h
  have h1N : 1 < Ng.length := (List.getElem?_eq_some_iff.mp hi).1
  have hgl : Gl (cxOf C8.CX0 X.prog X.w X.K X.mg X.base Ng x sg g cdg X.A X.stack s H C8.E0).nox W := hgW
  have hv : Vis (cxOf C8.CX0 X.prog X.w X.K X.mg X.base Ng x sg g cdg X.A X.stack s H C8.E0).nox.env.scope n := .inl hln
  refine ⟨_, pss_one (ps_try_as (X := (cxOf C8.CX0 X.prog X.w X.K X.mg X.base Ng x sg g cdg X.A X.stack s H C8.E0).nox) (c := .ref WC) (i := 1) (Wout := fun _ _ _ _ => False)
      (tb := fun W D σ H => ∃ Ech : XK, (∀ cls d σ' H', Ech cls d H' → W cls d σ' H') ∧ σ[0]? = some (some (.ref f)) ∧ H c' = some (LamX.CodeO c' q) ∧ tl Ech H fun v H' => ∀ (p : Addr) (o : Obj), H' p = none → o.dict = none → D.rt (.ref p) (upd H' p (.frz o (.tup [.str lbl, v]))))
      (ts := fun a cls d D σ H => (∃ σ' : Sg, σ = List.set σ' 1 (some (V.ref a))) ∧ (∀ q ∈ X.K, q.2.cls ≠ cls) ∧ ∀ oe, Zc cls d oe → (∃ vs, oe.data = .fields vs) → spD X.K (inlG Ng.length m) [.ref a] (upd H a (exO oe)) fun v H2 => H2 a = some (exO oe) → D.rt v (delA H2 a))
      rfl rfl hN hi hln ⟨hgl, hdW, .inl hmW⟩ LamX.takes0 (fun W pn xe tk _ => ?_) (fun a oe cls d pn hz hd => ?_)), ?_⟩
  · refine ⟨fun pins s' σ H' D I h' => ?_⟩
    obtain ⟨Ech, hW, h1, h2, h3⟩ := h'
    have hp := act W pn xe Ech p2 p3 tk hW
    have hq := pss_one (ps_ret (pos := p5) (pe_tupF (k := kk) (pos := p4) (pa_cons (show PE _ (.Constant (.str lbl) j p1) _ from pe_str) (pa_cons hp pa_nil))))
    exact hq.run pins s' σ H' D I ⟨h1, h2, by
      have e : (fun v H' => ∀ (p : Addr) (o : Obj), H' p = none → o.dict = none → D.rt (.ref p) (upd H' p (.frz o (.tup [.str lbl, v])))) = fun v H' => ([V.str lbl, v].length ≤ sizeLine ∧ ∀ (p : Addr) (o : Obj), H' p = none → o.dict = none → D.rt (.ref p) (upd H' p (.frz o (.tup [.str lbl, v])))) := by
        funext v H'
        refine propext ⟨fun z => ⟨by show 2 ≤ sizeLine; rw [sizeLine_eq]; omega, z⟩, fun z => z.2⟩
      rw [e] at h3
      exact h3⟩
  · refine ⟨fun pins s' σ H' D I h' => ?_⟩
    obtain ⟨⟨σ', eσ⟩, hni, hs⟩ := h'
    have hl : σ'.length = Ng.length := by
      have := I.len
      rw [eσ, List.length_set] at this
      exact this
    have h1 : σ[1]? = some (some (V.ref a)) := by
      rw [eσ, List.getElem?_set_self (by rw [hl]; exact h1N)]
    exact (pss_inl (X := (cxOf C8.CX0 X.prog X.w X.K X.mg X.base Ng x sg g cdg X.A X.stack s H C8.E0).nox) (a := a) (oe := oe) (pn := pn) (n := Ng.length) rfl h1N (fun q m z => hni q m (by rw [z, hz.1])) hd fun pn' => hF s H a oe pn').run pins s' σ H' D I ⟨h1, hs oe hz hd⟩
  · refine ⟨_, fun cls d σ' H' ⟨e1, e2, e3⟩ => ⟨true, e1, fun _ a na => ⟨⟨σ', rfl⟩, e2, fun oe hz hv => e3 a oe hz hv na⟩, fun z => by cases z⟩, h0 f, hc, h⟩
section
variable {P : Program} {w : World} {K : Fg} {mg : Str → Option Value} {x : Str} {st : Stmt}
end
end DL
namespace DL
open PySem PySem.Spec PyProof.Rows L2
section
variable {X : Cx} {pins : List (Addr × Obj)} {σ : Sg} {H : Hp} {s : Shared} {f : Addr} {o : Obj}
theorem track (I : Inv X pins σ H s) (hf : s.heap.get? f = some o) (hn : H f = none) (h0 : X.s_0.heap.objs.size ≤ f) (hl : f ≠ X.env.locals) (hc : ∀ x c, X.env.cells.lookup x = some c → c ≠ f) (hp : ∀ p ∈ X.pn ++ pins, p.1 ≠ f) : Inv X pins σ (upd H f (exO o)) s := by
  have sm : Same H (upd H f (exO o)) := same_upd hn
  refine I.step (h' := s.heap) (g' := s.gens) (t' := s.toks) (d' := s.drawn) (ch := [f]) (fun b hb => ?_) (fun b u _ _ _ e _ => e) (fun b u _ _ _ e _ => ⟨u.slots, e⟩) (fun b u hb e n => ?_) (fun b u _ e => ⟨u, e⟩) (fun b xs e => sm _ _ e) (fun b u v e => sm _ _ e) (fun b ps e => ⟨#[], by rw [Array.append_empty]; exact sm _ _ e⟩) (fun m hm => hm) (fun b u e => ?_) I.bare
  · rw [List.mem_singleton.mp hb]
    exact ⟨.inr h0, hl, hc, hp⟩
  · rw [upd_ne (fun z => hb (List.mem_singleton.mpr z))]
    exact n
  · by_cases c : b = f
    · subst c
      rw [upd_same] at e
      cases e
      exact ⟨hf, True.intro, ⟨_, hf⟩, fun _ _ _ _ => True.intro⟩
    · rw [upd_ne c] at e
      exact (I.hok b u e).stay (fun c v _ z => z) (fun c z => sm _ _ z) fun c xs z => sm _ _ z
def NoFr (H0 : Hp) (f : Addr) : Prop := (∀ xs, H0 f ≠ some (.tup xs)) ∧ (∀ o u, H0 f ≠ some (.frz o u)) ∧ ∀ ps, H0 f ≠ some (.tbl ps)
theorem NoFr.of (I : Inv X pins σ H s) (h : s.heap.objs.size ≤ f) : NoFr X.H_0 f := by
  have n : H f = none := I.hok.fresh h
  refine ⟨fun xs z => ?_, fun o u z => ?_, fun ps z => ?_⟩
  · have := I.base.tups f xs z
    rw [n] at this
    cases this
  · have := I.base.frzs f o u z
    rw [n] at this
    cases this
  · obtain ⟨more, this⟩ := I.base.tbls f ps z
    rw [n] at this
    cases this
theorem untrack (I : Inv X pins σ H s) (ha : H f = some (exO o)) (h0 : NoFr X.H_0 f) : s.heap.get? f = some o ∧ Inv X pins σ (delA H f) s := by
  have hg : s.heap.get? f = some o := (I.hok f _ ha).1
  have nm : ∀ {b : Addr}, H b = none → delA H f b = none := fun {b} z => by
    by_cases c : b = f
    · rw [c]; exact delA_same
    · rw [delA_ne c]; exact z
  refine ⟨hg, I.ok, I.os, I.bare, ?_, I.loc, I.cell, nm I.free, fun x c z => nm (I.freeC x c z), fun p hp => ?_, fun b u z => ?_, I.len⟩
  · exact {
      keep := I.base.keep
      slot := I.base.slot
      free := fun b u z n hx => nm (I.base.free b u z n hx)
      there := I.base.there
      tups := fun b xs z => by
        have e := I.base.tups b xs z
        rw [delA_ne (fun c => h0.1 xs (by rw [← c]; exact z))]
        exact e
      frzs := fun b u v z => by
        have e := I.base.frzs b u v z
        rw [delA_ne (fun c => h0.2.1 u v (by rw [← c]; exact z))]
        exact e
      tbls := fun b ps z => by
        obtain ⟨more, e⟩ := I.base.tbls b ps z
        exact ⟨more, by rw [delA_ne (fun c => h0.2.2 ps (by rw [← c]; exact z))]; exact e⟩ }
  · obtain ⟨q1, q2, q3⟩ := I.pin p hp
    exact ⟨q1, nm q2, q3⟩
  · by_cases c : b = f
    · rw [c, delA_same] at z
      cases z
    · rw [delA_ne c] at z
      exact (I.hok b u z).stay (fun c v _ z => z) (fun c z => by
        rw [delA_ne (fun e => by rw [e, ha] at z; cases z)]
        exact z) fun c xs z => by
        rw [delA_ne (fun e => by rw [e, ha] at z; cases z)]
        exact z
end
structure Lm where
  params : Arguments
  body : Expr
  scope : Scope
def lamO (X : Cx) (L : Lm) (pm : Value) (c' : Addr) (ctv : Value) : Obj := PySem.W.kla_obj "<lambda>" (X.env.qual ++ "<lambda>") L.params L.body L.scope (cloFrom X.env.cells L.scope.names []) pm c' ctv
structure LamAt (X : Cx) (L : Lm) (mu : List Addr) (H : Hp) (f : Addr) : Prop where
  ob : ∃ (pm : Value) (c' : Addr) (ctv : Value), H f = some (exO (lamO X L pm c' ctv)) ∧ H c' = some (LamX.CodeO c' (X.env.qual ++ "<lambda>")) ∧ c' ∉ mu
  fr : f ∉ mu
  h0 : NoFr X.H_0 f
  st : f ∉ frs X.stack
theorem LamAt.ext {X : Cx} {L : Lm} {mu mu' : List Addr} {H H' : Hp} {f : Addr} (h : LamAt X L mu H f) (e : Ext mu mu' H H') : LamAt X L mu' H' f := by
  obtain ⟨⟨pm, c', ctv, h1, h2, h3⟩, h4, h5, h6⟩ := h
  exact ⟨⟨pm, c', ctv, e.keep _ _ h1 h4, e.keep _ _ h2 h3, e.notin h2 h3⟩, e.notin h1 h4, h5, h6⟩
theorem LamAt.at_lst {X : Cx} {L : Lm} {mu : List Addr} {H : Hp} {f l : Addr} {xs ys : List V} (h : LamAt X L mu H f) (e : H l = some (.lst xs) ∨ H l = none) : LamAt X L mu (upd H l (.lst ys)) f := by
  obtain ⟨⟨pm, c', ctv, h1, h2, h3⟩, h4, h5, h6⟩ := h
  have n : ∀ {b : Addr} {u : HO}, H b = some u → (∀ xs, u ≠ .lst xs) → b ≠ l := fun {b u} z q c => by
    subst c
    rcases e with e | e <;> rw [z] at e
    · exact q _ (Option.some.inj e)
    · cases e
  exact ⟨⟨pm, c', ctv, by rw [upd_ne (n h1 fun xs z => by cases z)]; exact h1, by rw [upd_ne (n h2 fun xs z => by unfold LamX.CodeO at z; cases z)]; exact h2, h3⟩, h4, h5, h6⟩
section
variable {X : Cx} {pins : List (Addr × Obj)} {σ : Sg} {H : Hp} {s : Shared} {mu : List Addr} {B O : Addr → Prop} {ρ : Ev} {S : Sto} {l : Nat} {P c : Addr} {xo : Str} {params : Arguments} {body : Expr} {scope : Scope} {pos : Pos}
theorem lam_made {E Q : Value → Shared → Prop} (I : Inv X pins σ H s) (rl : Rel X.K mu B O H σ ρ S) (hl : mu[l]? = some P) (hS : S[l]? = some (.tab xo)) (TB : LamX.TabB X.base X.mg c P) (hcode : X.env.code = .ref c) (hq : X.env.qual = xo ++ ".<locals>.") (hdef : defaultsOf params X.env = ([], []))
    (hfree : ∀ y ∈ scope.names, y.2 = .free → ∃ c, X.env.cells.lookup y.1 = some c)
    (h : ∀ (f : Addr) (H1 : Hp) (s' : Shared), Inv X pins σ H1 s' → Ext mu mu H H1 → Rel X.K mu B O H1 σ ρ S → LamAt X ⟨params, body, scope⟩ mu H1 f → H f = none → Q (.ref f) s') : wpAny (model X.prog X.w) X.A (eval (.Lambda params body scope pos) X.env) Q E s := by
  obtain ⟨hP0, ps, hP, hT, hC⟩ := rl.sto.ok l P (.tab xo) hl hS
  rw [← hq] at hC
  have pP : s.heap.get? P = some (PySem.W.tabObj ps) := I.hok P _ hP
  have aP : s.heap.BuiltinsAt X.mg P := TB.bm.keeps I.bk
  have nL : ∀ {b : Addr}, s.heap.objs.size ≤ b → b ∉ frs X.stack := fun {b} hb m => by
    rcases List.mem_cons.mp (I.stkSub _ m) with e | m
    · rw [e] at hb
      exact absurd I.lt (Nat.not_lt.mpr hb)
    · exact I.nofs hb m
  have lt : ∀ {x : Str} {d : Addr}, X.env.cells.lookup x = some d → d < s.heap.objs.size := fun {x d} z => by
    obtain ⟨w, q⟩ := I.cell x d z
    exact q.lt
  have fin : ∀ (f c' : Addr) (pm ctv : Value) (H1 : Hp) (s' : Shared), Inv X pins σ H1 s' → Ext mu mu H H1 → Rel X.K mu B O H1 σ ρ S → s'.heap.get? f = some (lamO X ⟨params, body, scope⟩ pm c' ctv) → H1 f = none → s.heap.objs.size ≤ f → H1 c' = some (LamX.CodeO c' (X.env.qual ++ "<lambda>")) → c' ∉ mu → Q (.ref f) s' := fun f c' pm ctv H1 s' J E1 r1 hf hn hz hc hm => by
    have sm : Same H1 (upd H1 f (exO (lamO X ⟨params, body, scope⟩ pm c' ctv))) := same_upd hn
    have fm : f ∉ mu := r1.sto.fresh hn
    have J2 := track J hf hn (Nat.le_trans I.sz hz) (Nat.ne_of_gt (Nat.lt_of_lt_of_le I.lt hz)) (fun x d z => Nat.ne_of_lt (Nat.lt_of_lt_of_le (lt z) hz)) fun p hp => Nat.ne_of_lt (Nat.lt_of_lt_of_le (Heap.lt_size (I.pin p hp).1) hz)
    refine h f _ s' J2 (E1.trans (.same sm)) (r1.ext (.same sm) (r1.sto.same sm)) ⟨⟨pm, c', ctv, upd_same, sm _ _ hc, hm⟩, fm, NoFr.of I hz, nL hz⟩ (I.hok.fresh hz)
  refine PySem.W.kla_eval hdef ?_
  cases hit : codeAmong pos ps.toList with
  | some cv =>
    obtain ⟨c', rfl, hc1, hc2⟩ := hC pos cv hit
    refine PySem.W.kla_makeFunctionHit (mg := X.mg) (c := c) (P := P) (ps := ps) (closure_ok hfree) I.ok.glob (I.mod.glob.keeps I.bk) hcode (TB.code.keeps I.bk) pP hT hit aP fun ctv h' tk k sz => ?_
    exact fin _ c' _ ctv H _ (I.kept (t' := tk) fun b o e => Heap.get?_push_of_some _ (k b o e)) (.refl _ _) rl (Heap.get?_push_size _ rfl) (I.hok.fresh sz) sz hc1 hc2
  | none =>
    refine PySem.W.kla_makeFunction (mg := X.mg) (c := c) (P := P) (ps := ps) (closure_ok hfree) I.ok.glob (I.mod.glob.keeps I.bk) hcode (TB.code.keeps I.bk) pP hT hit TB.gP aP fun c' ctv h' tk k ge lt' rec_ tb => ?_
    obtain ⟨c2, oc, vs, t, e2, g1, g2, g3⟩ := rec_
    cases e2
    have sz : s.heap.objs.size ≤ h'.objs.size := Nat.le_trans ge (Nat.le_of_lt lt')
    have nC : H c' = none := I.hok.fresh ge
    have cP : P ≠ c' := ne_of_none hP nC
    have J := LamX.inv_table (t' := tk) (more := #[rawInt pos.line, rawInt pos.col, .ref c']) (h' := h'.push (lamO X ⟨params, body, scope⟩ ((X.mg "__name__").getD .none) c' ctv)) I hP
      (fun b o hb e => Heap.get?_push_of_some _ (k b o hb e)) (Heap.get?_push_of_some _ tb) ge ⟨oc, vs, t, Heap.get?_push_of_some _ g1, g2, g3⟩
    have eH : upd (upd H P (.tbl (ps ++ #[rawInt pos.line, rawInt pos.col, .ref c']))) c' (LamX.CodeO c' (X.env.qual ++ "<lambda>")) = upd (upd H c' (LamX.CodeO c' (X.env.qual ++ "<lambda>"))) P (.tbl (ps ++ #[rawInt pos.line, rawInt pos.col, .ref c'])) := by
      funext b
      by_cases b1 : b = P
      · rw [b1, upd_ne cP, upd_same, upd_same]
      · rw [upd_ne b1]
        by_cases b2 : b = c'
        · rw [b2, upd_same, upd_same]
        · rw [upd_ne b2, upd_ne b2, upd_ne b1]
    rw [eH] at J
    have sm : Same H (upd H c' (LamX.CodeO c' (X.env.qual ++ "<lambda>"))) := same_upd nC
    have st0 := rl.sto.same sm
    have cm : c' ∉ mu := rl.sto.fresh nC
    have hr : RecOk X.K mu (fun a => B a ∨ O a) (upd (upd H c' (LamX.CodeO c' (X.env.qual ++ "<lambda>"))) P (.tbl (ps ++ #[rawInt pos.line, rawInt pos.col, .ref c']))) P (.tab xo) := by
      refine ⟨hP0, _, upd_same, by rw [Array.toList_append]; exact PySem.TriplesOk_snoc _ _ _ _ hT, fun p' cv hcv => ?_⟩
      rw [← hq]
      rw [Array.toList_append] at hcv
      rcases LamX.among_app (pos := pos) (p' := p') (c := .ref c') ps.toList hT hcv with z | z
      · obtain ⟨c0, e1, e2, e3⟩ := hC p' cv z
        exact ⟨c0, e1, by rw [upd_ne (fun e => by rw [e, hP] at e2; cases e2)]; exact sm _ _ e2, e3⟩
      · exact ⟨c', z, by rw [upd_ne (Ne.symm cP)]; exact upd_same, cm⟩
    obtain ⟨E2, st2⟩ := st0.setRec hl hr
    have eS : S.set l (.tab xo) = S := by
      apply List.ext_getElem?
      intro i
      by_cases c : i = l
      · subst c
        rw [List.getElem?_set_self (List.getElem?_eq_some_iff.mp hS).1, hS]
      · rw [List.getElem?_set_ne (Ne.symm c)]
    rw [eS] at st2
    have EX := (Ext.same (mu := mu) sm).trans E2
    refine fin _ c' _ ctv _ _ J EX (rl.ext EX st2) (Heap.get?_push_size _ rfl) ?_ sz (by rw [upd_ne (Ne.symm cP)]; exact upd_same) cm
    have n1 : h'.objs.size ≠ c' := Nat.ne_of_gt lt'
    have n2 : h'.objs.size ≠ P := Nat.ne_of_gt (Nat.lt_of_lt_of_le (Heap.lt_size pP) sz)
    rw [upd_ne n2, upd_ne n1]
    exact I.hok.fresh sz
end
def mAsk (lbl : Str) (cs : List Str) (gh : Gd) (fE : Mx) (xE : Xm) : Mx := fun ρ S => match fE ρ S with
  | .ok w S1 => .ok (.tuple [.str lbl, w]) S1
  | .bad => match xE ρ S with
    | some (e, S1) => if e.c ∈ cs then hotR gh e S1 else .bad
    | none => .bad
structure LamD (X : Cx) (k : Nat) (L : Lm) (fE : Mx) (xE : Xm) : Prop where
  sc : LamX.LamS X.env.scope L.scope
  df : defaultsOf L.params X.env = ([], [])
  bd : ∀ (q : Str) (cl : List (Str × Addr)) (pm cv ctv : Value), bindArgs (PySem.W.kla_fn "<lambda>" q L.params L.body L.scope cl pm cv ctv) ⟨[], []⟩ = pure []
  de : ∀ (A : Around) (outer : List Env) (s : Shared) (H : Hp) (E : XK) (f c' : Addr), Room k (A.deeper (LamX.lamEnv X L.scope s.heap.objs.size f c')) → De (LamX.lamCx X A outer s H E L.scope f c').nox L.body fE
  xe : ∀ (A : Around) (outer : List Env) (s : Shared) (H : Hp) (E : XK) (f c' : Addr), Room k (A.deeper (LamX.lamEnv X L.scope s.heap.objs.size f c')) → Xe (LamX.lamCx X A outer s H E L.scope f c') L.body xE
section
variable {X : Cx} {pins : List (Addr × Obj)} {σ : Sg} {H : Hp} {s : Shared} {mu : List Addr} {B O : Addr → Prop} {ρ : Ev} {S S' : Sto} {L : Lm} {fE : Mx} {xE : Xm} {gh : Gd} {lbl x : Str} {cs : List Str} {w : Wd} {Q : VK} {k : Nat}
theorem lam_call {a : Str} {g WC f c' : Addr} {pg : Arguments} {bg : List Stmt} {sg : Scope} {dV kV doc pm0 pm cdv ct ctv oc : Value} {an od : Option Addr} {osl : Array (Option Value)} {Ng : List Str}
    (lk : X.K.lookup g = some ⟨oc, od, .func (PySem.W.fnOf x x pg bg sg dV kV doc pm0 an cdv ct), osl⟩) (hcg : PySem.W.codeIn X.K cdv x = true) (hb : L2.Binds X.K (PySem.W.fnOf x x pg bg sg dV kV doc pm0 an cdv ct) [a] []) (Sg : FnScope Ng [a] sg) (hNg : Ng[0]? = some a) (hva : Vis sg a)
    (hG : LamX.GivesTo X Ng x sg g cdv bg a (X.env.qual ++ "<lambda>") (TTh X.K WC lbl gh)) (hr : Room (k + 2) X.A)
    (hcs : ∀ c ∈ cs, X.mg c = some (.ref (He.ga X.K c)) ∧ PySem.W.exmOne X.K (.ref (He.ga X.K c)) (.ref WC) = some true ∧ ∀ q ∈ X.K, q.2.cls ≠ .ref (He.ga X.K c))
    (hd : (a == ("__debug__" : Str)) = false) (hcd : (a == ("__classdict__" : Str)) = false)
    (D : LamD X k L fE xE) (I : Inv X pins σ H s) (rl : Rel X.K mu B O H σ ρ S) (hf : s.heap.get? f = some (lamO X L pm c' ctv)) (hfn : H f = none) (hfr : f ∉ frs X.stack) (hco : H c' = some (LamX.CodeO c' (X.env.qual ++ "<lambda>")))
    (e : mAsk lbl cs gh fE xE ρ S = .ok w S') (q : ∀ v H' mu', Ext mu mu' H H' → StOk X.K mu' (fun a => B a ∨ O a) H' S' → Rp X.K mu' (fun a => B a ∨ O a) H' v w → Q v H') :
    codeAny (model X.prog X.w) X.A (.call (.ref g) ⟨[.ref f], []⟩) (CR C8.CX0 X.stack X.prog X.w H s Q C8.E0) s := by
  refine LamX.run_ofS (N := Ng) (ps := [a]) (us := [.ref f]) (vs := [.ref f]) lk hcg Sg hr I.env0 (hb s [.ref f] I.kIn rfl) (.cons rfl .nil) rfl fun hr' => ?_
  have hTT : TTh X.K WC lbl gh (fun E H' Q' => tD X.K fE σ H' Q' ∨ tXE X.K X.mg xE E σ H') H Q := by
    show (tD X.K fE σ H _ ∨ tXE X.K X.mg xE _ σ H)
    unfold mAsk at e
    cases z : fE ρ S with
    | ok w1 S1 =>
      rw [z] at e
      cases e
      refine .inl (tD.mk rl z fun v H2 mu2 E2 r p => fun p' o np d => ?_)
      have sm : Same H2 (upd H2 p' (.frz o (.tup [.str lbl, v]))) := same_upd np
      exact q _ _ mu2 (E2.trans (.same sm)) (r.sto.same sm) (new_tup r.sto r.bn (.cons (.str lbl) (.cons p .nil)) np d)
    | bad =>
      rw [z] at e
      cases y : xE ρ S with
      | none => rw [y] at e; cases e
      | some es =>
        obtain ⟨e1, S1⟩ := es
        rw [y] at e
        have e : (if e1.c ∈ cs then hotR gh e1 S1 else .bad) = (.ok w S' : R Wd) := e
        by_cases hc : e1.c ∈ cs
        · rw [if_pos hc] at e
          obtain ⟨c1, c2, c3⟩ := hcs _ hc
          unfold hotR at e
          cases u : gh [oW S1.length] (S1 ++ [.exn e1.c e1.fs]) with
          | bad => rw [u] at e; cases e
          | ok w2 S2 =>
            rw [u] at e
            have e : (if bndW S1.length w2 = true ∧ ((S2.take S1.length).all fun r => r.bnd S1.length) = true then (.ok w2 (S2.take S1.length) : R Wd) else .bad) = .ok w S' := e
            by_cases hbn : bndW S1.length w2 = true ∧ ((S2.take S1.length).all fun r => r.bnd S1.length) = true
            · rw [if_pos hbn] at e
              cases e
              refine .inr ⟨ρ, S, mu, B, O, rl, e1, S1, y, fun cls d H' mu' x' st' xa => ?_⟩
              have ec : cls = .ref (He.ga X.K e1.c) := by
                obtain ⟨C, _, _, z1, z2, _⟩ := xa
                rw [c1] at z2
                rw [z1, Value.ref.inj (Option.some.inj z2)]
              refine ⟨by rw [ec]; exact c2, fun q hq => by rw [ec]; exact c3 q hq, fun a oe hz hv na => ?_⟩
              exact hot_sp st' (rl.bn.ext x') xa c1 hz hv na u hbn.1 hbn.2 fun v H2 E2 st2 p2 => q v H2 mu' (x'.trans E2) st2 p2
            · rw [if_neg hbn] at e
              cases e
        · rw [if_neg hc] at e
          cases e
  obtain ⟨t', ht', hq'⟩ := hG f c' s H Q (fun E H' Q' => tD X.K fE σ H' Q' ∨ tXE X.K X.mg xE E σ H')
    (fun W pn xe E p1 p2 tk hW => LamX.pe_act (i := 0) (tb := fun σ H Q => tD X.K fE σ H Q ∨ tXE X.K X.mg xE E σ H) I D.sc hf hfn hfr (D.bd _ _ _ _ _) tk hW hr' (fun A outer s H hr2 => ⟨fun pins s2 σ2 H2 Q2 I2 h2 => h2.elim (fun h2 => (PE.nox (D.de A outer s H E f c' hr2)).run pins s2 σ2 H2 Q2 I2 h2)
      fun ⟨ρ2, S2, mu2, B2, O2, r2, e2, S3, e3, q3⟩ => (D.xe A outer s H E f c' hr2).run pins s2 σ2 H2 Q2 I2 (tXe.mk r2 e3 ((takes_of (X := LamX.lamCx X A outer s H E L.scope f c') (E := E) rfl rfl rfl rfl).imp fun cls d _ H' ⟨mu', x', st', xa⟩ => q3 cls d H' mu' x' st' xa))⟩) hNg hva hd hcd) hco hTT
  exact ⟨t', ht'.nox, hq'⟩
end
end DL
namespace DL
open PySem PySem.Spec PyProof.Rows L2
section
variable {X : Cx} {pins : List (Addr × Obj)} {σ : Sg} {H : Hp} {s : Shared}
theorem ask_lc {A q : Str} {i jq : Nat} {c : Expr} {scope : Scope} {pa pq pe pos : Pos} {l : Addr} {vs : List V} {W : Addr → Nat → Hp → Prop} {Q : VK} (hc : X.calm = true) (hN : X.N.Nodup) (I : Inv X pins σ H s) (hi : X.N[i]? = some A) (hv : Vis X.env.scope A)
    (hd1 : (A == ("__debug__" : Str)) = false) (hd2 : (A == ("__classdict__" : Str)) = false) (hs : σ[i]? = some (some (V.ref l))) (hl : H l = some (.lst vs)) (ok : BlkOk X.N X.env.scope scope [(q, jq)])
    (hpg : ∀ (s : Shared) (H : Hp) (C : Addr) (cl : List (Str × Addr)) (fp : List Addr), PG (X.blk s H scope (compEnvC scope cl C X.env) fp) (.Name q pq) (gName jq))
    (w0 : ∀ D, H D = none → W D 0 (upd H D (.lst []))) (wl : ∀ D k H', W D k H' → H' l = some (.lst vs))
    (step : ∀ (D : Addr) (k : Nat) (v : V) (s0 s' : Shared) (H0 H' : Hp) (C : Addr) (cl : List (Str × Addr)) (fp : List Addr) (pn : List (Addr × Obj)), W D k H' → vs[k]? = some v → Inv (X.blk s0 H0 scope (compEnvC scope cl C X.env) fp) pn ((wipe σ [jq]).set jq (some v)) H' s' →
      (∀ {σ1 : Sg} {H1 : Hp} {s1 : Shared} {p1 : List (Addr × Obj)}, Inv (X.blk s0 H0 scope (compEnvC scope cl C X.env) fp) p1 σ1 H1 s1 → Inv X pins σ H1 s1) →
      wpAny (model X.prog X.w) X.A (isTrue c (compEnvC scope cl C X.env) (eval c (compEnvC scope cl C X.env))) (fun b s2 => b = false ∧ ∃ H2, Inv (X.blk s0 H0 scope (compEnvC scope cl C X.env) fp) pn ((wipe σ [jq]).set jq (some v)) H2 s2 ∧ W D (k + 1) H2) (fun _ _ => False) s')
    (done : ∀ D H', W D vs.length H' → Q (.ref D) H') :
    wpAny (model X.prog X.w) X.A (eval (.ListComp (.Name q pe) [⟨.Name q pq, .Name A pa, [c], 0⟩] scope pos) X.env) (EP X pins σ Q) X.xe s := by
  have hfree : ∀ y ∈ scope.names, y.2 = .free → ∃ c, X.env.cells.lookup y.1 = some c := fun y hy e => (ok.free y hy e).elim (fun z => I.ok.has _ (.inl z)) fun z => I.ok.has _ (.inr z)
  rw [eval_ListComp]
  have start := (pi_list (X := X) (tg := .Name q pq) (pe_var (pos := pa) hi hv hd1 hd2)).run pins s σ H (fun J H1 => J = Itl X.K l ∧ H1 = H) I ⟨.ref l, hs, l, rfl, ⟨vs, .inl (.inl hl)⟩, rfl, rfl⟩
  refine wpAny_comprehension_free (use := none) rfl (fun _ => rfl) (closure_ok hfree) ok.kind (fun y hy e => (ok.uniq y hy).trans (by rw [e])) (thn start fun _ s1 h1 => thn h1 fun itv s2 ⟨it, fp, tn, J, H2, ei, I2, T, st2, f2, eJ, eH⟩ => ?_)
  subst ei eJ eH
  refine wpAny_newObj_type (newEnv_comp ?_) (by show 0 ≤ sizeLine; decide)
  obtain ⟨D, hD⟩ : ∃ D, D = s2.heap.objs.size := ⟨_, rfl⟩
  rw [← hD]
  have nD : H2 D = none := I2.hok.fresh (Nat.le_of_eq hD.symm)
  have young : ∀ b ∈ fp, b < s2.heap.objs.size := fun b hb => let ⟨_, e, _⟩ := T.obj _ _ st2 b hb; Heap.lt_size e
  generalize hs3 : ({ s2 with heap := s2.heap.push { cls := .type "list", data := .seq ([] : List Value).toArray } } : Shared) = s3
  have more : ∀ b o, s2.heap.get? b = some o → s3.heap.get? b = some o := fun b o e => by rw [← hs3]; exact Heap.get?_push_of_some _ e
  have I3 : Inv X pins σ (upd H2 D (.lst [])) s3 := by
    rw [← hs3]
    refine I2.laid (t' := s2.toks) (fun b o e => Heap.get?_push_of_some _ e) (Nat.le_of_eq hD.symm) ⟨Nat.zero_le _, [], 0, .nil, ?_⟩
    rw [hD]
    exact Heap.get?_push_size _ rfl
  have size3 : s3.heap.objs.size = s2.heap.objs.size + 1 := by rw [← hs3]; exact Heap.size_push ..
  have own : ∀ b ∈ fp, FpOk X pins (upd H2 D (.lst [])) b ∧ b < s3.heap.objs.size := fun b hb => by
    have y := young b hb
    obtain ⟨z1, z2⟩ := f2 b hb
    exact ⟨⟨by rw [upd_ne (by rw [hD]; exact Nat.ne_of_lt y)]; exact z1, z2⟩, by rw [size3]; exact Nat.lt_succ_of_lt y⟩
  have free3 : ∀ b ∈ fp, upd H2 D (.lst []) b = none := fun b hb => (own b hb).1.1
  have I4 := block_start I3 ok hN own
  have w3 := w0 D nD
  show codeAny _ _ (.compStart (.ListComp (.Name q pe) [⟨.Name q pq, .Name A pa, [c], 0⟩] scope pos) 0 (.ref it) (.ref D) (compEnvC scope (cellsFrom (s3.heap.objs.size + 1) scope.names (cloFrom X.env.cells scope.names [])) s3.heap.objs.size X.env)) (compPost (model X.prog X.w) X.A X.xe none (EP X pins σ Q) (.ref D) s3.heap.objs.size) { s3 with heap := pushCells (s3.heap.push { cls := .type "dict", data := .dict #[] }) scope.names }
  generalize hcl : cellsFrom (s3.heap.objs.size + 1) scope.names (cloFrom X.env.cells scope.names []) = cl at I4 ⊢
  generalize hs4 : ({ s3 with heap := pushCells (s3.heap.push { cls := .type "dict", data := .dict #[] }) scope.names } : Shared) = s4 at I4 ⊢
  have st4 : tn 0 s4.heap := T.keep _ _ _ st2 fun b _ o e => by rw [← hs4]; exact pushCells_keeps _ _ _ _ (Heap.get?_push_of_some _ (more b o e))
  generalize hC : s3.heap.objs.size = C at I4 ⊢
  have cL : (compEnvC scope cl C X.env).locals = C := rfl
  generalize hH3 : upd H2 D (.lst []) = H3 at I3 I4 own free3 w3
  have pg := hpg s3 H3 C cl fp
  have st := fun (D k v) (s' : Shared) (H' : Hp) (pn : List (Addr × Obj)) => step D k v s3 s' H3 H' C cl fp pn
  have back : ∀ {σ1 : Sg} {H1 : Hp} {s1 : Shared} {p1 : List (Addr × Obj)}, Inv (X.blk s3 H3 scope (compEnvC scope cl C X.env) fp) p1 σ1 H1 s1 → Inv X pins σ H1 s1 := fun J =>
    I3.call' (ch := fp) J.os J.base J.hok J.bare fun b hb => let ⟨⟨_, z1, _, z2, z3, z4⟩, _⟩ := own b hb; ⟨z2, z1, z3, z4⟩
  generalize hce : compEnvC scope cl C X.env = ce at I4 pg st back cL ⊢
  have fpB : ∀ {p1 : List (Addr × Obj)} {σ1 : Sg} {H1 : Hp} {s1 : Shared}, Inv (X.blk s3 H3 scope ce fp) p1 σ1 H1 s1 → p1 = [] → (∀ b ∈ fp, H1 b = none) → ∀ b ∈ fp, FpOk (X.blk s3 H3 scope ce fp) [] H1 b := fun J e n b hb => by
    obtain ⟨z1, z2⟩ := J.ok.exf b hb
    exact ⟨n b hb, z1, J.ok.exfs b hb, .inl hb, fun x c e => z2 x c e, fun p hp => nomatch (show p ∈ ([] : List (Addr × Obj)) ++ [] from hp)⟩
  have itl : ∀ {k : Nat} {H1 : Hp}, W D k H1 → SqL X.K H1 l vs := fun w => .inl (.inl (wl _ _ _ w))
  have loop : codeAny (model X.prog X.w) X.A (.compLoop (.ListComp (.Name q pe) [⟨.Name q pq, .Name A pa, [c], 0⟩] scope pos) 0 (.ref it) (.ref D) ce) (compPost (model X.prog X.w) X.A X.xe none (EP X pins σ Q) (.ref D) C) s4 := by
    refine compLoop_any (fun n s' => ∃ k H', n = vs.length - k ∧ k ≤ vs.length ∧ Inv (X.blk s3 H3 scope ce fp) [] (wipe σ [jq]) H' s' ∧ tn k s'.heap ∧ (∀ b ∈ fp, H' b = none) ∧ W D k H') ?_ vs.length ⟨0, H3, rfl, Nat.zero_le _, I4, st4, free3, w3⟩
    rintro n s5 ⟨k, H5, rfl, hk, I5, st5, n5, w5⟩
    by_cases hlt : k < vs.length
    · have hv5 : vs[k]? = some vs[k] := List.getElem?_eq_getElem hlt
      generalize vs[k] = v at hv5
      refine thnF (T.item (X.blk s3 H3 scope ce fp) rfl rfl rfl hc k [] s5 _ H5 (fun _ _ => False) I5 (fpB I5 rfl n5) st5 ⟨vs, v, itl w5, hv5⟩) fun r s6 ⟨u, hr, h6⟩ => ?_
      subst hr
      refine thnF h6 fun _ s7 ⟨x, H7, I7, r7, y7, st7, n7⟩ => ?_
      obtain ⟨e7, y7⟩ := y7
      subst e7
      have ex : v = x := Option.some.inj (hv5.symm.trans (y7 vs (itl w5)))
      subst ex
      refine thnF (pg.run _ s7 _ H7 v u (fun σ' H' => σ' = (wipe σ [jq]).set jq (some v) ∧ H' = H7) (I7.pinned (fpB I7 rfl n7) (T.obj _ _ st7)) r7 ⟨rfl, rfl⟩) fun _ s8 ⟨σ8, H8, I8, eσ, e8⟩ => ?_
      subst eσ e8
      refine wpAny_tests_one (thnF (st D k v s8 H8 _ w5 hv5 I8 fun J => back J) fun b s9 ⟨hb, H9, I9, w9⟩ => ?_)
      subst hb
      simp only [Bool.false_eq_true, if_false]
      have pin : ∀ b ∈ fp, ∀ o, s7.heap.get? b = some o → s9.heap.get? b = some o ∧ H9 b = none := fun b hb o e =>
        let z := I9.pin (b, o) (List.mem_append_right _ (List.mem_append_right _ (mem_pinsAt hb e)))
        ⟨z.1, z.2.1⟩
      refine ⟨vs.length - (k + 1), by omega, k + 1, H9, rfl, hlt, (I9.unpinned (pins := [])).weak (by rw [List.length_set]) (fun j z e => ?_), T.keep _ _ _ st7 fun b hb o e => (pin b hb o e).1, fun b hb => ?_, w9⟩
      · have nj : j ∉ [jq] := (wipe_some e).2
        rw [List.getElem?_set_ne (fun c => nj (by rw [c]; exact List.mem_singleton.mpr rfl))]
        exact e
      · obtain ⟨o, e, _⟩ := T.obj _ _ st7 b hb
        exact (pin b hb o e).2
    · have ek : k = vs.length := by omega
      subst ek
      refine thnF (T.done (X.blk s3 H3 scope ce fp) rfl rfl rfl hc vs.length [] s5 _ H5 (fun _ _ => False) I5 (fpB I5 rfl n5) st5 ⟨vs, itl w5, Nat.le_refl _⟩) fun r s6 ⟨hr, I6⟩ => ?_
      subst hr
      have I7 := back I6
      have nC : H5 C = none := by
        have z : H5 ce.locals = none := I6.free
        rw [cL] at z
        exact z
      obtain ⟨m, hn, _⟩ := I6.loc
      have hn : s6.heap.Ns ce.locals m := hn
      rw [cL] at hn
      obtain ⟨f0, f1, f2', f3, f4, f5⟩ := I3.fpOk (Nat.le_of_eq hC) nC
      exact ⟨m, hn, fun h'' sb => ⟨.ref D, H5, I7.turned (t' := s6.toks) (fun b o hb e => (sb.2 b hb).trans e) f0 f1 f3 f4 f5, rfl, done D H5 w5⟩⟩
  exact codeAny_compStart_list loop (T.self X.A 0 _ _ _ st4 loop)
end
end DL
namespace DL
open PySem PySem.Spec PyProof.Rows L2
section
variable {K : Fg} {mu mu' : List Addr} {B B' O : Addr → Prop} {H H' : Hp} {σ : Sg} {ρ : Ev} {S : Sto}
theorem Rel.setAny (h : Rel K mu B O H σ ρ S) (i : Nat) (v : V) : Rel K mu B O H (σ.set i (some v)) (ρ.set i none) S := by
  have g : ∀ {j : Nat} {x : Sl}, (ρ.set i none)[j]? = some (some x) → j ≠ i ∧ ρ[j]? = some (some x) := fun {j x} e => by
    rcases set_get e with ⟨_, e1, _⟩ | ⟨c, e⟩
    · cases e1
    · exact ⟨Ne.symm c, e⟩
  have st : ∀ {j : Nat}, j ≠ i → (σ.set i (some v))[j]? = σ[j]? := fun c => List.getElem?_set_ne (Ne.symm c)
  refine ⟨by rw [List.length_set, List.length_set]; exact h.len, fun j w e => ?_, fun j ws e => ?_, fun j k ws ws' a e1 e2 e3 e4 => ?_, h.sto, h.bn⟩
  · obtain ⟨c, e⟩ := g e
    rw [st c]
    exact h.val j w e
  · obtain ⟨c, e⟩ := g e
    rw [st c]
    exact h.own j ws e
  · obtain ⟨c1, e1⟩ := g e1
    obtain ⟨c2, e2⟩ := g e2
    rw [st c1] at e3
    rw [st c2] at e4
    exact h.dif j k ws ws' a e1 e2 e3 e4
theorem Rel.weakB (h : Rel K mu B O H σ ρ S) (w : ∀ a, B' a → B a) : Rel K mu B' O H σ ρ S := by
  have tr : ∀ a, (B' a ∨ O a) → (B a ∨ O a) := fun a z => z.imp (w a) id
  exact ⟨h.len, fun i w e => let ⟨v, a, p⟩ := h.val i w e; ⟨v, a, p.weak tr⟩, fun i ws e => let ⟨a, xs, h1, h2, h3, h4, h5⟩ := h.own i ws e; ⟨a, xs, h1, h2, fun z => h3 (w a z), h4, h5.weak tr⟩, h.dif, h.sto.weak tr, fun a t => h.bn a (tr a t)⟩
theorem RpAll.delA {T : Addr → Prop} {f : Addr} {oe : Obj} : ∀ {vs : List V} {ws : List Wd}, RpAll K mu T H vs ws → H f = some (exO oe) → RpAll K mu T (DL.delA H f) vs ws
  | [], [], _, _ => .nil
  | _ :: _, _ :: _, .cons p r, h => .cons (p.delA h) (RpAll.delA r h)
theorem Rel.delA (h : Rel K mu B O H σ ρ S) {f : Addr} {oe : Obj} (ha : H f = some (exO oe)) (n : f ∉ mu) (nt : ¬ (B f ∨ O f)) : Rel K mu B O (DL.delA H f) σ ρ S := by
  have ne : ∀ {a : Addr}, (B a ∨ O a) → a ≠ f := fun {a} t c => nt (by rw [← c]; exact t)
  refine ⟨h.len, fun i w e => let ⟨v, a, p⟩ := h.val i w e; ⟨v, a, p.delA ha⟩, fun i ws e => ?_, h.dif, h.sto.delA ha n, fun a t => ?_⟩
  · obtain ⟨a, xs, h1, h2, h3, h4, h5⟩ := h.own i ws e
    exact ⟨a, xs, h1, h2, h3, by rw [delA_ne (ne (.inr h2))]; exact h4, RpAll.delA h5 ha⟩
  · rw [delA_ne (ne t)]
    exact h.bn a t
theorem Ext.delA (e : Ext mu mu' H H') {f : Addr} (n : H f = none) : Ext mu mu' H (DL.delA H' f) := ⟨e.pre, fun a o h q => by rw [delA_ne (ne_of_none h n)]; exact e.keep a o h q, e.new⟩
theorem Rel.nothing (h : Rel K mu B O H σ ρ S) (σ' : Sg) : Rel K mu B O H σ' (List.replicate σ'.length none) S := by
  have no : ∀ {j : Nat} {x : Sl}, (List.replicate σ'.length (none : Option Sl))[j]? = some (some x) → False := fun {j x} e => by
    rw [List.getElem?_replicate] at e
    split at e <;> cases e
  exact ⟨by rw [List.length_replicate], fun _ _ e => (no e).elim, fun _ _ e => (no e).elim, fun _ _ _ _ _ e => (no e).elim, h.sto, h.bn⟩
end
section
variable {X : Cx} {pins pn : List (Addr × Obj)} {σ σ2 : Sg} {H : Hp} {s : Shared} {mu : List Addr} {B O : Addr → Prop} {ρ : Ev} {S S1 S2 : Sto} {L : Lm} {fE fc : Mx} {xE : Xm} {gh : Gd} {lbl x q : Str} {cs : List Str} {w wc : Wd} {Q : VK} {k kE kh jq : Nat} {st : Stmt}
theorem ask_one {Y : Cx} {c : Expr} {px pq pc p : Pos} {f c' : Addr} {pm ctv : Value} (hY : Y.prog = X.prog ∧ Y.w = X.w ∧ Y.K = X.K ∧ Y.mg = X.mg ∧ Y.A = X.A ∧ Y.stack = X.stack ∧ Y.xe = fun _ _ => False) (CD : CatchD X.prog X.w X.K X.mg kh x st lbl cs gh) (hr : Room k X.A) (h1 : kE + 2 ≤ k) (h2 : kh + 1 ≤ k)
    (hg : Gl Y x) (hdb : (x == ("__debug__" : Str)) = false) (hu : X.A.units + 64 < cLine) (hjq : Y.N[jq]? = some q) (hvq : Vis Y.env.scope q) (dq1 : (q == ("__debug__" : Str)) = false) (dq2 : (q == ("__classdict__" : Str)) = false) (D : LamD X kE L fE xE)
    (J : Inv Y pn σ2 H s) (hσ : σ2[jq]? = some (some (V.ref f))) (back : ∀ {σ1 : Sg} {H1 : Hp} {s1 : Shared} {p1 : List (Addr × Obj)}, Inv Y p1 σ1 H1 s1 → Inv X pins σ H1 s1) (hp : (f, lamO X L pm c' ctv) ∈ pins) (hco : H c' = some (LamX.CodeO c' (X.env.qual ++ "<lambda>"))) (hfr : f ∉ frs X.stack)
    (rl : Rel X.K mu B O H σ ρ S) (e : mAsk lbl cs gh fE xE ρ S = .ok w S1) (hec : De Y c fc) (ec : fc (List.replicate σ2.length none) S1 = .ok wc S2) (en : gNe w wc = some (.bool false)) (hm : behindInMarks .NotEq c = false) :
    wpAny (model X.prog X.w) X.A (isTrue (.Compare (.Call (.Name x px) [.Name q pq] [] pc) [.NotEq] [c] p) Y.env (eval (.Compare (.Call (.Name x px) [.Name q pq] [] pc) [.NotEq] [c] p) Y.env))
      (fun b s2 => b = false ∧ ∃ H2 mu2, Inv Y pn σ2 H2 s2 ∧ Ext mu mu2 H H2 ∧ StOk X.K mu2 (fun a => B a ∨ O a) H2 S2) (fun _ _ => False) s := by
  obtain ⟨y1, y2, y3, y4, y5, y6, y7⟩ := hY
  obtain ⟨g, WC, Ng, a, oc, dV, kV, doc, pm0, cdv, ct, an, od, osl, hmx, hk, lk, hcg, hb, Sg, hNg, hva, d1, d2, hG, hcs⟩ := CD
  have call : wpAny (model Y.prog Y.w) Y.A (eval (.Call (.Name x px) [.Name q pq] [] pc) Y.env) (EP Y pn σ2 fun v H' => ∃ mu', Ext mu mu' H H' ∧ StOk X.K mu' (fun a => B a ∨ O a) H' S1 ∧ Rp X.K mu' (fun a => B a ∨ O a) H' v w) Y.xe s := by
    refine wpAny_Call_Name_kw (ld_glob J hg (by rw [y4]; exact hmx) ?_ hdb)
    refine PySem.W.callWith_K (h₀ := Y.base) J.ok.mod.kin (by rw [y3]; exact hk) (thn ((pa_cons (pe_var (X := Y) (pos := pq) (i := jq) hjq hvq dq1 dq2) pa_nil).run pc pn s σ2 H (fun vs H1 => vs = [.ref f] ∧ H1 = H) J ⟨.ref f, hσ, rfl, rfl⟩) fun us s1 ⟨vs, H1, I1, r, ev, eH⟩ => ⟨I1.kIn, ?_⟩) (by rfl) (by rfl)
    subst ev eH
    cases r with
    | cons r1 r =>
    cases r
    cases r1
    have IX := back I1
    obtain ⟨pf, pnn, _⟩ := IX.pin _ (List.mem_append_right _ hp)
    have cc := lam_call lk hcg hb Sg hNg hva (hG X rfl rfl rfl rfl (hr.mono h2) _) (hr.mono h1) hcs d1 d2 D IX rl pf pnn hfr hco e (Q := fun v H' => ∃ mu', Ext mu mu' H1 H' ∧ StOk X.K mu' (fun a => B a ∨ O a) H' S1 ∧ Rp X.K mu' (fun a => B a ∨ O a) H' v w) fun v H' mu' a b c => ⟨mu', a, b, c⟩
    rw [← y1, ← y2, ← y5, ← y6] at cc
    refine wpAny_call (codeAny_mono cc fun r s2 hq => ?_)
    cases r with
    | error e => exact (show False from hq).elim
    | ok fl =>
      cases fl with
      | ret u => exact I1.after hq
      | next => exact False.elim hq
      | brk => exact False.elim hq
      | cont => exact False.elim hq
  rw [← y1, ← y2, ← y5, ← y7]
  rw [← y3] at rl
  refine wpAny_isTrue_Compare1 (thn call fun v s1 ⟨v', H1, I1, r1, mu1, E1, st1, p1⟩ => ?_) hm
  rw [← y3] at st1 p1
  have rl1 := (rl.ext E1 st1).nothing σ2
  refine thn (hec.run pn s1 σ2 H1 (fun y H2 => ∃ mu2, Ext mu1 mu2 H1 H2 ∧ StOk Y.K mu2 (fun a => B a ∨ O a) H2 S2 ∧ Rp Y.K mu2 (fun a => B a ∨ O a) H2 y wc) I1 ⟨_, S1, mu1, B, O, rl1, wc, S2, ec, fun v H' mu' a b c => ⟨mu', a, b, c⟩⟩) fun u s2 ⟨y, H2, I2, r2, mu2, E2, st2, p2⟩ => ?_
  refine thn (od_ne (X := Y) (by rw [y5]; exact hu) pn s2 σ2 H2 v' y v u (fun z H3 => Same H2 H3 ∧ Rp Y.K mu2 (fun a => B a ∨ O a) H3 z (.bool false)) mu2 _ S2 w wc (.bool false) I2 r1 r2 st2 (rl1.bn.ext E2) (p1.ext E2) p2 en fun z H3 sm rz => ⟨sm, rz⟩) fun c s3 ⟨z, H3, I3, r3, sm, rz⟩ => ?_
  cases rz
  cases r3
  exact wpAny_truthy_bool ⟨rfl, H3, mu2, I3, (E1.trans E2).trans (.same sm), by rw [← y3]; exact st2.same sm⟩
end
end DL
namespace DL
open PySem PySem.Spec PyProof.Rows L2
structure Kp where
  L : Lm
  fE : Mx
  xE : Xm
  f : Addr
  pm : Value
  c : Addr
  ctv : Value
abbrev Kp.ob (X : Cx) (z : Kp) : Obj := lamO X z.L z.pm z.c z.ctv
abbrev Kp.t (z : Kp) : Lm × Mx × Xm := (z.L, z.fE, z.xE)
structure KpAt (X : Cx) (z : Kp) (mu : List Addr) (T : Addr → Prop) (H : Hp) : Prop where
  ob : H z.f = some (exO (z.ob X))
  co : H z.c = some (LamX.CodeO z.c (X.env.qual ++ "<lambda>"))
  cm : z.c ∉ mu
  fm : z.f ∉ mu
  h0 : NoFr X.H_0 z.f
  st : z.f ∉ frs X.stack
  nt : ¬ T z.f
section
variable {X : Cx} {z : Kp} {mu mu' : List Addr} {T : Addr → Prop} {H H' : Hp} {l : Addr}
theorem KpAt.ext (h : KpAt X z mu T H) (e : Ext mu mu' H H') : KpAt X z mu' T H' := ⟨e.keep _ _ h.ob h.fm, e.keep _ _ h.co h.cm, e.notin h.co h.cm, e.notin h.ob h.fm, h.h0, h.st, h.nt⟩
theorem KpAt.at_lst {xs ys : List V} (h : KpAt X z mu T H) (e : H l = some (.lst xs) ∨ H l = none) : KpAt X z mu T (upd H l (.lst ys)) := by
  have n : ∀ {b : Addr} {u : HO}, H b = some u → (∀ xs, u ≠ .lst xs) → b ≠ l := fun {b u} z q c => by
    subst c
    rcases e with e | e <;> rw [z] at e
    · exact q _ (Option.some.inj e)
    · cases e
  exact ⟨by rw [upd_ne (n h.ob fun xs z => by cases z)]; exact h.ob, by rw [upd_ne (n h.co fun xs z => by unfold LamX.CodeO at z; cases z)]; exact h.co, h.cm, h.fm, h.h0, h.st, h.nt⟩
theorem KpAt.of {L : Lm} {fE : Mx} {xE : Xm} {f : Addr} (h : LamAt X L mu H f) (nt : ¬ T f) : ∃ pm c ctv, KpAt X ⟨L, fE, xE, f, pm, c, ctv⟩ mu T H := by
  obtain ⟨⟨pm, c, ctv, h1, h2, h3⟩, h4, h5, h6⟩ := h
  exact ⟨pm, c, ctv, h1, h2, h3, h4, h5, h6, nt⟩
end
def askL (lbl : Str) (cs : List Str) (gh : Gd) (fc : Mx) (n : Nat) : List (Mx × Xm) → Ev → Sto → Option Sto
  | [], _, S => some S
  | (fE, xE) :: r, ρ, S => match mAsk lbl cs gh fE xE ρ S with
    | .ok w S1 => match fc (List.replicate n none) S1 with
      | .ok wc S2 => match gNe w wc with
        | some (.bool false) => askL lbl cs gh fc n r ρ S2
        | _ => none
      | .bad => none
    | .bad => none
def sAsk (lbl : Str) (cs : List Str) (gh : Gd) (fc : Mx) (ts : List (Mx × Xm)) (m : Ms) : Ms := fun ρ S => match askL lbl cs gh fc ρ.length ts ρ S with
  | some S' => m ρ S'
  | none => .bad
def sLams (i : Nat) (xo : Str) (m : Ms) : Ms := fun ρ S => if i < ρ.length ∧ (tabAt S xo).isSome = true then m (ρ.set i none) S else .bad
def tMade (X : Cx) (xo : Str) (L : Lm) : TE := fun σ H Q => ∃ ρ S mu B O, Rel X.K mu B O H σ ρ S ∧ (tabAt S xo).isSome = true ∧ ∀ f H1, Ext mu mu H H1 → Rel X.K mu B O H1 σ ρ S → LamAt X L mu H1 f → H f = none → Q (.ref f) H1
def tLs (X : Cx) (xo : Str) (ts : List (Lm × Mx × Xm)) (i : Nat) (m : Ms) : TS := fun D σ H => ∃ ρ S mu B O l H0, ∃ ks : List Kp, Rel X.K mu (fun a => B a ∨ a = l) O H σ ρ S ∧ (tabAt S xo).isSome = true ∧ σ[i]? = some (some (V.ref l)) ∧ H l = some (.lst (ks.map fun z => V.ref z.f)) ∧ ks.map Kp.t = ts ∧ (ks.map (·.f)).Nodup ∧
  (∀ z ∈ ks, KpAt X z mu (fun a => B a ∨ O a) H) ∧ Ext mu mu H0 H ∧ H0 l = none ∧ (∀ z ∈ ks, H0 z.f = none) ∧ postS X.K D mu B O H0 (m ρ S)
section
variable {X : Cx} {xo A : Str} {params : Arguments} {body : Expr} {scope : Scope} {lpos pos : Pos} {i : Nat} {m : Ms} {rest : List Stmt} {fE : Mx} {xE : Xm} {ts : List (Lm × Mx × Xm)}
theorem pe_made (TB : LamX.TabB X.base X.mg (cdX X.K xo) (tbX X.K xo)) (hcode : X.env.code = .ref (cdX X.K xo)) (hq : X.env.qual = xo ++ ".<locals>.") (hdef : defaultsOf params X.env = ([], [])) (L : LamX.LamS X.env.scope scope) : PE X (.Lambda params body scope lpos) (tMade X xo ⟨params, body, scope⟩) := by
  refine ⟨fun pins s σ H Q I ⟨ρ, S, mu, B, O, rl, ht, q⟩ => ?_⟩
  obtain ⟨l, hS⟩ := Option.isSome_iff_exists.mp ht
  have hS := tabAt_inv hS
  obtain ⟨b, hl⟩ : ∃ b, mu[l]? = some b := by
    have := (List.getElem?_eq_some_iff.mp hS).1
    rw [← rl.sto.len] at this
    exact ⟨_, List.getElem?_eq_getElem this⟩
  obtain ⟨eb, _⟩ := rl.sto.ok l b (.tab xo) hl hS
  subst eb
  exact lam_made I rl hl hS TB hcode hq hdef (L.has I.ok) fun f H1 s' J E r la n => ⟨.ref f, H1, J, rfl, q f H1 E r la n⟩
theorem lams_one {pa ll : Pos} (hN : X.N.Nodup) (hi : X.N[i]? = some A) (hx : Loc X.env.scope A) (hf : X.fn A = true ∨ X.env.scope.names.lookup A = some .local) (he : PE X (.Lambda params body scope lpos) (tMade X xo ⟨params, body, scope⟩))
    (h : PSs X rest (tLs X xo [(⟨params, body, scope⟩, fE, xE)] i m)) (hs : swapsWith (.List [.Lambda params body scope lpos] ll) (some (.Name A pa)) pos.line X.env = pure false := by rfl)
    (hst : starEach [.Lambda params body scope lpos] X.env = (false, eval (.Lambda params body scope lpos) X.env) :: starEach [] X.env := by rfl) : PSs X (.Assign [.Name A pa] (.List [.Lambda params body scope lpos] ll) pos :: rest) (tDs X.K (sLams i xo m)) :=
  PSs.weak (pss_cons (ps_set hN hi hx (pe_lst (pa_cons he pa_nil hst)) hs hf) h) fun D σ H ⟨ρ, S, mu, B, O, rl, q⟩ => by
    unfold sLams at q
    by_cases c : i < ρ.length ∧ (tabAt S xo).isSome = true
    · rw [if_pos c] at q
      refine ⟨ρ, S, mu, B, O, rl, c.2, fun f H1 E r la n => ?_⟩
      refine ⟨by show 1 ≤ sizeLine; rw [sizeLine_eq]; omega, fun p hp => ?_⟩
      have pm : p ∉ mu := r.sto.fresh hp
      have n0 : H p = none := by
        cases z : H p with
        | none => rfl
        | some o =>
          have := E.keep p o z pm
          rw [hp] at this
          cases this
      obtain ⟨pm', c', ctv, k⟩ := KpAt.of (fE := fE) (xE := xE) (T := fun a => B a ∨ O a) la (rl.bn.fresh n)
      refine ⟨ρ.set i none, S, mu, B, O, p, H, [⟨⟨params, body, scope⟩, fE, xE, f, pm', c', ctv⟩], (r.ban hp (.lst [V.ref f])).setAny i (.ref p), c.2, ?_, upd_same, rfl, by simp, ?_, E.at_new n0, n0, ?_, q⟩
      · rw [List.getElem?_set_self (by rw [rl.len]; exact c.1)]
      · intro z hz
        rw [List.mem_singleton.mp hz]
        exact k.at_lst (xs := []) (.inr hp)
      · intro z hz
        rw [List.mem_singleton.mp hz]
        exact n
    · rw [if_neg c] at q
      exact q.elim
theorem lams_app {apos cpos xpos : Pos} (hN : X.N[i]? = some A) (hv : Vis X.env.scope A) (he : PE X (.Lambda params body scope lpos) (tMade X xo ⟨params, body, scope⟩)) (hl : ts.length < 100)
    (h : PSs X rest (tLs X xo (ts ++ [(⟨params, body, scope⟩, fE, xE)]) i m)) (hd : (A == ("__debug__" : Str)) = false := by decide) (hcd : (A == ("__classdict__" : Str)) = false := by decide)
    (hbase : attributeBase (.Name A xpos) "append" X.env (eval (.Name A xpos) X.env) = eval (.Name A xpos) X.env := by rfl)
    (hfew : ((backTo cpos (starEach [.Lambda params body scope lpos] X.env)).all (fun x => !x.1) && (backToKw cpos (keywordEach [] X.env)).all (fun x => x.1.isSome) && decide ([Expr.Lambda params body scope lpos].length + ([] : List Keyword).length + (if ([] : List Keyword).isEmpty then 0 else 1) < 30)) = true := by rfl)
    (hline : (apos.endLine == cpos.line) = true := by rfl) (hs1 : starEach [.Lambda params body scope lpos] X.env = [(false, eval (.Lambda params body scope lpos) X.env)] := by rfl)
    (hs : swapsWith (.Call (.Attribute (.Name A xpos) "append" apos) [.Lambda params body scope lpos] [] cpos) none pos.line X.env = pure false := by rfl) : PSs X (.Expr (.Call (.Attribute (.Name A xpos) "append" apos) [.Lambda params body scope lpos] [] cpos) pos :: rest) (tLs X xo ts i m) :=
  PSs.weak (pss_cons (ps_expr (pe_bm PySem.F.plainAttrs_list PySem.F.slot_list_append PySem.F.type_list_append mt_append (pe_var hN hv hd hcd) (pa_cons he pa_nil hs1) hbase hfew hline hs1 rfl) hs) h) fun D σ H ⟨ρ, S, mu, B, O, l, H0, ks, rl, ht, hσ, hH, ets, nd, kp, E0, n0, nf, q⟩ => by
    have lk : ks.length = ts.length := by rw [← ets, List.length_map]
    refine ⟨.ref l, hσ, .inl ⟨rfl, _, .inl (.inl hH)⟩, ?_⟩
    refine ⟨ρ, S, mu, _, O, rl, ht, fun f H1 E r la n => ?_⟩
    have lm : l ∉ mu := (rl.bn l (.inl (.inr rfl))).2
    have hH1 : H1 l = _ := E.keep l _ hH lm
    have nT : ¬ (B f ∨ O f) := fun z => rl.bn.fresh n (z.imp .inl id)
    refine ⟨l, _, .ref f, rfl, rfl, hH1, by rw [List.length_map, lk, sizeLine_eq]; omega, ?_⟩
    obtain ⟨pm', c', ctv, k⟩ := KpAt.of (fE := fE) (xE := xE) (T := fun a => B a ∨ O a) la nT
    refine ⟨ρ, S, mu, B, O, l, H0, ks ++ [⟨⟨params, body, scope⟩, fE, xE, f, pm', c', ctv⟩], r.at_ban (.inr rfl) _, ht, hσ, by rw [upd_same, List.map_append]; rfl, by rw [List.map_append, ets]; rfl, ?_, ?_, (E0.trans E).at_new n0, n0, ?_, q⟩
    · rw [List.map_append, List.nodup_append]
      refine ⟨nd, by simp, fun a ha b hb e => ?_⟩
      obtain ⟨z, hz, rfl⟩ := List.mem_map.mp ha
      have eb : b = f := List.mem_singleton.mp hb
      rw [eb] at e
      have := (kp z hz).ob
      rw [e, n] at this
      cases this
    · intro z hz
      rcases List.mem_append.mp hz with hz | hz
      · exact ((kp z hz).ext E).at_lst (.inl hH1)
      · rw [List.mem_singleton.mp hz]
        exact k.at_lst (.inl hH1)
    · intro z hz
      rcases List.mem_append.mp hz with hz | hz
      · exact nf z hz
      · rw [List.mem_singleton.mp hz]
        cases y : H0 f with
        | none => rfl
        | some o =>
          have := E0.keep f o y la.fr
          rw [n] at this
          cases this
theorem untrack_all {pins : List (Addr × Obj)} {σ : Sg} {s : Shared} {mu : List Addr} {B O : Addr → Prop} {ρ : Ev} {S : Sto} : ∀ (ks : List Kp) {H : Hp}, (ks.map (·.f)).Nodup → Inv X pins σ H s → Rel X.K mu B O H σ ρ S → (∀ z ∈ ks, KpAt X z mu (fun a => B a ∨ O a) H) →
    ∃ H1, Inv X pins σ H1 s ∧ Rel X.K mu B O H1 σ ρ S ∧ (∀ z ∈ ks, s.heap.get? z.f = some (z.ob X) ∧ H1 z.f = none) ∧ (∀ a, (∀ z ∈ ks, a ≠ z.f) → H1 a = H a) ∧ ∀ a, H a = none → H1 a = none
  | [], H, _, I, r, _ => ⟨H, I, r, (fun _ h => by cases h), fun _ _ => rfl, fun _ h => h⟩
  | z :: ks, H, nd, I, r, k => by
    obtain ⟨n1, n2⟩ := List.nodup_cons.mp (show (z.f :: ks.map (·.f)).Nodup from nd)
    have kz := k z List.mem_cons_self
    obtain ⟨g, I1⟩ := untrack I kz.ob kz.h0
    have ne : ∀ y ∈ ks, y.f ≠ z.f := fun y hy e => n1 (List.mem_map.mpr ⟨y, hy, e⟩)
    obtain ⟨H1, J, r1, a1, a2, a3⟩ := untrack_all ks n2 I1 (r.delA kz.ob kz.fm kz.nt) fun y hy => by
      have ky := k y (List.mem_cons_of_mem _ hy)
      exact ⟨by rw [delA_ne (ne y hy)]; exact ky.ob, by rw [delA_ne (fun c => by have := ky.co; rw [c, kz.ob] at this; unfold LamX.CodeO at this; cases this)]; exact ky.co, ky.cm, ky.fm, ky.h0, ky.st, ky.nt⟩
    refine ⟨H1, J, r1, fun y hy => ?_, fun a h => ?_, fun a h => a3 a ?_⟩
    · rcases List.mem_cons.mp hy with e | hy
      · rw [e]
        exact ⟨g, a3 _ delA_same⟩
      · exact a1 y hy
    · rw [a2 a fun y hy => h y (List.mem_cons_of_mem _ hy), delA_ne (h z List.mem_cons_self)]
    · by_cases c : a = z.f
      · rw [c]; exact delA_same
      · rw [delA_ne c]; exact h
theorem kp_pins {pins : List (Addr × Obj)} {σ : Sg} {s : Shared} {H : Hp} {ks : List Kp} (I : Inv X pins σ H s) (h : ∀ z ∈ ks, (s.heap.get? z.f = some (z.ob X) ∧ H z.f = none) ∧ z.f ∉ frs X.stack) : Inv X (pins ++ ks.map fun z => (z.f, z.ob X)) σ H s := by
  refine I.pins_of fun p hp => ?_
  rcases List.mem_append.mp hp with hp | hp
  · exact I.pin p (List.mem_append_right _ hp)
  · obtain ⟨z, hz, rfl⟩ := List.mem_map.mp hp
    obtain ⟨⟨h1, h2⟩, h3⟩ := h z hz
    refine ⟨h1, h2, fun e => ?_, fun m => h3 ?_, fun v e => by cases e⟩
    · obtain ⟨_, ⟨o, es, ep, ho, hd, _⟩, _⟩ := I.loc
      have e : z.f = X.env.locals := e
      rw [← e, h1] at ho
      rw [← Option.some.inj ho] at hd
      cases hd
    · rcases I.ok.stk with e | ⟨e, hf⟩
      · rw [e]; exact m
      · rw [e]
        unfold frs
        rw [List.filterMap_cons, hf]
        exact List.mem_cons_of_mem _ m
theorem lams_end {x lbl q : Str} {cs : List Str} {gh : Gd} {kE kh k jq : Nat} {st : Stmt} {c : Expr} {fc : Mx} {scq : Scope} {px pq pq2 pq3 pa pc p p5 pl p6 : Pos} {bodyS : List Stmt} {tb : TS} (hc : X.calm = true) (hN : X.N.Nodup) (hi : X.N[i]? = some A) (hv : Vis X.env.scope A)
    (CD : CatchD X.prog X.w X.K X.mg kh x st lbl cs gh) (hr : Room k X.A) (h1 : kE + 2 ≤ k) (h2 : kh + 1 ≤ k) (ok : BlkOk X.N X.env.scope scq [(q, jq)])
    (hpg : ∀ (s : Shared) (H : Hp) (C : Addr) (cl : List (Str × Addr)) (fp : List Addr), PG (X.blk s H scq (compEnvC scq cl C X.env) fp) (.Name q pq) (gName jq))
    (hgl : ∀ (s : Shared) (H : Hp) (C : Addr) (cl : List (Str × Addr)) (fp : List Addr), Gl (X.blk s H scq (compEnvC scq cl C X.env) fp) x ∧ Vis (X.blk s H scq (compEnvC scq cl C X.env) fp).env.scope q)
    (hec : ∀ (s : Shared) (H : Hp) (C : Addr) (cl : List (Str × Addr)) (fp : List Addr), De (X.blk s H scq (compEnvC scq cl C X.env) fp) c fc)
    (hD : ∀ t ∈ ts, LamD X kE t.1 t.2.1 t.2.2) (hb : PSs X bodyS tb) (h : PSs X rest (tDs X.K m)) (hm : behindInMarks .NotEq c = false)
    (dA : (A == ("__debug__" : Str)) = false := by decide) (dA2 : (A == ("__classdict__" : Str)) = false := by decide) (dx : (x == ("__debug__" : Str)) = false := by decide) (dq : (q == ("__debug__" : Str)) = false := by decide) (dq2 : (q == ("__classdict__" : Str)) = false := by decide) :
    PSs X (.If (.Compare (.ListComp (.Name q pq3) [⟨.Name q pq, .Name A pa, [.Compare (.Call (.Name x px) [.Name q pq2] [] pc) [.NotEq] [c] p], 0⟩] scq p5) [.NotEq] [.List [] pl] p6) bodyS [] pos :: rest) (tLs X xo ts i (sAsk lbl cs gh fc (ts.map (·.2)) m)) := by
  have hu : X.A.units + 64 < cLine := by have := hr.un; omega
  have pt : PT X (.Compare (.ListComp (.Name q pq3) [⟨.Name q pq, .Name A pa, [.Compare (.Call (.Name x px) [.Name q pq2] [] pc) [.NotEq] [c] p], 0⟩] scq p5) [.NotEq] [.List [] pl] p6)
      (fun σ H Q => ∃ ρ S mu B O l S', ∃ ks : List Kp, Rel X.K mu (fun a => B a ∨ a = l) O H σ ρ S ∧ σ[i]? = some (some (V.ref l)) ∧ H l = some (.lst (ks.map fun z => V.ref z.f)) ∧ ks.map Kp.t = ts ∧ (ks.map (·.f)).Nodup ∧ (∀ z ∈ ks, KpAt X z mu (fun a => B a ∨ O a) H) ∧
        askL lbl cs gh fc ρ.length (ts.map (·.2)) ρ S = some S' ∧ ∀ H' mu', (∀ H0, Ext mu mu H0 H → (∀ z ∈ ks, H0 z.f = none) → Ext mu mu' H0 H') → Rel X.K mu' B O H' σ ρ S' → Q false H') := by
    refine ⟨fun pins s σ H Q I ⟨ρ, S, mu, B, O, l, S', ks, rl, hσ, hH, ets, nd, kp, ea, q0⟩ => ?_⟩
    have lT : ∀ z ∈ ks, KpAt X z mu (fun a => (B a ∨ a = l) ∨ O a) H := fun z hz => by
      have k := kp z hz
      refine ⟨k.ob, k.co, k.cm, k.fm, k.h0, k.st, fun t => ?_⟩
      rcases t with (t | t) | t
      · exact k.nt (.inl t)
      · have := k.ob
        rw [t, hH] at this
        cases this
      · exact k.nt (.inr t)
    obtain ⟨H1, I1, rl1, a1, a2, a3⟩ := untrack_all ks nd I rl lT
    have lH1 : H1 l = some (.lst (ks.map fun z => V.ref z.f)) := by
      rw [a2 l fun z hz e => by have := (kp z hz).ob; rw [← e, hH] at this; cases this]
      exact hH
    have cH1 : ∀ z ∈ ks, H1 z.c = some (LamX.CodeO z.c (X.env.qual ++ "<lambda>")) := fun z hz => by
      rw [a2 z.c fun y hy e => by have := (kp y hy).ob; rw [← e, (kp z hz).co] at this; unfold LamX.CodeO at this; cases this]
      exact (kp z hz).co
    have I2 := kp_pins I1 fun z hz => ⟨a1 z hz, (kp z hz).st⟩
    have lm : l ∉ mu := (rl1.bn l (.inl (.inr rfl))).2
    have from0 : ∀ H0, Ext mu mu H0 H → (∀ z ∈ ks, H0 z.f = none) → Ext mu mu H0 H1 := fun H0 E n => ⟨E.pre, fun a o e na => by
      rw [a2 a fun z hz c => by rw [c, n z hz] at e; cases e]
      exact E.keep a o e na, E.new⟩
    have eT : ts.map (·.2) = ks.map fun z => (z.fE, z.xE) := by rw [← ets, List.map_map]; rfl
    rw [eT] at ea
    have lc := ask_lc (Q := fun v H' => ∃ D mu', v = V.ref D ∧ Ext mu mu' H1 H' ∧ Rel X.K mu' (fun a => (B a ∨ a = l) ∨ a = D) O H' σ ρ S' ∧ ¬ (B D ∨ O D) ∧ H' D = some (.lst []))
      (W := fun D k H' => ∃ mu' Sk, Ext mu mu' H1 H' ∧ Rel X.K mu' (fun a => (B a ∨ a = l) ∨ a = D) O H' σ ρ Sk ∧ ¬ (B D ∨ O D) ∧ H' D = some (.lst []) ∧ askL lbl cs gh fc ρ.length ((ks.map fun z => (z.fE, z.xE)).drop k) ρ Sk = some S')
      (pq := pq) (pe := pq3) (pa := pa) (pos := p5) (c := .Compare (.Call (.Name x px) [.Name q pq2] [] pc) [.NotEq] [c] p) hc hN I2 hi hv dA dA2 hσ lH1 ok hpg (fun D nD => ⟨mu, S, (Ext.refl _ _).at_new nD, rl1.ban nD _, fun t => rl1.bn.fresh nD (t.imp .inl id), upd_same, ea⟩)
      (fun D k H' ⟨mu', Sk, E, _⟩ => E.keep l _ lH1 lm)
      (fun D k v s0 s' H0 H' C cl fp pn ⟨mu', Sk, E, rk, nT, hD', ek⟩ hk J back => by
        rw [List.getElem?_map] at hk
        obtain ⟨z, hz, rfl⟩ := Option.map_eq_some_iff.mp hk
        obtain ⟨hkl, ez⟩ := List.getElem?_eq_some_iff.mp hz
        have zm : z ∈ ks := List.mem_of_getElem? hz
        have dk : (ks.map fun z => (z.fE, z.xE)).drop k = (z.fE, z.xE) :: (ks.map fun z => (z.fE, z.xE)).drop (k + 1) := by
          rw [List.drop_eq_getElem_cons (by rw [List.length_map]; exact hkl)]
          simp only [List.getElem_map, ez]
        rw [dk] at ek
        unfold askL at ek
        cases e1 : mAsk lbl cs gh z.fE z.xE ρ Sk with
        | bad => rw [e1] at ek; cases ek
        | ok w S1 =>
        rw [e1] at ek
        simp only at ek
        cases e2 : fc (List.replicate ρ.length none) S1 with
        | bad => rw [e2] at ek; cases ek
        | ok wc S2 =>
        rw [e2] at ek
        simp only at ek
        split at ek
        · rename_i e3
          have tz : z.t ∈ ts := by rw [← ets]; exact List.mem_map_of_mem zm
          have lσ : ((wipe σ [jq]).set jq (some (V.ref z.f))).length = ρ.length := by rw [List.length_set, wipe_length, rl.len]
          have jl : jq < (wipe σ [jq]).length := by
            rw [wipe_length, I.len]
            exact (List.getElem?_eq_some_iff.mp (ok.ix (q, jq) List.mem_cons_self)).1
          refine thnF (ask_one (X := X) (Y := X.blk s0 H0 scq (compEnvC scq cl C X.env) fp) (c := c) (px := px) (pq := pq2) (pc := pc) (p := p) ⟨rfl, rfl, rfl, rfl, rfl, rfl, rfl⟩ CD hr h1 h2 (hgl s0 H0 C cl fp).1 dx hu (ok.ix (q, jq) List.mem_cons_self) (hgl s0 H0 C cl fp).2 dq dq2 (hD _ tz) J (List.getElem?_set_self jl) (fun J => back J)
            (List.mem_append_right _ (List.mem_map_of_mem (f := fun z : Kp => (z.f, z.ob X)) zm)) (E.keep _ _ (cH1 z zm) (kp z zm).cm) (kp z zm).st rk e1 (hec s0 H0 C cl fp) (by rw [lσ]; exact e2) e3 hm) fun b s2 ⟨hb, H2, mu2, J2, E2, st2⟩ => ⟨hb, H2, J2, mu2, S2, E.trans E2, rk.ext E2 st2, nT, E2.keep D _ hD' (rk.bn D (.inl (.inr rfl))).2, ek⟩
        · cases ek)
      (fun D H' ⟨mu', Sk, E, rk, nT, hD', ek⟩ => by
        rw [List.length_map, ← List.length_map (f := fun z : Kp => (z.fE, z.xE)) (as := ks), List.drop_length] at ek
        cases ek
        exact ⟨D, mu', rfl, E, rk, nT, hD'⟩)
    refine wpAny_isTrue_Compare1 (thn lc fun v s1 ⟨v', H2, J, r1, D, mu2, ev, E2, r2, nT, hD'⟩ => ?_) (by rfl)
    subst ev
    have J := J.unpinned
    have r3 : Rel X.K mu2 B O H2 σ ρ S' := r2.weakB fun a t => .inl (.inl t)
    have hN0 : De X (.List [] pl) (mLst aNil) := de_lst da_nil
    refine thn (hN0.run pins s1 σ H2 (fun y H3 => ∃ mu3, Ext mu2 mu3 H2 H3 ∧ StOk X.K mu3 (fun a => B a ∨ O a) H3 S' ∧ Rp X.K mu3 (fun a => B a ∨ O a) H3 y (.list [])) J ⟨ρ, S', mu2, B, O, r3, .list [], S', by rfl, fun v H' mu' a b c => ⟨mu', a, b, c⟩⟩) fun u s2 ⟨y, H3, J3, ry, mu3, E3, st3, p3⟩ => ?_
    have pD : Rp X.K mu2 (fun a => B a ∨ O a) H2 (.ref D) (.list []) := .lst (.inl ⟨.inl hD', (r2.bn D (.inl (.inr rfl))).2, nT⟩) .nil
    refine thn (od_ne (X := X) hu pins s2 σ H3 (.ref D) y v u (fun z H4 => Same H3 H4 ∧ Rp X.K mu3 (fun a => B a ∨ O a) H4 z (.bool false)) mu3 _ S' (.list []) (.list []) (.bool false) J3 r1 ry st3 (r3.bn.ext E3) (pD.ext E3) p3 (by rfl) fun z H4 sm rz => ⟨sm, rz⟩) fun d s3 ⟨z, H4, J4, rz, sm, pz⟩ => ?_
    cases pz
    cases rz
    refine wpAny_truthy_bool ⟨H4, J4, q0 H4 mu3 (fun H0 E n => ((from0 H0 E n).trans E2).trans (E3.trans (.same sm))) (r3.ext (E3.trans (.same sm)) (st3.same sm))⟩
  refine PSs.weak (pss_cons (ps_if pt hb pss_nil) h) fun D σ H ⟨ρ, S, mu, B, O, l, H0, ks, rl, ht, hσ, hH, ets, nd, kp, E0, n0, nf, q⟩ => ?_
  unfold sAsk at q
  cases z : askL lbl cs gh fc ρ.length (ts.map (·.2)) ρ S with
  | none => rw [z] at q; exact q.elim
  | some S' =>
    rw [z] at q
    refine ⟨ρ, S, mu, B, O, l, S', ks, rl, hσ, hH, ets, nd, kp, z, fun H' mu' E r => ?_⟩
    exact ⟨ρ, S', mu', B, O, r, postS.ext ((E H0 E0 nf).toS r.sto) q⟩
end
end DL
namespace DL
open PySem PySem.Spec PyProof.Rows L2
def xForL (g : Mg) (fx : Xm) (m : Ms) : List Wd → Ev → Sto → Option (Xn × Sto)
  | [], _, _ => none
  | w :: ws, ρ, S => match g w ρ with
    | none => none
    | some ρ1 => match fx ρ1 S with
      | some r => some r
      | none => match m ρ1 S with
        | .nx ρ2 S2 => xForL g fx m ws ρ2 S2
        | .ct ρ2 S2 => xForL g fx m ws ρ2 S2
        | _ => none
section
variable {X : Cx} {tg iter : Expr} {fi : Mi} {g : Mg} {m : Ms} {fx : Xm} {body : List Stmt} {pos : Pos} {vs : List Nat}
theorem PSs.nox' {t : TS} (h : PSs X.nox body t) : PSs X body t := ⟨fun pins s σ H D I hw => wpAny_mono (h.run pins s σ H D (I.wish _) hw) (fun _ _ q => q.unwish) fun _ _ z => False.elim z⟩
end
end DL
namespace DL
open PySem PySem.Spec PyProof.Rows L2
section
variable {P : Program} {w : World} {K : Fg} {mg : Str → Option Value} {x : Str} {st : Stmt}
theorem catchS_of2 {k j kk n : Nat} {lbl W nm a : Str} {cs : List Str} {Ng : List Str} {WC : Addr} {m : Ms} {b₀ : Stmt} {su : List Stmt} {p1 p2 p3 p4 p5 p6 p11 p12 : Pos} (D : Dfn K mg x st) (Sg : FnScope Ng [a] (defScope st))
    (hb : ∀ (kV doc pm : Value) (an : Option Addr) (cdv ct : Value) (us : List Value), us.length = [a].length → bindArgs (PySem.W.fnOf x x (defArgs st) (defBody st) (defScope st) .none kV doc pm an cdv ct) ⟨us, []⟩ = pure ([a].zip us))
    (hn : Ng.length = n)
    (hF : ∀ (X : Cx), X.prog = P → X.w = w → X.K = K → X.mg = mg → ∀ (g : Addr) (cdg : Value) (s : Shared) (H : Hp) (b : Addr) (oe : Obj) (pn : List (Addr × Obj)), L2H.RoomH k (X.A.deeper (envOfC x (defScope st) s.heap.objs.size g cdg)) → Dss (CxT (cxOf C8.CX0 X.prog X.w X.K X.mg X.base Ng x (defScope st) g cdg X.A X.stack s H C8.E0).nox b oe pn) (b₀ :: su) m)
    (hmW : mg W = some (.ref WC)) (hcs : ∀ c ∈ cs, mg c = some (.ref (He.ga K c)) ∧ PySem.W.exmOne K (.ref (He.ga K c)) (.ref WC) = some true ∧ ∀ q ∈ K, q.2.cls ≠ .ref (He.ga K c))
    (hbd : defBody st = [.Try [.Return (some (.Tuple [.Constant (.str lbl) j p1, .Call (.Name a p2) [] [] p3] kk p4)) p5] [.ExceptHandler (some (.Name W p6)) (some nm) (b₀ :: su) p11] [] [] p12] := by rfl)
    (hNg : Ng[0]? = some a := by rfl) (hi : Ng[1]? = some nm := by rfl) (hva : (defScope st).names.lookup a = some .local := by rfl) (hln : (defScope st).names.lookup nm = some .local := by rfl) (hgW : (defScope st).names.lookup W = some .globalImplicit := by rfl)
    (d1 : (a == ("__debug__" : Str)) = false := by decide) (d2 : (a == ("__classdict__" : Str)) = false := by decide) (d3 : (W == ("__debug__" : Str)) = false := by decide) :
    CatchD P w K mg k x st lbl cs (inlG n m) := by
  subst hn
  obtain ⟨g, fd, hm, F⟩ := D
  obtain ⟨oc, od, dV, kV, doc, pm, an, cdv, ct, osl, rfl, lk, hcd, h1, h2⟩ := id F.ex
  refine ⟨g, WC, Ng, a, oc, dV, kV, doc, pm, cdv, ct, an, od, osl, hm, F.kp, lk, hcd, F.bindsN hb, Sg, hNg, .inl hva, d1, d2, fun X e1 e2 e3 e4 hr q => ?_, hcs⟩
  have hF2 := hF X e1 e2 e3 e4
  subst e1 e2 e3 e4
  rw [hbd]
  exact call_givesS hgW hmW d3 (fun s H b oe pn => hF2 g cdv s H b oe pn (L2H.roomH_of (hr.deeper _))) Sg.nd hi hln (fun f => rfl)
end
section
variable {X : Cx} {a b : Expr} {fx fr : Xm} {m : Mx} {pos : Pos}
theorem xe_ix (hx : Xe X a fx) (hd : De X a m) (hr : Xe X b fr) : Xe X (.Subscript a b pos) (xHd fx m fr) := by
  refine ⟨fun pins s σ H Q I ⟨ρ, S, mu, B, O, rl, e, S', e1, t⟩ => ?_⟩
  unfold xHd at e1
  cases z : fx ρ S with
  | some r =>
    rw [z] at e1
    cases e1
    exact Subscript_ (thn (hx.run pins s σ H (fun _ _ => False) I (tXe.mk rl z t)) fun v s1 ⟨_, _, _, _, q⟩ => q.elim)
  | none =>
    rw [z] at e1
    have e1 : (match m ρ S with | .ok _ S1 => fr ρ S1 | .bad => none) = some (e, S') := e1
    cases y : m ρ S with
    | bad => rw [y] at e1; cases e1
    | ok w S1 =>
      rw [y] at e1
      refine Subscript_ (thn (hd.run pins s σ H (fun _ H1 => tXe X fr σ H1) I (tD.mk rl y fun v H1 mu1 E r p => tXe.mk r e1 (takes_exte t E))) fun v s1 ⟨_, H1, I1, _, q⟩ => ?_)
      exact thn (hr.run pins s1 σ H1 (fun _ _ => False) I1 q) fun u s2 ⟨_, _, _, _, q⟩ => q.elim
end
section
variable {X : Cx} {tg iter : Expr} {body : List Stmt} {pos : Pos} {fi : Mi} {g : Mg} {fx : Xm} {m : Ms} {vs : List Nat}
end
end DL
namespace WF
open PySem PySem.Spec PyProof.Rows L2 DL
def m_heard_k02 : Ms := (sSeq (sOwn 2 (aCons (mIsX [("NotUsable", false)] (mV 1)) (aCons (mIsX [("NotUsable", true)] (mV 1)) aNil))) (sSeq (sExt 2 (mLst (aCons (mIsX [("NotUsable", false)] (mV 1)) (aCons (mIsX [("NotUsable", false)] (mV 1)) aNil)))) (sFrz 2 (sSeq (sIf (mAndT (mTru (mBin gEq (mV 2) (mLst (aCons (mC (.bool true)) (aCons (mC (.bool false)) (aCons (mC (.bool false)) (aCons (mC (.bool false)) aNil))))))) (mTru (mIsX [("NotUsable", false)] (mV 1)))) (sRet (mTup (aCons (mC (.str "paper")) (aCons (mXf ["NotUsable"] "word" (mV 1)) (aCons (mXf ["NotUsable"] "at" (mV 1)) aNil))))) sNil) (sSeq (sIf (mTru (mBin gEq (mV 2) (mLst (aCons (mC (.bool false)) (aCons (mC (.bool false)) (aCons (mC (.bool false)) (aCons (mC (.bool true)) aNil))))))) (sSeq (sSet 3 (mAnd (mIsX [("NotUsable", false)] (mV 1)) (mNot (mIsX [("NotUsable", false)] (mV 1))))) (sRet (mIf (mTru (mV 3)) (mTup (aCons (mC (.str "text")) (aCons (mXf [] "line" (mV 1)) (aCons (mXf [] "field" (mV 1)) aNil)))) (mTup (aCons (mC (.str "odd")) aNil))))) sNil) (sSeq (sIf (mOrT (mTru (mBin gNe (mV 2) (mLst (aCons (mC (.bool false)) (aCons (mC (.bool true)) (aCons (mC (.bool false)) (aCons (mC (.bool false)) aNil))))))) (mTru (mIsX [("NotUsable", false)] (mV 1)))) (sRet (mTup (aCons (mC (.str "odd")) aNil))) sNil) (sRet (mIf (mTru (mIsX [("NotUsable", true)] (mV 1))) (mTup (aCons (mC (.str "use")) (aCons (mXf ["NotUsable"] "word" (mV 1)) (aCons (mXf ["NotUsable"] "at" (mV 1)) aNil)))) (mTup (aCons (mC (.str "odd")) aNil))))))))))
def g_heard_k02 : Gd := inlG 4 m_heard_k02
end WF
namespace WF
open PySem PySem.Spec PyProof.Rows L2 DL
def x_require_usable_ca6ef5 : Xd := runDefX 3 3 (xIf (mNotT (mTru (mV 0))) (xMk "NotUsable" ["word", "at"] (aCons (mV 1) (aCons (mV 2) aNil))) xNo)
end WF
namespace WF
open PySem PySem.Spec PyProof.Rows L2 DL
def x_index_among_9b27d0 : Xd := runDefX 3 3 (xCall WF.x_require_usable_ca6ef5 (aCons (mAnd (mCall WF.g_is_name (aCons (mV 1) aNil)) (mBin gIn (mV 1) (mV 0))) (aCons (mV 2) (aCons (mUn gNeg (mC (.int 1))) aNil))))
end WF
namespace WF
open PySem PySem.Spec PyProof.Rows L2 DL
def x_stays_of_7073d6 : Xd := runDefX 2 2 (xHd (xHd xNo (mIx (mV 0) (mC (.int 1))) (xCall WF.x_index_among_9b27d0 (aCons (mCall WF.g_part_names (aCons (mV 0) aNil)) (aCons (mV 1) (aCons (mC (.str "part")) aNil))))) (mIx (mIx (mV 0) (mC (.int 1))) (mCall WF.g_index_among (aCons (mCall WF.g_part_names (aCons (mV 0) aNil)) (aCons (mV 1) (aCons (mC (.str "part")) aNil))))) xNo)
end WF
namespace WF
open PySem PySem.Spec PyProof.Rows L2 DL
def x_require_day_3d2eb6 : Xd := runDefX 1 1 (xCall WF.x_require_usable_ca6ef5 (aCons (mCall WF.g_is_number (aCons (mV 0) aNil)) (aCons (mC (.str "day")) (aCons (mUn gNeg (mC (.int 1))) aNil))))
end WF
namespace WF
open PySem PySem.Spec PyProof.Rows L2 DL
def x_place_of_e1ff63 : Xd := runDefX 4 3 (xSeq (xCall WF.x_stays_of_7073d6 (aCons (mV 0) (aCons (mV 1) aNil))) (sSet 3 (mCall WF.g_stays_of (aCons (mV 0) (aCons (mV 1) aNil)))) (xCall WF.x_require_day_3d2eb6 (aCons (mV 2) aNil)))
end WF
namespace WF
open PySem PySem.Spec PyProof.Rows L2 DL
def x_tasks_of_d04af4 : Xd := runDefX 3 2 (xCall WF.x_index_among_9b27d0 (aCons (mCall WF.g_part_names (aCons (mV 0) aNil)) (aCons (mV 1) (aCons (mC (.str "part")) aNil))))
end WF
namespace WF
open PySem PySem.Spec PyProof.Rows L2 DL
def x_uses_of_f61634 : Xd := runDefX 2 2 (xHd (xHd xNo (mIx (mV 0) (mC (.int 0))) (xCall WF.x_index_among_9b27d0 (aCons (mCall WF.g_machine_names (aCons (mV 0) aNil)) (aCons (mV 1) (aCons (mC (.str "machine")) aNil))))) (mIx (mIx (mV 0) (mC (.int 0))) (mCall WF.g_index_among (aCons (mCall WF.g_machine_names (aCons (mV 0) aNil)) (aCons (mV 1) (aCons (mC (.str "machine")) aNil))))) xNo)
end WF
namespace WF
open PySem PySem.Spec PyProof.Rows L2 DL
def x_use_of_c41b10 : Xd := runDefX 4 3 (xSeq (xCall WF.x_uses_of_f61634 (aCons (mV 0) (aCons (mV 1) aNil))) (sSet 3 (mCall WF.g_uses_of (aCons (mV 0) (aCons (mV 1) aNil)))) (xCall WF.x_require_day_3d2eb6 (aCons (mV 2) aNil)))
end WF
namespace WF
open PySem PySem.Spec PyProof.Rows L2 DL
def x_require_place_6dfbd6 : Xd := runDefX 2 2 (xCall WF.x_require_usable_ca6ef5 (aCons (mOr (mBin gIsN (mV 1) (mC .none)) (mAnd (mCall WF.g_is_name (aCons (mV 1) aNil)) (mBin gIn (mV 1) (mCall WF.g_machine_names (aCons (mV 0) aNil))))) (aCons (mC (.str "place")) (aCons (mUn gNeg (mC (.int 1))) aNil))))
end WF
namespace WF
open PySem PySem.Spec PyProof.Rows L2 DL
def x_parts_at_158b9b : Xd := runDefX 5 3 (xSeq (xCall WF.x_require_place_6dfbd6 (aCons (mV 0) (aCons (mV 1) aNil))) (sExpr (mCall WF.g_require_place (aCons (mV 0) (aCons (mV 1) aNil)))) (xCall WF.x_require_day_3d2eb6 (aCons (mV 2) aNil)))
end WF
namespace WF
open PySem PySem.Spec PyProof.Rows L2 DL
def x_number_of_f03686 : Xd := runDefX 2 2 (xCall WF.x_index_among_9b27d0 (aCons (mCall WF.g_task_names (aCons (mV 0) aNil)) (aCons (mV 1) (aCons (mC (.str "task")) aNil))))
end WF
namespace WF
open PySem PySem.Spec PyProof.Rows L2 DL
def x_task_of_af8e3b : Xd := runDefX 2 2 (xHd xNo (mIx (mV 0) (mC (.int 2))) (xCall WF.x_number_of_f03686 (aCons (mV 0) (aCons (mV 1) aNil))))
end WF
namespace WF
open PySem PySem.Spec PyProof.Rows L2 DL
def x_part_of_075258 : Xd := runDefX 2 2 (xHd (xCall WF.x_task_of_af8e3b (aCons (mV 0) (aCons (mV 1) aNil))) (mCall WF.g_task_of (aCons (mV 0) (aCons (mV 1) aNil))) xNo)
end WF
namespace WF
open PySem PySem.Spec PyProof.Rows L2 DL
def m_strays_right_k04 : Ms := (sSeq (sAsg (gtT (gtCons (gtN 2) (gtCons (gtN 3) gtNil))) (mTup (aCons (mIx (mIx (mIx (mV 0) (mC (.int 0))) (mC (.int 0))) (mC (.int 0))) (aCons (mIx (mIx (mIx (mV 0) (mC (.int 1))) (mC (.int 0))) (mC (.int 0))) aNil)))) (sSeq (sFor (iSeq (mSlk 2 (mLst (aCons (mC (.str "west")) (aCons (mC (.str "")) (aCons (mC .none) (aCons (mC (.int 0)) (aCons (mC (.bool true)) (aCons (mTup (aCons (mV 3) aNil)) (aCons (mLst (aCons (mV 3) aNil)) (aCons (mBin gAdd (mV 3) (mC (.str " "))) (aCons (mIx (mIx (mV 0) (mC (.int 1))) (mC (.int 0))) (aCons (mV 0) aNil))))))))))) (oSome (mV 1)) oNone)) (gtN 4) (sLams 5 "_law_strays_right" (sAsk "told" ["NotUsable"] WF.g_heard_k02 (mTup (aCons (mC (.str "use")) (aCons (mC (.str "part")) (aCons (mUn gNeg (mC (.int 1))) aNil)))) [((mCall WF.g_place_of (aCons (mV 0) (aCons (mV 4) (aCons (mC .none) aNil)))), (xCall WF.x_place_of_e1ff63 (aCons (mV 0) (aCons (mV 4) (aCons (mC .none) aNil))))), ((mCall WF.g_tasks_of (aCons (mV 0) (aCons (mV 4) aNil))), (xCall WF.x_tasks_of_d04af4 (aCons (mV 0) (aCons (mV 4) aNil))))] sNil))) (sSeq (sFor (iSeq (mSlk 2 (mLst (aCons (mC (.str "west")) (aCons (mC (.str "")) (aCons (mC (.int 0)) (aCons (mC (.bool true)) (aCons (mTup (aCons (mV 2) aNil)) (aCons (mLst (aCons (mV 2) aNil)) (aCons (mBin gAdd (mV 2) (mC (.str "z"))) (aCons (mIx (mIx (mV 0) (mC (.int 0))) (mC (.int 0))) (aCons (mC .none) aNil)))))))))) (oSome (mV 1)) oNone)) (gtN 4) (sSeq (sIf (mTru (mBin gNe (mLam "_law_strays_right" "told" ["NotUsable"] WF.g_heard_k02 (mCall WF.g_use_of (aCons (mV 0) (aCons (mV 4) (aCons (mUn gNeg (mC (.int 1))) aNil)))) (xCall WF.x_use_of_c41b10 (aCons (mV 0) (aCons (mV 4) (aCons (mUn gNeg (mC (.int 1))) aNil))))) (mTup (aCons (mC (.str "use")) (aCons (mC (.str "machine")) (aCons (mUn gNeg (mC (.int 1))) aNil)))))) (sRet (mC (.bool false))) sNil) (sIf (mAndT (mTru (mBin gNotN (mV 4) (mC .none))) (mTru (mBin gNe (mLam "_law_strays_right" "told" ["NotUsable"] WF.g_heard_k02 (mCall WF.g_parts_at (aCons (mV 0) (aCons (mV 4) (aCons (mUn gNeg (mC (.int 1))) aNil)))) (xCall WF.x_parts_at_158b9b (aCons (mV 0) (aCons (mV 4) (aCons (mUn gNeg (mC (.int 1))) aNil))))) (mTup (aCons (mC (.str "use")) (aCons (mC (.str "place")) (aCons (mUn gNeg (mC (.int 1))) aNil))))))) (sRet (mC (.bool false))) sNil))) (sSeq (sFor (iSeq (mSlk 2 (mLst (aCons (mUn gNeg (mC (.int 1))) (aCons (mC .none) (aCons (mC (.bool true)) (aCons (mC (.bool false)) (aCons (mC (.str "0")) (aCons (mTup (aCons (mC (.int 0)) aNil)) (aCons (mLst (aCons (mC (.int 0)) aNil)) (aCons (mUn gNeg (mBin gPow (mC (.int 10)) (mC (.int 59)))) aNil))))))))) (oSome (mV 1)) oNone)) (gtN 4) (sLams 5 "_law_strays_right" (sAsk "told" ["NotUsable"] WF.g_heard_k02 (mTup (aCons (mC (.str "use")) (aCons (mC (.str "day")) (aCons (mUn gNeg (mC (.int 1))) aNil)))) [((mCall WF.g_place_of (aCons (mV 0) (aCons (mV 3) (aCons (mV 4) aNil)))), (xCall WF.x_place_of_e1ff63 (aCons (mV 0) (aCons (mV 3) (aCons (mV 4) aNil))))), ((mCall WF.g_use_of (aCons (mV 0) (aCons (mV 2) (aCons (mV 4) aNil)))), (xCall WF.x_use_of_c41b10 (aCons (mV 0) (aCons (mV 2) (aCons (mV 4) aNil))))), ((mCall WF.g_parts_at (aCons (mV 0) (aCons (mV 2) (aCons (mV 4) aNil)))), (xCall WF.x_parts_at_158b9b (aCons (mV 0) (aCons (mV 2) (aCons (mV 4) aNil))))), ((mCall WF.g_parts_at (aCons (mV 0) (aCons (mC .none) (aCons (mV 4) aNil)))), (xCall WF.x_parts_at_158b9b (aCons (mV 0) (aCons (mC .none) (aCons (mV 4) aNil)))))] sNil))) (sSeq (sFor (iSeq (mSlk 2 (mLst (aCons (mC (.str "nobody")) (aCons (mC (.str "")) (aCons (mC .none) (aCons (mC (.int 0)) (aCons (mC (.bool true)) (aCons (mTup aNil) (aCons (mLst (aCons (mC (.str "oil")) aNil)) (aCons (mIx (mV 0) (mC (.int 2))) (aCons (mC (.str "nobody ")) aNil)))))))))) (oSome (mV 1)) oNone)) (gtN 4) (sLams 5 "_law_strays_right" (sAsk "told" ["NotUsable"] WF.g_heard_k02 (mTup (aCons (mC (.str "use")) (aCons (mC (.str "task")) (aCons (mUn gNeg (mC (.int 1))) aNil)))) [((mCall WF.g_part_of (aCons (mV 0) (aCons (mV 4) aNil))), (xCall WF.x_part_of_075258 (aCons (mV 0) (aCons (mV 4) aNil)))), ((mCall WF.g_number_of (aCons (mV 0) (aCons (mV 4) aNil))), (xCall WF.x_number_of_f03686 (aCons (mV 0) (aCons (mV 4) aNil))))] sNil))) (sRet (mC (.bool true))))))))
def g_strays_right_k04 : Gd := runDef 7 2 m_strays_right_k04
end WF
namespace WF
open PySem PySem.Spec PyProof.Rows L2 DL
def m_hand_right_k04 : Ms := (sSeq (sSet 0 (mCall WF.g_second_site_k02 aNil)) (sSeq (sSet 1 (mLc [2] (iSeq (mTup (aCons (mC (.int 0)) (aCons (mC (.int 1)) (aCons (mC (.int 2)) (aCons (mC (.int 8)) (aCons (mC (.int 9)) (aCons (mC (.int 500)) aNil)))))))) (gtN 2) tTrue (mCall WF.g_place_of (aCons (mV 0) (aCons (mC (.str "machine")) (aCons (mV 2) aNil)))))) (sSeq (sIf (mTru (mBin gNe (mV 1) (mLst (aCons (mC .none) (aCons (mC (.str "task")) (aCons (mC .none) (aCons (mC .none) (aCons (mC (.str "days")) (aCons (mC (.str "days")) aNil))))))))) (sRet (mC (.bool false))) sNil) (sSeq (sIf (mTru (mBin gNe (mLc [2] (iSeq (mTup (aCons (mC (.int 0)) (aCons (mC (.int 1)) (aCons (mC (.int 2)) (aCons (mC (.int 3)) (aCons (mBin gPow (mC (.int 10)) (mC (.int 59))) aNil))))))) (gtN 2) tTrue (mCall WF.g_use_of (aCons (mV 0) (aCons (mC (.str "days")) (aCons (mV 2) aNil))))) (mLst (aCons (mTup (aCons (mC (.int 0)) (aCons (mC (.int 0)) aNil))) (aCons (mTup (aCons (mC (.int 20)) (aCons (mC (.int 3)) aNil))) (aCons (mTup (aCons (mC (.int 1)) (aCons (mC (.int 1)) aNil))) (aCons (mTup (aCons (mC (.int 1)) (aCons (mC (.int 1)) aNil))) (aCons (mTup (aCons (mC (.int 1)) (aCons (mC (.int 1)) aNil))) aNil)))))))) (sRet (mC (.bool false))) sNil) (sSeq (sSet 1 (mLc [2] (iSeq (mTup (aCons (mC (.int 0)) (aCons (mC (.int 1)) (aCons (mC (.int 3)) (aCons (mC (.int 9)) aNil)))))) (gtN 2) tTrue (mCall WF.g_parts_at (aCons (mV 0) (aCons (mC (.str "task")) (aCons (mV 2) aNil)))))) (sSeq (sIf (mOrT (mTru (mBin gNe (mV 1) (mLst (aCons (mTup aNil) (aCons (mTup (aCons (mC (.str "machine")) aNil)) (aCons (mTup (aCons (mC (.str "task")) aNil)) (aCons (mTup (aCons (mC (.str "task")) aNil)) aNil))))))) (mTru (mBin gNe (mCall WF.g_parts_at (aCons (mV 0) (aCons (mC .none) (aCons (mC (.int 3)) aNil)))) (mTup (aCons (mC (.str "machine")) aNil))))) (sRet (mC (.bool false))) sNil) (sRet (mBin gEq (mLst (aCons (mCall WF.g_tasks_of (aCons (mV 0) (aCons (mC (.str "task")) aNil))) (aCons (mCall WF.g_tasks_of (aCons (mV 0) (aCons (mC (.str "machine")) aNil))) aNil))) (mLst (aCons (mTup (aCons (mC (.str "first")) (aCons (mC (.str "task")) aNil))) (aCons (mTup (aCons (mC (.str "part")) aNil)) aNil)))))))))))
def g_hand_right_k04 : Gd := runDef 3 0 m_hand_right_k04
end WF
namespace WF
open PySem PySem.Spec PyProof.Rows L2 DL
def m_wide_right_k04 : Ms := (sSeq (sSet 0 (mCB gTuple (aCons (mLc [3] (iRange1 (aCons (mC (.int 12)) aNil)) (gtN 3) tTrue (mTup (aCons (mBin gMul (mC (.int 3)) (mV 3)) (aCons (mIx (mLst (aCons (mC (.str "m")) (aCons (mC .none) aNil))) (mBin gMod (mCB gInt (aCons (mV 3) aNil)) (mC (.int 2)))) aNil)))) aNil))) (sSeq (sSet 1 (mCB gTuple (aCons (mLc [3] (iRange1 (aCons (mC (.int 8)) aNil)) (gtN 3) tTrue (mTup (aCons (mIx (mC (.str "abcdefgh")) (mV 3)) (aCons (mSl (mV 0) oNone (oSome (mBin gSub (mC (.int 12)) (mV 3)))) aNil)))) aNil))) (sSeq (sSet 2 (mTup (aCons (mTup (aCons (mTup (aCons (mC (.str "m")) (aCons (mCB gTuple (aCons (mLc [3] (iRange1 (aCons (mC (.int 10)) aNil)) (gtN 3) tTrue (mTup (aCons (mV 3) (aCons (mBin gSub (mC (.int 20)) (mV 3)) aNil)))) aNil)) aNil))) aNil)) (aCons (mV 1) (aCons (mTup aNil) aNil))))) (sSeq (sIf (mOrT (mNotT (mTru (mCall WF.g_days_right_k04 (aCons (mV 2) aNil)))) (mTru (mBin gNe (mCall WF.g_parts_at (aCons (mV 2) (aCons (mC (.str "m")) (aCons (mC (.int 30)) aNil)))) (mTup (aCons (mC (.str "a")) (aCons (mC (.str "b")) (aCons (mC (.str "d")) (aCons (mC (.str "f")) (aCons (mC (.str "h")) aNil))))))))) (sRet (mC (.bool false))) sNil) (sSeq (sIf (mTru (mBin gNe (mLc [4] (iSeq (mTup (aCons (mC (.int 6)) (aCons (mC (.int 9)) (aCons (mC (.int 12)) aNil))))) (gtN 4) tTrue (mCall WF.g_use_of (aCons (mV 2) (aCons (mC (.str "m")) (aCons (mV 4) aNil))))) (mLst (aCons (mTup (aCons (mC (.int 6)) (aCons (mC (.int 14)) aNil))) (aCons (mTup (aCons (mC (.int 9)) (aCons (mC (.int 11)) aNil))) (aCons (mTup (aCons (mC (.int 9)) (aCons (mC (.int 11)) aNil))) aNil)))))) (sRet (mC (.bool false))) sNil) (sRet (mBin gEq (mLc [4] (iSeq (mTup (aCons (mC (.int 24)) (aCons (mC (.int 27)) (aCons (mC (.int 30)) (aCons (mC (.int 33)) (aCons (mC (.int 36)) aNil))))))) (gtN 4) tTrue (mCall WF.g_place_of (aCons (mV 2) (aCons (mC (.str "a")) (aCons (mV 4) aNil))))) (mLst (aCons (mC (.str "m")) (aCons (mC .none) (aCons (mC (.str "m")) (aCons (mC .none) (aCons (mC .none) aNil)))))))))))))
def g_wide_right_k04 : Gd := runDef 5 0 m_wide_right_k04
end WF
namespace WF
open PySem PySem.Spec PyProof.Rows L2 DL
def m_law_k04 : Ms := (sSeq (sSet 1 (mCall WF.g_feed_k01 (aCons (mV 0) aNil))) (sSeq (sFor (iSeq (mTup (aCons (mCall WF.g_site_k01 (aCons (mV 1) aNil)) (aCons (mIx (mLst (aCons (mCall WF.g_second_site_k02 aNil) (aCons (mCall WF.g_first_site_k01 aNil) aNil))) (mCall WF.g_draw_k01 (aCons (mV 1) (aCons (mC (.int 2)) aNil)))) aNil)))) (gtN 2) (sSeq (sSet 3 (mCB gRepr (aCons (mV 2) aNil))) (sSeq (sIf (mOrT (mNotT (mTru (mCall WF.g_days_right_k04 (aCons (mV 2) aNil)))) (mNotT (mTru (mCall WF.g_names_right_k04 (aCons (mV 2) aNil))))) (sRet (mC (.bool false))) sNil) (sIf (mOrT (mNotT (mTru (mCall WF.g_strays_right_k04 (aCons (mV 2) (aCons (mCall WF.g_draw_k01 (aCons (mV 1) (aCons (mC (.int 2)) aNil))) aNil))))) (mTru (mBin gNe (mCB gRepr (aCons (mV 2) aNil)) (mV 3)))) (sRet (mC (.bool false))) sNil)))) (sSeq (sSet 2 (mCall WF.g_first_site_k01 aNil)) (sSeq (sOwn 4 (aCons (mCallK WF.g_place_of (fun ws => [2, 1, 0].filterMap (ws[·]?)) (aCons (mC (.int 3)) (aCons (mC (.str "saw")) (aCons (mV 2) aNil)))) (aCons (mCallK WF.g_use_of (fun ws => [2, 1, 0].filterMap (ws[·]?)) (aCons (mC (.int 9)) (aCons (mC (.str "mill")) (aCons (mV 2) aNil)))) aNil))) (sSeq (sExt 4 (mLst (aCons (mCallK WF.g_parts_at (fun ws => [2, 1, 0].filterMap (ws[·]?)) (aCons (mC (.int 4)) (aCons (mC (.str "lift")) (aCons (mV 2) aNil)))) (aCons (mCallK WF.g_tasks_of (fun ws => [1, 0].filterMap (ws[·]?)) (aCons (mC (.str "saw")) (aCons (mV 2) aNil))) aNil)))) (sSeq (sExt 4 (mLst (aCons (mCallK WF.g_part_of (fun ws => [1, 0].filterMap (ws[·]?)) (aCons (mC (.str "oil")) (aCons (mV 2) aNil))) (aCons (mCallK WF.g_number_of (fun ws => [1, 0].filterMap (ws[·]?)) (aCons (mC (.str "oil")) (aCons (mV 2) aNil))) aNil)))) (sFrz 4 (sRet (mAnd (mCall WF.g_hand_right_k04 aNil) (mAnd (mCall WF.g_wide_right_k04 aNil) (mBin gEq (mV 4) (mLst (aCons (mC (.str "mill")) (aCons (mTup (aCons (mC (.int 6)) (aCons (mC (.int 0)) aNil))) (aCons (mTup (aCons (mC (.str "pump")) (aCons (mC (.str "saw")) aNil))) (aCons (mTup (aCons (mC (.str "clean")) aNil)) (aCons (mC (.str "pump")) (aCons (mC (.int 1)) aNil))))))))))))))))))
def g_law_k04 : Gd := runDef 5 1 m_law_k04
end WF
namespace K04
open PySem PySem.Spec PyProof.Rows L2 DL
structure Bl (P : Program) (K : Fg) (mg : Str → Option Value) : Prop where
  b_all : mg "all" = none
  b_bool : mg "bool" = none
  b_dict : mg "dict" = none
  b_int : mg "int" = none
  b_isinstance : mg "isinstance" = none
  b_len : mg "len" = none
  b_list : mg "list" = none
  b_max : mg "max" = none
  b_min : mg "min" = none
  b_range : mg "range" = none
  b_repr : mg "repr" = none
  b_set : mg "set" = none
  b_sorted : mg "sorted" = none
  b_str : mg "str" = none
  b_super : mg "super" = none
  b_tuple : mg "tuple" = none
  c_LETTERS : ∃ t, mg "LETTERS" = some (.str "abcdefghijklmnopqrstuvwxyz" t)
  c_LONGEST_NAME : ∃ t, mg "LONGEST_NAME" = some (.int 8 t)
  y_BookError : mg "BookError" = some (.ref (He.ga K "BookError"))
  y_InvalidPaper : mg "InvalidPaper" = some (.ref (He.ga K "InvalidPaper"))
  y_InvalidRow : mg "InvalidRow" = some (.ref (He.ga K "InvalidRow"))
  y_InvalidText : mg "InvalidText" = some (.ref (He.ga K "InvalidText"))
  y_NeverKept : mg "NeverKept" = some (.ref (He.ga K "NeverKept"))
  y_NotUsable : mg "NotUsable" = some (.ref (He.ga K "NotUsable"))
  y_PaperError : mg "PaperError" = some (.ref (He.ga K "PaperError"))
  y_SiteError : mg "SiteError" = some (.ref (He.ga K "SiteError"))
  y_TextError : mg "TextError" = some (.ref (He.ga K "TextError"))
  y_WhichError : mg "WhichError" = some (.ref (He.ga K "WhichError"))
  cl_NotUsable : ClsF K "WhichError" "NotUsable" "word" "at"
  id_NotUsable : IDef P K (He.ga K "NotUsable") "word" "at"
  is_NotUsable_BookError : PySem.W.kitOne K (.ref (He.ga K "NotUsable")) (.ref (He.ga K "BookError")) = some false
  is_NotUsable_InvalidPaper : PySem.W.kitOne K (.ref (He.ga K "NotUsable")) (.ref (He.ga K "InvalidPaper")) = some false
  is_NotUsable_InvalidRow : PySem.W.kitOne K (.ref (He.ga K "NotUsable")) (.ref (He.ga K "InvalidRow")) = some false
  is_NotUsable_InvalidText : PySem.W.kitOne K (.ref (He.ga K "NotUsable")) (.ref (He.ga K "InvalidText")) = some false
  is_NotUsable_NeverKept : PySem.W.kitOne K (.ref (He.ga K "NotUsable")) (.ref (He.ga K "NeverKept")) = some false
  is_NotUsable_NotUsable : PySem.W.kitOne K (.ref (He.ga K "NotUsable")) (.ref (He.ga K "NotUsable")) = some true
  is_NotUsable_PaperError : PySem.W.kitOne K (.ref (He.ga K "NotUsable")) (.ref (He.ga K "PaperError")) = some false
  is_NotUsable_SiteError : PySem.W.kitOne K (.ref (He.ga K "NotUsable")) (.ref (He.ga K "SiteError")) = some true
  is_NotUsable_TextError : PySem.W.kitOne K (.ref (He.ga K "NotUsable")) (.ref (He.ga K "TextError")) = some false
section
variable {P : Program} {w : World} {K : Fg} {mg : Str → Option Value} {base : Heap}
abbrev nm__law_feed : List Str := ["_law_script"]
theorem sc__law_feed : FnScope nm__law_feed ["_law_script"] (defScope (top 38)) := ⟨rfl, rfl, rfl, by decide +kernel, rfl, by decide +kernel, by decide +kernel⟩
theorem c__law_feed (B : Bl P K mg) (D : Dfn K mg "_law_feed" (top 38))  : Cal false P w K mg base 1 "_law_feed" (top 38) ["_law_script"] WF.g_feed_k01 := by
  refine cal_of (m := WF.m_feed_k01) D sc__law_feed rfl rfl (fun _ _ _ _ _ _ us hl => match us, hl with | [_], _ => rfl) fun f cdv A outer s H hr hg => ?_
  have ND := sc__law_feed.nd
  exact (dss_one (ds_ret (de_rec (dps_cons (de_callTy cd_list rfl B.b_list bt_list (da_cons (de_slice (vl 0) do_none (do_some de_int)) da_nil)) (dps_cons de_int (dps_cons de_int (dps_cons de_int dps_nil)))) rfl rfl (fun z => by cases z) (by decide) (by decide) (by decide))))
abbrev nm__law_first_site : List Str := ["_law_oil_in", "_law_clean_in", "_law_lot"]
theorem sc__law_first_site : FnScope nm__law_first_site [] (defScope (top 44)) := ⟨rfl, rfl, rfl, by decide +kernel, rfl, by decide +kernel, by decide +kernel⟩
theorem c__law_first_site (B : Bl P K mg) (D : Dfn K mg "_law_first_site" (top 44))  : Cal false P w K mg base 1 "_law_first_site" (top 44) [] WF.g_first_site_k01 := by
  refine cal_of (m := WF.m_first_site_k01) D sc__law_first_site rfl rfl (fun _ _ _ _ _ _ us hl => match us, hl with | [], _ => rfl) fun f cdv A outer s H hr hg => ?_
  have ND := sc__law_first_site.nd
  exact (dss_cons (ds_set (i := 0) ND rfl (.inl rfl) (de_tup (da_cons de_str (da_cons de_str (da_cons de_str (da_cons (de_tup (da_cons de_str (da_cons (de_tup (da_cons (de_tup (da_cons de_str (da_cons de_int da_nil))) (da_cons (de_tup (da_cons de_str (da_cons de_int da_nil))) da_nil))) da_nil))) (da_cons (de_tup (da_cons de_int (da_cons de_int (da_cons de_int da_nil)))) da_nil))))))) (dss_cons (ds_set (i := 1) ND rfl (.inl rfl) (de_tup (da_cons de_str (da_cons de_str (da_cons de_str (da_cons (de_tup (da_cons de_str (da_cons de_int da_nil))) (da_cons (de_tup (da_cons de_int (da_cons de_int (da_cons de_int da_nil)))) da_nil))))))) (dss_cons (ds_set (i := 2) ND rfl (.inl rfl) (de_tup (da_cons (de_tup (da_cons de_str (da_cons (de_tup (da_cons (de_tup (da_cons de_int (da_cons de_int da_nil))) da_nil)) da_nil))) (da_cons (de_tup (da_cons de_str (da_cons (de_tup (da_cons (de_tup (da_cons de_int (da_cons de_int da_nil))) (da_cons (de_tup (da_cons de_int (da_cons de_int da_nil))) da_nil))) da_nil))) da_nil)))) (dss_one (ds_ret (de_tup (da_cons (vl 2) (da_cons (de_tup (da_cons (de_tup (da_cons de_str (da_cons (de_tup (da_cons (de_tup (da_cons de_int (da_cons de_str da_nil))) da_nil)) da_nil))) (da_cons (de_tup (da_cons de_str (da_cons (de_tup (da_cons (de_tup (da_cons de_int (da_cons de_str da_nil))) (da_cons (de_tup (da_cons de_int (da_cons de_str da_nil))) da_nil))) da_nil))) da_nil))) (da_cons (de_tup (da_cons (vl 1) (da_cons (vl 0) da_nil))) da_nil)))))))))
abbrev nm__law_draw : List Str := ["_law_feed_here", "_law_many", "_law_digit", "_law_spot", "_law_cell", "_law_mixed"]
theorem sc__law_draw : FnScope nm__law_draw ["_law_feed_here", "_law_many"] (defScope (top 39)) := ⟨rfl, rfl, rfl, by decide +kernel, rfl, by decide +kernel, by decide +kernel⟩
theorem c__law_draw (B : Bl P K mg) (D : Dfn K mg "_law_draw" (top 39))  : Cal false P w K mg base 1 "_law_draw" (top 39) ["_law_feed_here", "_law_many"] WF.g_draw_k01 := by
  refine cal_of (m := WF.m_draw_k01) D sc__law_draw rfl rfl (fun _ _ _ _ _ _ us hl => match us, hl with | [_, _], _ => rfl) fun f cdv A outer s H hr hg => ?_
  have ND := sc__law_draw.nd
  exact (dss_cons (ds_put hr.u1 (vl 0) (de_op od_add (de_ix hr.u1 (vl 0) de_str (fun _ _ => rfl)) de_int)) (dss_cons (ds_if (dt_cmp od_gt (de_ix hr.u1 (vl 0) de_str (fun _ _ => rfl)) de_int (nomark _)) (dss_cons (ds_set (i := 2) ND rfl (.inl rfl) (de_op od_mod (de_callTy cd_int rfl B.b_int bt_int (da_cons (de_ix hr.u1 (vl 0) de_str (fun _ _ => rfl)) da_nil)) (vl 1))) (dss_cons (ds_put hr.u1 (vl 0) (de_op od_div (de_ix hr.u1 (vl 0) de_str (fun _ _ => rfl)) (vl 1))) (dss_one (ds_ret (vl 2))))) dss_nil) (dss_cons (ds_set (i := 3) ND rfl (.inl rfl) (de_ix hr.u1 (vl 0) de_str (fun _ _ => rfl))) (dss_cons (ds_put hr.u1 (vl 0) (de_op od_add (vl 3) de_int)) (dss_cons (ds_set (i := 4) ND rfl (.inl rfl) (de_if (dt_cmp (od_ne hr.units) (de_ix hr.u1 (vl 0) de_str (fun _ _ => rfl)) (de_lst da_nil) (nomark _)) (de_ix hr.u1 (de_ix hr.u1 (vl 0) de_str (fun _ _ => rfl)) (de_op od_mod (de_callTy cd_int rfl B.b_int bt_int (da_cons (vl 3) da_nil)) (de_callB cd_len rfl B.b_len bt_len (da_cons (de_ix hr.u1 (vl 0) de_str (fun _ _ => rfl)) da_nil))) (fun _ _ => rfl)) de_int)) (dss_cons (ds_if (Dw.dt (dw_and (dt_cmp od_ge (vl 4) (de_op od_pow de_int de_int) (nomark _)) (dw_and1 (dt_cmp od_lt (vl 3) (de_callB cd_len rfl B.b_len bt_len (da_cons (de_ix hr.u1 (vl 0) de_str (fun _ _ => rfl)) da_nil)) (nomark _))))) (dss_cons (ds_put hr.u1 (vl 0) (de_op od_div (vl 4) (vl 1))) (dss_one (ds_ret (de_op od_mod (de_callTy cd_int rfl B.b_int bt_int (da_cons (vl 4) da_nil)) (vl 1))))) dss_nil) (dss_cons (ds_set (i := 5) ND rfl (.inl rfl) (de_op od_mod (de_callTy cd_int rfl B.b_int bt_int (da_cons (de_op od_add (de_op od_add (de_op od_mod (de_callTy cd_int rfl B.b_int bt_int (da_cons (vl 4) da_nil)) de_int) (de_op od_mul de_int (de_ix hr.u1 (vl 0) de_str (fun _ _ => rfl)))) de_int) da_nil)) de_int)) (dss_cons (ds_set (i := 5) ND rfl (.inl rfl) (de_op od_mod (de_callTy cd_int rfl B.b_int bt_int (da_cons (de_op od_add (de_op od_add (de_op od_mul (vl 5) (vl 5)) (de_op od_mul de_int (de_ix hr.u1 (vl 0) de_str (fun _ _ => rfl)))) de_int) da_nil)) de_int)) (dss_one (ds_ret (de_op od_mod (de_callTy cd_int rfl B.b_int bt_int (da_cons (de_op od_div (de_op od_mod (de_callTy cd_int rfl B.b_int bt_int (da_cons (de_op od_add (de_op od_mul (vl 5) (vl 5)) (de_op od_mul de_int (vl 5))) da_nil)) de_int) de_int) da_nil)) (vl 1))))))))))))
abbrev nm__law_stays : List Str := ["_law_feed_here", "_law_places_in", "_law_found", "_law_at", "_law_k"]
theorem sc__law_stays : FnScope nm__law_stays ["_law_feed_here", "_law_places_in"] (defScope (top 42)) := ⟨rfl, rfl, rfl, by decide +kernel, rfl, by decide +kernel, by decide +kernel⟩
theorem c__law_stays (B : Bl P K mg) (D : Dfn K mg "_law_stays" (top 42)) (C__law_draw : Cal false P w K mg base 1 "_law_draw" (top 39) ["_law_feed_here", "_law_many"] WF.g_draw_k01) : Cal false P w K mg base 2 "_law_stays" (top 42) ["_law_feed_here", "_law_places_in"] WF.g_stays_k01 := by
  refine cal_of (m := WF.m_stays_k01) D sc__law_stays rfl rfl (fun _ _ _ _ _ _ us hl => match us, hl with | [_, _], _ => rfl) fun f cdv A outer s H hr hg => ?_
  have ND := sc__law_stays.nd
  exact (dss_cons (ds_parO (i := 2) (j := 3) rfl ND rfl rfl (by decide) rfl rfl de_int rfl) (dss_cons (ds_for (vs := [4]) PassesOwn.never rfl (di_range1 rfl B.b_range (da_cons (de_op od_add de_int (dc_call C__law_draw hr (by decide) nog rfl (da_cons (vl 0) (da_cons de_int da_nil)))) da_nil)) (dg_name (fun _ => ND) (fun _ => rfl) (fun _ => .inl rfl) (by decide) (fun _ => .inl rfl)) (dss_cons (ds_append rfl (.inl rfl) (de_tup (da_cons (vl 3) (da_cons (de_ix hr.u1 (de_op od_add (vl 1) (de_lst (da_cons de_non da_nil))) (dc_call C__law_draw hr (by decide) nog rfl (da_cons (vl 0) (da_cons (de_op od_add (de_callB cd_len rfl B.b_len bt_len (da_cons (vl 1) da_nil)) de_int) da_nil))) (fun _ _ => rfl)) da_nil)))) (dss_one (ds_aug (i := 3) ND rfl (.inl rfl) od_iadd (de_op od_add de_int (de_ix hr.u1 (de_lst (da_cons de_int (da_cons de_int (da_cons de_int (da_cons de_int da_nil))))) (dc_call C__law_draw hr (by decide) nog rfl (da_cons (vl 0) (da_cons de_int da_nil))) (fun _ _ => rfl))))))) (dss_frz 2 (dss_one (ds_ret (de_callTy cd_tuple rfl B.b_tuple bt_tuple (da_cons (vl 2) da_nil)))))))
abbrev nm__law_limit : List Str := ["_law_feed_here", "_law_deep", "_law_turn_in", "_law_n", "_law_some", "_law_k"]
theorem sc__law_limit : FnScope nm__law_limit ["_law_feed_here", "_law_deep"] (defScope (top 40)) := ⟨rfl, rfl, rfl, by decide +kernel, rfl, by decide +kernel, by decide +kernel⟩
theorem c__law_limit (B : Bl P K mg) (D : Dfn K mg "_law_limit" (top 40)) (C__law_draw : Cal false P w K mg base 1 "_law_draw" (top 39) ["_law_feed_here", "_law_many"] WF.g_draw_k01) : ∀ n, Cal false P w K mg base (1 + n) "_law_limit" (top 40) ["_law_feed_here", "_law_deep"] (WF.g_limit_k01 n)
  | 0 => cal_bad D (fun _ _ _ _ _ _ us hl => match us, hl with | [_, _], _ => rfl)
  | n + 1 => by
    have C := c__law_limit B D C__law_draw n
    refine cal_of (k := 1 + n) (m := WF.m_limit_k01 (WF.g_limit_k01 n)) D sc__law_limit rfl rfl (fun _ _ _ _ _ _ us hl => match us, hl with | [_, _], _ => rfl) fun f cdv A outer s H hr hg => ?_
    have ND := sc__law_limit.nd
    exact (dss_cons (ds_set (i := 2) ND rfl (.inl rfl) (dc_call C__law_draw hr (by omega) nog rfl (da_cons (vc 0) (da_cons de_int da_nil)))) (dss_cons (ds_if (Dw.dt (dw_or (dt_cmp od_lt (vl 2) de_int (nomark _)) (dw_or1 (dt_cmp (od_eq hr.units) (vc 1) de_int (nomark _))))) (dss_cons (ds_set (i := 3) ND rfl (.inl rfl) (de_ix hr.u1 (de_lst (da_cons de_int (da_cons de_int (da_cons de_int (da_cons de_int (da_cons de_int (da_cons de_int da_nil))))))) (dc_call C__law_draw hr (by omega) nog rfl (da_cons (vc 0) (da_cons de_int da_nil))) (fun _ _ => rfl))) (dss_one (ds_ret (de_tup (da_cons (de_ix hr.u1 (de_lst (da_cons de_str (da_cons de_str (da_cons de_str da_nil)))) (de_op od_mod (de_callTy cd_int rfl B.b_int bt_int (da_cons (vl 2) da_nil)) de_int) (fun _ _ => rfl)) (da_cons (vl 3) da_nil)))))) dss_nil) (dss_cons (ds_set (i := 4) ND rfl (.inl rfl) (de_callTy cd_tuple rfl B.b_tuple bt_tuple (da_cons (de_lc (own := [("_law_k", 5)]) rfl ND (di_range1 rfl B.b_range (da_cons (de_op od_add de_int (dc_call C__law_draw hr (by omega) nog rfl (da_cons (vc 0) (da_cons de_int da_nil)))) da_nil)) (blkOk_by (by kernel_rfl)) (dg_name (fun _ => ND) (fun _ => rfl) (fun _ => .inl rfl) (by decide) (fun _ => .inr rfl)) (fun _ _ _ _ _ => dts_nil) (fun _ _ _ _ _ => (dc_call C hr (by omega) nog rfl (da_cons (vc 0) (da_cons (de_op od_sub (vc 1) de_int) da_nil))))) da_nil))) (dss_one (ds_ret (de_tup (da_cons (de_ix hr.u1 (de_lst (da_cons de_str (da_cons de_str da_nil))) (de_op od_mod (de_callTy cd_int rfl B.b_int bt_int (da_cons (vl 2) da_nil)) de_int) (fun _ _ => rfl)) (da_cons (vl 4) da_nil))))))))
abbrev nm__law_slack : List Str := ["_law_feed_here", "_law_k"]
theorem sc__law_slack : FnScope nm__law_slack ["_law_feed_here"] (defScope (top 41)) := ⟨rfl, rfl, rfl, by decide +kernel, rfl, by decide +kernel, by decide +kernel⟩
theorem c__law_slack (B : Bl P K mg) (D : Dfn K mg "_law_slack" (top 41)) (C__law_draw : Cal false P w K mg base 1 "_law_draw" (top 39) ["_law_feed_here", "_law_many"] WF.g_draw_k01) : Cal false P w K mg base 2 "_law_slack" (top 41) ["_law_feed_here"] WF.g_slack_k01 := by
  refine cal_of (m := WF.m_slack_k01) D sc__law_slack rfl rfl (fun _ _ _ _ _ _ us hl => match us, hl with | [_], _ => rfl) fun f cdv A outer s H hr hg => ?_
  have ND := sc__law_slack.nd
  exact (dss_one (ds_ret (de_callTy cd_tuple rfl B.b_tuple bt_tuple (da_cons (de_lc (own := [("_law_k", 1)]) rfl ND (di_range1 rfl B.b_range (da_cons de_int da_nil)) (blkOk_by (by kernel_rfl)) (dg_name (fun _ => ND) (fun _ => rfl) (fun _ => .inl rfl) (by decide) (fun _ => .inr rfl)) (fun _ _ _ _ _ => dts_nil) (fun _ _ _ _ _ => (de_ix hr.u1 (de_lst (da_cons de_int (da_cons de_int (da_cons de_int (da_cons de_int (da_cons de_int da_nil)))))) (dc_call C__law_draw hr (by decide) nog rfl (da_cons (vc 0) (da_cons de_int da_nil))) (fun _ _ => rfl)))) da_nil))))
abbrev nm__law_site : List Str := ["_law_feed_here", "_law_names", "_law_owners", "_law_todo", "_law_lot", "_law_title", "_law_rows_in", "_law_some", "_law_jobs", "_law_owner", "_law_turn_in", "_law_k"]
theorem sc__law_site : FnScope nm__law_site ["_law_feed_here"] (defScope (top 43)) := ⟨rfl, rfl, rfl, by decide +kernel, rfl, by decide +kernel, by decide +kernel⟩
theorem c__law_site (B : Bl P K mg) (D : Dfn K mg "_law_site" (top 43)) (C__law_draw : Cal false P w K mg base 1 "_law_draw" (top 39) ["_law_feed_here", "_law_many"] WF.g_draw_k01) (C__law_stays : Cal false P w K mg base 2 "_law_stays" (top 42) ["_law_feed_here", "_law_places_in"] WF.g_stays_k01) (C__law_limit : Cal false P w K mg base 13 "_law_limit" (top 40) ["_law_feed_here", "_law_deep"] (WF.g_limit_k01 12)) (C__law_slack : Cal false P w K mg base 2 "_law_slack" (top 41) ["_law_feed_here"] WF.g_slack_k01) : Cal false P w K mg base 14 "_law_site" (top 43) ["_law_feed_here"] WF.g_site_k01 := by
  refine cal_of (m := WF.m_site_k01) D sc__law_site rfl rfl (fun _ _ _ _ _ _ us hl => match us, hl with | [_], _ => rfl) fun f cdv A outer s H hr hg => ?_
  have ND := sc__law_site.nd
  exact (dss_cons (ds_set (i := 1) ND rfl (.inr rfl) (de_ix hr.u1 (de_lst (da_cons (de_tup (da_cons de_str (da_cons de_str da_nil))) (da_cons (de_tup (da_cons de_str da_nil)) (da_cons (de_tup (da_cons de_str (da_cons de_str (da_cons de_str da_nil)))) (da_cons (de_tup (da_cons de_str (da_cons de_str da_nil))) da_nil))))) (dc_call C__law_draw hr (by decide) nog rfl (da_cons (vc 0) (da_cons de_int da_nil))) (fun _ _ => rfl))) (dss_cons (ds_set (i := 2) ND rfl (.inl rfl) (de_ix hr.u1 (de_lst (da_cons (de_tup (da_cons de_str (da_cons de_str da_nil))) (da_cons (de_tup (da_cons de_str (da_cons de_str (da_cons de_str (da_cons de_str da_nil))))) (da_cons (de_tup (da_cons de_str (da_cons de_str da_nil))) (da_cons (de_tup (da_cons de_str da_nil)) da_nil))))) (dc_call C__law_draw hr (by decide) nog rfl (da_cons (vc 0) (da_cons de_int da_nil))) (fun _ _ => rfl))) (dss_cons (ds_set (i := 3) ND rfl (.inl rfl) (de_ix hr.u1 (de_lst (da_cons (de_tup (da_cons de_str (da_cons de_str da_nil))) (da_cons (de_tup da_nil) (da_cons (de_tup (da_cons de_str (da_cons de_str (da_cons de_str da_nil)))) (da_cons (de_tup (da_cons de_str (da_cons de_str (da_cons de_str (da_cons de_str da_nil))))) da_nil))))) (dc_call C__law_draw hr (by decide) nog rfl (da_cons (vc 0) (da_cons de_int da_nil))) (fun _ _ => rfl))) (dss_cons (ds_own (i := 4) ND rfl (.inl rfl) da_nil) (dss_cons (ds_for (vs := [5]) PassesOwn.never rfl (di_seq (vc 1)) (dg_name (fun _ => ND) (fun _ => rfl) (fun _ => .inl rfl) (by decide) (fun _ => .inl rfl)) (dss_cons (ds_setLc (own := [("_law_k", 11)]) (i := 6) rfl ND rfl rfl (sw_true rfl rfl rfl (by kernel_rfl)) (di_range1 rfl B.b_range (da_cons (de_op od_add de_int (dc_call C__law_draw hr (by decide) nog rfl (da_cons (vc 0) (da_cons de_int da_nil)))) da_nil)) (blkOk_by (by kernel_rfl)) (dg_name (fun _ => ND) (fun _ => rfl) (fun _ => .inl rfl) (by decide) (fun _ => .inr rfl)) (fun _ _ _ _ _ => dts_nil) (fun _ _ _ _ _ => (de_tup (da_cons (dc_call C__law_draw hr (by decide) nog rfl (da_cons (vc 0) (da_cons de_int da_nil))) (da_cons (dc_call C__law_draw hr (by decide) nog rfl (da_cons (vc 0) (da_cons de_int da_nil))) da_nil))))) (dss_one (ds_append rfl (.inl rfl) (de_tup (da_cons (vl 5) (da_cons (de_callTy cd_tuple rfl B.b_tuple bt_tuple (da_cons (vl 6) da_nil)) da_nil))))))) (dss_frz 4 (dss_cons (ds_setLc (own := [("_law_title", 5)]) (i := 7) rfl ND rfl rfl (sw_true rfl rfl rfl (by kernel_rfl)) (di_seq (vl 2)) (blkOk_by (by kernel_rfl)) (dg_name (fun _ => ND) (fun _ => rfl) (fun _ => .inl rfl) (by decide) (fun _ => .inr rfl)) (fun _ _ _ _ _ => dts_nil) (fun _ _ _ _ _ => (de_tup (da_cons (vl 5) (da_cons (dc_call C__law_stays hr (by decide) nog rfl (da_cons (vc 0) (da_cons (de_callTy cd_list rfl B.b_list bt_list (da_cons (vc 1) da_nil)) da_nil))) da_nil))))) (dss_cons (ds_own (i := 8) ND rfl (.inl rfl) da_nil) (dss_cons (ds_for (vs := [5]) PassesOwn.never rfl (di_seq (vl 3)) (dg_name (fun _ => ND) (fun _ => rfl) (fun _ => .inl rfl) (by decide) (fun _ => .inl rfl)) (dss_cons (ds_par (i := 9) (j := 10) rfl ND rfl rfl (by decide) rfl rfl (da_cons (de_ix hr.u1 (vl 2) (dc_call C__law_draw hr (by decide) nog rfl (da_cons (vc 0) (da_cons (de_callB cd_len rfl B.b_len bt_len (da_cons (vl 2) da_nil)) da_nil))) (fun _ _ => rfl)) (da_cons (de_ix hr.u1 (de_lst (da_cons de_str (da_cons de_str da_nil))) (dc_call C__law_draw hr (by decide) nog rfl (da_cons (vc 0) (da_cons de_int da_nil))) (fun _ _ => rfl)) da_nil)) rfl) (dss_one (ds_append rfl (.inl rfl) (de_tup (da_cons (vl 5) (da_cons (vl 9) (da_cons (vl 10) (da_cons (dc_call C__law_limit hr (by decide) nog rfl (da_cons (vc 0) (da_cons de_int da_nil))) (da_cons (dc_call C__law_slack hr (by decide) nog rfl (da_cons (vc 0) da_nil)) da_nil)))))))))) (dss_frz 8 (dss_one (ds_ret (de_tup (da_cons (de_callTy cd_tuple rfl B.b_tuple bt_tuple (da_cons (vl 4) da_nil)) (da_cons (de_callTy cd_tuple rfl B.b_tuple bt_tuple (da_cons (vl 7) da_nil)) (da_cons (de_callTy cd_tuple rfl B.b_tuple bt_tuple (da_cons (vl 8) da_nil)) da_nil))))))))))))))))
abbrev nm_require_usable : List Str := ["truth", "word", "at"]
theorem sc_require_usable : FnScope nm_require_usable ["truth", "word", "at"] (defScope (top 18)) := ⟨rfl, rfl, rfl, by decide +kernel, rfl, by decide +kernel, by decide +kernel⟩
theorem c_require_usable (B : Bl P K mg) (D : Dfn K mg "require_usable" (top 18))  : Cal false P w K mg base 1 "require_usable" (top 18) ["truth", "word", "at"] WF.g_require_usable := by
  refine cal_of (m := WF.m_require_usable) D sc_require_usable rfl rfl (fun _ _ _ _ _ _ us hl => match us, hl with | [_, _, _], _ => rfl) fun f cdv A outer s H hr hg => ?_
  have ND := sc_require_usable.nd
  exact (dss_one (ds_if (dt_not (dt_truth (vl 0))) (dss_one ds_never) dss_nil))
theorem cx_require_usable (B : Bl P K mg) (SB : StatB base) (D : Dfn K mg "require_usable" (top 18))  : CalX false P w K mg base 2 "require_usable" (top 18) ["truth", "word", "at"] WF.x_require_usable_ca6ef5 := by
  refine calX_of (k := 1) D sc_require_usable rfl rfl (fun _ _ _ _ _ _ us hl => match us, hl with | [_, _, _], _ => rfl) fun f cdv A outer s H E hr hg => ?_
  have ND := sc_require_usable.nd
  exact (xss_one (xs_if (dt_not (dt_truth (vl 0))) (xss_one (xs_raise rfl (pmk_x2 B.id_NotUsable (by decide) (by decide) (by decide) (by decide) (by decide) SB B.b_super bt_super (hr.mono (by decide)) rfl B.y_NotUsable (da_cons (vl 1) (da_cons (vl 2) da_nil))))) xss_no))
abbrev nm_is_name : List Str := ["thing", "sign"]
theorem sc_is_name : FnScope nm_is_name ["thing"] (defScope (top 5)) := ⟨rfl, rfl, rfl, by decide +kernel, rfl, by decide +kernel, by decide +kernel⟩
theorem c_is_name (B : Bl P K mg) (D : Dfn K mg "is_name" (top 5))  : Cal false P w K mg base 1 "is_name" (top 5) ["thing"] WF.g_is_name := by
  obtain ⟨t_LONGEST_NAME, h_LONGEST_NAME⟩ := B.c_LONGEST_NAME
  obtain ⟨t_LETTERS, h_LETTERS⟩ := B.c_LETTERS
  refine cal_of (m := WF.m_is_name) D sc_is_name rfl rfl (fun _ _ _ _ _ _ us hl => match us, hl with | [_], _ => rfl) fun f cdv A outer s H hr hg => ?_
  have ND := sc_is_name.nd
  exact (dss_cons (ds_if (Dw.dt (dw_or (dt_not (dt_truth (de_isi rfl B.b_isinstance rfl B.b_str bt_str (vl 0)))) (dw_or1 (dt_not (dt_chain od_le od_le de_int (de_callB cd_len rfl B.b_len bt_len (da_cons (vl 0) da_nil)) (de_gint rfl h_LONGEST_NAME) cmp_bool))))) (dss_one (ds_ret de_bl)) dss_nil) (dss_one (ds_ret (de_callB (cd_all rfl) rfl B.b_all bt_all (da_cons (de_lc (own := [("sign", 1)]) rfl ND (di_str (vl 0)) (blkOk_by (by kernel_rfl)) (dg_name (fun _ => ND) (fun _ => rfl) (fun _ => .inl rfl) (by decide) (fun _ => .inr rfl)) (fun _ _ _ _ _ => dts_nil) (fun _ _ _ _ _ => (de_cmp (od_in hr.u65) (vl 1) (de_gstr rfl h_LETTERS) rfl))) da_nil)))))
abbrev nm_index_among : List Str := ["names", "name", "word"]
theorem sc_index_among : FnScope nm_index_among ["names", "name", "word"] (defScope (top 23)) := ⟨rfl, rfl, rfl, by decide +kernel, rfl, by decide +kernel, by decide +kernel⟩
theorem c_index_among (B : Bl P K mg) (D : Dfn K mg "index_among" (top 23)) (C_require_usable : Cal false P w K mg base 1 "require_usable" (top 18) ["truth", "word", "at"] WF.g_require_usable) (C_is_name : Cal false P w K mg base 1 "is_name" (top 5) ["thing"] WF.g_is_name) : Cal false P w K mg base 2 "index_among" (top 23) ["names", "name", "word"] WF.g_index_among := by
  refine cal_of (m := WF.m_index_among) D sc_index_among rfl rfl (fun _ _ _ _ _ _ us hl => match us, hl with | [_, _, _], _ => rfl) fun f cdv A outer s H hr hg => ?_
  have ND := sc_index_among.nd
  exact (dss_cons (ds_expr (dc_call C_require_usable hr (by decide) nog rfl (da_cons (de_and (dc_call C_is_name hr (by decide) nog rfl (da_cons (vl 1) da_nil)) (de_and1 (de_cmp (od_in hr.u65) (vl 1) (vl 0) rfl))) (da_cons (vl 2) (da_cons (de_neg de_int) da_nil))))) (dss_one (ds_ret (de_index hr.u65 (vl 0) (vl 1)))))
theorem cx_index_among (B : Bl P K mg) (SB : StatB base) (D : Dfn K mg "index_among" (top 23)) (C_is_name : Cal false P w K mg base 1 "is_name" (top 5) ["thing"] WF.g_is_name) (X_require_usable : CalX false P w K mg base 2 "require_usable" (top 18) ["truth", "word", "at"] WF.x_require_usable_ca6ef5) : CalX false P w K mg base 3 "index_among" (top 23) ["names", "name", "word"] WF.x_index_among_9b27d0 := by
  refine calX_of (k := 2) D sc_index_among rfl rfl (fun _ _ _ _ _ _ us hl => match us, hl with | [_, _, _], _ => rfl) fun f cdv A outer s H E hr hg => ?_
  have ND := sc_index_among.nd
  exact (xss_last (xs_expr (xdc_call X_require_usable hr (by decide) nog rfl (da_cons (de_and (dc_call C_is_name hr (by decide) nog rfl (da_cons (vl 1) da_nil)) (de_and1 (de_cmp (od_in hr.u65) (vl 1) (vl 0) rfl))) (da_cons (vl 2) (da_cons (de_neg de_int) da_nil))))))
abbrev nm_part_names : List Str := ["site", "name", "stays"]
theorem sc_part_names : FnScope nm_part_names ["site"] (defScope (top 21)) := ⟨rfl, rfl, rfl, by decide +kernel, rfl, by decide +kernel, by decide +kernel⟩
theorem c_part_names (B : Bl P K mg) (D : Dfn K mg "part_names" (top 21))  : Cal false P w K mg base 1 "part_names" (top 21) ["site"] WF.g_part_names := by
  refine cal_of (m := WF.m_part_names) D sc_part_names rfl rfl (fun _ _ _ _ _ _ us hl => match us, hl with | [_], _ => rfl) fun f cdv A outer s H hr hg => ?_
  have ND := sc_part_names.nd
  exact (dss_one (ds_ret (de_lc (own := [("name", 1), ("stays", 2)]) rfl ND (di_seq (de_ix hr.u1 (vl 0) de_int (fun _ _ => rfl))) (blkOk_by (by kernel_rfl)) (dg_tup (fun _ => rfl) (fun _ => rfl) (dgs_cons (dg_name (fun _ => ND) (fun _ => rfl) (fun _ => .inl rfl) (by decide) (fun _ => .inr rfl)) (dgs_cons (dg_name (fun _ => ND) (fun _ => rfl) (fun _ => .inl rfl) (by decide) (fun _ => .inr rfl)) dgs_nil))) (fun _ _ _ _ _ => dts_nil) (fun _ _ _ _ _ => (vl 1)))))
abbrev nm_stays_of : List Str := ["site", "part"]
theorem sc_stays_of : FnScope nm_stays_of ["site", "part"] (defScope (top 25)) := ⟨rfl, rfl, rfl, by decide +kernel, rfl, by decide +kernel, by decide +kernel⟩
theorem c_stays_of (B : Bl P K mg) (D : Dfn K mg "stays_of" (top 25)) (C_index_among : Cal false P w K mg base 2 "index_among" (top 23) ["names", "name", "word"] WF.g_index_among) (C_part_names : Cal false P w K mg base 1 "part_names" (top 21) ["site"] WF.g_part_names) : Cal false P w K mg base 3 "stays_of" (top 25) ["site", "part"] WF.g_stays_of := by
  refine cal_of (m := WF.m_stays_of) D sc_stays_of rfl rfl (fun _ _ _ _ _ _ us hl => match us, hl with | [_, _], _ => rfl) fun f cdv A outer s H hr hg => ?_
  have ND := sc_stays_of.nd
  exact (dss_one (ds_ret (de_ix hr.u1 (de_ix hr.u1 (de_ix hr.u1 (vl 0) de_int (fun _ _ => rfl)) (dc_call C_index_among hr (by decide) nog rfl (da_cons (dc_call C_part_names hr (by decide) nog rfl (da_cons (vl 0) da_nil)) (da_cons (vl 1) (da_cons de_str da_nil)))) (fun _ _ => rfl)) de_int (fun _ _ => rfl))))
theorem cx_stays_of (B : Bl P K mg) (SB : StatB base) (D : Dfn K mg "stays_of" (top 25)) (C_part_names : Cal false P w K mg base 1 "part_names" (top 21) ["site"] WF.g_part_names) (C_index_among : Cal false P w K mg base 2 "index_among" (top 23) ["names", "name", "word"] WF.g_index_among) (X_index_among : CalX false P w K mg base 3 "index_among" (top 23) ["names", "name", "word"] WF.x_index_among_9b27d0) : CalX false P w K mg base 4 "stays_of" (top 25) ["site", "part"] WF.x_stays_of_7073d6 := by
  refine calX_of (k := 3) D sc_stays_of rfl rfl (fun _ _ _ _ _ _ us hl => match us, hl with | [_, _], _ => rfl) fun f cdv A outer s H E hr hg => ?_
  have ND := sc_stays_of.nd
  exact (xss_one (xs_ret (xe_ix (xe_ix xe_no (de_ix hr.u1 (vl 0) de_int (fun _ _ => rfl)) (xdc_call X_index_among hr (by decide) nog rfl (da_cons (dc_call C_part_names hr (by decide) nog rfl (da_cons (vl 0) da_nil)) (da_cons (vl 1) (da_cons de_str da_nil))))) (de_ix hr.u1 (de_ix hr.u1 (vl 0) de_int (fun _ _ => rfl)) (dc_call C_index_among hr (by decide) nog rfl (da_cons (dc_call C_part_names hr (by decide) nog rfl (da_cons (vl 0) da_nil)) (da_cons (vl 1) (da_cons de_str da_nil)))) (fun _ _ => rfl)) xe_no)))
abbrev nm_is_integer : List Str := ["thing"]
theorem sc_is_integer : FnScope nm_is_integer ["thing"] (defScope (top 3)) := ⟨rfl, rfl, rfl, by decide +kernel, rfl, by decide +kernel, by decide +kernel⟩
theorem c_is_integer (B : Bl P K mg) (D : Dfn K mg "is_integer" (top 3))  : Cal false P w K mg base 1 "is_integer" (top 3) ["thing"] WF.g_is_integer := by
  refine cal_of (m := WF.m_is_integer) D sc_is_integer rfl rfl (fun _ _ _ _ _ _ us hl => match us, hl with | [_], _ => rfl) fun f cdv A outer s H hr hg => ?_
  have ND := sc_is_integer.nd
  exact (dss_one (ds_ret (de_and (de_isi rfl B.b_isinstance rfl B.b_int bt_int (vl 0)) (de_and1 (de_not (de_isi rfl B.b_isinstance rfl B.b_bool bt_bool (vl 0)))))))
abbrev nm_is_number : List Str := ["thing"]
theorem sc_is_number : FnScope nm_is_number ["thing"] (defScope (top 4)) := ⟨rfl, rfl, rfl, by decide +kernel, rfl, by decide +kernel, by decide +kernel⟩
theorem c_is_number (B : Bl P K mg) (D : Dfn K mg "is_number" (top 4)) (C_is_integer : Cal false P w K mg base 1 "is_integer" (top 3) ["thing"] WF.g_is_integer) : Cal false P w K mg base 2 "is_number" (top 4) ["thing"] WF.g_is_number := by
  refine cal_of (m := WF.m_is_number) D sc_is_number rfl rfl (fun _ _ _ _ _ _ us hl => match us, hl with | [_], _ => rfl) fun f cdv A outer s H hr hg => ?_
  have ND := sc_is_number.nd
  exact (dss_one (ds_ret (de_and (dc_call C_is_integer hr (by decide) nog rfl (da_cons (vl 0) da_nil)) (de_and1 (de_cmp od_ge (vl 0) de_int (nomark _))))))
abbrev nm_require_day : List Str := ["day"]
theorem sc_require_day : FnScope nm_require_day ["day"] (defScope (top 28)) := ⟨rfl, rfl, rfl, by decide +kernel, rfl, by decide +kernel, by decide +kernel⟩
theorem c_require_day (B : Bl P K mg) (D : Dfn K mg "require_day" (top 28)) (C_require_usable : Cal false P w K mg base 1 "require_usable" (top 18) ["truth", "word", "at"] WF.g_require_usable) (C_is_number : Cal false P w K mg base 2 "is_number" (top 4) ["thing"] WF.g_is_number) : Cal false P w K mg base 3 "require_day" (top 28) ["day"] WF.g_require_day := by
  refine cal_of (m := WF.m_require_day) D sc_require_day rfl rfl (fun _ _ _ _ _ _ us hl => match us, hl with | [_], _ => rfl) fun f cdv A outer s H hr hg => ?_
  have ND := sc_require_day.nd
  exact (dss_one (ds_expr (dc_call C_require_usable hr (by decide) nog rfl (da_cons (dc_call C_is_number hr (by decide) nog rfl (da_cons (vl 0) da_nil)) (da_cons de_str (da_cons (de_neg de_int) da_nil))))))
theorem cx_require_day (B : Bl P K mg) (SB : StatB base) (D : Dfn K mg "require_day" (top 28)) (C_is_number : Cal false P w K mg base 2 "is_number" (top 4) ["thing"] WF.g_is_number) (X_require_usable : CalX false P w K mg base 2 "require_usable" (top 18) ["truth", "word", "at"] WF.x_require_usable_ca6ef5) : CalX false P w K mg base 3 "require_day" (top 28) ["day"] WF.x_require_day_3d2eb6 := by
  refine calX_of (k := 2) D sc_require_day rfl rfl (fun _ _ _ _ _ _ us hl => match us, hl with | [_], _ => rfl) fun f cdv A outer s H E hr hg => ?_
  have ND := sc_require_day.nd
  exact (xss_one (xs_expr (xdc_call X_require_usable hr (by decide) nog rfl (da_cons (dc_call C_is_number hr (by decide) nog rfl (da_cons (vl 0) da_nil)) (da_cons de_str (da_cons (de_neg de_int) da_nil))))))
abbrev nm_place_on : List Str := ["stays", "day", "begin", "place"]
theorem sc_place_on : FnScope nm_place_on ["stays", "day"] (defScope (top 30)) := ⟨rfl, rfl, rfl, by decide +kernel, rfl, by decide +kernel, by decide +kernel⟩
theorem c_place_on (B : Bl P K mg) (D : Dfn K mg "place_on" (top 30))  : Cal false P w K mg base 1 "place_on" (top 30) ["stays", "day"] WF.g_place_on := by
  refine cal_of (m := WF.m_place_on) D sc_place_on rfl rfl (fun _ _ _ _ _ _ us hl => match us, hl with | [_, _], _ => rfl) fun f cdv A outer s H hr hg => ?_
  have ND := sc_place_on.nd
  exact (dss_one (ds_ret (de_ix hr.u1 (de_lc (own := [("begin", 2), ("place", 3)]) rfl ND (di_seq (vl 0)) (blkOk_by (by kernel_rfl)) (dg_tup (fun _ => rfl) (fun _ => rfl) (dgs_cons (dg_name (fun _ => ND) (fun _ => rfl) (fun _ => .inl rfl) (by decide) (fun _ => .inr rfl)) (dgs_cons (dg_name (fun _ => ND) (fun _ => rfl) (fun _ => .inl rfl) (by decide) (fun _ => .inr rfl)) dgs_nil))) (fun _ _ _ _ _ => (dts_one (dt_cmp od_le (vl 2) (vc 1) (nomark _)))) (fun _ _ _ _ _ => (vl 3))) (de_neg de_int) (fun _ _ => rfl))))
abbrev nm_place_of : List Str := ["site", "part", "day", "stays"]
theorem sc_place_of : FnScope nm_place_of ["site", "part", "day"] (defScope (top 32)) := ⟨rfl, rfl, rfl, by decide +kernel, rfl, by decide +kernel, by decide +kernel⟩
theorem c_place_of (B : Bl P K mg) (D : Dfn K mg "place_of" (top 32)) (C_stays_of : Cal false P w K mg base 3 "stays_of" (top 25) ["site", "part"] WF.g_stays_of) (C_require_day : Cal false P w K mg base 3 "require_day" (top 28) ["day"] WF.g_require_day) (C_place_on : Cal false P w K mg base 1 "place_on" (top 30) ["stays", "day"] WF.g_place_on) : Cal false P w K mg base 4 "place_of" (top 32) ["site", "part", "day"] WF.g_place_of := by
  refine cal_of (m := WF.m_place_of) D sc_place_of rfl rfl (fun _ _ _ _ _ _ us hl => match us, hl with | [_, _, _], _ => rfl) fun f cdv A outer s H hr hg => ?_
  have ND := sc_place_of.nd
  exact (dss_cons (ds_set (i := 3) ND rfl (.inl rfl) (dc_call C_stays_of hr (by decide) nog rfl (da_cons (vl 0) (da_cons (vl 1) da_nil)))) (dss_cons (ds_expr (dc_call C_require_day hr (by decide) nog rfl (da_cons (vl 2) da_nil))) (dss_one (ds_ret (dc_call C_place_on hr (by decide) nog rfl (da_cons (vl 3) (da_cons (vl 2) da_nil)))))))
theorem cx_place_of (B : Bl P K mg) (SB : StatB base) (D : Dfn K mg "place_of" (top 32)) (C_stays_of : Cal false P w K mg base 3 "stays_of" (top 25) ["site", "part"] WF.g_stays_of) (X_stays_of : CalX false P w K mg base 4 "stays_of" (top 25) ["site", "part"] WF.x_stays_of_7073d6) (X_require_day : CalX false P w K mg base 3 "require_day" (top 28) ["day"] WF.x_require_day_3d2eb6) : CalX false P w K mg base 5 "place_of" (top 32) ["site", "part", "day"] WF.x_place_of_e1ff63 := by
  refine calX_of (k := 4) D sc_place_of rfl rfl (fun _ _ _ _ _ _ us hl => match us, hl with | [_, _, _], _ => rfl) fun f cdv A outer s H E hr hg => ?_
  have ND := sc_place_of.nd
  exact (xss_consN (xs_set (i := 3) ND rfl (.inl rfl) (xdc_call X_stays_of hr (by decide) nog rfl (da_cons (vl 0) (da_cons (vl 1) da_nil)))) (ds_set (i := 3) ND rfl (.inl rfl) (dc_call C_stays_of hr (by decide) nog rfl (da_cons (vl 0) (da_cons (vl 1) da_nil)))) (xss_last (xs_expr (xdc_call X_require_day hr (by decide) nog rfl (da_cons (vl 2) da_nil)))))
abbrev nm_machine_names : List Str := ["site", "name", "uses"]
theorem sc_machine_names : FnScope nm_machine_names ["site"] (defScope (top 20)) := ⟨rfl, rfl, rfl, by decide +kernel, rfl, by decide +kernel, by decide +kernel⟩
theorem c_machine_names (B : Bl P K mg) (D : Dfn K mg "machine_names" (top 20))  : Cal false P w K mg base 1 "machine_names" (top 20) ["site"] WF.g_machine_names := by
  refine cal_of (m := WF.m_machine_names) D sc_machine_names rfl rfl (fun _ _ _ _ _ _ us hl => match us, hl with | [_], _ => rfl) fun f cdv A outer s H hr hg => ?_
  have ND := sc_machine_names.nd
  exact (dss_one (ds_ret (de_lc (own := [("name", 1), ("uses", 2)]) rfl ND (di_seq (de_ix hr.u1 (vl 0) de_int (fun _ _ => rfl))) (blkOk_by (by kernel_rfl)) (dg_tup (fun _ => rfl) (fun _ => rfl) (dgs_cons (dg_name (fun _ => ND) (fun _ => rfl) (fun _ => .inl rfl) (by decide) (fun _ => .inr rfl)) (dgs_cons (dg_name (fun _ => ND) (fun _ => rfl) (fun _ => .inl rfl) (by decide) (fun _ => .inr rfl)) dgs_nil))) (fun _ _ _ _ _ => dts_nil) (fun _ _ _ _ _ => (vl 1)))))
abbrev nm_uses_of : List Str := ["site", "machine"]
theorem sc_uses_of : FnScope nm_uses_of ["site", "machine"] (defScope (top 24)) := ⟨rfl, rfl, rfl, by decide +kernel, rfl, by decide +kernel, by decide +kernel⟩
theorem c_uses_of (B : Bl P K mg) (D : Dfn K mg "uses_of" (top 24)) (C_index_among : Cal false P w K mg base 2 "index_among" (top 23) ["names", "name", "word"] WF.g_index_among) (C_machine_names : Cal false P w K mg base 1 "machine_names" (top 20) ["site"] WF.g_machine_names) : Cal false P w K mg base 3 "uses_of" (top 24) ["site", "machine"] WF.g_uses_of := by
  refine cal_of (m := WF.m_uses_of) D sc_uses_of rfl rfl (fun _ _ _ _ _ _ us hl => match us, hl with | [_, _], _ => rfl) fun f cdv A outer s H hr hg => ?_
  have ND := sc_uses_of.nd
  exact (dss_one (ds_ret (de_ix hr.u1 (de_ix hr.u1 (de_ix hr.u1 (vl 0) de_int (fun _ _ => rfl)) (dc_call C_index_among hr (by decide) nog rfl (da_cons (dc_call C_machine_names hr (by decide) nog rfl (da_cons (vl 0) da_nil)) (da_cons (vl 1) (da_cons de_str da_nil)))) (fun _ _ => rfl)) de_int (fun _ _ => rfl))))
theorem cx_uses_of (B : Bl P K mg) (SB : StatB base) (D : Dfn K mg "uses_of" (top 24)) (C_machine_names : Cal false P w K mg base 1 "machine_names" (top 20) ["site"] WF.g_machine_names) (C_index_among : Cal false P w K mg base 2 "index_among" (top 23) ["names", "name", "word"] WF.g_index_among) (X_index_among : CalX false P w K mg base 3 "index_among" (top 23) ["names", "name", "word"] WF.x_index_among_9b27d0) : CalX false P w K mg base 4 "uses_of" (top 24) ["site", "machine"] WF.x_uses_of_f61634 := by
  refine calX_of (k := 3) D sc_uses_of rfl rfl (fun _ _ _ _ _ _ us hl => match us, hl with | [_, _], _ => rfl) fun f cdv A outer s H E hr hg => ?_
  have ND := sc_uses_of.nd
  exact (xss_one (xs_ret (xe_ix (xe_ix xe_no (de_ix hr.u1 (vl 0) de_int (fun _ _ => rfl)) (xdc_call X_index_among hr (by decide) nog rfl (da_cons (dc_call C_machine_names hr (by decide) nog rfl (da_cons (vl 0) da_nil)) (da_cons (vl 1) (da_cons de_str da_nil))))) (de_ix hr.u1 (de_ix hr.u1 (vl 0) de_int (fun _ _ => rfl)) (dc_call C_index_among hr (by decide) nog rfl (da_cons (dc_call C_machine_names hr (by decide) nog rfl (da_cons (vl 0) da_nil)) (da_cons (vl 1) (da_cons de_str da_nil)))) (fun _ _ => rfl)) xe_no)))
abbrev nm_use_on : List Str := ["uses", "day"]
theorem sc_use_on : FnScope nm_use_on ["uses", "day"] (defScope (top 31)) := ⟨rfl, rfl, rfl, by decide +kernel, rfl, by decide +kernel, by decide +kernel⟩
theorem c_use_on (B : Bl P K mg) (D : Dfn K mg "use_on" (top 31))  : Cal false P w K mg base 1 "use_on" (top 31) ["uses", "day"] WF.g_use_on := by
  refine cal_of (m := WF.m_use_on) D sc_use_on rfl rfl (fun _ _ _ _ _ _ us hl => match us, hl with | [_, _], _ => rfl) fun f cdv A outer s H hr hg => ?_
  have ND := sc_use_on.nd
  exact (dss_one (ds_ret (de_ix hr.u1 (vl 0) (de_callB (cd_min rfl) rfl B.b_min bt_min (da_cons (vl 1) (da_cons (de_op od_sub (de_callB cd_len rfl B.b_len bt_len (da_cons (vl 0) da_nil)) de_int) da_nil))) (fun _ _ => rfl))))
abbrev nm_use_of : List Str := ["site", "machine", "day", "uses"]
theorem sc_use_of : FnScope nm_use_of ["site", "machine", "day"] (defScope (top 33)) := ⟨rfl, rfl, rfl, by decide +kernel, rfl, by decide +kernel, by decide +kernel⟩
theorem c_use_of (B : Bl P K mg) (D : Dfn K mg "use_of" (top 33)) (C_uses_of : Cal false P w K mg base 3 "uses_of" (top 24) ["site", "machine"] WF.g_uses_of) (C_require_day : Cal false P w K mg base 3 "require_day" (top 28) ["day"] WF.g_require_day) (C_use_on : Cal false P w K mg base 1 "use_on" (top 31) ["uses", "day"] WF.g_use_on) : Cal false P w K mg base 4 "use_of" (top 33) ["site", "machine", "day"] WF.g_use_of := by
  refine cal_of (m := WF.m_use_of) D sc_use_of rfl rfl (fun _ _ _ _ _ _ us hl => match us, hl with | [_, _, _], _ => rfl) fun f cdv A outer s H hr hg => ?_
  have ND := sc_use_of.nd
  exact (dss_cons (ds_set (i := 3) ND rfl (.inl rfl) (dc_call C_uses_of hr (by decide) nog rfl (da_cons (vl 0) (da_cons (vl 1) da_nil)))) (dss_cons (ds_expr (dc_call C_require_day hr (by decide) nog rfl (da_cons (vl 2) da_nil))) (dss_one (ds_ret (dc_call C_use_on hr (by decide) nog rfl (da_cons (vl 3) (da_cons (vl 2) da_nil)))))))
theorem cx_use_of (B : Bl P K mg) (SB : StatB base) (D : Dfn K mg "use_of" (top 33)) (C_uses_of : Cal false P w K mg base 3 "uses_of" (top 24) ["site", "machine"] WF.g_uses_of) (X_uses_of : CalX false P w K mg base 4 "uses_of" (top 24) ["site", "machine"] WF.x_uses_of_f61634) (X_require_day : CalX false P w K mg base 3 "require_day" (top 28) ["day"] WF.x_require_day_3d2eb6) : CalX false P w K mg base 5 "use_of" (top 33) ["site", "machine", "day"] WF.x_use_of_c41b10 := by
  refine calX_of (k := 4) D sc_use_of rfl rfl (fun _ _ _ _ _ _ us hl => match us, hl with | [_, _, _], _ => rfl) fun f cdv A outer s H E hr hg => ?_
  have ND := sc_use_of.nd
  exact (xss_consN (xs_set (i := 3) ND rfl (.inl rfl) (xdc_call X_uses_of hr (by decide) nog rfl (da_cons (vl 0) (da_cons (vl 1) da_nil)))) (ds_set (i := 3) ND rfl (.inl rfl) (dc_call C_uses_of hr (by decide) nog rfl (da_cons (vl 0) (da_cons (vl 1) da_nil)))) (xss_last (xs_expr (xdc_call X_require_day hr (by decide) nog rfl (da_cons (vl 2) da_nil)))))
abbrev nm__law_second_site : List Str := ["_law_lot", "_law_some", "_law_deep", "_law_jobs"]
theorem sc__law_second_site : FnScope nm__law_second_site [] (defScope (top 45)) := ⟨rfl, rfl, rfl, by decide +kernel, rfl, by decide +kernel, by decide +kernel⟩
theorem c__law_second_site (B : Bl P K mg) (D : Dfn K mg "_law_second_site" (top 45))  : Cal false P w K mg base 1 "_law_second_site" (top 45) [] WF.g_second_site_k02 := by
  refine cal_of (m := WF.m_second_site_k02) D sc__law_second_site rfl rfl (fun _ _ _ _ _ _ us hl => match us, hl with | [], _ => rfl) fun f cdv A outer s H hr hg => ?_
  have ND := sc__law_second_site.nd
  exact (dss_cons (ds_set (i := 0) ND rfl (.inl rfl) (de_tup (da_cons (de_tup (da_cons de_str (da_cons (de_tup (da_cons (de_tup (da_cons de_int (da_cons de_int da_nil))) (da_cons (de_tup (da_cons de_int (da_cons de_int da_nil))) (da_cons (de_tup (da_cons de_int (da_cons de_int da_nil))) da_nil)))) da_nil))) (da_cons (de_tup (da_cons de_str (da_cons (de_tup (da_cons (de_tup (da_cons de_int (da_cons de_int da_nil))) da_nil)) da_nil))) da_nil)))) (dss_cons (ds_set (i := 1) ND rfl (.inl rfl) (de_tup (da_cons (de_tup (da_cons de_str (da_cons (de_tup (da_cons (de_tup (da_cons de_int (da_cons de_non da_nil))) (da_cons (de_tup (da_cons de_int (da_cons de_str da_nil))) (da_cons (de_tup (da_cons de_int (da_cons de_non da_nil))) (da_cons (de_tup (da_cons de_int (da_cons de_str da_nil))) da_nil))))) da_nil))) (da_cons (de_tup (da_cons de_str (da_cons (de_tup (da_cons (de_tup (da_cons de_int (da_cons de_str da_nil))) (da_cons (de_tup (da_cons de_int (da_cons de_str da_nil))) da_nil))) da_nil))) da_nil)))) (dss_cons (ds_set (i := 2) ND rfl (.inl rfl) (de_tup (da_cons de_str (da_cons (de_tup (da_cons (de_tup (da_cons de_str (da_cons (de_tup (da_cons (de_tup (da_cons de_str (da_cons de_int da_nil))) (da_cons (de_tup (da_cons de_str (da_cons (de_tup (da_cons (de_tup (da_cons de_str (da_cons de_int da_nil))) da_nil)) da_nil))) da_nil))) da_nil))) (da_cons (de_tup (da_cons de_str (da_cons de_int da_nil))) (da_cons (de_tup (da_cons de_str (da_cons de_int da_nil))) da_nil)))) da_nil)))) (dss_cons (ds_set (i := 3) ND rfl (.inl rfl) (de_tup (da_cons (de_tup (da_cons de_str (da_cons de_str (da_cons de_str (da_cons (vl 2) (da_cons (de_tup (da_cons de_int (da_cons de_int (da_cons de_int da_nil)))) da_nil)))))) (da_cons (de_tup (da_cons de_str (da_cons de_str (da_cons de_str (da_cons (de_tup (da_cons de_str (da_cons de_int da_nil))) (da_cons (de_tup (da_cons de_int (da_cons de_int (da_cons de_int da_nil)))) da_nil)))))) da_nil)))) (dss_one (ds_ret (de_tup (da_cons (vl 0) (da_cons (vl 1) (da_cons (de_op od_add (vl 3) (de_tup (da_cons (de_tup (da_cons de_str (da_cons de_str (da_cons de_str (da_cons (de_tup (da_cons de_str (da_cons (de_tup (da_cons (de_tup (da_cons de_str (da_cons de_int da_nil))) da_nil)) da_nil))) (da_cons (de_tup (da_cons de_int (da_cons de_int (da_cons de_int da_nil)))) da_nil)))))) da_nil))) da_nil))))))))))
abbrev nm_require_place : List Str := ["site", "place"]
theorem sc_require_place : FnScope nm_require_place ["site", "place"] (defScope (top 29)) := ⟨rfl, rfl, rfl, by decide +kernel, rfl, by decide +kernel, by decide +kernel⟩
theorem c_require_place (B : Bl P K mg) (D : Dfn K mg "require_place" (top 29)) (C_require_usable : Cal false P w K mg base 1 "require_usable" (top 18) ["truth", "word", "at"] WF.g_require_usable) (C_is_name : Cal false P w K mg base 1 "is_name" (top 5) ["thing"] WF.g_is_name) (C_machine_names : Cal false P w K mg base 1 "machine_names" (top 20) ["site"] WF.g_machine_names) : Cal false P w K mg base 2 "require_place" (top 29) ["site", "place"] WF.g_require_place := by
  refine cal_of (m := WF.m_require_place) D sc_require_place rfl rfl (fun _ _ _ _ _ _ us hl => match us, hl with | [_, _], _ => rfl) fun f cdv A outer s H hr hg => ?_
  have ND := sc_require_place.nd
  exact (dss_one (ds_expr (dc_call C_require_usable hr (by decide) nog rfl (da_cons (de_or (de_cmp od_is (vl 1) de_non (nomark _)) (de_and1 (de_and (dc_call C_is_name hr (by decide) nog rfl (da_cons (vl 1) da_nil)) (de_and1 (de_cmp (od_in hr.u65) (vl 1) (dc_call C_machine_names hr (by decide) nog rfl (da_cons (vl 0) da_nil)) rfl))))) (da_cons de_str (da_cons (de_neg de_int) da_nil))))))
theorem cx_require_place (B : Bl P K mg) (SB : StatB base) (D : Dfn K mg "require_place" (top 29)) (C_is_name : Cal false P w K mg base 1 "is_name" (top 5) ["thing"] WF.g_is_name) (C_machine_names : Cal false P w K mg base 1 "machine_names" (top 20) ["site"] WF.g_machine_names) (X_require_usable : CalX false P w K mg base 2 "require_usable" (top 18) ["truth", "word", "at"] WF.x_require_usable_ca6ef5) : CalX false P w K mg base 3 "require_place" (top 29) ["site", "place"] WF.x_require_place_6dfbd6 := by
  refine calX_of (k := 2) D sc_require_place rfl rfl (fun _ _ _ _ _ _ us hl => match us, hl with | [_, _], _ => rfl) fun f cdv A outer s H E hr hg => ?_
  have ND := sc_require_place.nd
  exact (xss_one (xs_expr (xdc_call X_require_usable hr (by decide) nog rfl (da_cons (de_or (de_cmp od_is (vl 1) de_non (nomark _)) (de_and1 (de_and (dc_call C_is_name hr (by decide) nog rfl (da_cons (vl 1) da_nil)) (de_and1 (de_cmp (od_in hr.u65) (vl 1) (dc_call C_machine_names hr (by decide) nog rfl (da_cons (vl 0) da_nil)) rfl))))) (da_cons de_str (da_cons (de_neg de_int) da_nil))))))
abbrev nm_parts_at : List Str := ["site", "place", "day", "name", "stays"]
theorem sc_parts_at : FnScope nm_parts_at ["site", "place", "day"] (defScope (top 34)) := ⟨rfl, rfl, rfl, by decide +kernel, rfl, by decide +kernel, by decide +kernel⟩
theorem c_parts_at (B : Bl P K mg) (D : Dfn K mg "parts_at" (top 34)) (C_require_place : Cal false P w K mg base 2 "require_place" (top 29) ["site", "place"] WF.g_require_place) (C_require_day : Cal false P w K mg base 3 "require_day" (top 28) ["day"] WF.g_require_day) (C_place_on : Cal false P w K mg base 1 "place_on" (top 30) ["stays", "day"] WF.g_place_on) : Cal false P w K mg base 4 "parts_at" (top 34) ["site", "place", "day"] WF.g_parts_at := by
  refine cal_of (m := WF.m_parts_at) D sc_parts_at rfl rfl (fun _ _ _ _ _ _ us hl => match us, hl with | [_, _, _], _ => rfl) fun f cdv A outer s H hr hg => ?_
  have ND := sc_parts_at.nd
  exact (dss_cons (ds_expr (dc_call C_require_place hr (by decide) nog rfl (da_cons (vl 0) (da_cons (vc 1) da_nil)))) (dss_cons (ds_expr (dc_call C_require_day hr (by decide) nog rfl (da_cons (vc 2) da_nil))) (dss_one (ds_ret (de_callTy cd_tuple rfl B.b_tuple bt_tuple (da_cons (de_lc (own := [("name", 3), ("stays", 4)]) rfl ND (di_seq (de_ix hr.u1 (vl 0) de_int (fun _ _ => rfl))) (blkOk_by (by kernel_rfl)) (dg_tup (fun _ => rfl) (fun _ => rfl) (dgs_cons (dg_name (fun _ => ND) (fun _ => rfl) (fun _ => .inl rfl) (by decide) (fun _ => .inr rfl)) (dgs_cons (dg_name (fun _ => ND) (fun _ => rfl) (fun _ => .inl rfl) (by decide) (fun _ => .inr rfl)) dgs_nil))) (fun _ _ _ _ _ => (dts_one (dt_cmp (od_eq hr.units) (dc_call C_place_on hr (by decide) nog rfl (da_cons (vl 4) (da_cons (vc 2) da_nil))) (vc 1) (nomark _)))) (fun _ _ _ _ _ => (vl 3))) da_nil))))))
theorem cx_parts_at (B : Bl P K mg) (SB : StatB base) (D : Dfn K mg "parts_at" (top 34)) (C_require_place : Cal false P w K mg base 2 "require_place" (top 29) ["site", "place"] WF.g_require_place) (X_require_place : CalX false P w K mg base 3 "require_place" (top 29) ["site", "place"] WF.x_require_place_6dfbd6) (X_require_day : CalX false P w K mg base 3 "require_day" (top 28) ["day"] WF.x_require_day_3d2eb6) : CalX false P w K mg base 4 "parts_at" (top 34) ["site", "place", "day"] WF.x_parts_at_158b9b := by
  refine calX_of (k := 3) D sc_parts_at rfl rfl (fun _ _ _ _ _ _ us hl => match us, hl with | [_, _, _], _ => rfl) fun f cdv A outer s H E hr hg => ?_
  have ND := sc_parts_at.nd
  exact (xss_consN (xs_expr (xdc_call X_require_place hr (by decide) nog rfl (da_cons (vl 0) (da_cons (vc 1) da_nil)))) (ds_expr (dc_call C_require_place hr (by decide) nog rfl (da_cons (vl 0) (da_cons (vc 1) da_nil)))) (xss_last (xs_expr (xdc_call X_require_day hr (by decide) nog rfl (da_cons (vc 2) da_nil)))))
abbrev nm_tasks_of : List Str := ["site", "part", "task"]
theorem sc_tasks_of : FnScope nm_tasks_of ["site", "part"] (defScope (top 35)) := ⟨rfl, rfl, rfl, by decide +kernel, rfl, by decide +kernel, by decide +kernel⟩
theorem c_tasks_of (B : Bl P K mg) (D : Dfn K mg "tasks_of" (top 35)) (C_index_among : Cal false P w K mg base 2 "index_among" (top 23) ["names", "name", "word"] WF.g_index_among) (C_part_names : Cal false P w K mg base 1 "part_names" (top 21) ["site"] WF.g_part_names) : Cal false P w K mg base 3 "tasks_of" (top 35) ["site", "part"] WF.g_tasks_of := by
  refine cal_of (m := WF.m_tasks_of) D sc_tasks_of rfl rfl (fun _ _ _ _ _ _ us hl => match us, hl with | [_, _], _ => rfl) fun f cdv A outer s H hr hg => ?_
  have ND := sc_tasks_of.nd
  exact (dss_cons (ds_expr (dc_call C_index_among hr (by decide) nog rfl (da_cons (dc_call C_part_names hr (by decide) nog rfl (da_cons (vl 0) da_nil)) (da_cons (vc 1) (da_cons de_str da_nil))))) (dss_one (ds_ret (de_callTy cd_tuple rfl B.b_tuple bt_tuple (da_cons (de_lc (own := [("task", 2)]) rfl ND (di_seq (de_ix hr.u1 (vl 0) de_int (fun _ _ => rfl))) (blkOk_by (by kernel_rfl)) (dg_name (fun _ => ND) (fun _ => rfl) (fun _ => .inl rfl) (by decide) (fun _ => .inr rfl)) (fun _ _ _ _ _ => (dts_one (dt_cmp (od_eq hr.units) (de_ix hr.u1 (vl 2) de_int (fun _ _ => rfl)) (vc 1) (nomark _)))) (fun _ _ _ _ _ => (de_ix hr.u1 (vl 2) de_int (fun _ _ => rfl)))) da_nil)))))
theorem cx_tasks_of (B : Bl P K mg) (SB : StatB base) (D : Dfn K mg "tasks_of" (top 35)) (C_part_names : Cal false P w K mg base 1 "part_names" (top 21) ["site"] WF.g_part_names) (X_index_among : CalX false P w K mg base 3 "index_among" (top 23) ["names", "name", "word"] WF.x_index_among_9b27d0) : CalX false P w K mg base 4 "tasks_of" (top 35) ["site", "part"] WF.x_tasks_of_d04af4 := by
  refine calX_of (k := 3) D sc_tasks_of rfl rfl (fun _ _ _ _ _ _ us hl => match us, hl with | [_, _], _ => rfl) fun f cdv A outer s H E hr hg => ?_
  have ND := sc_tasks_of.nd
  exact (xss_last (xs_expr (xdc_call X_index_among hr (by decide) nog rfl (da_cons (dc_call C_part_names hr (by decide) nog rfl (da_cons (vl 0) da_nil)) (da_cons (vc 1) (da_cons de_str da_nil))))))
abbrev nm__law_hand_right : List Str := ["_law_whole", "_law_told", "_law_at"]
theorem sc__law_hand_right : FnScope nm__law_hand_right [] (defScope (top 53)) := ⟨rfl, rfl, rfl, by decide +kernel, rfl, by decide +kernel, by decide +kernel⟩
theorem c__law_hand_right (B : Bl P K mg) (D : Dfn K mg "_law_hand_right" (top 53)) (C__law_second_site : Cal false P w K mg base 1 "_law_second_site" (top 45) [] WF.g_second_site_k02) (C_place_of : Cal false P w K mg base 4 "place_of" (top 32) ["site", "part", "day"] WF.g_place_of) (C_use_of : Cal false P w K mg base 4 "use_of" (top 33) ["site", "machine", "day"] WF.g_use_of) (C_parts_at : Cal false P w K mg base 4 "parts_at" (top 34) ["site", "place", "day"] WF.g_parts_at) (C_tasks_of : Cal false P w K mg base 3 "tasks_of" (top 35) ["site", "part"] WF.g_tasks_of) : Cal false P w K mg base 5 "_law_hand_right" (top 53) [] WF.g_hand_right_k04 := by
  refine cal_of (m := WF.m_hand_right_k04) D sc__law_hand_right rfl rfl (fun _ _ _ _ _ _ us hl => match us, hl with | [], _ => rfl) fun f cdv A outer s H hr hg => ?_
  have ND := sc__law_hand_right.nd
  exact (dss_cons (ds_set (i := 0) ND rfl (.inr rfl) (dc_call0 C__law_second_site hr (by decide) nog rfl)) (dss_cons (ds_setLc (own := [("_law_at", 2)]) (i := 1) rfl ND rfl rfl (sw_true rfl rfl rfl (by kernel_rfl)) (di_seq (de_tup (da_cons de_int (da_cons de_int (da_cons de_int (da_cons de_int (da_cons de_int (da_cons de_int da_nil)))))))) (blkOk_by (by kernel_rfl)) (dg_name (fun _ => ND) (fun _ => rfl) (fun _ => .inl rfl) (by decide) (fun _ => .inr rfl)) (fun _ _ _ _ _ => dts_nil) (fun _ _ _ _ _ => (dc_call C_place_of hr (by decide) nog rfl (da_cons (vc 0) (da_cons de_str (da_cons (vl 2) da_nil)))))) (dss_cons (ds_if (dt_cmp (od_ne hr.units) (vl 1) (de_lst (da_cons de_non (da_cons de_str (da_cons de_non (da_cons de_non (da_cons de_str (da_cons de_str da_nil))))))) (nomark _)) (dss_one (ds_ret de_bl)) dss_nil) (dss_cons (ds_if (dt_cmp (od_ne hr.units) (de_lc (own := [("_law_at", 2)]) rfl ND (di_seq (de_tup (da_cons de_int (da_cons de_int (da_cons de_int (da_cons de_int (da_cons (de_op od_pow de_int de_int) da_nil))))))) (blkOk_by (by kernel_rfl)) (dg_name (fun _ => ND) (fun _ => rfl) (fun _ => .inl rfl) (by decide) (fun _ => .inr rfl)) (fun _ _ _ _ _ => dts_nil) (fun _ _ _ _ _ => (dc_call C_use_of hr (by decide) nog rfl (da_cons (vc 0) (da_cons de_str (da_cons (vl 2) da_nil)))))) (de_lst (da_cons (de_tup (da_cons de_int (da_cons de_int da_nil))) (da_cons (de_tup (da_cons de_int (da_cons de_int da_nil))) (da_cons (de_tup (da_cons de_int (da_cons de_int da_nil))) (da_cons (de_tup (da_cons de_int (da_cons de_int da_nil))) (da_cons (de_tup (da_cons de_int (da_cons de_int da_nil))) da_nil)))))) (nomark _)) (dss_one (ds_ret de_bl)) dss_nil) (dss_cons (ds_setLc (own := [("_law_at", 2)]) (i := 1) rfl ND rfl rfl (sw_true rfl rfl rfl (by kernel_rfl)) (di_seq (de_tup (da_cons de_int (da_cons de_int (da_cons de_int (da_cons de_int da_nil)))))) (blkOk_by (by kernel_rfl)) (dg_name (fun _ => ND) (fun _ => rfl) (fun _ => .inl rfl) (by decide) (fun _ => .inr rfl)) (fun _ _ _ _ _ => dts_nil) (fun _ _ _ _ _ => (dc_call C_parts_at hr (by decide) nog rfl (da_cons (vc 0) (da_cons de_str (da_cons (vl 2) da_nil)))))) (dss_cons (ds_if (Dw.dt (dw_or (dt_cmp (od_ne hr.units) (vl 1) (de_lst (da_cons (de_tup da_nil) (da_cons (de_tup (da_cons de_str da_nil)) (da_cons (de_tup (da_cons de_str da_nil)) (da_cons (de_tup (da_cons de_str da_nil)) da_nil))))) (nomark _)) (dw_or1 (dt_cmp (od_ne hr.units) (dc_call C_parts_at hr (by decide) nog rfl (da_cons (vc 0) (da_cons de_non (da_cons de_int da_nil)))) (de_tup (da_cons de_str da_nil)) (nomark _))))) (dss_one (ds_ret de_bl)) dss_nil) (dss_one (ds_ret (de_cmp (od_eq hr.units) (de_lst (da_cons (dc_call C_tasks_of hr (by decide) nog rfl (da_cons (vc 0) (da_cons de_str da_nil))) (da_cons (dc_call C_tasks_of hr (by decide) nog rfl (da_cons (vc 0) (da_cons de_str da_nil))) da_nil))) (de_lst (da_cons (de_tup (da_cons de_str (da_cons de_str da_nil))) (da_cons (de_tup (da_cons de_str da_nil)) da_nil))) (nomark _))))))))))
abbrev nm__law_days_of : List Str := ["_law_whole", "_law_found", "_law_title", "_law_stays_in", "_law_at", "_law_where_in", "_law_rows_in"]
theorem sc__law_days_of : FnScope nm__law_days_of ["_law_whole"] (defScope (top 49)) := ⟨rfl, rfl, rfl, by decide +kernel, rfl, by decide +kernel, by decide +kernel⟩
theorem c__law_days_of (B : Bl P K mg) (D : Dfn K mg "_law_days_of" (top 49))  : Cal false P w K mg base 1 "_law_days_of" (top 49) ["_law_whole"] WF.g_days_of_k04 := by
  refine cal_of (m := WF.m_days_of_k04) D sc__law_days_of rfl rfl (fun _ _ _ _ _ _ us hl => match us, hl with | [_], _ => rfl) fun f cdv A outer s H hr hg => ?_
  have ND := sc__law_days_of.nd
  exact (dss_cons (ds_own (i := 1) ND rfl (.inl rfl) (da_cons de_int (da_cons de_int (da_cons de_int (da_cons (de_op od_pow de_int de_int) da_nil))))) (dss_cons (ds_for (vs := [2, 3]) PassesOwn.never rfl (di_seq (de_ix hr.u1 (vl 0) de_int (fun _ _ => rfl))) (dg_tup (fun _ => rfl) (fun _ => rfl) (dgs_cons (dg_name (fun _ => ND) (fun _ => rfl) (fun _ => .inl rfl) (by decide) (fun _ => .inl rfl)) (dgs_cons (dg_name (fun _ => ND) (fun _ => rfl) (fun _ => .inl rfl) (by decide) (fun _ => .inl rfl)) dgs_nil))) (dss_one (ds_for (vs := [4, 5]) PassesOwn.never rfl (di_seq (vl 3)) (dg_tup (fun _ => rfl) (fun _ => rfl) (dgs_cons (dg_name (fun _ => ND) (fun _ => rfl) (fun _ => .inl rfl) (by decide) (fun _ => .inl rfl)) (dgs_cons (dg_name (fun _ => ND) (fun _ => rfl) (fun _ => .inl rfl) (by decide) (fun _ => .inl rfl)) dgs_nil))) (dss_one (ds_extend rfl (.inl rfl) (de_lst (da_cons (de_callB (cd_max rfl) rfl B.b_max bt_max (da_cons de_int (da_cons (de_op od_sub (vl 4) de_int) da_nil))) (da_cons (vl 4) (da_cons (de_op od_add (vl 4) de_int) da_nil))))))))) (dss_frz 1 (dss_one (ds_ret (de_BT thn_setW (cr_sortedSet rfl) (cr_setIW rfl) rfl B.b_sorted bt_sorted rfl B.b_set bt_set (da_cons (de_op od_add (vl 1) (de_lc (own := [("_law_title", 2), ("_law_rows_in", 6)]) rfl ND (di_seq (de_ix hr.u1 (vl 0) de_int (fun _ _ => rfl))) (blkOk_by (by kernel_rfl)) (dg_tup (fun _ => rfl) (fun _ => rfl) (dgs_cons (dg_name (fun _ => ND) (fun _ => rfl) (fun _ => .inl rfl) (by decide) (fun _ => .inr rfl)) (dgs_cons (dg_name (fun _ => ND) (fun _ => rfl) (fun _ => .inl rfl) (by decide) (fun _ => .inr rfl)) dgs_nil))) (fun _ _ _ _ _ => dts_nil) (fun _ _ _ _ _ => (de_callB cd_len rfl B.b_len bt_len (da_cons (vl 6) da_nil))))) da_nil)))))))
abbrev nm__law_place : List Str := ["_law_stays_in", "_law_at", "_law_own"]
theorem sc__law_place : FnScope nm__law_place ["_law_stays_in", "_law_at"] (defScope (top 47)) := ⟨rfl, rfl, rfl, by decide +kernel, rfl, by decide +kernel, by decide +kernel⟩
theorem c__law_place (B : Bl P K mg) (D : Dfn K mg "_law_place" (top 47))  : Cal false P w K mg base 1 "_law_place" (top 47) ["_law_stays_in", "_law_at"] WF.g_place_k04 := by
  refine cal_of (m := WF.m_place_k04) D sc__law_place rfl rfl (fun _ _ _ _ _ _ us hl => match us, hl with | [_, _], _ => rfl) fun f cdv A outer s H hr hg => ?_
  have ND := sc__law_place.nd
  exact (dss_one (ds_ret (de_ix hr.u1 (de_lc (own := [("_law_own", 2)]) rfl ND (di_seq (vl 0)) (blkOk_by (by kernel_rfl)) (dg_name (fun _ => ND) (fun _ => rfl) (fun _ => .inl rfl) (by decide) (fun _ => .inr rfl)) (fun _ _ _ _ _ => (dts_one (dt_cmp od_le (de_ix hr.u1 (vl 2) de_int (fun _ _ => rfl)) (vc 1) (nomark _)))) (fun _ _ _ _ _ => (de_ix hr.u1 (vl 2) de_int (fun _ _ => rfl)))) (de_neg de_int) (fun _ _ => rfl))))
abbrev nm__law_use : List Str := ["_law_lot", "_law_title", "_law_at", "_law_rows_in"]
theorem sc__law_use : FnScope nm__law_use ["_law_lot", "_law_title", "_law_at"] (defScope (top 48)) := ⟨rfl, rfl, rfl, by decide +kernel, rfl, by decide +kernel, by decide +kernel⟩
theorem c__law_use (B : Bl P K mg) (D : Dfn K mg "_law_use" (top 48))  : Cal false P w K mg base 1 "_law_use" (top 48) ["_law_lot", "_law_title", "_law_at"] WF.g_use_k04 := by
  refine cal_of (m := WF.m_use_k04) D sc__law_use rfl rfl (fun _ _ _ _ _ _ us hl => match us, hl with | [_, _, _], _ => rfl) fun f cdv A outer s H hr hg => ?_
  have ND := sc__law_use.nd
  exact (dss_cons (ds_if (dt_cmp od_is (vl 1) de_non (nomark _)) (dss_one (ds_ret (de_tup (da_cons de_int (da_cons de_int da_nil))))) dss_nil) (dss_cons (ds_set (i := 3) ND rfl (.inl rfl) (de_ix hr.u1 (de_callTy (cd_dict rfl) rfl B.b_dict bt_dict (da_cons (vl 0) da_nil)) (vl 1) (fun _ _ => rfl))) (dss_one (ds_ret (de_ix hr.u1 (vl 3) (de_callB (cd_min rfl) rfl B.b_min bt_min (da_cons (vl 2) (da_cons (de_op od_sub (de_callB cd_len rfl B.b_len bt_len (da_cons (vl 3) da_nil)) de_int) da_nil))) (fun _ _ => rfl))))))
abbrev nm__law_days_right : List Str := ["_law_whole", "_law_at", "_law_where", "_law_engine", "_law_rows_in", "_law_where_in", "_law_due_in", "_law_title", "_law_stays_in", "_law_own"]
theorem sc__law_days_right : FnScope nm__law_days_right ["_law_whole"] (defScope (top 50)) := ⟨rfl, rfl, rfl, by decide +kernel, rfl, by decide +kernel, by decide +kernel⟩
theorem c__law_days_right (B : Bl P K mg) (D : Dfn K mg "_law_days_right" (top 50)) (C__law_days_of : Cal false P w K mg base 1 "_law_days_of" (top 49) ["_law_whole"] WF.g_days_of_k04) (C__law_place : Cal false P w K mg base 1 "_law_place" (top 47) ["_law_stays_in", "_law_at"] WF.g_place_k04) (C_place_of : Cal false P w K mg base 4 "place_of" (top 32) ["site", "part", "day"] WF.g_place_of) (C_use_of : Cal false P w K mg base 4 "use_of" (top 33) ["site", "machine", "day"] WF.g_use_of) (C__law_use : Cal false P w K mg base 1 "_law_use" (top 48) ["_law_lot", "_law_title", "_law_at"] WF.g_use_k04) (C_parts_at : Cal false P w K mg base 4 "parts_at" (top 34) ["site", "place", "day"] WF.g_parts_at) : Cal true P w K mg base 5 "_law_days_right" (top 50) ["_law_whole"] WF.g_days_right_k04 := by
  refine cal_of (m := WF.m_days_right_k04) D sc__law_days_right rfl rfl (fun _ _ _ _ _ _ us hl => match us, hl with | [_], _ => rfl) fun f cdv A outer s H hr hg => ?_
  have ND := sc__law_days_right.nd
  exact (dss_cons (ds_for (vs := [1]) PassesOwn.never rfl (di_seq (dc_call C__law_days_of hr (by decide) nog rfl (da_cons (vc 0) da_nil))) (dg_name (fun _ => ND) (fun _ => rfl) (fun _ => .inr rfl) (by decide) (fun _ => .inl rfl)) (dss_cons (ds_setLc (own := [("_law_title", 7), ("_law_stays_in", 8)]) (i := 2) rfl ND rfl rfl (sw_true rfl rfl rfl (by kernel_rfl)) (di_seq (de_ix hr.u1 (vc 0) de_int (fun _ _ => rfl))) (blkOk_by (by kernel_rfl)) (dg_tup (fun _ => rfl) (fun _ => rfl) (dgs_cons (dg_name (fun _ => ND) (fun _ => rfl) (fun _ => .inl rfl) (by decide) (fun _ => .inr rfl)) (dgs_cons (dg_name (fun _ => ND) (fun _ => rfl) (fun _ => .inl rfl) (by decide) (fun _ => .inr rfl)) dgs_nil))) (fun _ _ _ _ _ => dts_nil) (fun _ _ _ _ _ => (de_tup (da_cons (vl 7) (da_cons (dc_call C__law_place hr (by decide) nog rfl (da_cons (vl 8) (da_cons (vc 1) da_nil))) da_nil))))) (dss_cons (ds_if (dt_cmp (od_ne hr.units) (de_callB (cd_repr (hg rfl) hr.u66) rfl B.b_repr bt_repr (da_cons (de_lc (own := [("_law_own", 9)]) rfl ND (di_seq (vl 2)) (blkOk_by (by kernel_rfl)) (dg_name (fun _ => ND) (fun _ => rfl) (fun _ => .inl rfl) (by decide) (fun _ => .inr rfl)) (fun _ _ _ _ _ => dts_nil) (fun _ _ _ _ _ => (dc_call C_place_of hr (by decide) nog rfl (da_cons (vc 0) (da_cons (de_ix hr.u1 (vl 9) de_int (fun _ _ => rfl)) (da_cons (vc 1) da_nil)))))) da_nil)) (de_callB (cd_repr (hg rfl) hr.u66) rfl B.b_repr bt_repr (da_cons (de_lc (own := [("_law_own", 9)]) rfl ND (di_seq (vl 2)) (blkOk_by (by kernel_rfl)) (dg_name (fun _ => ND) (fun _ => rfl) (fun _ => .inl rfl) (by decide) (fun _ => .inr rfl)) (fun _ _ _ _ _ => dts_nil) (fun _ _ _ _ _ => (de_ix hr.u1 (vl 9) de_int (fun _ _ => rfl)))) da_nil)) (nomark _)) (dss_one (ds_ret de_bl)) dss_nil) (dss_cons (ds_for (vs := [3, 4]) PassesOwn.never rfl (di_seq (de_ix hr.u1 (vc 0) de_int (fun _ _ => rfl))) (dg_tup (fun _ => rfl) (fun _ => rfl) (dgs_cons (dg_name (fun _ => ND) (fun _ => rfl) (fun _ => .inl rfl) (by decide) (fun _ => .inl rfl)) (dgs_cons (dg_name (fun _ => ND) (fun _ => rfl) (fun _ => .inl rfl) (by decide) (fun _ => .inl rfl)) dgs_nil))) (dss_one (ds_if (dt_cmp (od_ne hr.units) (de_callB (cd_repr (hg rfl) hr.u66) rfl B.b_repr bt_repr (da_cons (dc_call C_use_of hr (by decide) nog rfl (da_cons (vc 0) (da_cons (vl 3) (da_cons (vc 1) da_nil)))) da_nil)) (de_callB (cd_repr (hg rfl) hr.u66) rfl B.b_repr bt_repr (da_cons (dc_call C__law_use hr (by decide) nog rfl (da_cons (de_ix hr.u1 (vc 0) de_int (fun _ _ => rfl)) (da_cons (vl 3) (da_cons (vc 1) da_nil)))) da_nil)) (nomark _)) (dss_one (ds_ret de_bl)) dss_nil))) (dss_one (ds_for (vs := [5]) PassesOwn.never rfl (di_seq (de_op od_add (de_lc (own := [("_law_engine", 3), ("_law_rows_in", 4)]) rfl ND (di_seq (de_ix hr.u1 (vc 0) de_int (fun _ _ => rfl))) (blkOk_by (by kernel_rfl)) (dg_tup (fun _ => rfl) (fun _ => rfl) (dgs_cons (dg_name (fun _ => ND) (fun _ => rfl) (fun _ => .inl rfl) (by decide) (fun _ => .inr rfl)) (dgs_cons (dg_name (fun _ => ND) (fun _ => rfl) (fun _ => .inl rfl) (by decide) (fun _ => .inr rfl)) dgs_nil))) (fun _ _ _ _ _ => dts_nil) (fun _ _ _ _ _ => (vl 3))) (de_lst (da_cons de_non da_nil)))) (dg_name (fun _ => ND) (fun _ => rfl) (fun _ => .inr rfl) (by decide) (fun _ => .inl rfl)) (dss_cons (ds_set (i := 6) ND rfl (.inl rfl) (de_callTy cd_tuple rfl B.b_tuple bt_tuple (da_cons (de_lc (own := [("_law_title", 7), ("_law_own", 9)]) rfl ND (di_seq (vl 2)) (blkOk_by (by kernel_rfl)) (dg_tup (fun _ => rfl) (fun _ => rfl) (dgs_cons (dg_name (fun _ => ND) (fun _ => rfl) (fun _ => .inl rfl) (by decide) (fun _ => .inr rfl)) (dgs_cons (dg_name (fun _ => ND) (fun _ => rfl) (fun _ => .inl rfl) (by decide) (fun _ => .inr rfl)) dgs_nil))) (fun _ _ _ _ _ => (dts_one (dt_cmp (od_eq hr.units) (vl 9) (vc 5) (nomark _)))) (fun _ _ _ _ _ => (vl 7))) da_nil))) (dss_one (ds_if (dt_cmp (od_ne hr.units) (de_callB (cd_repr (hg rfl) hr.u66) rfl B.b_repr bt_repr (da_cons (dc_call C_parts_at hr (by decide) nog rfl (da_cons (vc 0) (da_cons (vc 5) (da_cons (vc 1) da_nil)))) da_nil)) (de_callB (cd_repr (hg rfl) hr.u66) rfl B.b_repr bt_repr (da_cons (vl 6) da_nil)) (nomark _)) (dss_one (ds_ret de_bl)) dss_nil))))))))) (dss_one (ds_ret de_bl)))
abbrev nm__law_wide_right : List Str := ["_law_stays_in", "_law_some", "_law_whole", "_law_k", "_law_at"]
theorem sc__law_wide_right : FnScope nm__law_wide_right [] (defScope (top 54)) := ⟨rfl, rfl, rfl, by decide +kernel, rfl, by decide +kernel, by decide +kernel⟩
theorem c__law_wide_right (B : Bl P K mg) (D : Dfn K mg "_law_wide_right" (top 54)) (C__law_days_right : Cal true P w K mg base 5 "_law_days_right" (top 50) ["_law_whole"] WF.g_days_right_k04) (C_parts_at : Cal false P w K mg base 4 "parts_at" (top 34) ["site", "place", "day"] WF.g_parts_at) (C_use_of : Cal false P w K mg base 4 "use_of" (top 33) ["site", "machine", "day"] WF.g_use_of) (C_place_of : Cal false P w K mg base 4 "place_of" (top 32) ["site", "part", "day"] WF.g_place_of) : Cal true P w K mg base 6 "_law_wide_right" (top 54) [] WF.g_wide_right_k04 := by
  refine cal_of (m := WF.m_wide_right_k04) D sc__law_wide_right rfl rfl (fun _ _ _ _ _ _ us hl => match us, hl with | [], _ => rfl) fun f cdv A outer s H hr hg => ?_
  have ND := sc__law_wide_right.nd
  exact (dss_cons (ds_set (i := 0) ND rfl (.inr rfl) (de_callTy cd_tuple rfl B.b_tuple bt_tuple (da_cons (de_lc (own := [("_law_k", 3)]) rfl ND (di_range1 rfl B.b_range (da_cons de_int da_nil)) (blkOk_by (by kernel_rfl)) (dg_name (fun _ => ND) (fun _ => rfl) (fun _ => .inl rfl) (by decide) (fun _ => .inr rfl)) (fun _ _ _ _ _ => dts_nil) (fun _ _ _ _ _ => (de_tup (da_cons (de_op od_mul de_int (vl 3)) (da_cons (de_ix hr.u1 (de_lst (da_cons de_str (da_cons de_non da_nil))) (de_op od_mod (de_callTy cd_int rfl B.b_int bt_int (da_cons (vl 3) da_nil)) de_int) (fun _ _ => rfl)) da_nil))))) da_nil))) (dss_cons (ds_set (i := 1) ND rfl (.inl rfl) (de_callTy cd_tuple rfl B.b_tuple bt_tuple (da_cons (de_lc (own := [("_law_k", 3)]) rfl ND (di_range1 rfl B.b_range (da_cons de_int da_nil)) (blkOk_by (by kernel_rfl)) (dg_name (fun _ => ND) (fun _ => rfl) (fun _ => .inl rfl) (by decide) (fun _ => .inr rfl)) (fun _ _ _ _ _ => dts_nil) (fun _ _ _ _ _ => (de_tup (da_cons (de_ix hr.u1 de_str (vl 3) (fun _ _ => rfl)) (da_cons (de_slice (vc 0) do_none (do_some (de_op od_sub de_int (vl 3)))) da_nil))))) da_nil))) (dss_cons (ds_set (i := 2) ND rfl (.inr rfl) (de_tup (da_cons (de_tup (da_cons (de_tup (da_cons de_str (da_cons (de_callTy cd_tuple rfl B.b_tuple bt_tuple (da_cons (de_lc (own := [("_law_k", 3)]) rfl ND (di_range1 rfl B.b_range (da_cons de_int da_nil)) (blkOk_by (by kernel_rfl)) (dg_name (fun _ => ND) (fun _ => rfl) (fun _ => .inl rfl) (by decide) (fun _ => .inr rfl)) (fun _ _ _ _ _ => dts_nil) (fun _ _ _ _ _ => (de_tup (da_cons (vl 3) (da_cons (de_op od_sub de_int (vl 3)) da_nil))))) da_nil)) da_nil))) da_nil)) (da_cons (vl 1) (da_cons (de_tup da_nil) da_nil))))) (dss_cons (ds_if (Dw.dt (dw_or (dt_not (dt_truth (dc_call C__law_days_right hr (by decide) hg rfl (da_cons (vc 2) da_nil)))) (dw_or1 (dt_cmp (od_ne hr.units) (dc_call C_parts_at hr (by decide) nog rfl (da_cons (vc 2) (da_cons de_str (da_cons de_int da_nil)))) (de_tup (da_cons de_str (da_cons de_str (da_cons de_str (da_cons de_str (da_cons de_str da_nil)))))) (nomark _))))) (dss_one (ds_ret de_bl)) dss_nil) (dss_cons (ds_if (dt_cmp (od_ne hr.units) (de_lc (own := [("_law_at", 4)]) rfl ND (di_seq (de_tup (da_cons de_int (da_cons de_int (da_cons de_int da_nil))))) (blkOk_by (by kernel_rfl)) (dg_name (fun _ => ND) (fun _ => rfl) (fun _ => .inl rfl) (by decide) (fun _ => .inr rfl)) (fun _ _ _ _ _ => dts_nil) (fun _ _ _ _ _ => (dc_call C_use_of hr (by decide) nog rfl (da_cons (vc 2) (da_cons de_str (da_cons (vl 4) da_nil)))))) (de_lst (da_cons (de_tup (da_cons de_int (da_cons de_int da_nil))) (da_cons (de_tup (da_cons de_int (da_cons de_int da_nil))) (da_cons (de_tup (da_cons de_int (da_cons de_int da_nil))) da_nil)))) (nomark _)) (dss_one (ds_ret de_bl)) dss_nil) (dss_one (ds_ret (de_cmp (od_eq hr.units) (de_lc (own := [("_law_at", 4)]) rfl ND (di_seq (de_tup (da_cons de_int (da_cons de_int (da_cons de_int (da_cons de_int (da_cons de_int da_nil))))))) (blkOk_by (by kernel_rfl)) (dg_name (fun _ => ND) (fun _ => rfl) (fun _ => .inl rfl) (by decide) (fun _ => .inr rfl)) (fun _ _ _ _ _ => dts_nil) (fun _ _ _ _ _ => (dc_call C_place_of hr (by decide) nog rfl (da_cons (vc 2) (da_cons de_str (da_cons (vl 4) da_nil)))))) (de_lst (da_cons de_str (da_cons de_non (da_cons de_str (da_cons de_non (da_cons de_non da_nil)))))) (nomark _)))))))))
abbrev nm_task_names : List Str := ["site", "task"]
theorem sc_task_names : FnScope nm_task_names ["site"] (defScope (top 22)) := ⟨rfl, rfl, rfl, by decide +kernel, rfl, by decide +kernel, by decide +kernel⟩
theorem c_task_names (B : Bl P K mg) (D : Dfn K mg "task_names" (top 22))  : Cal false P w K mg base 1 "task_names" (top 22) ["site"] WF.g_task_names := by
  refine cal_of (m := WF.m_task_names) D sc_task_names rfl rfl (fun _ _ _ _ _ _ us hl => match us, hl with | [_], _ => rfl) fun f cdv A outer s H hr hg => ?_
  have ND := sc_task_names.nd
  exact (dss_one (ds_ret (de_lc (own := [("task", 1)]) rfl ND (di_seq (de_ix hr.u1 (vl 0) de_int (fun _ _ => rfl))) (blkOk_by (by kernel_rfl)) (dg_name (fun _ => ND) (fun _ => rfl) (fun _ => .inl rfl) (by decide) (fun _ => .inr rfl)) (fun _ _ _ _ _ => dts_nil) (fun _ _ _ _ _ => (de_ix hr.u1 (vl 1) de_int (fun _ _ => rfl))))))
abbrev nm_number_of : List Str := ["site", "name"]
theorem sc_number_of : FnScope nm_number_of ["site", "name"] (defScope (top 26)) := ⟨rfl, rfl, rfl, by decide +kernel, rfl, by decide +kernel, by decide +kernel⟩
theorem c_number_of (B : Bl P K mg) (D : Dfn K mg "number_of" (top 26)) (C_index_among : Cal false P w K mg base 2 "index_among" (top 23) ["names", "name", "word"] WF.g_index_among) (C_task_names : Cal false P w K mg base 1 "task_names" (top 22) ["site"] WF.g_task_names) : Cal false P w K mg base 3 "number_of" (top 26) ["site", "name"] WF.g_number_of := by
  refine cal_of (m := WF.m_number_of) D sc_number_of rfl rfl (fun _ _ _ _ _ _ us hl => match us, hl with | [_, _], _ => rfl) fun f cdv A outer s H hr hg => ?_
  have ND := sc_number_of.nd
  exact (dss_one (ds_ret (dc_call C_index_among hr (by decide) nog rfl (da_cons (dc_call C_task_names hr (by decide) nog rfl (da_cons (vl 0) da_nil)) (da_cons (vl 1) (da_cons de_str da_nil))))))
theorem cx_number_of (B : Bl P K mg) (SB : StatB base) (D : Dfn K mg "number_of" (top 26)) (C_task_names : Cal false P w K mg base 1 "task_names" (top 22) ["site"] WF.g_task_names) (X_index_among : CalX false P w K mg base 3 "index_among" (top 23) ["names", "name", "word"] WF.x_index_among_9b27d0) : CalX false P w K mg base 4 "number_of" (top 26) ["site", "name"] WF.x_number_of_f03686 := by
  refine calX_of (k := 3) D sc_number_of rfl rfl (fun _ _ _ _ _ _ us hl => match us, hl with | [_, _], _ => rfl) fun f cdv A outer s H E hr hg => ?_
  have ND := sc_number_of.nd
  exact (xss_one (xs_ret (xdc_call X_index_among hr (by decide) nog rfl (da_cons (dc_call C_task_names hr (by decide) nog rfl (da_cons (vl 0) da_nil)) (da_cons (vl 1) (da_cons de_str da_nil))))))
abbrev nm_task_of : List Str := ["site", "name"]
theorem sc_task_of : FnScope nm_task_of ["site", "name"] (defScope (top 27)) := ⟨rfl, rfl, rfl, by decide +kernel, rfl, by decide +kernel, by decide +kernel⟩
theorem c_task_of (B : Bl P K mg) (D : Dfn K mg "task_of" (top 27)) (C_number_of : Cal false P w K mg base 3 "number_of" (top 26) ["site", "name"] WF.g_number_of) : Cal false P w K mg base 4 "task_of" (top 27) ["site", "name"] WF.g_task_of := by
  refine cal_of (m := WF.m_task_of) D sc_task_of rfl rfl (fun _ _ _ _ _ _ us hl => match us, hl with | [_, _], _ => rfl) fun f cdv A outer s H hr hg => ?_
  have ND := sc_task_of.nd
  exact (dss_one (ds_ret (de_ix hr.u1 (de_ix hr.u1 (vl 0) de_int (fun _ _ => rfl)) (dc_call C_number_of hr (by decide) nog rfl (da_cons (vl 0) (da_cons (vl 1) da_nil))) (fun _ _ => rfl))))
theorem cx_task_of (B : Bl P K mg) (SB : StatB base) (D : Dfn K mg "task_of" (top 27)) (X_number_of : CalX false P w K mg base 4 "number_of" (top 26) ["site", "name"] WF.x_number_of_f03686) : CalX false P w K mg base 5 "task_of" (top 27) ["site", "name"] WF.x_task_of_af8e3b := by
  refine calX_of (k := 4) D sc_task_of rfl rfl (fun _ _ _ _ _ _ us hl => match us, hl with | [_, _], _ => rfl) fun f cdv A outer s H E hr hg => ?_
  have ND := sc_task_of.nd
  exact (xss_one (xs_ret (xe_ix xe_no (de_ix hr.u1 (vl 0) de_int (fun _ _ => rfl)) (xdc_call X_number_of hr (by decide) nog rfl (da_cons (vl 0) (da_cons (vl 1) da_nil))))))
abbrev nm_part_of : List Str := ["site", "name"]
theorem sc_part_of : FnScope nm_part_of ["site", "name"] (defScope (top 36)) := ⟨rfl, rfl, rfl, by decide +kernel, rfl, by decide +kernel, by decide +kernel⟩
theorem c_part_of (B : Bl P K mg) (D : Dfn K mg "part_of" (top 36)) (C_task_of : Cal false P w K mg base 4 "task_of" (top 27) ["site", "name"] WF.g_task_of) : Cal false P w K mg base 5 "part_of" (top 36) ["site", "name"] WF.g_part_of := by
  refine cal_of (m := WF.m_part_of) D sc_part_of rfl rfl (fun _ _ _ _ _ _ us hl => match us, hl with | [_, _], _ => rfl) fun f cdv A outer s H hr hg => ?_
  have ND := sc_part_of.nd
  exact (dss_one (ds_ret (de_ix hr.u1 (dc_call C_task_of hr (by decide) nog rfl (da_cons (vl 0) (da_cons (vl 1) da_nil))) de_int (fun _ _ => rfl))))
theorem cx_part_of (B : Bl P K mg) (SB : StatB base) (D : Dfn K mg "part_of" (top 36)) (C_task_of : Cal false P w K mg base 4 "task_of" (top 27) ["site", "name"] WF.g_task_of) (X_task_of : CalX false P w K mg base 5 "task_of" (top 27) ["site", "name"] WF.x_task_of_af8e3b) : CalX false P w K mg base 6 "part_of" (top 36) ["site", "name"] WF.x_part_of_075258 := by
  refine calX_of (k := 5) D sc_part_of rfl rfl (fun _ _ _ _ _ _ us hl => match us, hl with | [_, _], _ => rfl) fun f cdv A outer s H E hr hg => ?_
  have ND := sc_part_of.nd
  exact (xss_one (xs_ret (xe_ix (xdc_call X_task_of hr (by decide) nog rfl (da_cons (vl 0) (da_cons (vl 1) da_nil))) (dc_call C_task_of hr (by decide) nog rfl (da_cons (vl 0) (da_cons (vl 1) da_nil))) xe_no)))
abbrev nm__law_names_right : List Str := ["_law_whole", "_law_title", "_law_stays_in", "_law_k", "_law_owner", "_law_own"]
theorem sc__law_names_right : FnScope nm__law_names_right ["_law_whole"] (defScope (top 51)) := ⟨rfl, rfl, rfl, by decide +kernel, rfl, by decide +kernel, by decide +kernel⟩
theorem c__law_names_right (B : Bl P K mg) (D : Dfn K mg "_law_names_right" (top 51)) (C_tasks_of : Cal false P w K mg base 3 "tasks_of" (top 35) ["site", "part"] WF.g_tasks_of) (C_part_of : Cal false P w K mg base 5 "part_of" (top 36) ["site", "name"] WF.g_part_of) (C_number_of : Cal false P w K mg base 3 "number_of" (top 26) ["site", "name"] WF.g_number_of) : Cal true P w K mg base 6 "_law_names_right" (top 51) ["_law_whole"] WF.g_names_right_k04 := by
  refine cal_of (m := WF.m_names_right_k04) D sc__law_names_right rfl rfl (fun _ _ _ _ _ _ us hl => match us, hl with | [_], _ => rfl) fun f cdv A outer s H hr hg => ?_
  have ND := sc__law_names_right.nd
  exact (dss_cons (ds_for (vs := [1, 2]) PassesOwn.never rfl (di_seq (de_ix hr.u1 (vl 0) de_int (fun _ _ => rfl))) (dg_tup (fun _ => rfl) (fun _ => rfl) (dgs_cons (dg_name (fun _ => ND) (fun _ => rfl) (fun _ => .inr rfl) (by decide) (fun _ => .inl rfl)) (dgs_cons (dg_name (fun _ => ND) (fun _ => rfl) (fun _ => .inl rfl) (by decide) (fun _ => .inl rfl)) dgs_nil))) (dss_one (ds_if (dt_cmp (od_ne hr.units) (de_callB (cd_repr (hg rfl) hr.u66) rfl B.b_repr bt_repr (da_cons (dc_call C_tasks_of hr (by decide) nog rfl (da_cons (vl 0) (da_cons (vc 1) da_nil))) da_nil)) (de_callB (cd_repr (hg rfl) hr.u66) rfl B.b_repr bt_repr (da_cons (de_callTy cd_tuple rfl B.b_tuple bt_tuple (da_cons (de_lc (own := [("_law_own", 5)]) rfl ND (di_seq (de_ix hr.u1 (vl 0) de_int (fun _ _ => rfl))) (blkOk_by (by kernel_rfl)) (dg_name (fun _ => ND) (fun _ => rfl) (fun _ => .inl rfl) (by decide) (fun _ => .inr rfl)) (fun _ _ _ _ _ => (dts_one (dt_cmp (od_eq hr.units) (de_ix hr.u1 (vl 5) de_int (fun _ _ => rfl)) (vc 1) (nomark _)))) (fun _ _ _ _ _ => (de_ix hr.u1 (vl 5) de_int (fun _ _ => rfl)))) da_nil)) da_nil)) (nomark _)) (dss_one (ds_ret de_bl)) dss_nil))) (dss_cons (ds_for (vs := [3]) PassesOwn.never rfl (di_range1 rfl B.b_range (da_cons (de_callB cd_len rfl B.b_len bt_len (da_cons (de_ix hr.u1 (vl 0) de_int (fun _ _ => rfl)) da_nil)) da_nil)) (dg_name (fun _ => ND) (fun _ => rfl) (fun _ => .inl rfl) (by decide) (fun _ => .inl rfl)) (dss_cons (ds_asg (vs := [1, 4]) (de_slice (de_ix hr.u1 (de_ix hr.u1 (vl 0) de_int (fun _ _ => rfl)) (vl 3) (fun _ _ => rfl)) do_none (do_some de_int)) (dg_tup (fun _ => rfl) (fun _ => rfl) (dgs_cons (dg_name (fun _ => ND) (fun _ => rfl) (fun _ => .inr rfl) (by decide) (fun _ => .inl rfl)) (dgs_cons (dg_name (fun _ => ND) (fun _ => rfl) (fun _ => .inl rfl) (by decide) (fun _ => .inl rfl)) dgs_nil)))) (dss_one (ds_if (dt_cmp (od_ne hr.units) (de_callB (cd_repr (hg rfl) hr.u66) rfl B.b_repr bt_repr (da_cons (de_lst (da_cons (dc_call C_part_of hr (by decide) nog rfl (da_cons (vl 0) (da_cons (vc 1) da_nil))) (da_cons (dc_call C_number_of hr (by decide) nog rfl (da_cons (vl 0) (da_cons (vc 1) da_nil))) da_nil))) da_nil)) (de_callB (cd_repr (hg rfl) hr.u66) rfl B.b_repr bt_repr (da_cons (de_lst (da_cons (vl 4) (da_cons (vl 3) da_nil))) da_nil)) (nomark _)) (dss_one (ds_ret de_bl)) dss_nil)))) (dss_one (ds_ret de_bl))))
abbrev nm__law_heard : List Str := ["_law_ask", "e_in", "_law_families", "_law_good"]
theorem sc__law_heard : FnScope nm__law_heard ["_law_ask"] (defScope (top 46)) := ⟨rfl, rfl, rfl, by decide +kernel, rfl, by decide +kernel, by decide +kernel⟩
theorem k__law_heard (B : Bl P K mg) (D : Dfn K mg "_law_heard" (top 46)) : CatchD P w K mg 1 "_law_heard" (top 46) "told" ["NotUsable"] WF.g_heard_k02 := by
  refine catchS_of2 (Ng := nm__law_heard) (W := "WhichError") (nm := "e_in") (a := "_law_ask") (m := WF.m_heard_k02) D sc__law_heard (fun _ _ _ _ _ _ us hl => match us, hl with | [_], _ => rfl) rfl (fun X e1 e2 e3 e4 g cdg s H b oe pn hr => ?_) B.y_WhichError (List.forall_mem_cons.mpr ⟨⟨B.y_NotUsable, B.cl_NotUsable.ex, B.cl_NotUsable.ni⟩, (fun _ h => nomatch h)⟩)
  subst e1 e2 e3 e4
  have ND := sc__law_heard.nd
  exact (dss_cons (ds_own (i := 2) ND rfl (.inl rfl) (da_cons (de_isX (tbl := [("NotUsable", false)]) rfl B.b_isinstance rfl B.y_PaperError (List.forall_mem_cons.mpr ⟨⟨B.cl_NotUsable.xi, B.is_NotUsable_PaperError⟩, (fun _ h => nomatch h)⟩) (vl 1)) (da_cons (de_isX (tbl := [("NotUsable", true)]) rfl B.b_isinstance rfl B.y_SiteError (List.forall_mem_cons.mpr ⟨⟨B.cl_NotUsable.xi, B.is_NotUsable_SiteError⟩, (fun _ h => nomatch h)⟩) (vl 1)) da_nil))) (dss_cons (ds_extend rfl (.inl rfl) (de_lst (da_cons (de_isX (tbl := [("NotUsable", false)]) rfl B.b_isinstance rfl B.y_BookError (List.forall_mem_cons.mpr ⟨⟨B.cl_NotUsable.xi, B.is_NotUsable_BookError⟩, (fun _ h => nomatch h)⟩) (vl 1)) (da_cons (de_isX (tbl := [("NotUsable", false)]) rfl B.b_isinstance rfl B.y_TextError (List.forall_mem_cons.mpr ⟨⟨B.cl_NotUsable.xi, B.is_NotUsable_TextError⟩, (fun _ h => nomatch h)⟩) (vl 1)) da_nil)))) (dss_frz 2 (dss_cons (ds_if (Dw.dt (dw_and (dt_cmp (od_eq hr.units) (vl 2) (de_lst (da_cons de_bl (da_cons de_bl (da_cons de_bl (da_cons de_bl da_nil))))) (nomark _)) (dw_and1 (dt_truth (de_isX (tbl := [("NotUsable", false)]) rfl B.b_isinstance rfl B.y_InvalidPaper (List.forall_mem_cons.mpr ⟨⟨B.cl_NotUsable.xi, B.is_NotUsable_InvalidPaper⟩, (fun _ h => nomatch h)⟩) (vl 1)))))) (dss_one (ds_ret (de_tup (da_cons de_str (da_cons (de_xf (cs := ["NotUsable"]) (List.forall_mem_cons.mpr ⟨⟨B.cl_NotUsable.xi, B.cl_NotUsable.fa⟩, (fun _ h => nomatch h)⟩) (vl 1)) (da_cons (de_xf (cs := ["NotUsable"]) (List.forall_mem_cons.mpr ⟨⟨B.cl_NotUsable.xi, B.cl_NotUsable.fb⟩, (fun _ h => nomatch h)⟩) (vl 1)) da_nil)))))) dss_nil) (dss_cons (ds_if (dt_cmp (od_eq hr.units) (vl 2) (de_lst (da_cons de_bl (da_cons de_bl (da_cons de_bl (da_cons de_bl da_nil))))) (nomark _)) (dss_cons (ds_set (i := 3) ND rfl (.inl rfl) (de_and (de_isX (tbl := [("NotUsable", false)]) rfl B.b_isinstance rfl B.y_InvalidText (List.forall_mem_cons.mpr ⟨⟨B.cl_NotUsable.xi, B.is_NotUsable_InvalidText⟩, (fun _ h => nomatch h)⟩) (vl 1)) (de_and1 (de_not (de_isX (tbl := [("NotUsable", false)]) rfl B.b_isinstance rfl B.y_InvalidRow (List.forall_mem_cons.mpr ⟨⟨B.cl_NotUsable.xi, B.is_NotUsable_InvalidRow⟩, (fun _ h => nomatch h)⟩) (vl 1)))))) (dss_one (ds_ret (de_if (dt_truth (vl 3)) (de_tup (da_cons de_str (da_cons (de_xf (cs := []) (fun _ h => nomatch h) (vl 1)) (da_cons (de_xf (cs := []) (fun _ h => nomatch h) (vl 1)) da_nil)))) (de_tup (da_cons de_str da_nil)))))) dss_nil) (dss_cons (ds_if (Dw.dt (dw_or (dt_cmp (od_ne hr.units) (vl 2) (de_lst (da_cons de_bl (da_cons de_bl (da_cons de_bl (da_cons de_bl da_nil))))) (nomark _)) (dw_or1 (dt_truth (de_isX (tbl := [("NotUsable", false)]) rfl B.b_isinstance rfl B.y_NeverKept (List.forall_mem_cons.mpr ⟨⟨B.cl_NotUsable.xi, B.is_NotUsable_NeverKept⟩, (fun _ h => nomatch h)⟩) (vl 1)))))) (dss_one (ds_ret (de_tup (da_cons de_str da_nil)))) dss_nil) (dss_one (ds_ret (de_if (dt_truth (de_isX (tbl := [("NotUsable", true)]) rfl B.b_isinstance rfl B.y_NotUsable (List.forall_mem_cons.mpr ⟨⟨B.cl_NotUsable.xi, B.is_NotUsable_NotUsable⟩, (fun _ h => nomatch h)⟩) (vl 1))) (de_tup (da_cons de_str (da_cons (de_xf (cs := ["NotUsable"]) (List.forall_mem_cons.mpr ⟨⟨B.cl_NotUsable.xi, B.cl_NotUsable.fa⟩, (fun _ h => nomatch h)⟩) (vl 1)) (da_cons (de_xf (cs := ["NotUsable"]) (List.forall_mem_cons.mpr ⟨⟨B.cl_NotUsable.xi, B.cl_NotUsable.fb⟩, (fun _ h => nomatch h)⟩) (vl 1)) da_nil)))) (de_tup (da_cons de_str da_nil)))))))))))
abbrev nm__law_strays_right : List Str := ["_law_whole", "_law_spot", "_law_engine", "_law_owner", "_law_stray", "_law_asks", "_law_ask"]
theorem sc__law_strays_right : FnScope nm__law_strays_right ["_law_whole", "_law_spot"] (defScope (top 52)) := ⟨rfl, rfl, rfl, by decide +kernel, rfl, by decide +kernel, by decide +kernel⟩
theorem c__law_strays_right (B : Bl P K mg) (D : Dfn K mg "_law_strays_right" (top 52)) (Hx : mg "_law_strays_right" = some (.ref (He.ga K "_law_strays_right"))) (C_place_of : Cal false P w K mg base 4 "place_of" (top 32) ["site", "part", "day"] WF.g_place_of) (C_tasks_of : Cal false P w K mg base 3 "tasks_of" (top 35) ["site", "part"] WF.g_tasks_of) (C_use_of : Cal false P w K mg base 4 "use_of" (top 33) ["site", "machine", "day"] WF.g_use_of) (C_parts_at : Cal false P w K mg base 4 "parts_at" (top 34) ["site", "place", "day"] WF.g_parts_at) (C_part_of : Cal false P w K mg base 5 "part_of" (top 36) ["site", "name"] WF.g_part_of) (C_number_of : Cal false P w K mg base 3 "number_of" (top 26) ["site", "name"] WF.g_number_of) (X_place_of : CalX false P w K mg base 5 "place_of" (top 32) ["site", "part", "day"] WF.x_place_of_e1ff63) (X_tasks_of : CalX false P w K mg base 4 "tasks_of" (top 35) ["site", "part"] WF.x_tasks_of_d04af4) (X_use_of : CalX false P w K mg base 5 "use_of" (top 33) ["site", "machine", "day"] WF.x_use_of_c41b10) (X_parts_at : CalX false P w K mg base 4 "parts_at" (top 34) ["site", "place", "day"] WF.x_parts_at_158b9b) (X_part_of : CalX false P w K mg base 6 "part_of" (top 36) ["site", "name"] WF.x_part_of_075258) (X_number_of : CalX false P w K mg base 4 "number_of" (top 26) ["site", "name"] WF.x_number_of_f03686) (K__law_heard : CatchD P w K mg 1 "_law_heard" (top 46) "told" ["NotUsable"] WF.g_heard_k02) (TB__law_strays_right : LamX.TabB base mg (cdX K "_law_strays_right") (tbX K "_law_strays_right")) : Cal false P w K mg base 9 "_law_strays_right" (top 52) ["_law_whole", "_law_spot"] WF.g_strays_right_k04 := by
  refine cal_ofC (k := 8) (m := WF.m_strays_right_k04) D Hx sc__law_strays_right rfl rfl (fun _ _ _ _ _ _ us hl => match us, hl with | [_, _], _ => rfl) fun f A outer s H hr hg => ?_
  have ND := sc__law_strays_right.nd
  exact (dss_cons (ds_asg (vs := [2, 3]) (de_tup (da_cons (de_ix hr.u1 (de_ix hr.u1 (de_ix hr.u1 (vc 0) de_int (fun _ _ => rfl)) de_int (fun _ _ => rfl)) de_int (fun _ _ => rfl)) (da_cons (de_ix hr.u1 (de_ix hr.u1 (de_ix hr.u1 (vc 0) de_int (fun _ _ => rfl)) de_int (fun _ _ => rfl)) de_int (fun _ _ => rfl)) da_nil))) (dg_tup (fun _ => rfl) (fun _ => rfl) (dgs_cons (dg_name (fun _ => ND) (fun _ => rfl) (fun _ => .inr rfl) (by decide) (fun _ => .inl rfl)) (dgs_cons (dg_name (fun _ => ND) (fun _ => rfl) (fun _ => .inr rfl) (by decide) (fun _ => .inl rfl)) dgs_nil)))) (dss_cons (ds_for (vs := [4]) PassesOwn.never rfl (di_seq (de_slk (de_lst (da_cons de_str (da_cons de_str (da_cons de_non (da_cons de_int (da_cons de_bl (da_cons (de_tup (da_cons (vc 3) da_nil)) (da_cons (de_lst (da_cons (vc 3) da_nil)) (da_cons (de_op od_add (vc 3) de_str) (da_cons (de_ix hr.u1 (de_ix hr.u1 (vc 0) de_int (fun _ _ => rfl)) de_int (fun _ _ => rfl)) (da_cons (vc 0) da_nil))))))))))) (do_some (vl 1)) do_none)) (dg_name (fun _ => ND) (fun _ => rfl) (fun _ => .inr rfl) (by decide) (fun _ => .inl rfl)) (lams_one (i := 5) (fE := (mCall WF.g_place_of (aCons (mV 0) (aCons (mV 4) (aCons (mC .none) aNil))))) (xE := (xCall WF.x_place_of_e1ff63 (aCons (mV 0) (aCons (mV 4) (aCons (mC .none) aNil))))) ND rfl (.inl rfl) (.inr rfl) (pe_made TB__law_strays_right rfl rfl rfl (LamX.lamS_by (by kernel_rfl))) (lams_app (i := 5) (fE := (mCall WF.g_tasks_of (aCons (mV 0) (aCons (mV 4) aNil)))) (xE := (xCall WF.x_tasks_of_d04af4 (aCons (mV 0) (aCons (mV 4) aNil)))) rfl (.inl rfl) (pe_made TB__law_strays_right rfl rfl rfl (LamX.lamS_by (by kernel_rfl))) (by decide) (lams_end (kE := 5) (kh := 1) (jq := 6) rfl ND rfl (.inl rfl) K__law_heard hr (by decide) (by decide) (blkOk_by (by kernel_rfl)) (fun _ _ _ _ _ => pg_name ND rfl (.inl rfl) (.inr rfl)) (fun _ _ _ _ _ => ⟨rfl, .inl rfl⟩) (fun _ _ _ _ _ => (de_tup (da_cons de_str (da_cons de_str (da_cons (de_neg de_int) da_nil))))) (List.forall_mem_cons.mpr ⟨⟨LamX.lamS_by (by kernel_rfl), rfl, (fun _ _ _ _ _ => rfl), (fun A outer s H E f c' hr => (dc_call C_place_of hr (by decide) nog rfl (da_cons (vf 0) (da_cons (vf 4) (da_cons de_non da_nil))))), (fun A outer s H E f c' hr => (xdc_call X_place_of hr (by decide) nog rfl (da_cons (vf 0) (da_cons (vf 4) (da_cons de_non da_nil)))))⟩, (List.forall_mem_cons.mpr ⟨⟨LamX.lamS_by (by kernel_rfl), rfl, (fun _ _ _ _ _ => rfl), (fun A outer s H E f c' hr => (dc_call C_tasks_of hr (by decide) nog rfl (da_cons (vf 0) (da_cons (vf 4) da_nil)))), (fun A outer s H E f c' hr => (xdc_call X_tasks_of hr (by decide) nog rfl (da_cons (vf 0) (da_cons (vf 4) da_nil))))⟩, (fun _ h => nomatch h)⟩)⟩) (dss_one (ds_ret de_bl)) dss_nil (nomark _))))) (dss_cons (ds_for (vs := [4]) PassesOwn.never rfl (di_seq (de_slk (de_lst (da_cons de_str (da_cons de_str (da_cons de_int (da_cons de_bl (da_cons (de_tup (da_cons (vc 2) da_nil)) (da_cons (de_lst (da_cons (vc 2) da_nil)) (da_cons (de_op od_add (vc 2) de_str) (da_cons (de_ix hr.u1 (de_ix hr.u1 (vc 0) de_int (fun _ _ => rfl)) de_int (fun _ _ => rfl)) (da_cons de_non da_nil)))))))))) (do_some (vl 1)) do_none)) (dg_name (fun _ => ND) (fun _ => rfl) (fun _ => .inr rfl) (by decide) (fun _ => .inl rfl)) (dss_cons (ds_if (dt_cmp (od_ne hr.units) (dc_lam (kE := 5) (kh := 1) (xo := "_law_strays_right") K__law_heard hr (by decide) (by decide) rfl TB__law_strays_right rfl rfl (by kernel_rfl) rfl (fun _ _ _ _ _ => rfl) (fun A outer s H E f c' hr => (dc_call C_use_of hr (by decide) nog rfl (da_cons (vf 0) (da_cons (vf 4) (da_cons (de_neg de_int) da_nil))))) (fun A outer s H E f c' hr => (xdc_call X_use_of hr (by decide) nog rfl (da_cons (vf 0) (da_cons (vf 4) (da_cons (de_neg de_int) da_nil)))))) (de_tup (da_cons de_str (da_cons de_str (da_cons (de_neg de_int) da_nil)))) (nomark _)) (dss_one (ds_ret de_bl)) dss_nil) (dss_one (ds_if (Dw.dt (dw_and (dt_cmp od_isnot (vc 4) de_non (nomark _)) (dw_and1 (dt_cmp (od_ne hr.units) (dc_lam (kE := 5) (kh := 1) (xo := "_law_strays_right") K__law_heard hr (by decide) (by decide) rfl TB__law_strays_right rfl rfl (by kernel_rfl) rfl (fun _ _ _ _ _ => rfl) (fun A outer s H E f c' hr => (dc_call C_parts_at hr (by decide) nog rfl (da_cons (vf 0) (da_cons (vf 4) (da_cons (de_neg de_int) da_nil))))) (fun A outer s H E f c' hr => (xdc_call X_parts_at hr (by decide) nog rfl (da_cons (vf 0) (da_cons (vf 4) (da_cons (de_neg de_int) da_nil)))))) (de_tup (da_cons de_str (da_cons de_str (da_cons (de_neg de_int) da_nil)))) (nomark _))))) (dss_one (ds_ret de_bl)) dss_nil)))) (dss_cons (ds_for (vs := [4]) PassesOwn.never rfl (di_seq (de_slk (de_lst (da_cons (de_neg de_int) (da_cons de_non (da_cons de_bl (da_cons de_bl (da_cons de_str (da_cons (de_tup (da_cons de_int da_nil)) (da_cons (de_lst (da_cons de_int da_nil)) (da_cons (de_neg (de_op od_pow de_int de_int)) da_nil))))))))) (do_some (vl 1)) do_none)) (dg_name (fun _ => ND) (fun _ => rfl) (fun _ => .inr rfl) (by decide) (fun _ => .inl rfl)) (lams_one (i := 5) (fE := (mCall WF.g_place_of (aCons (mV 0) (aCons (mV 3) (aCons (mV 4) aNil))))) (xE := (xCall WF.x_place_of_e1ff63 (aCons (mV 0) (aCons (mV 3) (aCons (mV 4) aNil))))) ND rfl (.inl rfl) (.inr rfl) (pe_made TB__law_strays_right rfl rfl rfl (LamX.lamS_by (by kernel_rfl))) (lams_app (i := 5) (fE := (mCall WF.g_use_of (aCons (mV 0) (aCons (mV 2) (aCons (mV 4) aNil))))) (xE := (xCall WF.x_use_of_c41b10 (aCons (mV 0) (aCons (mV 2) (aCons (mV 4) aNil))))) rfl (.inl rfl) (pe_made TB__law_strays_right rfl rfl rfl (LamX.lamS_by (by kernel_rfl))) (by decide) (lams_app (i := 5) (fE := (mCall WF.g_parts_at (aCons (mV 0) (aCons (mV 2) (aCons (mV 4) aNil))))) (xE := (xCall WF.x_parts_at_158b9b (aCons (mV 0) (aCons (mV 2) (aCons (mV 4) aNil))))) rfl (.inl rfl) (pe_made TB__law_strays_right rfl rfl rfl (LamX.lamS_by (by kernel_rfl))) (by decide) (lams_app (i := 5) (fE := (mCall WF.g_parts_at (aCons (mV 0) (aCons (mC .none) (aCons (mV 4) aNil))))) (xE := (xCall WF.x_parts_at_158b9b (aCons (mV 0) (aCons (mC .none) (aCons (mV 4) aNil))))) rfl (.inl rfl) (pe_made TB__law_strays_right rfl rfl rfl (LamX.lamS_by (by kernel_rfl))) (by decide) (lams_end (kE := 5) (kh := 1) (jq := 6) rfl ND rfl (.inl rfl) K__law_heard hr (by decide) (by decide) (blkOk_by (by kernel_rfl)) (fun _ _ _ _ _ => pg_name ND rfl (.inl rfl) (.inr rfl)) (fun _ _ _ _ _ => ⟨rfl, .inl rfl⟩) (fun _ _ _ _ _ => (de_tup (da_cons de_str (da_cons de_str (da_cons (de_neg de_int) da_nil))))) (List.forall_mem_cons.mpr ⟨⟨LamX.lamS_by (by kernel_rfl), rfl, (fun _ _ _ _ _ => rfl), (fun A outer s H E f c' hr => (dc_call C_place_of hr (by decide) nog rfl (da_cons (vf 0) (da_cons (vf 3) (da_cons (vf 4) da_nil))))), (fun A outer s H E f c' hr => (xdc_call X_place_of hr (by decide) nog rfl (da_cons (vf 0) (da_cons (vf 3) (da_cons (vf 4) da_nil)))))⟩, (List.forall_mem_cons.mpr ⟨⟨LamX.lamS_by (by kernel_rfl), rfl, (fun _ _ _ _ _ => rfl), (fun A outer s H E f c' hr => (dc_call C_use_of hr (by decide) nog rfl (da_cons (vf 0) (da_cons (vf 2) (da_cons (vf 4) da_nil))))), (fun A outer s H E f c' hr => (xdc_call X_use_of hr (by decide) nog rfl (da_cons (vf 0) (da_cons (vf 2) (da_cons (vf 4) da_nil)))))⟩, (List.forall_mem_cons.mpr ⟨⟨LamX.lamS_by (by kernel_rfl), rfl, (fun _ _ _ _ _ => rfl), (fun A outer s H E f c' hr => (dc_call C_parts_at hr (by decide) nog rfl (da_cons (vf 0) (da_cons (vf 2) (da_cons (vf 4) da_nil))))), (fun A outer s H E f c' hr => (xdc_call X_parts_at hr (by decide) nog rfl (da_cons (vf 0) (da_cons (vf 2) (da_cons (vf 4) da_nil)))))⟩, (List.forall_mem_cons.mpr ⟨⟨LamX.lamS_by (by kernel_rfl), rfl, (fun _ _ _ _ _ => rfl), (fun A outer s H E f c' hr => (dc_call C_parts_at hr (by decide) nog rfl (da_cons (vf 0) (da_cons de_non (da_cons (vf 4) da_nil))))), (fun A outer s H E f c' hr => (xdc_call X_parts_at hr (by decide) nog rfl (da_cons (vf 0) (da_cons de_non (da_cons (vf 4) da_nil)))))⟩, (fun _ h => nomatch h)⟩)⟩)⟩)⟩) (dss_one (ds_ret de_bl)) dss_nil (nomark _))))))) (dss_cons (ds_for (vs := [4]) PassesOwn.never rfl (di_seq (de_slk (de_lst (da_cons de_str (da_cons de_str (da_cons de_non (da_cons de_int (da_cons de_bl (da_cons (de_tup da_nil) (da_cons (de_lst (da_cons de_str da_nil)) (da_cons (de_ix hr.u1 (vc 0) de_int (fun _ _ => rfl)) (da_cons de_str da_nil)))))))))) (do_some (vl 1)) do_none)) (dg_name (fun _ => ND) (fun _ => rfl) (fun _ => .inr rfl) (by decide) (fun _ => .inl rfl)) (lams_one (i := 5) (fE := (mCall WF.g_part_of (aCons (mV 0) (aCons (mV 4) aNil)))) (xE := (xCall WF.x_part_of_075258 (aCons (mV 0) (aCons (mV 4) aNil)))) ND rfl (.inl rfl) (.inr rfl) (pe_made TB__law_strays_right rfl rfl rfl (LamX.lamS_by (by kernel_rfl))) (lams_app (i := 5) (fE := (mCall WF.g_number_of (aCons (mV 0) (aCons (mV 4) aNil)))) (xE := (xCall WF.x_number_of_f03686 (aCons (mV 0) (aCons (mV 4) aNil)))) rfl (.inl rfl) (pe_made TB__law_strays_right rfl rfl rfl (LamX.lamS_by (by kernel_rfl))) (by decide) (lams_end (kE := 6) (kh := 1) (jq := 6) rfl ND rfl (.inl rfl) K__law_heard hr (by decide) (by decide) (blkOk_by (by kernel_rfl)) (fun _ _ _ _ _ => pg_name ND rfl (.inl rfl) (.inr rfl)) (fun _ _ _ _ _ => ⟨rfl, .inl rfl⟩) (fun _ _ _ _ _ => (de_tup (da_cons de_str (da_cons de_str (da_cons (de_neg de_int) da_nil))))) (List.forall_mem_cons.mpr ⟨⟨LamX.lamS_by (by kernel_rfl), rfl, (fun _ _ _ _ _ => rfl), (fun A outer s H E f c' hr => (dc_call C_part_of hr (by decide) nog rfl (da_cons (vf 0) (da_cons (vf 4) da_nil)))), (fun A outer s H E f c' hr => (xdc_call X_part_of hr (by decide) nog rfl (da_cons (vf 0) (da_cons (vf 4) da_nil))))⟩, (List.forall_mem_cons.mpr ⟨⟨LamX.lamS_by (by kernel_rfl), rfl, (fun _ _ _ _ _ => rfl), (fun A outer s H E f c' hr => (dc_call C_number_of hr (by decide) nog rfl (da_cons (vf 0) (da_cons (vf 4) da_nil)))), (fun A outer s H E f c' hr => (xdc_call X_number_of hr (by decide) nog rfl (da_cons (vf 0) (da_cons (vf 4) da_nil))))⟩, (fun _ h => nomatch h)⟩)⟩) (dss_one (ds_ret de_bl)) dss_nil (nomark _))))) (dss_one (ds_ret de_bl)))))))
abbrev nm_law : List Str := ["_law_script", "_law_feed_here", "_law_whole", "_law_kept", "_law_told"]
theorem sc_law : FnScope nm_law ["_law_script"] (defScope (top 55)) := ⟨rfl, rfl, rfl, by decide +kernel, rfl, by decide +kernel, by decide +kernel⟩
theorem c_law (B : Bl P K mg) (D : Dfn K mg "law" (top 55)) (C__law_feed : Cal false P w K mg base 1 "_law_feed" (top 38) ["_law_script"] WF.g_feed_k01) (C__law_site : Cal false P w K mg base 14 "_law_site" (top 43) ["_law_feed_here"] WF.g_site_k01) (C__law_second_site : Cal false P w K mg base 1 "_law_second_site" (top 45) [] WF.g_second_site_k02) (C__law_first_site : Cal false P w K mg base 1 "_law_first_site" (top 44) [] WF.g_first_site_k01) (C__law_draw : Cal false P w K mg base 1 "_law_draw" (top 39) ["_law_feed_here", "_law_many"] WF.g_draw_k01) (C__law_days_right : Cal true P w K mg base 5 "_law_days_right" (top 50) ["_law_whole"] WF.g_days_right_k04) (C__law_names_right : Cal true P w K mg base 6 "_law_names_right" (top 51) ["_law_whole"] WF.g_names_right_k04) (C__law_strays_right : Cal false P w K mg base 9 "_law_strays_right" (top 52) ["_law_whole", "_law_spot"] WF.g_strays_right_k04) (C_place_of : Cal false P w K mg base 4 "place_of" (top 32) ["site", "part", "day"] WF.g_place_of) (C_use_of : Cal false P w K mg base 4 "use_of" (top 33) ["site", "machine", "day"] WF.g_use_of) (C_parts_at : Cal false P w K mg base 4 "parts_at" (top 34) ["site", "place", "day"] WF.g_parts_at) (C_tasks_of : Cal false P w K mg base 3 "tasks_of" (top 35) ["site", "part"] WF.g_tasks_of) (C_part_of : Cal false P w K mg base 5 "part_of" (top 36) ["site", "name"] WF.g_part_of) (C_number_of : Cal false P w K mg base 3 "number_of" (top 26) ["site", "name"] WF.g_number_of) (C__law_hand_right : Cal false P w K mg base 5 "_law_hand_right" (top 53) [] WF.g_hand_right_k04) (C__law_wide_right : Cal true P w K mg base 6 "_law_wide_right" (top 54) [] WF.g_wide_right_k04) : Cal true P w K mg base 15 "law" (top 55) ["_law_script"] WF.g_law_k04 := by
  refine cal_of (m := WF.m_law_k04) D sc_law rfl rfl (fun _ _ _ _ _ _ us hl => match us, hl with | [_], _ => rfl) fun f cdv A outer s H hr hg => ?_
  have ND := sc_law.nd
  exact (dss_cons (ds_set (i := 1) ND rfl (.inl rfl) (dc_call C__law_feed hr (by decide) nog rfl (da_cons (vl 0) da_nil))) (dss_cons (ds_for (vs := [2]) PassesOwn.never rfl (di_seq (de_tup (da_cons (dc_call C__law_site hr (by decide) nog rfl (da_cons (vl 1) da_nil)) (da_cons (de_ix hr.u1 (de_lst (da_cons (dc_call0 C__law_second_site hr (by decide) nog rfl) (da_cons (dc_call0 C__law_first_site hr (by decide) nog rfl) da_nil))) (dc_call C__law_draw hr (by decide) nog rfl (da_cons (vl 1) (da_cons de_int da_nil))) (fun _ _ => rfl)) da_nil)))) (dg_name (fun _ => ND) (fun _ => rfl) (fun _ => .inl rfl) (by decide) (fun _ => .inl rfl)) (dss_cons (ds_set (i := 3) ND rfl (.inl rfl) (de_callB (cd_repr (hg rfl) hr.u66) rfl B.b_repr bt_repr (da_cons (vl 2) da_nil))) (dss_cons (ds_if (Dw.dt (dw_or (dt_not (dt_truth (dc_call C__law_days_right hr (by decide) hg rfl (da_cons (vl 2) da_nil)))) (dw_or1 (dt_not (dt_truth (dc_call C__law_names_right hr (by decide) hg rfl (da_cons (vl 2) da_nil))))))) (dss_one (ds_ret de_bl)) dss_nil) (dss_one (ds_if (Dw.dt (dw_or (dt_not (dt_truth (dc_call C__law_strays_right hr (by decide) nog rfl (da_cons (vl 2) (da_cons (dc_call C__law_draw hr (by decide) nog rfl (da_cons (vl 1) (da_cons de_int da_nil))) da_nil))))) (dw_or1 (dt_cmp (od_ne hr.units) (de_callB (cd_repr (hg rfl) hr.u66) rfl B.b_repr bt_repr (da_cons (vl 2) da_nil)) (vl 3) (nomark _))))) (dss_one (ds_ret de_bl)) dss_nil))))) (dss_cons (ds_set (i := 2) ND rfl (.inl rfl) (dc_call0 C__law_first_site hr (by decide) nog rfl)) (dss_cons (ds_own (i := 4) ND rfl (.inl rfl) (da_cons (dc_callK (ks := ["day", "part", "site"]) [2, 1, 0] C_place_of hr (by decide) nog rfl (fun _ _ _ _ _ _ ws hl => match ws, hl with | [_, _, _], _ => rfl) (dk_cons de_int (dk_cons de_str (dk_cons (vl 2) dk_nil))) (by decide) (aCons_len (aCons_len (aCons_len aNil_len)))) (da_cons (dc_callK (ks := ["day", "machine", "site"]) [2, 1, 0] C_use_of hr (by decide) nog rfl (fun _ _ _ _ _ _ ws hl => match ws, hl with | [_, _, _], _ => rfl) (dk_cons de_int (dk_cons de_str (dk_cons (vl 2) dk_nil))) (by decide) (aCons_len (aCons_len (aCons_len aNil_len)))) da_nil))) (dss_cons (ds_extend rfl (.inl rfl) (de_lst (da_cons (dc_callK (ks := ["day", "place", "site"]) [2, 1, 0] C_parts_at hr (by decide) nog rfl (fun _ _ _ _ _ _ ws hl => match ws, hl with | [_, _, _], _ => rfl) (dk_cons de_int (dk_cons de_str (dk_cons (vl 2) dk_nil))) (by decide) (aCons_len (aCons_len (aCons_len aNil_len)))) (da_cons (dc_callK (ks := ["part", "site"]) [1, 0] C_tasks_of hr (by decide) nog rfl (fun _ _ _ _ _ _ ws hl => match ws, hl with | [_, _], _ => rfl) (dk_cons de_str (dk_cons (vl 2) dk_nil)) (by decide) (aCons_len (aCons_len aNil_len))) da_nil)))) (dss_cons (ds_extend rfl (.inl rfl) (de_lst (da_cons (dc_callK (ks := ["name", "site"]) [1, 0] C_part_of hr (by decide) nog rfl (fun _ _ _ _ _ _ ws hl => match ws, hl with | [_, _], _ => rfl) (dk_cons de_str (dk_cons (vl 2) dk_nil)) (by decide) (aCons_len (aCons_len aNil_len))) (da_cons (dc_callK (ks := ["name", "site"]) [1, 0] C_number_of hr (by decide) nog rfl (fun _ _ _ _ _ _ ws hl => match ws, hl with | [_, _], _ => rfl) (dk_cons de_str (dk_cons (vl 2) dk_nil)) (by decide) (aCons_len (aCons_len aNil_len))) da_nil)))) (dss_frz 4 (dss_one (ds_ret (de_and (dc_call0 C__law_hand_right hr (by decide) nog rfl) (de_and (dc_call0 C__law_wide_right hr (by decide) hg rfl) (de_and1 (de_cmp (od_eq hr.units) (vl 4) (de_lst (da_cons de_str (da_cons (de_tup (da_cons de_int (da_cons de_int da_nil))) (da_cons (de_tup (da_cons de_str (da_cons de_str da_nil))) (da_cons (de_tup (da_cons de_str da_nil)) (da_cons de_str (da_cons de_int da_nil))))))) (nomark _))))))))))))))
end
end K04
namespace DL
open PySem PySem.Spec PyProof.Rows L2
section
variable {X : Cx} {x : Str} {c : Value} {body suite : List Stmt} {b₀ : Stmt} {np pos pos' : Pos} {m mh : Ms} {fx : Xm} {cs : List Str}
def CsOk (X : Cx) (cs : List Str) (c : Value) : Prop := ∀ y ∈ cs, ∀ C, X.mg y = some (.ref C) → PySem.W.exmOne X.K (.ref C) c = some true
theorem CsOk.nil : CsOk X [] c := fun y hy => by cases hy
theorem CsOk.cons {y : Str} (hy : X.mg y = some (.ref (He.ga X.K y))) (he : PySem.W.exmOne X.K (.ref (He.ga X.K y)) c = some true) (r : CsOk X cs c) : CsOk X (y :: cs) c := fun z hz C e => by
  rcases List.mem_cons.mp hz with rfl | hz
  · rw [hy] at e
    cases e
    exact he
  · exact r z hz C e
end
end DL
namespace DL
open PySem PySem.Spec PyProof.Rows L2
inductive OutG where
  | nx (ws : List Wd) (ρ : Ev) (S : Sto)
  | rt (ws : List Wd) (S : Sto)
  | bk (ws : List Wd) (ρ : Ev) (S : Sto)
  | ct (ws : List Wd) (ρ : Ev) (S : Sto)
  | bad
def postG (K : Fg) (D : GEnds) (mu : List Addr) (B O : Addr → Prop) (H : Hp) : OutG → Prop
  | .nx ws ρ S => ∀ ys σ' H' mu' O', ExtS mu mu' O O' H H' → Rel K mu' B O' H' σ' ρ S → RpAll K mu' (fun a => B a ∨ O' a) H' ys ws → D.nx ys σ' H'
  | .rt ws S => ∀ ys H' mu' O', ExtS mu mu' O O' H H' → StOk K mu' (fun a => B a ∨ O' a) H' S → RpAll K mu' (fun a => B a ∨ O' a) H' ys ws → D.rt ys .non H'
  | .bk ws ρ S => ∀ ys σ' H' mu' O', ExtS mu mu' O O' H H' → Rel K mu' B O' H' σ' ρ S → RpAll K mu' (fun a => B a ∨ O' a) H' ys ws → D.bk ys σ' H'
  | .ct ws ρ S => ∀ ys σ' H' mu' O', ExtS mu mu' O O' H H' → Rel K mu' B O' H' σ' ρ S → RpAll K mu' (fun a => B a ∨ O' a) H' ys ws → D.ct ys σ' H'
  | .bad => False
theorem GS.weak {X : Cx} {st : Stmt} {t t' : TGn} (h : GS X st t) (w : ∀ D ys σ H, t' D ys σ H → t D ys σ H) : GS X st t' :=
  ⟨fun A S ip R n ys s₀ c fs K J gd lv s σ H D g hn k hI ht => h.run A S ip R n ys s₀ c fs K J gd lv s σ H D g hn k hI (w _ _ _ _ ht)⟩
theorem GSs.weak {X : Cx} {st : List Stmt} {t t' : TGn} (h : GSs X st t) (w : ∀ D ys σ H, t' D ys σ H → t D ys σ H) : GSs X st t' :=
  ⟨fun A S ip R n ys s₀ c fs K J gd lv s σ H D g hn k hI ht => h.run A S ip R n ys s₀ c fs K J gd lv s σ H D g hn k hI (w _ _ _ _ ht)⟩
theorem postG.mono {K : Fg} {D D' : GEnds} {mu m1 : List Addr} {B O O1 : Addr → Prop} {H H1 : Hp} {o : OutG} (e : ExtS mu m1 O O1 H H1) (h : postG K D mu B O H o) (hn : ∀ ys σ H, D.nx ys σ H → D'.nx ys σ H) (hr : ∀ ys v H, D.rt ys v H → D'.rt ys v H)
    (hb : ∀ ys σ H, D.bk ys σ H → D'.bk ys σ H) (hc : ∀ ys σ H, D.ct ys σ H → D'.ct ys σ H) : postG K D' m1 B O1 H1 o := by
  cases o with
  | nx ws ρ S => exact fun ys σ' H' mu' O' x r p => hn _ _ _ (h ys σ' H' mu' O' (e.trans x) r p)
  | rt ws S => exact fun ys H' mu' O' x s p => hr _ _ _ (h ys H' mu' O' (e.trans x) s p)
  | bk ws ρ S => exact fun ys σ' H' mu' O' x r p => hb _ _ _ (h ys σ' H' mu' O' (e.trans x) r p)
  | ct ws ρ S => exact fun ys σ' H' mu' O' x r p => hc _ _ _ (h ys σ' H' mu' O' (e.trans x) r p)
  | bad => exact h
theorem postG.ext {K : Fg} {D : GEnds} {mu m1 : List Addr} {B O O1 : Addr → Prop} {H H1 : Hp} {o : OutG} (e : ExtS mu m1 O O1 H H1) (h : postG K D mu B O H o) : postG K D m1 B O1 H1 o :=
  h.mono e (fun _ _ _ z => z) (fun _ _ _ z => z) (fun _ _ _ z => z) fun _ _ _ z => z
section
variable {X : Cx} {st : Stmt} {rest : List Stmt}
end
section
variable {P : Program} {w : World} {K : Fg} {mg : Str → Option Value} {base : Heap} {x : Str} {st : Stmt}
end
section
variable {X : Cx} {k k' : Nat} {x : Str} {st : Stmt} {ps : List Str} {g : Gd} {p pos pos' : Pos} {e : Expr} {es : List Expr} {fs : Ma} {nm : Str}
end
end DL
namespace DL
open PySem PySem.Spec PyProof.Rows L2
section
variable {X : Cx} {k k' i : Nat} {a : Addr} {x y : Str} {st : Stmt} {ps : List Str} {g : Gd} {p pos : Pos} {e : Expr} {es : List Expr} {f : Mx} {fs : Ma} {G : Bool}
end
theorem Cal.at_ {G : Bool} {P : Program} {w : World} {K : Fg} {mg : Str → Option Value} {base : Heap} {k : Nat} {x : Str} {st : Stmt} {ps : List Str} {g : Gd} (C : Cal G P w K mg base k x st ps g) : ∃ a, mg x = some (.ref a) := by
  obtain ⟨f, _, h, _⟩ := C
  exact ⟨f, h⟩
section
variable {K : Fg} {mu : List Addr} {B O : Addr → Prop} {H : Hp} {σ : Sg} {ρ : Ev} {S : Sto}
theorem Rel.any (h : Rel K mu B O H σ ρ S) {i : Nat} (hi : ∀ w, ρ[i]? ≠ some (some w)) (v : Option V) : Rel K mu B O H (σ.set i v) ρ S := by
  have ne : ∀ {j : Nat} {w : Sl}, ρ[j]? = some (some w) → i ≠ j := fun {j w} e z => hi w (z ▸ e)
  refine ⟨by rw [List.length_set]; exact h.len, fun j w e => ?_, fun j ws e => ?_, fun j k ws ws' b e1 e2 e3 e4 => ?_, h.sto, h.bn⟩
  · rw [List.getElem?_set_ne (ne e)]
    exact h.val j w e
  · rw [List.getElem?_set_ne (ne e)]
    exact h.own j ws e
  · rw [List.getElem?_set_ne (ne e1)] at e3
    rw [List.getElem?_set_ne (ne e2)] at e4
    exact h.dif j k ws ws' b e1 e2 e3 e4
end
section
variable {X : Cx} {elt : Expr} {es : List Expr} {scope : Scope} {own : List (Str × Nat)} {pos tp np : Pos} {kt i : Nat} {y : Str} {L : List (Addr × Mx)}
end
end DL
namespace DL
open PySem PySem.Spec PyProof.Rows L2
section
variable {X : Cx}
end
end DL
namespace PL
open PySem PySem.Spec PyProof.Rows L2 DL
abbrev Us := List (Int × Int)
abbrev Sy := List (Int × Option Str)
inductive CW where
  | hours
  | cycles
  | days
  deriving DecidableEq
def CW.str : CW → Str
  | .hours => "hours"
  | .cycles => "cycles"
  | .days => "days"
inductive Lim where
  | one (w : CW) (n : Int)
  | join (later : Bool) (ls : List Lim)
structure Job where
  nm : Str
  pt : Str
  wy : Str
  lim : Lim
  sl : Int × Int × Int
structure Site where
  mc : List (Str × Us)
  parts : List (Str × Sy)
  jobs : List Job
def sumF (f : Int → Int) (lo : Int) (n : Nat) : Int := ((List.range n).map fun i => f (lo + (i : Nat))).sum
abbrev Uf := Int → CW → Int
structure UF (u : Uf) (s : Int) : Prop where
  pos : ∀ d w, 0 ≤ u d w
  bd : ∀ d w, u d w < 1000
  day : ∀ d, u d .days = 1
  std : ∀ d w, s ≤ d → u d w = u s w
def cnt (u : Uf) (b d : Int) (w : CW) : Int := sumF (fun i => u i w) b (d - b).toNat
section
variable {u : Uf} {s b d m : Int} {w : CW}
end
mutual
def passes : Lim → (CW → Int) → Bool
  | .one w n, c => decide (n < c w)
  | .join false ls, c => passAny ls c
  | .join true ls, c => passAll ls c
def passAny : List Lim → (CW → Int) → Bool
  | [], _ => false
  | l :: ls, c => passes l c || passAny ls c
def passAll : List Lim → (CW → Int) → Bool
  | [], _ => true
  | l :: ls, c => passes l c && passAll ls c
end
def IsFirst (P : Int → Bool) (b : Int) : Option Int → Prop
  | some d => b ≤ d ∧ P d = true ∧ ∀ d', b ≤ d' → d' < d → P d' = false
  | none => ∀ d, b ≤ d → P d = false
theorem IsFirst.uniq {P : Int → Bool} {b : Int} : ∀ {r r' : Option Int}, IsFirst P b r → IsFirst P b r' → r = r'
  | none, none, _, _ => rfl
  | none, some d, h, h' => by have := h d h'.1; rw [h'.2.1] at this; cases this
  | some d, none, h', h => by have := h d h'.1; rw [h'.2.1] at this; cases this
  | some d, some d', h, h' => by
    rcases Int.lt_trichotomy d d' with e | e | e
    · have := h'.2.2 d h.1 e; rw [h.2.1] at this; cases this
    · rw [e]
    · have := h.2.2 d' h'.1 e; rw [h'.2.1] at this; cases this
open Classical in
noncomputable def firstOf (P : Int → Bool) (b : Int) : Option Int := if h : ∃ r, IsFirst P b r then choose h else none
noncomputable def fp (u : Uf) (l : Lim) (b : Int) : Option Int := firstOf (fun d => passes l (cnt u b d)) b
end PL
namespace DL
open PySem PySem.Spec PyProof.Rows L2
section
variable {N : Ev → Sto → Prop} {Rt : Wd → Sto → Prop} {ρ : Ev} {S : Sto} {Q : Wd → Sto → Prop} {Qs : List Wd → Sto → Prop}
def listD : Wd → Option (List Wd)
  | .list ws => some ws
  | _ => none
theorem listD_some {w : Wd} {ws : List Wd} (h : listD w = some ws) : w = .list ws := by
  unfold listD at h
  split at h
  · cases h; rfl
  · cases h
theorem w_ext' {i : Nat} {f : Mx} {ws : List Wd} (h : ρ[i]? = some (some (.own ws))) (q : wpE (f ρ S) fun w S1 => wpO (listD w) fun zs => ws.length + zs.length ≤ sizeLine ∧ N (ρ.set i (some (.own (ws ++ zs)))) S1) : wpS (sExt i f ρ S) N Rt :=
  w_ext h (wpE_mono q fun _ _ ⟨zs, e, a, b⟩ => ⟨zs, listD_some e, a, b⟩)
end
theorem wp_forT {N : Ev → Sto → Prop} {Rt : Wd → Sto → Prop} {g : Mg} {m : Ms} {α : Type} (enc : α → Wd) (xs : List α) (I : Ev → Sto → Prop) (hs : ∀ x ∈ xs, ∀ ρ S, I ρ S → ∃ ρ1, g (enc x) ρ = some ρ1 ∧ wpS (m ρ1 S) I Rt) (he : ∀ ρ S, I ρ S → N ρ S) (ρ : Ev) (S : Sto) (h : I ρ S) : wpS (forLoop g m (xs.map enc) ρ S) N Rt := by
  refine wp_for (I := fun r ρ S => I ρ S ∧ ∃ ys, (∀ y ∈ ys, y ∈ xs) ∧ r = ys.map enc) ?_ (fun ρ S h => he ρ S h.1) _ _ _ ⟨h, xs, fun _ h => h, rfl⟩
  rintro w r ρ S ⟨h, ys, hy, e⟩
  cases ys with
  | nil => cases e
  | cons y ys =>
    cases e
    obtain ⟨ρ1, e1, h1⟩ := hs y (hy y (List.mem_cons_self ..)) ρ S h
    exact ⟨ρ1, e1, wpS_mono h1 (fun ρ2 S2 h2 => ⟨h2, ys, fun z hz => hy z (List.mem_cons_of_mem _ hz), rfl⟩) fun _ _ h => h⟩
theorem wp_forI {N : Ev → Sto → Prop} {Rt : Wd → Sto → Prop} {g : Mg} {m : Ms} {ws : List Wd} (I : Ev → Sto → Prop) (hs : ∀ x ∈ ws, ∀ ρ S, I ρ S → ∃ ρ1, g x ρ = some ρ1 ∧ wpS (m ρ1 S) I Rt) (he : ∀ ρ S, I ρ S → N ρ S) (ρ : Ev) (S : Sto) (h : I ρ S) : wpS (forLoop g m ws ρ S) N Rt := by
  have := wp_forT id ws I hs he ρ S h
  rw [List.map_id] at this
  exact this
theorem wpX_ok {α : Type} {x : R α} {a : α} {S : Sto} (h : wpE x fun w S' => w = a ∧ S' = S) : x = .ok a S := by
  obtain ⟨w, S1, e, rfl, rfl⟩ := wpE_ex.1 h
  exact e
theorem siz : 1000 ≤ sizeLine := by decide
theorem eqv_str {x y : Str} : PyData.eqv (.str x) (.str y) = (x == y) := by simp [PyData.eqv]
def prK {α : Type} (e : α → Wd) (p : Str × α) : Wd × Wd := (.str p.1, e p.2)
def prT {α : Type} (e : α → Wd) (p : Str × α) : Wd := .tuple [.str p.1, e p.2]
section
variable {α : Type} {e : α → Wd}
theorem pairs_T : ∀ l : List (Str × α), pairsD (l.map (prT e)) = some (l.map (prK e))
  | [] => rfl
  | p :: l => by
    simp only [List.map_cons, prT, pairsD, keyD, if_true, pairs_T l]
    rfl
theorem merge_T : ∀ (l m : List (Str × α)), ((m ++ l).map (·.1)).Nodup → mergeD (m.map (prK e)) (l.map (prK e)) = (m ++ l).map (prK e)
  | [], m, _ => by simp [mergeD]
  | p :: l, m, nd => by
    have hn : ((m.map (prK e)).any fun q => PyData.eqv q.1 (prK e p).1) = false := by
      rw [List.any_eq_false]
      intro q hq
      obtain ⟨p', hp', rfl⟩ := List.mem_map.1 hq
      simp only [prK, eqv_str]
      intro z
      have z := eq_of_beq z
      simp only [List.map_append, List.map_cons] at nd
      exact (List.nodup_append.1 nd).2.2 p'.1 (List.mem_map_of_mem hp') p.1 (List.mem_cons_self ..) z
    have : mergeD (m.map (prK e)) ((p :: l).map (prK e)) = mergeD ((m ++ [p]).map (prK e)) (l.map (prK e)) := by
      simp only [mergeD, List.map_cons, List.foldl_cons, putD, hn, Bool.false_eq_true, if_false, List.map_append, List.map_nil]
    rw [this, merge_T l (m ++ [p]) (by simpa using nd)]
    simp
theorem look_T : ∀ (l : List (Str × α)) (p : Str × α), (l.map (·.1)).Nodup → p ∈ l → lookD (l.map (prK e)) (.str p.1) = some (e p.2)
  | [], _, _, h => by cases h
  | q :: l, p, nd, h => by
    simp only [List.map_cons, List.nodup_cons] at nd ⊢
    unfold prK lookD
    rw [eqv_str]
    by_cases z : q.1 = p.1
    · rw [if_pos (by simpa using z)]
      rcases List.mem_cons.1 h with rfl | h
      · rfl
      · exact absurd (List.mem_map_of_mem h) (z ▸ nd.1)
    · rw [if_neg (by simpa using z)]
      rcases List.mem_cons.1 h with rfl | h
      · exact absurd rfl z
      · exact look_T l p nd.2 h
theorem dict_T {l : List (Str × α)} (nd : (l.map (·.1)).Nodup) : gDict [.tuple (l.map (prT e))] = some (.dict (l.map (prK e))) := by
  simp only [gDict, pairs_T, Option.map_some]
  rw [show ([] : List (Wd × Wd)) = ([] : List (Str × α)).map (prK e) from rfl, merge_T l [] (by simpa using nd)]
  rfl
end
theorem Sz.sub {n k : Nat} {d : Wd} {xs : List Wd} (h : Sz n (k + 1) (.tuple xs)) (hd : d ∈ xs) : Sz n k d := by
  have hs := h.sh
  have hc := h.cl
  have hdp := h.dp
  have hl := h.ls
  have hw := h.wt
  simp only [PyData.showable, PyData.canLay0, PyData.depth, PyData.leavesShort, PyData.weight] at hs hc hdp hl hw
  clear h
  induction xs with
  | nil => cases hd
  | cons x xs ih =>
    simp only [PyData.showableAll, PyData.canLayAll0, PyData.depthAll, PyData.leavesShortAll, PyData.weightAll, Bool.and_eq_true] at hs hc hdp hl hw
    rcases List.mem_cons.1 hd with rfl | hd
    · exact ⟨hs.1, hc.1, by omega, hl.1, by omega⟩
    · exact ih hd hs.2 hc.2 (by omega) hl.2 (by omega)
instance {n k : Nat} {d : Wd} : Decidable (Sz n k d) := decidable_of_iff (d.showable = true ∧ d.canLay0 = true ∧ d.depth ≤ k ∧ d.leavesShort 13 = true ∧ d.weight ≤ n) ⟨fun ⟨a, b, c, e, f⟩ => ⟨a, b, c, e, f⟩, fun ⟨a, b, c, e, f⟩ => ⟨a, b, c, e, f⟩⟩
theorem mem2 {P : Wd → Prop} {a b : Wd} (ha : P a) (hb : P b) : ∀ x ∈ [a, b], P x := by
  intro x hx
  simp only [List.mem_cons, List.mem_nil_iff, or_false] at hx
  rcases hx with rfl | rfl
  · exact ha
  · exact hb
theorem mem3 {P : Wd → Prop} {a b c : Wd} (ha : P a) (hb : P b) (hc : P c) : ∀ x ∈ [a, b, c], P x := by
  intro x hx
  simp only [List.mem_cons, List.mem_nil_iff, or_false] at hx
  rcases hx with rfl | rfl | rfl
  · exact ha
  · exact hb
  · exact hc
end DL
namespace DL
open PySem PySem.Spec PyProof.Rows L2
class Stp (G : Prop) (H : outParam Prop) : Prop where
  prf : H → G
theorem zq14 {G H : Prop} [s : Stp G H] (h : H) : G := s.prf h
section
variable {N : Ev → Sto → Prop} {Rt : Wd → Sto → Prop} {ρ : Ev} {S : Sto} {Q : Wd → Sto → Prop} {Qb : Bool → Sto → Prop} {Qs : List Wd → Sto → Prop} {Qo : Option Int → Sto → Prop}
instance iw_set {i : Nat} {f : Mx} : Stp (wpS (sSet i f ρ S) N Rt) (wpE (f ρ S) fun w S1 => N (ρ.set i (some (.val w))) S1) := ⟨w_set⟩
instance iw_ret {f : Mx} : Stp (wpS (sRet f ρ S) N Rt) (wpE (f ρ S) Rt) := ⟨w_ret⟩
instance iw_expr {f : Mx} : Stp (wpS (sExpr f ρ S) N Rt) (wpE (f ρ S) fun _ S1 => N ρ S1) := ⟨w_expr⟩
instance iw_ifS {t : Mt} {m m' : Ms} : Stp (wpS (sIf t m m' ρ S) N Rt) (wpE (t ρ S) fun b S1 => if b = true then wpS (m ρ S1) N Rt else wpS (m' ρ S1) N Rt) := ⟨w_ifS⟩
instance iw_asg {g : Mg} {f : Mx} : Stp (wpS (sAsg g f ρ S) N Rt) (wpE (f ρ S) fun w S1 => wpO (g w ρ) fun ρ' => N ρ' S1) := ⟨w_asg⟩
instance iw_own {i : Nat} {fs : Ma} : Stp (wpS (sOwn i fs ρ S) N Rt) (wpE (fs ρ S) fun ws S1 => ws.length ≤ sizeLine ∧ N (ρ.set i (some (.own ws))) S1) := ⟨w_own⟩
instance iw_par {i j : Nat} {f g : Mx} : Stp (wpS (sPar i j (aCons f (aCons g aNil)) ρ S) N Rt) (wpE (f ρ S) fun v S1 => wpE (g ρ S1) fun w S2 => N ((ρ.set i (some (.val v))).set j (some (.val w))) S2) := ⟨w_par⟩
instance iw_parO {i j : Nat} {f : Mx} : Stp (wpS (sParO i j f ρ S) N Rt) (wpE (f ρ S) fun w S1 => N ((ρ.set j (some (.val w))).set i (some (.own []))) S1) := ⟨w_parO⟩
instance iw_frz {i : Nat} {m : Ms} : Stp (wpS (sFrz i m ρ S) N Rt) (wpS (m (frzE i ρ) S) N Rt) := ⟨w_frz⟩
instance iw_nil  : Stp (wpS (sNil ρ S) N Rt) (N ρ S) := ⟨w_nil⟩
instance iw_for {fi : Mi} {g : Mg} {m : Ms} : Stp (wpS (sFor fi g m ρ S) N Rt) (wpE (fi ρ S) fun ws S1 => wpS (forLoop g m ws ρ S1) N Rt) := ⟨w_for⟩
instance iw_C {w : Wd} : Stp (wpE (mC w ρ S) Q) (Q w S) := ⟨w_C⟩
instance iw_bin {g : Wd → Wd → Option Wd} {fa fb : Mx} : Stp (wpE (mBin g fa fb ρ S) Q) (wpE (fa ρ S) fun x S1 => wpE (fb ρ S1) fun y S2 => wpO (g x y) fun w => Q w S2) := ⟨w_bin⟩
instance iw_un {g : Wd → Option Wd} {fa : Mx} : Stp (wpE (mUn g fa ρ S) Q) (wpE (fa ρ S) fun x S1 => wpO (g x) fun w => Q w S1) := ⟨w_un⟩
instance iw_CB {g : List Wd → Option Wd} {fs : Ma} : Stp (wpE (mCB g fs ρ S) Q) (wpE (fs ρ S) fun x S1 => wpO (g x) fun w => Q w S1) := ⟨w_CB⟩
instance iw_ix {fa fb : Mx} : Stp (wpE (mIx fa fb ρ S) Q) (wpE (fa ρ S) fun x S1 => wpE (fb ρ S1) fun y S2 => wpO (gIx S2 x y) fun w => Q w S2) := ⟨w_ix⟩
instance iw_and {fa fb : Mx} : Stp (wpE (mAnd fa fb ρ S) Q) (wpE (fa ρ S) fun x S1 => wpO (truD x) fun b => if b = true then wpE (fb ρ S1) Q else Q x S1) := ⟨w_and⟩
instance iw_or {fa fb : Mx} : Stp (wpE (mOr fa fb ρ S) Q) (wpE (fa ρ S) fun x S1 => wpO (truD x) fun b => if b = true then Q x S1 else wpE (fb ρ S1) Q) := ⟨w_or⟩
instance iw_not {fa : Mx} : Stp (wpE (mNot fa ρ S) Q) (wpE (fa ρ S) fun x S1 => wpO (truD x) fun b => Q (.bool (!b)) S1) := ⟨w_not⟩
instance iw_if {t : Mt} {fa fb : Mx} : Stp (wpE (mIf t fa fb ρ S) Q) (wpE (t ρ S) fun b S1 => if b = true then wpE (fa ρ S1) Q else wpE (fb ρ S1) Q) := ⟨w_if⟩
instance iw_tru {f : Mx} : Stp (wpE (mTru f ρ S) Qb) (wpE (f ρ S) fun x S1 => wpO (truD x) fun b => Qb b S1) := ⟨w_tru⟩
instance iw_andT {t u : Mt} : Stp (wpE (mAndT t u ρ S) Qb) (wpE (t ρ S) fun b S1 => if b = true then wpE (u ρ S1) Qb else Qb false S1) := ⟨w_andT⟩
instance iw_orT {t u : Mt} : Stp (wpE (mOrT t u ρ S) Qb) (wpE (t ρ S) fun b S1 => if b = true then Qb true S1 else wpE (u ρ S1) Qb) := ⟨w_orT⟩
instance iw_notT {t : Mt} : Stp (wpE (mNotT t ρ S) Qb) (wpE (t ρ S) fun b S1 => Qb (!b) S1) := ⟨w_notT⟩
instance iw_true  : Stp (wpE (tTrue ρ S) Qb) (Qb true S) := ⟨w_true⟩
instance iw_aNil  : Stp (wpE (aNil ρ S) Qs) (Qs [] S) := ⟨w_aNil⟩
instance iw_aCons {f : Mx} {fs : Ma} : Stp (wpE (aCons f fs ρ S) Qs) (wpE (f ρ S) fun x S1 => wpE (fs ρ S1) fun xs S2 => Qs (x :: xs) S2) := ⟨w_aCons⟩
instance iw_lst {fs : Ma} : Stp (wpE (mLst fs ρ S) Q) (wpE (fs ρ S) fun ws S1 => ws.length ≤ sizeLine ∧ Q (.list ws) S1) := ⟨w_lst⟩
instance iw_tup {fs : Ma} : Stp (wpE (mTup fs ρ S) Q) (wpE (fs ρ S) fun ws S1 => ws.length ≤ sizeLine ∧ Q (.tuple ws) S1) := ⟨w_tup⟩
instance iw_oNone  : Stp (wpE (oNone ρ S) Qo) (Qo none S) := ⟨w_oNone⟩
instance iw_oSome {f : Mx} : Stp (wpE (oSome f ρ S) Qo) (wpE (f ρ S) fun w S1 => ∃ i, w = .int i ∧ Qo (some i) S1) := ⟨w_oSome⟩
instance iw_sl {f : Mx} {lo hi : Mo} : Stp (wpE (mSl f lo hi ρ S) Q) (wpE (f ρ S) fun x S1 => wpE (lo ρ S1) fun l S2 => wpE (hi ρ S2) fun u S3 => wpO (gSl l u x) fun w => Q w S3) := ⟨w_sl⟩
instance iw_rec {names : List Str} {fs : Ma} : Stp (wpE (mRec names fs ρ S) Q) (wpE (fs ρ S) fun ws S1 => Q (oW S1.length) (S1 ++ [.dct (names.zip ws)])) := ⟨w_rec⟩
instance iw_call {g : Gd} {fs : Ma} : Stp (wpE (mCall g fs ρ S) Q) (wpE (fs ρ S) fun ws S1 => wpE (g ws S1) Q) := ⟨w_call⟩
instance iw_callK {g : Gd} {perm : List Wd → List Wd} {fs : Ma} : Stp (wpE (mCallK g perm fs ρ S) Q) (wpE (fs ρ S) fun ws S1 => wpE (g (perm ws) S1) Q) := ⟨w_callK⟩
instance iw_lc {vs : List Nat} {fi : Mi} {g : Mg} {t : Mt} {fe : Mx} : Stp (wpE (mLc vs fi g t fe ρ S) Q) (wpE (fi ρ S) fun ws S1 => wpE (lcLoop g t fe (wipeE ρ vs) ws [] S1) fun acc S2 => Q (.list acc) S2) := ⟨w_lc⟩
instance iw_iSeq {f : Mx} : Stp (wpE (iSeq f ρ S) Qs) (wpE (f ρ S) fun w S1 => wpO (itemsD w) fun ws => Qs ws S1) := ⟨w_iSeq⟩
instance iw_range1 {f : Mx} : Stp (wpE (iRange1 (aCons f aNil) ρ S) Qs) (wpE (f ρ S) fun w S1 => ∃ j, w = .int j ∧ (-(2 ^ 62) ≤ j ∧ j < 2 ^ 62) ∧ Qs (rangeD 0 j.toNat) S1) := ⟨w_range1⟩
instance iw_iStr {f : Mx} : Stp (wpE (iStr f ρ S) Qs) (wpE (f ρ S) fun w S1 => ∃ y, w = .str y ∧ Qs (signsD y) S1) := ⟨w_iStr⟩
instance iw_ok {α : Type} {a : α} {Q : α → Sto → Prop} : Stp (wpE (.ok a S) Q) (Q a S) := ⟨w_ok⟩
instance iw_t {A B : Prop} : Stp (if true = true then A else B) (A) := ⟨w_t⟩
instance iw_f {A B : Prop} : Stp (if false = true then A else B) (B) := ⟨w_f⟩
instance iwo_cells {k : Wd → Prop} {c : List Int} : Stp (wpO (gEq (.list (c.map PyData.int)) (.list [])) k) (k (.bool c.isEmpty)) := ⟨wo_cells⟩
instance iwo_le {i j : Int} {k : Wd → Prop} : Stp (wpO (gLe (.int i) (.int j)) k) (k (.bool (decide (i ≤ j)))) := ⟨wo_le⟩
instance iwo_lt {i j : Int} {k : Wd → Prop} : Stp (wpO (gLt (.int i) (.int j)) k) (k (.bool (decide (i < j)))) := ⟨wo_lt⟩
instance iwo_ge {i j : Int} {k : Wd → Prop} : Stp (wpO (gGe (.int i) (.int j)) k) (k (.bool (decide (j ≤ i)))) := ⟨wo_ge⟩
instance iwo_gt {i j : Int} {k : Wd → Prop} : Stp (wpO (gGt (.int i) (.int j)) k) (k (.bool (decide (j < i)))) := ⟨wo_gt⟩
instance iwo_eqi {i j : Int} {k : Wd → Prop} : Stp (wpO (gEq (.int i) (.int j)) k) (k (.bool (decide (i = j)))) := ⟨wo_eqi⟩
instance iwo_nei {i j : Int} {k : Wd → Prop} : Stp (wpO (gNe (.int i) (.int j)) k) (k (.bool (!decide (i = j)))) := ⟨wo_nei⟩
theorem zq11 {i : Nat} {w : Wd} (h : Q w S) (e : ρ[i]? = some (some (.val w)) := by with_unfolding_all rfl) : wpE (mV i ρ S) Q := w_V e h
theorem zq0 {i : Nat} {f : Mx} {ws : List Wd} (q : wpE (f ρ S) fun w S1 => ws.length < sizeLine ∧ N (ρ.set i (some (.own (ws ++ [w])))) S1) (h : ρ[i]? = some (some (.own ws)) := by with_unfolding_all rfl) : wpS (sApp i f ρ S) N Rt := w_app h q
theorem zq8 {fo : Mx} {x : Str} {f : Mx} (h : wpE (f ρ S) fun w S1 => wpE (fo ρ S1) fun o S2 => o = oW 0 ∧ wpO (recPut S2 0 x w) fun S3 => N ρ S3) : wpS (sPut fo x f ρ S) N Rt := w_put h
theorem zq10 {b : Bool} {A B : Prop} (h : A) (e : b = true := by with_unfolding_all rfl) : if b = true then A else B := w_bt e h
theorem zq3 {b : Bool} {A B : Prop} (h : B) (e : b = false := by with_unfolding_all rfl) : if b = true then A else B := w_bf e h
theorem zq5 {A : Prop} {ws : List Wd} (h : A) (e : decide (ws.length ≤ sizeLine) = true := by with_unfolding_all rfl) : ws.length ≤ sizeLine ∧ A := w_len h e
theorem zq6 {i j : Int} {k : Wd → Prop} (q : k (.int (i % j))) (h : 0 < j := by with_unfolding_all first | assumption | decide | omega) : wpO (gMod (.int i) (.int j)) k := wo_mod h q
theorem zq1 {i j : Int} {k : Wd → Prop} (q : k (.int (i / j))) (h : 0 < j := by with_unfolding_all first | assumption | decide | omega) (h1 : j < 1073741824 := by with_unfolding_all first | assumption | decide | omega) : wpO (gDiv (.int i) (.int j)) k := wo_div h h1 q
theorem zq13 {i j : Int} {k : Wd → Prop} (q : k (.int (i * j))) (h : (-(2 ^ 64) < i ∧ i < 2 ^ 64) ∨ (-(2 ^ 64) < j ∧ j < 2 ^ 64) := by with_unfolding_all first | exact Or.inl ⟨by decide, by decide⟩ | exact Or.inr ⟨by decide, by decide⟩ | exact Or.inl ⟨by omega, by omega⟩ | exact Or.inr ⟨by omega, by omega⟩) : wpO (gMul (.int i) (.int j)) k := wo_mul h q
theorem zq12 {i j : Int} {k : Wd → Prop} (q : k (.int (i ^ j.toNat))) (h : 0 ≤ j ∧ j ≤ 1000000 ∧ i.natAbs < 2 ^ 64 := by with_unfolding_all exact ⟨by decide, by decide, by first | decide | omega⟩) : wpO (gPow (.int i) (.int j)) k := wo_pow h q
theorem zq7 {i : Nat} {ws : List Wd} (q : Q (.int ws.length) S) (h : ρ[i]? = some (some (.own ws)) := by with_unfolding_all rfl) : wpE (mLenO i ρ S) Q := w_lenO h q
theorem zq2 {i : Nat} {f : Mx} {ws : List Wd} (q : wpE (f ρ S) fun w S1 => wpO (listD w) fun zs => ws.length + zs.length ≤ sizeLine ∧ N (ρ.set i (some (.own (ws ++ zs)))) S1) (h : ρ[i]? = some (some (.own ws)) := by with_unfolding_all rfl) : wpS (sExt i f ρ S) N Rt := w_ext' h q
theorem zq9 {α : Type} {o : Option α} {w : α} {k : α → Prop} (q : k w) (h : o = some w := by with_unfolding_all rfl) : wpO o k := ⟨w, h, q⟩
theorem zq4 {i : Int} {k : Int → Prop} (h : k i) : ∃ j, (PyData.int i : Wd) = .int j ∧ k j := ⟨i, rfl, h⟩
end
end DL
namespace DL
open PySem PySem.Spec PyProof.Rows L2
section
variable {N : List Wd → Ev → Sto → Prop} {Rt : List Wd → Sto → Prop} {ρ : Ev} {S : Sto} {ws : List Wd}
end
section
variable {ρ : Ev} {S : Sto} {Q : Wd → Sto → Prop}
end
theorem ixTo {S : Sto} {xs : List Wd} {i : Nat} {x : Wd} (h : xs[i]? = some x) : gIx S (.tuple xs) (.int i) = some x := by
  obtain ⟨hi, rfl⟩ := List.getElem?_eq_some_iff.1 h
  show atI xs i = _
  rw [atI_in (by omega) (by omega)]
  rfl
end DL
namespace PL
open PySem PySem.Spec PyProof.Rows L2 DL
def oS : Option Str → Wd
  | none => .none
  | some x => .str x
def encU (u : Int × Int) : Wd := .tuple [.int u.1, .int u.2]
def encUs (us : Us) : Wd := .tuple (us.map encU)
def encS (s : Int × Option Str) : Wd := .tuple [.int s.1, oS s.2]
def encSy (st : Sy) : Wd := .tuple (st.map encS)
abbrev encP : Str × Sy → Wd := prT encSy
abbrev encM : Str × Us → Wd := prT encUs
def jw : Bool → Str
  | false => "first"
  | true => "later"
mutual
def encL : Lim → Wd
  | .one w n => .tuple [.str w.str, .int n]
  | .join b ls => .tuple [.str (jw b), .tuple (encLs ls)]
def encLs : List Lim → List Wd
  | [] => []
  | l :: ls => encL l :: encLs ls
end
theorem encLs_map : ∀ ls : List Lim, encLs ls = ls.map encL
  | [] => rfl
  | l :: ls => by simp only [encLs, List.map_cons, encLs_map ls]
theorem encL_join {b : Bool} {ls : List Lim} : encL (.join b ls) = .tuple [.str (jw b), .tuple (ls.map encL)] := by rw [encL, encLs_map]
def encSl (a : Int × Int × Int) : Wd := .tuple [.int a.1, .int a.2.1, .int a.2.2]
def encJ (j : Job) : Wd := .tuple [.str j.nm, .str j.pt, .str j.wy, encL j.lim, encSl j.sl]
def encSite (s : Site) : Wd := .tuple [.tuple (s.mc.map encM), .tuple (s.parts.map encP), .tuple (s.jobs.map encJ)]
def LimB (lo hi : Int) : Nat → Lim → Prop
  | _, .one _ n => lo ≤ n ∧ n ≤ hi
  | 0, .join _ _ => False
  | k + 1, .join _ ls => ls ≠ [] ∧ ls.length ≤ 10 ∧ ∀ l ∈ ls, LimB lo hi k l
theorem LimB.mono {lo hi lo' hi' : Int} (h1 : lo' ≤ lo) (h2 : hi ≤ hi') : ∀ {k k' : Nat} {l : Lim}, k ≤ k' → LimB lo hi k l → LimB lo' hi' k' l
  | _, _, .one w n, _, h => by
    unfold LimB at h ⊢
    exact ⟨by omega, by omega⟩
  | 0, _, .join _ _, _, h => by
    unfold LimB at h
    exact h.elim
  | k + 1, 0, .join _ _, hk, _ => by omega
  | k + 1, k' + 1, .join b ls, hk, h => by
    unfold LimB at h ⊢
    exact ⟨h.1, h.2.1, fun l hl => LimB.mono h1 h2 (by omega) (h.2.2 l hl)⟩
theorem LimB.one_ {lo hi n : Int} {w : CW} {k : Nat} (h : LimB lo hi k (.one w n)) : lo ≤ n ∧ n ≤ hi := by unfold LimB at h; exact h
theorem LimB.join_ {lo hi : Int} {b : Bool} {ls : List Lim} {k : Nat} (h : LimB lo hi k (.join b ls)) : ∃ k', k = k' + 1 ∧ ls ≠ [] ∧ ls.length ≤ 10 ∧ ∀ l ∈ ls, LimB lo hi k' l := by
  cases k with
  | zero => unfold LimB at h; exact h.elim
  | succ k => unfold LimB at h; exact ⟨k, rfl, h⟩
theorem LimB.mk_one {lo hi n : Int} {w : CW} {k : Nat} (h : lo ≤ n ∧ n ≤ hi) : LimB lo hi k (.one w n) := by unfold LimB; exact h
theorem LimB.mk_join {lo hi : Int} {b : Bool} {ls : List Lim} {k : Nat} (h0 : ls ≠ []) (h1 : ls.length ≤ 10) (h : ∀ l ∈ ls, LimB lo hi k l) : LimB lo hi (k + 1) (.join b ls) := by unfold LimB; exact ⟨h0, h1, h⟩
def usAt (us : Us) (d : Int) : Int × Int := us.getD (if (us.length : Int) - 1 < d then (us.length : Int) - 1 else d).toNat (0, 0)
def plc (st : Sy) (d : Int) : Option Str := (((st.filter fun s => decide (s.1 ≤ d)).map (·.2)).getLast?).join
structure UsOk (us : Us) : Prop where
  ne : us ≠ []
  le : us.length ≤ 100
  bd : ∀ u ∈ us, (0 ≤ u.1 ∧ u.1 < 1000) ∧ 0 ≤ u.2 ∧ u.2 < 1000
instance {us : Us} : Decidable (UsOk us) := decidable_of_iff (us ≠ [] ∧ us.length ≤ 100 ∧ ∀ u ∈ us, (0 ≤ u.1 ∧ u.1 < 1000) ∧ 0 ≤ u.2 ∧ u.2 < 1000) ⟨fun ⟨a, b, c⟩ => ⟨a, b, c⟩, fun ⟨a, b, c⟩ => ⟨a, b, c⟩⟩
def Site.U (s : Site) (x : Str) : Us := (s.mc.lookup x).getD []
structure StOkP (s : Site) (st : Sy) : Prop where
  hd : ∃ p r, st = (0, p) :: r
  ln : st.length ≤ 1000
  up : ∀ q ∈ st, ∀ l, st.getLast? = some l → q.1 ≤ l.1
  nn : ∀ q ∈ st, 0 ≤ q.1 ∧ q.1 ≤ 1000
  us : ∀ q ∈ st, ∀ x, q.2 = some x → x ∈ s.mc.map (·.1)
section
variable {s : Site} {st : Sy} {d : Int}
theorem lookup_mem {α : Type} : ∀ {l : List (Str × α)} {x : Str}, x ∈ l.map (·.1) → ∃ u, l.lookup x = some u ∧ (x, u) ∈ l
  | [], _, h => by cases h
  | (y, v) :: l, x, h => by
    by_cases e : x = y
    · subst e
      exact ⟨v, by simp [List.lookup], List.mem_cons_self ..⟩
    · have h' : x ∈ l.map (·.1) := by
        simp only [List.map_cons, List.mem_cons] at h
        exact h.resolve_left e
      obtain ⟨u, h1, h2⟩ := lookup_mem h'
      refine ⟨u, ?_, List.mem_cons_of_mem _ h2⟩
      rw [List.lookup]
      have : (x == y) = false := by simpa using e
      rw [this]
      exact h1
theorem plc_mem {x : Str} (h : plc st d = some x) : ∃ q ∈ st, q.2 = some x := by
  unfold plc at h
  cases hl : ((st.filter fun s => decide (s.1 ≤ d)).map (·.2)).getLast? with
  | none => rw [hl] at h; cases h
  | some p =>
    rw [hl] at h
    have := List.mem_of_getLast? hl
    obtain ⟨s, hs, e⟩ := List.mem_map.1 this
    exact ⟨s, (List.mem_filter.1 hs).1, by rw [e]; exact h⟩
theorem StOkP.ne (h : StOkP s st) : st ≠ [] := by
  obtain ⟨p, r, e⟩ := h.hd
  rw [e]
  exact List.cons_ne_nil _ _
end
end PL
namespace WF
open PySem PySem.Spec PyProof.Rows L2 DL
end WF
namespace WF
open PySem PySem.Spec PyProof.Rows L2 DL
end WF
namespace WF
open PySem PySem.Spec PyProof.Rows L2 DL
end WF
namespace WF
open PySem PySem.Spec PyProof.Rows L2 DL
end WF
namespace WF
open PySem PySem.Spec PyProof.Rows L2 DL
end WF
namespace WF
open PySem PySem.Spec PyProof.Rows L2 DL PL
def NameOk (x : Str) : Prop := ∀ S, g_is_name [.str x] S = .ok (.bool true) S
section
variable {s : Site} {S : Sto} {st : Sy} {d lo hi : Int} {p : Str × Sy}
theorem part_names_eq (h : s.parts.length ≤ 1000) : g_part_names [encSite s] S = .ok (.list (s.parts.map fun p => .str p.1)) S := by
  refine wpR_ok (w_def rfl ?_)
  unfold m_part_names encSite
  (repeat (first | with_reducible refine zq15 ?_ | (with_reducible first | refine zq14 ?_ | refine zq11 ?_ | refine zq10 ?_ | refine zq3 ?_ | refine zq4 ?_ | refine zq5 ?_ | refine zq0 ?_ | refine zq8 ?_ | refine zq6 ?_ | refine zq1 ?_ | refine zq13 ?_ | refine zq12 ?_ | refine zq7 ?_ | refine zq2 ?_ | refine zq9 ?_)))
  exact lc_map (out := fun p => .str p.1) s.parts (by have := siz; omega) (fun x hx => ⟨_, rfl, rfl⟩) ⟨rfl, rfl⟩
theorem place_on_eq (h : StOkP s st) (hd : 0 ≤ d) : g_place_on [encSy st, .int d] S = .ok (oS (plc st d)) S := by
  refine wpR_ok (w_def rfl ?_)
  unfold m_place_on encSy
  (repeat (first | with_reducible refine zq15 ?_ | (with_reducible first | refine zq14 ?_ | refine zq11 ?_ | refine zq10 ?_ | refine zq3 ?_ | refine zq4 ?_ | refine zq5 ?_ | refine zq0 ?_ | refine zq8 ?_ | refine zq6 ?_ | refine zq1 ?_ | refine zq13 ?_ | refine zq12 ?_ | refine zq7 ?_ | refine zq2 ?_ | refine zq9 ?_)))
  refine w_eq (lc_pure (p := fun s => decide (s.1 ≤ d)) (out := fun s => oS s.2) st [] (by have := siz; have := h.ln; simp; omega) fun x hx => ⟨_, rfl, rfl, fun _ => rfl⟩) ?_
  (repeat (first | with_reducible refine zq15 ?_ | (with_reducible first | refine zq14 ?_ | refine zq11 ?_ | refine zq10 ?_ | refine zq3 ?_ | refine zq4 ?_ | refine zq5 ?_ | refine zq0 ?_ | refine zq8 ?_ | refine zq6 ?_ | refine zq1 ?_ | refine zq13 ?_ | refine zq12 ?_ | refine zq7 ?_ | refine zq2 ?_ | refine zq9 ?_)))
  have hne : st.filter (fun s => decide (s.1 ≤ d)) ≠ [] := by
    obtain ⟨p, r, e⟩ := h.hd
    rw [e]
    simp [hd]
  unfold plc
  generalize st.filter (fun s => decide (s.1 ≤ d)) = fs at hne
  obtain ⟨i, l, e⟩ : ∃ i l, fs = i ++ [l] := ⟨_, _, (List.dropLast_concat_getLast hne).symm⟩
  subst e
  refine ⟨oS l.2, ?_, ?_⟩
  · simp only [List.map_append, List.map_cons, List.map_nil, List.nil_append, gIx]
    exact atI_last _ _
  · simp
theorem use_on_eq {us : Us} (h : UsOk us) (hd : 0 ≤ d) : g_use_on [encUs us, .int d] S = .ok (encU (usAt us d)) S := by
  refine wpR_ok (w_def rfl ?_)
  unfold m_use_on encUs
  (repeat (first | with_reducible refine zq15 ?_ | (with_reducible first | refine zq14 ?_ | refine zq11 ?_ | refine zq10 ?_ | refine zq3 ?_ | refine zq4 ?_ | refine zq5 ?_ | refine zq0 ?_ | refine zq8 ?_ | refine zq6 ?_ | refine zq1 ?_ | refine zq13 ?_ | refine zq12 ?_ | refine zq7 ?_ | refine zq2 ?_ | refine zq9 ?_)))
  have hl : 0 < us.length := List.length_pos_iff.2 h.ne
  unfold usAt
  simp only [List.length_map]
  have h0 : 0 ≤ (if (us.length : Int) - 1 < d then (us.length : Int) - 1 else d) := by split <;> omega
  have h1 : (if (us.length : Int) - 1 < d then (us.length : Int) - 1 else d) < us.length := by split <;> omega
  generalize (if (us.length : Int) - 1 < d then (us.length : Int) - 1 else d) = i at h0 h1
  refine wpO_rfl (atI_in h0 (by simpa using h1)) ?_
  simp only [List.getElem_map, and_true]
  rw [List.getD_eq_getElem?_getD, List.getElem?_eq_getElem (by omega)]
  rfl
theorem require_eq {w1 w2 : Wd} : g_require_usable [.bool true, w1, w2] S = .ok .none S := rfl
theorem is_number_eq {i : Int} (h : 0 ≤ i) : g_is_number [.int i] S = .ok (.bool true) S := by
  refine wpR_ok (w_def rfl ?_)
  unfold m_is_number
  (repeat (first | with_reducible refine zq15 ?_ | (with_reducible first | refine zq14 ?_ | refine zq11 ?_ | refine zq10 ?_ | refine zq3 ?_ | refine zq4 ?_ | refine zq5 ?_ | refine zq0 ?_ | refine zq8 ?_ | refine zq6 ?_ | refine zq1 ?_ | refine zq13 ?_ | refine zq12 ?_ | refine zq7 ?_ | refine zq2 ?_ | refine zq9 ?_)))
  refine w_eq (a := .bool true) (S' := S) rfl ?_
  (repeat (first | with_reducible refine zq15 ?_ | (with_reducible first | refine zq14 ?_ | refine zq11 ?_ | refine zq10 ?_ | refine zq3 ?_ | refine zq4 ?_ | refine zq5 ?_ | refine zq0 ?_ | refine zq8 ?_ | refine zq6 ?_ | refine zq1 ?_ | refine zq13 ?_ | refine zq12 ?_ | refine zq7 ?_ | refine zq2 ?_ | refine zq9 ?_)))
  rw [decide_eq_true h]
  exact ⟨rfl, rfl⟩
end
end WF
namespace WF
open PySem PySem.Spec PyProof.Rows L2 DL
end WF
namespace WF
open PySem PySem.Spec PyProof.Rows L2 DL
end WF
namespace WF
open PySem PySem.Spec PyProof.Rows L2 DL
end WF
namespace WF
open PySem PySem.Spec PyProof.Rows L2 DL
end WF
namespace WF
open PySem PySem.Spec PyProof.Rows L2 DL
end WF
namespace WF
open PySem PySem.Spec PyProof.Rows L2 DL
end WF
namespace WF
open PySem PySem.Spec PyProof.Rows L2 DL
end WF
namespace PL
open PySem PySem.Spec PyProof.Rows L2 DL
mutual
def szL : Lim → Nat
  | .one _ _ => 1
  | .join _ ls => 1 + szLs ls
def szLs : List Lim → Nat
  | [] => 0
  | l :: ls => szL l + szLs ls
end
def en : Nat → List Lim → List (Nat × Lim)
  | _, [] => []
  | n, l :: ls => (n, l) :: en (n + 1) ls
theorem ints_int : ∀ l : List Int, intsD (l.map PyData.int) = some l
  | [] => rfl
  | x :: l => by simp only [List.map_cons, intsD, ints_int l, Option.map_some]
end PL
namespace WF
open PySem PySem.Spec PyProof.Rows L2 DL PL
section
variable {s : Site} {S : Sto} {st : Sy} {b : Int} {p : Str × Sy}
structure LimOk (hi : Int) (k : Nat) (l : Lim) : Prop where
  b : LimB 1 hi k l
  z : szL l ≤ 500
  d : k ≤ 50
end
end WF
namespace WF
open PySem PySem.Spec PyProof.Rows L2 DL
end WF
namespace WF
open PySem PySem.Spec PyProof.Rows L2 DL
end WF
namespace WF
open PySem PySem.Spec PyProof.Rows L2 DL
end WF
namespace WF
open PySem PySem.Spec PyProof.Rows L2 DL
end WF
namespace WF
open PySem PySem.Spec PyProof.Rows L2 DL
end WF
namespace WF
open PySem PySem.Spec PyProof.Rows L2 DL
end WF
namespace PL
open PySem PySem.Spec PyProof.Rows L2 DL
end PL
namespace WF
open PySem PySem.Spec PyProof.Rows L2 DL PL
section
variable {s : Site} {S : Sto} {st : Sy} {b d : Int} {p : Str × Sy}
end
end WF
namespace WF
open PySem PySem.Spec PyProof.Rows L2 DL
end WF
namespace WF
open PySem PySem.Spec PyProof.Rows L2 DL
end WF
namespace WF
open PySem PySem.Spec PyProof.Rows L2 DL
end WF
namespace WF
open PySem PySem.Spec PyProof.Rows L2 DL
end WF
namespace PL
open PySem PySem.Spec PyProof.Rows L2 DL
abbrev ltS (x y : Str) : Prop := kS x < kS y
theorem ltS_ne {x y : Str} (h : ltS x y) : x ≠ y := fun e => List.lt_irrefl _ (by rw [e] at h; exact h)
theorem rise_nodup {l : List Str} (h : l.Pairwise ltS) : l.Nodup := h.imp ltS_ne
end PL
namespace WF
open PySem PySem.Spec PyProof.Rows L2 DL PL
structure Nm (x : Str) : Prop where
  ok : NameOk x
  so : PyData.strOk x = true
  le : x.cps.size ≤ 8
structure StK (nm : List Str) (n : Nat) (st : Sy) : Prop where
  hd : ∃ p r, st = (0, p) :: r
  ln : st.length ≤ n
  rise : (st.map (·.1)).Pairwise (· < ·)
  bd : ∀ q ∈ st, 0 ≤ q.1 ∧ q.1 ≤ 1000
  us : ∀ q ∈ st, ∀ x, q.2 = some x → x ∈ nm
structure JbK (pn : List Str) (j : Job) : Prop where
  pt : j.pt ∈ pn
  wy : j.wy = ("kept" : Str) ∨ j.wy = ("fresh" : Str)
  lim : ∃ hi k, LimOk hi k j.lim ∧ k ≤ 12
  sl : 0 ≤ j.sl.1 ∧ 0 ≤ j.sl.2.1 ∧ 0 ≤ j.sl.2.2
structure Good (n : Nat) (s : Site) : Prop where
  mn : ∀ m ∈ s.mc, Nm m.1
  pn : ∀ p ∈ s.parts, Nm p.1
  jn : ∀ j ∈ s.jobs, Nm j.nm
  mr : (s.mc.map (·.1)).Pairwise ltS
  pr : (s.parts.map (·.1)).Pairwise ltS
  jr : (s.jobs.map (·.nm)).Pairwise ltS
  us : ∀ m ∈ s.mc, UsOk m.2
  st : ∀ p ∈ s.parts, StK (s.mc.map (·.1)) n p.2
  jb : ∀ j ∈ s.jobs, JbK (s.parts.map (·.1)) j
  ml : s.mc.length ≤ 20
  pl : s.parts.length ≤ 20
  jl : s.jobs.length ≤ 20
  n3 : n ≤ 300
theorem StK.up {nm : List Str} {n : Nat} {st : Sy} (h : StK nm n st) : ∀ q ∈ st, ∀ l, st.getLast? = some l → q.1 ≤ l.1 := by
  intro q hq l hl
  obtain ⟨i, rfl⟩ := List.getLast?_eq_some_iff.1 hl
  have := h.rise
  rw [List.map_append, List.pairwise_append] at this
  rcases List.mem_append.1 hq with m | m
  · have := this.2.2 q.1 (List.mem_map_of_mem m) l.1 (by simp)
    omega
  · rw [List.mem_singleton.1 m]
    exact Int.le_refl _
section
variable {s : Site} {S : Sto} {n : Nat} {d : Int} {Q : Wd → Sto → Prop}
theorem Good.stp (h : Good n s) {p : Str × Sy} (hp : p ∈ s.parts) : StOkP s p.2 := by
  have k := h.st p hp
  have := h.n3
  exact ⟨k.hd, by have := k.ln; omega, k.up, k.bd, k.us⟩
theorem sh_str {x : Str} (h : PyData.strOk x = true) : SeqAt.shaped (.str x) = true := by
  simp only [SeqAt.shaped, PyData.canLay0, h, PyData.depth, Bool.true_and]
  exact decide_eq_true (by omega)
theorem sh_iff {w : Wd} : SeqAt.shaped w = true ↔ w.canLay0 = true ∧ w.depth ≤ 60 ∨ SeqAt.shaped w = true := ⟨.inr, fun h => h.elim (fun ⟨a, b⟩ => by
  simp only [SeqAt.shaped, a, Bool.true_and, decide_eq_true_eq]
  omega) id⟩
structure Lay (k : Nat) (w : Wd) : Prop where
  cl : w.canLay0 = true
  dp : w.depth ≤ k
theorem Lay.sh {k : Nat} {w : Wd} (h : Lay k w) (hk : k ≤ 60) : SeqAt.shaped w = true := sh_iff.2 (.inl ⟨h.cl, by have := h.dp; omega⟩)
theorem Lay.mono {k k' : Nat} {w : Wd} (h : Lay k w) (hk : k ≤ k') : Lay k' w := ⟨h.cl, Nat.le_trans h.dp hk⟩
theorem lay_all {k : Nat} : ∀ {xs : List Wd}, (∀ x ∈ xs, Lay k x) → PyData.canLayAll0 xs = true ∧ PyData.depthAll xs ≤ k
  | [], _ => ⟨rfl, by simp [PyData.depthAll]⟩
  | x :: xs, h => by
    obtain ⟨a, b⟩ := lay_all fun y hy => h y (List.mem_cons_of_mem _ hy)
    have c := h x (List.mem_cons_self ..)
    exact ⟨by simp [PyData.canLayAll0, c.cl, a], by simp only [PyData.depthAll]; have := c.dp; omega⟩
theorem Lay.tup {k : Nat} {xs : List Wd} (h : ∀ x ∈ xs, Lay k x) : Lay (k + 1) (.tuple xs) := by
  obtain ⟨a, b⟩ := lay_all h
  exact ⟨by simpa [PyData.canLay0] using a, by simp only [PyData.depth]; omega⟩
theorem Lay.lst {k : Nat} {xs : List Wd} (h : ∀ x ∈ xs, Lay k x) : Lay (k + 1) (.list xs) := by
  obtain ⟨a, b⟩ := lay_all h
  exact ⟨by simpa [PyData.canLay0] using a, by simp only [PyData.depth]; omega⟩
theorem Lay.int {i : Int} {k : Nat} : Lay k (.int i) := ⟨rfl, by simp [PyData.depth]⟩
theorem Lay.non {k : Nat} : Lay k .none := ⟨rfl, by simp [PyData.depth]⟩
theorem Lay.bool {b : Bool} {k : Nat} : Lay k (.bool b) := ⟨rfl, by simp [PyData.depth]⟩
theorem Lay.str {x : Str} (h : PyData.strOk x = true) {k : Nat} : Lay k (.str x) := ⟨by simpa [PyData.canLay0] using h, by simp [PyData.depth]⟩
theorem strs_sh {ns : List Str} (h : ∀ x ∈ ns, PyData.strOk x = true) : SeqAt.shaped (.list (ns.map PyData.str)) = true :=
  (Lay.lst (k := 0) fun w hw => by
    obtain ⟨x, hx, rfl⟩ := List.mem_map.1 hw
    exact Lay.str (h x hx)).sh (by decide)
theorem find_S : ∀ (ns : List Str) (n i : Nat) (x : Str), ns.Nodup → ns[i]? = some x → findD (.str x) (ns.map PyData.str) n = some (n + i)
  | [], _, _, _, _, h => by simp at h
  | y :: ns, n, 0, x, nd, h => by
    simp only [List.getElem?_cons_zero, Option.some.injEq] at h
    subst h
    simp only [List.map_cons, findD]
    rw [if_pos (by rw [eqv_str]; exact beq_self_eq_true _)]
    rfl
  | y :: ns, n, i + 1, x, nd, h => by
    simp only [List.getElem?_cons_succ] at h
    have nd := List.nodup_cons.1 nd
    have ne : y ≠ x := fun e => nd.1 (by rw [e]; exact List.mem_of_getElem? h)
    simp only [List.map_cons, findD]
    rw [if_neg (by rw [eqv_str]; simpa using ne), find_S ns (n + 1) i x nd.2 h]
    congr 1
    omega
theorem in_strs {ns : List Str} {x : Str} (hn : ∀ y ∈ ns, PyData.strOk y = true) (hx : PyData.strOk x = true) : gIn (.str x) (.list (ns.map PyData.str)) = some (.bool (decide (x ∈ ns))) := by
  simp only [gIn]
  rw [if_pos ⟨sh_str hx, strs_sh hn⟩]
  congr 2
  by_cases c : x ∈ ns
  · rw [decide_eq_true c, List.any_eq_true]
    exact ⟨.str x, List.mem_map_of_mem c, by rw [eqv_str]; exact beq_self_eq_true _⟩
  · rw [decide_eq_false c]
    cases e : (ns.map PyData.str).any fun z => PyData.eqv z (.str x) with
    | false => rfl
    | true =>
      obtain ⟨w, hw, e⟩ := List.any_eq_true.1 e
      obtain ⟨y, hy, rfl⟩ := List.mem_map.1 hw
      rw [eqv_str] at e
      exact absurd (by rw [← beq_iff_eq.1 e]; exact hy) c
theorem ix_strs {ns : List Str} {x : Str} {i : Nat} (nd : ns.Nodup) (hn : ∀ y ∈ ns, PyData.strOk y = true) (hi : ns[i]? = some x) : gIndex (.list (ns.map PyData.str)) (.str x) = some (.int i) := by
  simp only [gIndex]
  rw [if_pos ⟨strs_sh hn, sh_str (hn x (List.mem_of_getElem? hi))⟩, find_S ns 0 i x nd hi, Nat.zero_add]
  rfl
theorem index_among_eq {ns : List Str} {x : Str} {i : Nat} {w1 : Wd} (nd : ns.Nodup) (hn : ∀ y ∈ ns, PyData.strOk y = true) (hx : NameOk x) (hi : ns[i]? = some x) : g_index_among [.list (ns.map PyData.str), .str x, w1] S = .ok (.int i) S := by
  have hm := List.mem_of_getElem? hi
  refine wpR_ok (w_def rfl ?_)
  unfold m_index_among
  (repeat (first | with_reducible refine zq15 ?_ | (with_reducible first | refine zq14 ?_ | refine zq11 ?_ | refine zq10 ?_ | refine zq3 ?_ | refine zq4 ?_ | refine zq5 ?_ | refine zq0 ?_ | refine zq8 ?_ | refine zq6 ?_ | refine zq1 ?_ | refine zq13 ?_ | refine zq12 ?_ | refine zq7 ?_ | refine zq2 ?_ | refine zq9 ?_)))
  refine w_eq (hx S) ?_
  (repeat (first | with_reducible refine zq15 ?_ | (with_reducible first | refine zq14 ?_ | refine zq11 ?_ | refine zq10 ?_ | refine zq3 ?_ | refine zq4 ?_ | refine zq5 ?_ | refine zq0 ?_ | refine zq8 ?_ | refine zq6 ?_ | refine zq1 ?_ | refine zq13 ?_ | refine zq12 ?_ | refine zq7 ?_ | refine zq2 ?_ | refine zq9 ?_)))
  refine wpO_rfl (in_strs hn (hn x hm)) ?_
  rw [decide_eq_true hm]
  (repeat (first | with_reducible refine zq15 ?_ | (with_reducible first | refine zq14 ?_ | refine zq11 ?_ | refine zq10 ?_ | refine zq3 ?_ | refine zq4 ?_ | refine zq5 ?_ | refine zq0 ?_ | refine zq8 ?_ | refine zq6 ?_ | refine zq1 ?_ | refine zq13 ?_ | refine zq12 ?_ | refine zq7 ?_ | refine zq2 ?_ | refine zq9 ?_)))
  refine w_eq require_eq ?_
  (repeat (first | with_reducible refine zq15 ?_ | (with_reducible first | refine zq14 ?_ | refine zq11 ?_ | refine zq10 ?_ | refine zq3 ?_ | refine zq4 ?_ | refine zq5 ?_ | refine zq0 ?_ | refine zq8 ?_ | refine zq6 ?_ | refine zq1 ?_ | refine zq13 ?_ | refine zq12 ?_ | refine zq7 ?_ | refine zq2 ?_ | refine zq9 ?_)))
  exact wpO_rfl (ix_strs nd hn hi) ⟨rfl, rfl⟩
theorem machine_names_eq (h : s.mc.length ≤ 1000) : g_machine_names [encSite s] S = .ok (.list ((s.mc.map (·.1)).map PyData.str)) S := by
  refine wpR_ok (w_def rfl ?_)
  unfold m_machine_names encSite
  (repeat (first | with_reducible refine zq15 ?_ | (with_reducible first | refine zq14 ?_ | refine zq11 ?_ | refine zq10 ?_ | refine zq3 ?_ | refine zq4 ?_ | refine zq5 ?_ | refine zq0 ?_ | refine zq8 ?_ | refine zq6 ?_ | refine zq1 ?_ | refine zq13 ?_ | refine zq12 ?_ | refine zq7 ?_ | refine zq2 ?_ | refine zq9 ?_)))
  refine lc_map (enc := PL.encM) (out := fun p => .str p.1) s.mc (by have := siz; omega) (fun x hx => ⟨_, rfl, rfl⟩) ?_
  (repeat (first | with_reducible refine zq15 ?_ | (with_reducible first | refine zq14 ?_ | refine zq11 ?_ | refine zq10 ?_ | refine zq3 ?_ | refine zq4 ?_ | refine zq5 ?_ | refine zq0 ?_ | refine zq8 ?_ | refine zq6 ?_ | refine zq1 ?_ | refine zq13 ?_ | refine zq12 ?_ | refine zq7 ?_ | refine zq2 ?_ | refine zq9 ?_)))
  rw [List.map_map]
  exact ⟨rfl, rfl⟩
theorem part_namesK (h : s.parts.length ≤ 1000) : g_part_names [encSite s] S = .ok (.list ((s.parts.map (·.1)).map PyData.str)) S := by
  rw [part_names_eq h, List.map_map]
  rfl
theorem task_names_eq (h : s.jobs.length ≤ 1000) : g_task_names [encSite s] S = .ok (.list ((s.jobs.map (·.nm)).map PyData.str)) S := by
  refine wpR_ok (w_def rfl ?_)
  unfold m_task_names encSite
  (repeat (first | with_reducible refine zq15 ?_ | (with_reducible first | refine zq14 ?_ | refine zq11 ?_ | refine zq10 ?_ | refine zq3 ?_ | refine zq4 ?_ | refine zq5 ?_ | refine zq0 ?_ | refine zq8 ?_ | refine zq6 ?_ | refine zq1 ?_ | refine zq13 ?_ | refine zq12 ?_ | refine zq7 ?_ | refine zq2 ?_ | refine zq9 ?_)))
  refine lc_map (enc := encJ) (out := fun p => .str p.nm) s.jobs (by have := siz; omega) (fun x hx => ⟨_, rfl, rfl⟩) ?_
  (repeat (first | with_reducible refine zq15 ?_ | (with_reducible first | refine zq14 ?_ | refine zq11 ?_ | refine zq10 ?_ | refine zq3 ?_ | refine zq4 ?_ | refine zq5 ?_ | refine zq0 ?_ | refine zq8 ?_ | refine zq6 ?_ | refine zq1 ?_ | refine zq13 ?_ | refine zq12 ?_ | refine zq7 ?_ | refine zq2 ?_ | refine zq9 ?_)))
  rw [List.map_map]
  exact ⟨rfl, rfl⟩
section
variable (G : Good n s)
include G
theorem Good.mso : ∀ y ∈ s.mc.map (·.1), PyData.strOk y = true := fun y hy => by
  obtain ⟨m, hm, rfl⟩ := List.mem_map.1 hy
  exact (G.mn m hm).so
theorem Good.pso : ∀ y ∈ s.parts.map (·.1), PyData.strOk y = true := fun y hy => by
  obtain ⟨m, hm, rfl⟩ := List.mem_map.1 hy
  exact (G.pn m hm).so
theorem Good.jso : ∀ y ∈ s.jobs.map (·.nm), PyData.strOk y = true := fun y hy => by
  obtain ⟨m, hm, rfl⟩ := List.mem_map.1 hy
  exact (G.jn m hm).so
theorem uses_of_eq {i : Nat} {m : Str × Us} (hi : s.mc[i]? = some m) : g_uses_of [encSite s, .str m.1] S = .ok (encUs m.2) S := by
  have := G.ml
  refine wpR_ok (w_def rfl ?_)
  unfold m_uses_of
  (repeat (first | with_reducible refine zq15 ?_ | (with_reducible first | refine zq14 ?_ | refine zq11 ?_ | refine zq10 ?_ | refine zq3 ?_ | refine zq4 ?_ | refine zq5 ?_ | refine zq0 ?_ | refine zq8 ?_ | refine zq6 ?_ | refine zq1 ?_ | refine zq13 ?_ | refine zq12 ?_ | refine zq7 ?_ | refine zq2 ?_ | refine zq9 ?_)))
  refine w_eq (machine_names_eq (by omega)) ?_
  (repeat (first | with_reducible refine zq15 ?_ | (with_reducible first | refine zq14 ?_ | refine zq11 ?_ | refine zq10 ?_ | refine zq3 ?_ | refine zq4 ?_ | refine zq5 ?_ | refine zq0 ?_ | refine zq8 ?_ | refine zq6 ?_ | refine zq1 ?_ | refine zq13 ?_ | refine zq12 ?_ | refine zq7 ?_ | refine zq2 ?_ | refine zq9 ?_)))
  refine w_eq (index_among_eq (i := i) (rise_nodup G.mr) G.mso (G.mn m (List.mem_of_getElem? hi)).ok (by rw [List.getElem?_map, hi]; rfl)) ?_
  refine wpO_rfl (ixTo (x := PL.encM m) (by rw [List.getElem?_map, hi]; rfl)) ?_
  (repeat (first | with_reducible refine zq15 ?_ | (with_reducible first | refine zq14 ?_ | refine zq11 ?_ | refine zq10 ?_ | refine zq3 ?_ | refine zq4 ?_ | refine zq5 ?_ | refine zq0 ?_ | refine zq8 ?_ | refine zq6 ?_ | refine zq1 ?_ | refine zq13 ?_ | refine zq12 ?_ | refine zq7 ?_ | refine zq2 ?_ | refine zq9 ?_)))
  exact ⟨rfl, rfl⟩
theorem stays_ofK {i : Nat} {p : Str × Sy} (hi : s.parts[i]? = some p) : g_stays_of [encSite s, .str p.1] S = .ok (encSy p.2) S := by
  have := G.pl
  refine wpR_ok (w_def rfl ?_)
  unfold m_stays_of
  (repeat (first | with_reducible refine zq15 ?_ | (with_reducible first | refine zq14 ?_ | refine zq11 ?_ | refine zq10 ?_ | refine zq3 ?_ | refine zq4 ?_ | refine zq5 ?_ | refine zq0 ?_ | refine zq8 ?_ | refine zq6 ?_ | refine zq1 ?_ | refine zq13 ?_ | refine zq12 ?_ | refine zq7 ?_ | refine zq2 ?_ | refine zq9 ?_)))
  refine w_eq (part_namesK (by omega)) ?_
  (repeat (first | with_reducible refine zq15 ?_ | (with_reducible first | refine zq14 ?_ | refine zq11 ?_ | refine zq10 ?_ | refine zq3 ?_ | refine zq4 ?_ | refine zq5 ?_ | refine zq0 ?_ | refine zq8 ?_ | refine zq6 ?_ | refine zq1 ?_ | refine zq13 ?_ | refine zq12 ?_ | refine zq7 ?_ | refine zq2 ?_ | refine zq9 ?_)))
  refine w_eq (index_among_eq (i := i) (rise_nodup G.pr) G.pso (G.pn p (List.mem_of_getElem? hi)).ok (by rw [List.getElem?_map, hi]; rfl)) ?_
  refine wpO_rfl (ixTo (x := encP p) (by rw [List.getElem?_map, hi]; rfl)) ?_
  (repeat (first | with_reducible refine zq15 ?_ | (with_reducible first | refine zq14 ?_ | refine zq11 ?_ | refine zq10 ?_ | refine zq3 ?_ | refine zq4 ?_ | refine zq5 ?_ | refine zq0 ?_ | refine zq8 ?_ | refine zq6 ?_ | refine zq1 ?_ | refine zq13 ?_ | refine zq12 ?_ | refine zq7 ?_ | refine zq2 ?_ | refine zq9 ?_)))
  exact ⟨rfl, rfl⟩
theorem number_of_eq {i : Nat} {j : Job} (hi : s.jobs[i]? = some j) : g_number_of [encSite s, .str j.nm] S = .ok (.int i) S := by
  have := G.jl
  refine wpR_ok (w_def rfl ?_)
  unfold m_number_of
  (repeat (first | with_reducible refine zq15 ?_ | (with_reducible first | refine zq14 ?_ | refine zq11 ?_ | refine zq10 ?_ | refine zq3 ?_ | refine zq4 ?_ | refine zq5 ?_ | refine zq0 ?_ | refine zq8 ?_ | refine zq6 ?_ | refine zq1 ?_ | refine zq13 ?_ | refine zq12 ?_ | refine zq7 ?_ | refine zq2 ?_ | refine zq9 ?_)))
  refine w_eq (task_names_eq (by omega)) ?_
  (repeat (first | with_reducible refine zq15 ?_ | (with_reducible first | refine zq14 ?_ | refine zq11 ?_ | refine zq10 ?_ | refine zq3 ?_ | refine zq4 ?_ | refine zq5 ?_ | refine zq0 ?_ | refine zq8 ?_ | refine zq6 ?_ | refine zq1 ?_ | refine zq13 ?_ | refine zq12 ?_ | refine zq7 ?_ | refine zq2 ?_ | refine zq9 ?_)))
  exact w_eq (index_among_eq (i := i) (rise_nodup G.jr) G.jso (G.jn j (List.mem_of_getElem? hi)).ok (by rw [List.getElem?_map, hi]; rfl)) ⟨rfl, rfl⟩
theorem task_of_eq {i : Nat} {j : Job} (hi : s.jobs[i]? = some j) : g_task_of [encSite s, .str j.nm] S = .ok (encJ j) S := by
  refine wpR_ok (w_def rfl ?_)
  unfold m_task_of
  (repeat (first | with_reducible refine zq15 ?_ | (with_reducible first | refine zq14 ?_ | refine zq11 ?_ | refine zq10 ?_ | refine zq3 ?_ | refine zq4 ?_ | refine zq5 ?_ | refine zq0 ?_ | refine zq8 ?_ | refine zq6 ?_ | refine zq1 ?_ | refine zq13 ?_ | refine zq12 ?_ | refine zq7 ?_ | refine zq2 ?_ | refine zq9 ?_)))
  refine w_eq (number_of_eq G hi) ?_
  exact wpO_rfl (ixTo (x := encJ j) (by rw [List.getElem?_map, hi]; rfl)) ⟨rfl, rfl⟩
theorem part_of_eq {i : Nat} {j : Job} (hi : s.jobs[i]? = some j) : g_part_of [encSite s, .str j.nm] S = .ok (.str j.pt) S := by
  refine wpR_ok (w_def rfl ?_)
  unfold m_part_of
  (repeat (first | with_reducible refine zq15 ?_ | (with_reducible first | refine zq14 ?_ | refine zq11 ?_ | refine zq10 ?_ | refine zq3 ?_ | refine zq4 ?_ | refine zq5 ?_ | refine zq0 ?_ | refine zq8 ?_ | refine zq6 ?_ | refine zq1 ?_ | refine zq13 ?_ | refine zq12 ?_ | refine zq7 ?_ | refine zq2 ?_ | refine zq9 ?_)))
  refine w_eq (task_of_eq G hi) ?_
  (repeat (first | with_reducible refine zq15 ?_ | (with_reducible first | refine zq14 ?_ | refine zq11 ?_ | refine zq10 ?_ | refine zq3 ?_ | refine zq4 ?_ | refine zq5 ?_ | refine zq0 ?_ | refine zq8 ?_ | refine zq6 ?_ | refine zq1 ?_ | refine zq13 ?_ | refine zq12 ?_ | refine zq7 ?_ | refine zq2 ?_ | refine zq9 ?_)))
  exact ⟨rfl, rfl⟩
omit G in
theorem require_day_eq (hd : 0 ≤ d) : g_require_day [.int d] S = .ok .none S := by
  refine wpR_ok (w_def rfl ?_)
  unfold m_require_day
  (repeat (first | with_reducible refine zq15 ?_ | (with_reducible first | refine zq14 ?_ | refine zq11 ?_ | refine zq10 ?_ | refine zq3 ?_ | refine zq4 ?_ | refine zq5 ?_ | refine zq0 ?_ | refine zq8 ?_ | refine zq6 ?_ | refine zq1 ?_ | refine zq13 ?_ | refine zq12 ?_ | refine zq7 ?_ | refine zq2 ?_ | refine zq9 ?_)))
  refine w_eq (is_number_eq hd) ?_
  (repeat (first | with_reducible refine zq15 ?_ | (with_reducible first | refine zq14 ?_ | refine zq11 ?_ | refine zq10 ?_ | refine zq3 ?_ | refine zq4 ?_ | refine zq5 ?_ | refine zq0 ?_ | refine zq8 ?_ | refine zq6 ?_ | refine zq1 ?_ | refine zq13 ?_ | refine zq12 ?_ | refine zq7 ?_ | refine zq2 ?_ | refine zq9 ?_)))
  exact w_eq require_eq ⟨rfl, rfl⟩
theorem require_place_eq {o : Option Str} (ho : ∀ x, o = some x → x ∈ s.mc.map (·.1)) : g_require_place [encSite s, oS o] S = .ok .none S := by
  have := G.ml
  refine wpR_ok (w_def rfl ?_)
  unfold m_require_place
  cases o with
  | none =>
    (repeat (first | with_reducible refine zq15 ?_ | (with_reducible first | refine zq14 ?_ | refine zq11 ?_ | refine zq10 ?_ | refine zq3 ?_ | refine zq4 ?_ | refine zq5 ?_ | refine zq0 ?_ | refine zq8 ?_ | refine zq6 ?_ | refine zq1 ?_ | refine zq13 ?_ | refine zq12 ?_ | refine zq7 ?_ | refine zq2 ?_ | refine zq9 ?_)))
    exact w_eq require_eq ⟨rfl, rfl⟩
  | some x =>
    have hx := ho x rfl
    obtain ⟨m, hm, e⟩ := List.mem_map.1 hx
    have hN := (G.mn m hm).ok
    rw [e] at hN
    (repeat (first | with_reducible refine zq15 ?_ | (with_reducible first | refine zq14 ?_ | refine zq11 ?_ | refine zq10 ?_ | refine zq3 ?_ | refine zq4 ?_ | refine zq5 ?_ | refine zq0 ?_ | refine zq8 ?_ | refine zq6 ?_ | refine zq1 ?_ | refine zq13 ?_ | refine zq12 ?_ | refine zq7 ?_ | refine zq2 ?_ | refine zq9 ?_)))
    refine w_eq (hN S) ?_
    (repeat (first | with_reducible refine zq15 ?_ | (with_reducible first | refine zq14 ?_ | refine zq11 ?_ | refine zq10 ?_ | refine zq3 ?_ | refine zq4 ?_ | refine zq5 ?_ | refine zq0 ?_ | refine zq8 ?_ | refine zq6 ?_ | refine zq1 ?_ | refine zq13 ?_ | refine zq12 ?_ | refine zq7 ?_ | refine zq2 ?_ | refine zq9 ?_)))
    refine w_eq (machine_names_eq (by omega)) ?_
    refine wpO_rfl (in_strs G.mso (G.mso x hx)) ?_
    rw [decide_eq_true hx]
    (repeat (first | with_reducible refine zq15 ?_ | (with_reducible first | refine zq14 ?_ | refine zq11 ?_ | refine zq10 ?_ | refine zq3 ?_ | refine zq4 ?_ | refine zq5 ?_ | refine zq0 ?_ | refine zq8 ?_ | refine zq6 ?_ | refine zq1 ?_ | refine zq13 ?_ | refine zq12 ?_ | refine zq7 ?_ | refine zq2 ?_ | refine zq9 ?_)))
    exact w_eq require_eq ⟨rfl, rfl⟩
theorem place_of_eq {i : Nat} {p : Str × Sy} (hi : s.parts[i]? = some p) (hd : 0 ≤ d) : g_place_of [encSite s, .str p.1, .int d] S = .ok (oS (plc p.2 d)) S := by
  refine wpR_ok (w_def rfl ?_)
  unfold m_place_of
  (repeat (first | with_reducible refine zq15 ?_ | (with_reducible first | refine zq14 ?_ | refine zq11 ?_ | refine zq10 ?_ | refine zq3 ?_ | refine zq4 ?_ | refine zq5 ?_ | refine zq0 ?_ | refine zq8 ?_ | refine zq6 ?_ | refine zq1 ?_ | refine zq13 ?_ | refine zq12 ?_ | refine zq7 ?_ | refine zq2 ?_ | refine zq9 ?_)))
  refine w_eq (stays_ofK G hi) ?_
  (repeat (first | with_reducible refine zq15 ?_ | (with_reducible first | refine zq14 ?_ | refine zq11 ?_ | refine zq10 ?_ | refine zq3 ?_ | refine zq4 ?_ | refine zq5 ?_ | refine zq0 ?_ | refine zq8 ?_ | refine zq6 ?_ | refine zq1 ?_ | refine zq13 ?_ | refine zq12 ?_ | refine zq7 ?_ | refine zq2 ?_ | refine zq9 ?_)))
  refine w_eq (require_day_eq hd) ?_
  (repeat (first | with_reducible refine zq15 ?_ | (with_reducible first | refine zq14 ?_ | refine zq11 ?_ | refine zq10 ?_ | refine zq3 ?_ | refine zq4 ?_ | refine zq5 ?_ | refine zq0 ?_ | refine zq8 ?_ | refine zq6 ?_ | refine zq1 ?_ | refine zq13 ?_ | refine zq12 ?_ | refine zq7 ?_ | refine zq2 ?_ | refine zq9 ?_)))
  exact w_eq (place_on_eq (G.stp (List.mem_of_getElem? hi)) hd) ⟨rfl, rfl⟩
theorem use_of_eq {i : Nat} {m : Str × Us} (hi : s.mc[i]? = some m) (hd : 0 ≤ d) : g_use_of [encSite s, .str m.1, .int d] S = .ok (encU (usAt m.2 d)) S := by
  refine wpR_ok (w_def rfl ?_)
  unfold m_use_of
  (repeat (first | with_reducible refine zq15 ?_ | (with_reducible first | refine zq14 ?_ | refine zq11 ?_ | refine zq10 ?_ | refine zq3 ?_ | refine zq4 ?_ | refine zq5 ?_ | refine zq0 ?_ | refine zq8 ?_ | refine zq6 ?_ | refine zq1 ?_ | refine zq13 ?_ | refine zq12 ?_ | refine zq7 ?_ | refine zq2 ?_ | refine zq9 ?_)))
  refine w_eq (uses_of_eq G hi) ?_
  (repeat (first | with_reducible refine zq15 ?_ | (with_reducible first | refine zq14 ?_ | refine zq11 ?_ | refine zq10 ?_ | refine zq3 ?_ | refine zq4 ?_ | refine zq5 ?_ | refine zq0 ?_ | refine zq8 ?_ | refine zq6 ?_ | refine zq1 ?_ | refine zq13 ?_ | refine zq12 ?_ | refine zq7 ?_ | refine zq2 ?_ | refine zq9 ?_)))
  refine w_eq (require_day_eq hd) ?_
  (repeat (first | with_reducible refine zq15 ?_ | (with_reducible first | refine zq14 ?_ | refine zq11 ?_ | refine zq10 ?_ | refine zq3 ?_ | refine zq4 ?_ | refine zq5 ?_ | refine zq0 ?_ | refine zq8 ?_ | refine zq6 ?_ | refine zq1 ?_ | refine zq13 ?_ | refine zq12 ?_ | refine zq7 ?_ | refine zq2 ?_ | refine zq9 ?_)))
  exact w_eq (use_on_eq (G.us m (List.mem_of_getElem? hi)) hd) ⟨rfl, rfl⟩
omit G in
theorem eq_oS {a b : Option Str} (ha : ∀ x, a = some x → PyData.strOk x = true) (hb : ∀ x, b = some x → PyData.strOk x = true) : gEq (oS a) (oS b) = some (.bool (decide (a = b))) := by
  cases a with
  | none =>
    cases b with
    | none => rfl
    | some y =>
      show (if SeqAt.shaped .none = true ∧ SeqAt.shaped (.str y) = true then some (PyData.bool (PyData.eqv .none (.str y))) else none) = _
      rw [if_pos ⟨rfl, sh_str (hb y rfl)⟩]
      simp [PyData.eqv]
  | some x =>
    cases b with
    | none =>
      show (if SeqAt.shaped (.str x) = true ∧ SeqAt.shaped .none = true then some (PyData.bool (PyData.eqv (.str x) .none)) else none) = _
      rw [if_pos ⟨sh_str (ha x rfl), rfl⟩]
      simp [PyData.eqv]
    | some y =>
      show some (PyData.bool (decide (x = y))) = _
      simp
theorem Good.plcOk {p : Str × Sy} (hp : p ∈ s.parts) : ∀ x, plc p.2 d = some x → x ∈ s.mc.map (·.1) := fun x e => by
  obtain ⟨q, hq, e2⟩ := plc_mem e
  exact (G.st p hp).us q hq x e2
theorem parts_at_eq {o : Option Str} (ho : ∀ x, o = some x → x ∈ s.mc.map (·.1)) (hd : 0 ≤ d) : g_parts_at [encSite s, oS o, .int d] S = .ok (.tuple (((s.parts.filter fun p => decide (plc p.2 d = o)).map (·.1)).map PyData.str)) S := by
  have := G.pl
  have hz := siz
  refine wpR_ok (w_def rfl ?_)
  unfold m_parts_at
  (repeat (first | with_reducible refine zq15 ?_ | (with_reducible first | refine zq14 ?_ | refine zq11 ?_ | refine zq10 ?_ | refine zq3 ?_ | refine zq4 ?_ | refine zq5 ?_ | refine zq0 ?_ | refine zq8 ?_ | refine zq6 ?_ | refine zq1 ?_ | refine zq13 ?_ | refine zq12 ?_ | refine zq7 ?_ | refine zq2 ?_ | refine zq9 ?_)))
  refine w_eq (require_place_eq G ho) ?_
  (repeat (first | with_reducible refine zq15 ?_ | (with_reducible first | refine zq14 ?_ | refine zq11 ?_ | refine zq10 ?_ | refine zq3 ?_ | refine zq4 ?_ | refine zq5 ?_ | refine zq0 ?_ | refine zq8 ?_ | refine zq6 ?_ | refine zq1 ?_ | refine zq13 ?_ | refine zq12 ?_ | refine zq7 ?_ | refine zq2 ?_ | refine zq9 ?_)))
  refine w_eq (require_day_eq hd) ?_
  (repeat (first | with_reducible refine zq15 ?_ | (with_reducible first | refine zq14 ?_ | refine zq11 ?_ | refine zq10 ?_ | refine zq3 ?_ | refine zq4 ?_ | refine zq5 ?_ | refine zq0 ?_ | refine zq8 ?_ | refine zq6 ?_ | refine zq1 ?_ | refine zq13 ?_ | refine zq12 ?_ | refine zq7 ?_ | refine zq2 ?_ | refine zq9 ?_)))
  refine w_eq (lc_pure (p := fun p : Str × Sy => decide (plc p.2 d = o)) (out := fun p => .str p.1) s.parts [] (by simp; omega) fun p hp => ⟨_, rfl, wpX_ok ?_, fun _ => rfl⟩) ?_
  · (repeat (with_reducible first | refine zq14 ?_ | refine zq11 ?_ | refine zq10 ?_ | refine zq3 ?_ | refine zq4 ?_ | refine zq5 ?_ | refine zq0 ?_ | refine zq8 ?_ | refine zq6 ?_ | refine zq1 ?_ | refine zq13 ?_ | refine zq12 ?_ | refine zq7 ?_ | refine zq2 ?_ | refine zq9 ?_))
    refine w_eq (place_on_eq (G.stp hp) hd) ?_
    (repeat (with_reducible first | refine zq14 ?_ | refine zq11 ?_ | refine zq10 ?_ | refine zq3 ?_ | refine zq4 ?_ | refine zq5 ?_ | refine zq0 ?_ | refine zq8 ?_ | refine zq6 ?_ | refine zq1 ?_ | refine zq13 ?_ | refine zq12 ?_ | refine zq7 ?_ | refine zq2 ?_ | refine zq9 ?_))
    refine wpO_rfl (eq_oS (fun x e => G.mso x (G.plcOk hp x e)) (fun x e => G.mso x (ho x e))) ?_
    (repeat (with_reducible first | refine zq14 ?_ | refine zq11 ?_ | refine zq10 ?_ | refine zq3 ?_ | refine zq4 ?_ | refine zq5 ?_ | refine zq0 ?_ | refine zq8 ?_ | refine zq6 ?_ | refine zq1 ?_ | refine zq13 ?_ | refine zq12 ?_ | refine zq7 ?_ | refine zq2 ?_ | refine zq9 ?_))
    exact ⟨rfl, rfl⟩
  (repeat (first | with_reducible refine zq15 ?_ | (with_reducible first | refine zq14 ?_ | refine zq11 ?_ | refine zq10 ?_ | refine zq3 ?_ | refine zq4 ?_ | refine zq5 ?_ | refine zq0 ?_ | refine zq8 ?_ | refine zq6 ?_ | refine zq1 ?_ | refine zq13 ?_ | refine zq12 ?_ | refine zq7 ?_ | refine zq2 ?_ | refine zq9 ?_)))
  rw [List.map_map]
  exact ⟨rfl, rfl⟩
theorem tasks_of_eq {i : Nat} {p : Str × Sy} (hi : s.parts[i]? = some p) : g_tasks_of [encSite s, .str p.1] S = .ok (.tuple (((s.jobs.filter fun j => decide (j.pt = p.1)).map (·.nm)).map PyData.str)) S := by
  have := G.pl
  have := G.jl
  have hz := siz
  refine wpR_ok (w_def rfl ?_)
  unfold m_tasks_of
  (repeat (first | with_reducible refine zq15 ?_ | (with_reducible first | refine zq14 ?_ | refine zq11 ?_ | refine zq10 ?_ | refine zq3 ?_ | refine zq4 ?_ | refine zq5 ?_ | refine zq0 ?_ | refine zq8 ?_ | refine zq6 ?_ | refine zq1 ?_ | refine zq13 ?_ | refine zq12 ?_ | refine zq7 ?_ | refine zq2 ?_ | refine zq9 ?_)))
  refine w_eq (part_namesK (by omega)) ?_
  (repeat (first | with_reducible refine zq15 ?_ | (with_reducible first | refine zq14 ?_ | refine zq11 ?_ | refine zq10 ?_ | refine zq3 ?_ | refine zq4 ?_ | refine zq5 ?_ | refine zq0 ?_ | refine zq8 ?_ | refine zq6 ?_ | refine zq1 ?_ | refine zq13 ?_ | refine zq12 ?_ | refine zq7 ?_ | refine zq2 ?_ | refine zq9 ?_)))
  refine w_eq (index_among_eq (i := i) (rise_nodup G.pr) G.pso (G.pn p (List.mem_of_getElem? hi)).ok (by rw [List.getElem?_map, hi]; rfl)) ?_
  (repeat (first | with_reducible refine zq15 ?_ | (with_reducible first | refine zq14 ?_ | refine zq11 ?_ | refine zq10 ?_ | refine zq3 ?_ | refine zq4 ?_ | refine zq5 ?_ | refine zq0 ?_ | refine zq8 ?_ | refine zq6 ?_ | refine zq1 ?_ | refine zq13 ?_ | refine zq12 ?_ | refine zq7 ?_ | refine zq2 ?_ | refine zq9 ?_)))
  refine w_eq (lc_pure (p := fun j : Job => decide (j.pt = p.1)) (out := fun j => .str j.nm) s.jobs [] (by simp; omega) fun j hj => ⟨_, rfl, rfl, fun _ => rfl⟩) ?_
  (repeat (first | with_reducible refine zq15 ?_ | (with_reducible first | refine zq14 ?_ | refine zq11 ?_ | refine zq10 ?_ | refine zq3 ?_ | refine zq4 ?_ | refine zq5 ?_ | refine zq0 ?_ | refine zq8 ?_ | refine zq6 ?_ | refine zq1 ?_ | refine zq13 ?_ | refine zq12 ?_ | refine zq7 ?_ | refine zq2 ?_ | refine zq9 ?_)))
  rw [List.map_map]
  exact ⟨rfl, rfl⟩
end
end
end WF
namespace PL
open PySem PySem.Spec PyProof.Rows L2 DL
mutual
def shiftL (a : CW → Int) : Lim → Lim
  | .one w n => .one w (n + a w)
  | .join b ls => .join b (shiftLs a ls)
def shiftLs (a : CW → Int) : List Lim → List Lim
  | [] => []
  | l :: ls => shiftL a l :: shiftLs a ls
end
theorem shiftLs_map {a : CW → Int} : ∀ ls : List Lim, shiftLs a ls = ls.map (shiftL a)
  | [] => rfl
  | l :: ls => by simp only [shiftLs, List.map_cons, shiftLs_map ls]
theorem shiftL_join {a : CW → Int} {b : Bool} {ls : List Lim} : shiftL a (.join b ls) = .join b (ls.map (shiftL a)) := by rw [shiftL, shiftLs_map]
theorem LimB.shift {a : CW → Int} {lo hi lo' hi' : Int} (h : ∀ w, lo' ≤ lo + a w ∧ hi + a w ≤ hi') : ∀ {k : Nat} {l : Lim}, LimB lo hi k l → LimB lo' hi' k (shiftL a l)
  | _, .one w n, q => by
    have := q.one_
    have := h w
    rw [shiftL]
    exact LimB.mk_one ⟨by omega, by omega⟩
  | 0, .join _ _, q => by
    unfold LimB at q
    exact q.elim
  | k + 1, .join b ls, q => by
    unfold LimB at q
    rw [shiftL_join]
    refine LimB.mk_join (by simpa using q.1) (by simpa using q.2.1) fun l hl => ?_
    obtain ⟨l', hl', rfl⟩ := List.mem_map.1 hl
    exact LimB.shift h (q.2.2 l' hl')
end PL
namespace DL
open PySem PySem.Spec PyProof.Rows L2
theorem gNe_same {x : Wd} (h : SeqAt.shaped x = true) (hx : PyData.eqv x x = true) : gNe x x = some (.bool false) := by
  unfold gNe
  split
  · simp
  · rw [if_pos ⟨h, h⟩, hx]
    rfl
end DL
namespace PL
open PySem PySem.Spec PyProof.Rows L2 DL
section
variable {g : Mg} {m : Ms} {Rt : Wd → Sto → Prop} {val : Lim → Wd} {I : List (List Int × Wd) → Ev → Sto → Prop}
end
end PL
namespace WF
open PySem PySem.Spec PyProof.Rows L2 DL
end WF
namespace WF
open PySem PySem.Spec PyProof.Rows L2 DL
end WF
namespace WF
open PySem PySem.Spec PyProof.Rows L2 DL
end WF
namespace WF
open PySem PySem.Spec PyProof.Rows L2 DL
end WF
namespace WF
open PySem PySem.Spec PyProof.Rows L2 DL
end WF
namespace WF
open PySem PySem.Spec PyProof.Rows L2 DL
end WF
namespace WF
open PySem PySem.Spec PyProof.Rows L2 DL
end WF
namespace WF
open PySem PySem.Spec PyProof.Rows L2 DL
end WF
namespace WF
open PySem PySem.Spec PyProof.Rows L2 DL
end WF
namespace WF
open PySem PySem.Spec PyProof.Rows L2 DL
end WF
namespace WF
open PySem PySem.Spec PyProof.Rows L2 DL
end WF
namespace WF
open PySem PySem.Spec PyProof.Rows L2 DL
end WF
namespace WF
open PySem PySem.Spec PyProof.Rows L2 DL
end WF
namespace PL
open PySem PySem.Spec PyProof.Rows L2 DL
mutual
theorem canLay_encL : ∀ l : Lim, (encL l).canLay0 = true
  | .one w n => by
    have : PyData.strOk w.str = true := by cases w <;> decide +kernel
    simp only [encL, PyData.canLay0, PyData.canLayAll0, this, Bool.and_true]
  | .join b ls => by
    have h0 : PyData.strOk (jw b) = true := by cases b <;> decide +kernel
    unfold encL
    have := canLay_encLs ls
    simp only [PyData.canLay0, PyData.canLayAll0, this, h0, Bool.and_true]
theorem canLay_encLs : ∀ ls : List Lim, PyData.canLayAll0 (encLs ls) = true
  | [] => rfl
  | l :: ls => by simp only [encLs, PyData.canLayAll0, canLay_encL l, canLay_encLs ls]; rfl
end
def tri (a : Int × Int × Int) : CW → Int
  | .hours => a.1
  | .cycles => a.2.1
  | .days => a.2.2
def negS (a : Int × Int × Int) : Int × Int × Int := (0 - a.1 - 1, 0 - a.2.1 - 1, 0 - a.2.2 - 1)
noncomputable section
def dueD (u : Uf) (j : Job) (b : Int) : Option Int := (fp u j.lim b).map (· - 1)
def lateD (u : Uf) (j : Job) (b : Int) : Option Int := (fp u (shiftL (tri j.sl) j.lim) b).map (· - 1)
def reachD (u : Uf) (j : Job) (b : Int) : Option Int := fp u (shiftL (tri (negS j.sl)) j.lim) b
def earlyD (u : Uf) (j : Job) (b : Int) : Option Int := match reachD u j b, lateD u j b with
  | none, none => none
  | some r, none => some (if r > b + 1 then r else b + 1)
  | none, some l => some l
  | some r, some l => some (if l < (if r > b + 1 then r else b + 1) then l else (if r > b + 1 then r else b + 1))
end
structure JobOk (s : Site) (j : Job) (hi : Int) (k : Nat) : Prop where
  lim : LimB 1 hi k j.lim
  z : szL j.lim ≤ 400
  k8 : k < 11
  sl : (0 ≤ j.sl.1 ∧ j.sl.1 ≤ 500) ∧ (0 ≤ j.sl.2.1 ∧ j.sl.2.1 ≤ 500) ∧ 0 ≤ j.sl.2.2 ∧ j.sl.2.2 ≤ 500
  pt : ∃ st, (j.pt, st) ∈ s.parts
  hi0 : 0 ≤ hi ∧ hi ≤ 500
end PL
namespace WF
open PySem PySem.Spec PyProof.Rows L2 DL PL
section
variable {s : Site} {S : Sto} {b : Int} {p : Str × Sy} {j : Job}
end
end WF
namespace PL
open PySem PySem.Spec PyProof.Rows L2 DL
noncomputable section
def isNone {α : Type} : Option α → Bool
  | none => true
  | some _ => false
def lateOk (o : Option Int) (b : Int) : Bool := match o with
  | none => true
  | some l => decide (b < l)
def windD (u : Uf) (j : Job) (b : Int) : Option (Int × Option Int) := if j.wy = ("kept" : Str) ∧ (dueD u j b).isSome = true ∧ lateOk (lateD u j b) b = true then (earlyD u j b).map fun e => (e, lateD u j b) else none
end
end PL
namespace WF
open PySem PySem.Spec PyProof.Rows L2 DL PL
section
variable {s : Site} {S : Sto} {b : Int} {p : Str × Sy} {j : Job}
theorem _root_.PL.JobOk.lw {hi : Int} {k : Nat} (h : JobOk s j hi k) : LimB 1 (hi + 500) k (shiftL (tri j.sl) j.lim) := h.lim.shift fun w => by
  have := h.sl
  cases w <;> simp only [tri] <;> omega
theorem _root_.PL.JobOk.ln {hi : Int} {k : Nat} (h : JobOk s j hi k) : LimB (-500) hi k (shiftL (tri (negS j.sl)) j.lim) := h.lim.shift fun w => by
  have := h.sl
  cases w <;> simp only [tri, negS] <;> omega
end
end WF
namespace WF
open PySem PySem.Spec PyProof.Rows L2 DL
end WF
namespace WF
open PySem PySem.Spec PyProof.Rows L2 DL
end WF
namespace WF
open PySem PySem.Spec PyProof.Rows L2 DL
end WF
namespace WF
open PySem PySem.Spec PyProof.Rows L2 DL
end WF
namespace WF
open PySem PySem.Spec PyProof.Rows L2 DL
end WF
namespace WF
open PySem PySem.Spec PyProof.Rows L2 DL
end WF
namespace WF
open PySem PySem.Spec PyProof.Rows L2 DL
end WF
namespace WF
open PySem PySem.Spec PyProof.Rows L2 DL
end WF
namespace WF
open PySem PySem.Spec PyProof.Rows L2 DL PL
section
variable {s : Site} {S : Sto} {b d : Int} {j : Job} {hi : Int} {k : Nat} {st : Sy}
end
end WF
namespace PL
open PySem PySem.Spec PyProof.Rows L2 DL
def UseLe (u v : Uf) : Prop := ∀ d w, u d w ≤ v d w
theorem UseLe.refl (u : Uf) : UseLe u u := fun _ _ => Int.le_refl _
theorem UseLe.trans {u v z : Uf} (h : UseLe u v) (k : UseLe v z) : UseLe u z := fun d w => Int.le_trans (h d w) (k d w)
section
variable {u v z : Uf} {s b b' : Int} {j : Job} {l : Lim}
noncomputable def kb (u : Uf) (j : Job) : Nat → Int → Option Int
  | 0, b => some b
  | k + 1, b => (dueD u j b).bind (kb u j k)
abbrev Win := Option (Int × Option Int)
noncomputable def kw (u : Uf) (j : Job) (k : Nat) : Win := (kb u j k 0).bind (windD u j)
end
end PL
namespace WF
open PySem PySem.Spec PyProof.Rows L2 DL PL
section
variable {s : Site} {S : Sto} {b d : Int} {j : Job} {hi : Int} {k : Nat} {bs : List Int}
end
end WF
namespace WF
open PySem PySem.Spec PyProof.Rows L2 DL
end WF
namespace WF
open PySem PySem.Spec PyProof.Rows L2 DL
end WF
namespace WF
open PySem PySem.Spec PyProof.Rows L2 DL
end WF
namespace WF
open PySem PySem.Spec PyProof.Rows L2 DL PL
section
variable {s : Site} {S S0 : Sto} {b d : Int} {j : Job} {hi : Int} {k : Nat} {bs : List Int}
end
end WF
namespace WF
open PySem PySem.Spec PyProof.Rows L2 DL
end WF
namespace WF
open PySem PySem.Spec PyProof.Rows L2 DL
end WF
namespace WF
open PySem PySem.Spec PyProof.Rows L2 DL
end WF
namespace WF
open PySem PySem.Spec PyProof.Rows L2 DL
end WF
namespace WF
open PySem PySem.Spec PyProof.Rows L2 DL
end WF
namespace WF
open PySem PySem.Spec PyProof.Rows L2 DL
end WF
namespace WF
open PySem PySem.Spec PyProof.Rows L2 DL
end WF
namespace WF
open PySem PySem.Spec PyProof.Rows L2 DL
end WF
namespace WF
open PySem PySem.Spec PyProof.Rows L2 DL
end WF
namespace WF
open PySem PySem.Spec PyProof.Rows L2 DL
end WF
namespace WF
open PySem PySem.Spec PyProof.Rows L2 DL
end WF
namespace WF
open PySem PySem.Spec PyProof.Rows L2 DL
end WF
namespace WF
open PySem PySem.Spec PyProof.Rows L2 DL
end WF
namespace WF
open PySem PySem.Spec PyProof.Rows L2 DL
end WF
namespace WF
open PySem PySem.Spec PyProof.Rows L2 DL
end WF
namespace WF
open PySem PySem.Spec PyProof.Rows L2 DL
end WF
namespace WF
open PySem PySem.Spec PyProof.Rows L2 DL
end WF
namespace WF
open PySem PySem.Spec PyProof.Rows L2 DL
end WF
namespace WF
open PySem PySem.Spec PyProof.Rows L2 DL
end WF
namespace WF
open PySem PySem.Spec PyProof.Rows L2 DL
end WF
namespace WF
open PySem PySem.Spec PyProof.Rows L2 DL
end WF
namespace WF
open PySem PySem.Spec PyProof.Rows L2 DL
end WF
namespace WF
open PySem PySem.Spec PyProof.Rows L2 DL
end WF
namespace WF
open PySem PySem.Spec PyProof.Rows L2 DL
end WF
namespace WF
open PySem PySem.Spec PyProof.Rows L2 DL
end WF
namespace WF
open PySem PySem.Spec PyProof.Rows L2 DL
end WF
namespace WF
open PySem PySem.Spec PyProof.Rows L2 DL
end WF
namespace WF
open PySem PySem.Spec PyProof.Rows L2 DL
end WF
namespace PL
open PySem PySem.Spec PyProof.Rows L2 DL
abbrev URun := Us × Us
structure UsLe (a b : Us) : Prop where
  len : a.length = b.length
  le : ∀ (i : Nat) (p q : Int × Int), a[i]? = some p → b[i]? = some q → p.1 ≤ q.1 ∧ p.2 ≤ q.2
structure RunLe (r t : URun) : Prop where
  a : UsLe r.1 t.1
  b : UsLe r.2 t.2
theorem UsLe.refl (a : Us) : UsLe a a := ⟨rfl, fun i p q h1 h2 => by rw [h1] at h2; cases h2; exact ⟨Int.le_refl _, Int.le_refl _⟩⟩
theorem UsLe.trans {a b c : Us} (h : UsLe a b) (k : UsLe b c) : UsLe a c := ⟨h.len.trans k.len, fun i p q h1 h2 => by
  have hl : i < b.length := by rw [← h.len]; exact (List.getElem?_eq_some_iff.1 h1).1
  have e := List.getElem?_eq_getElem hl
  have x1 := h.le i p _ h1 e
  have x2 := k.le i _ q e h2
  omega⟩
theorem RunLe.refl (r : URun) : RunLe r r := ⟨.refl _, .refl _⟩
theorem RunLe.trans {a b c : URun} (h : RunLe a b) (k : RunLe b c) : RunLe a c := ⟨h.a.trans k.a, h.b.trans k.b⟩
theorem UF.far {u : Uf} {s t : Int} (U : UF u s) (h : s ≤ t) : UF u t := ⟨U.pos, U.bd, U.day, fun d w hd => by rw [U.std d w (by omega), U.std t w h]⟩
end PL
namespace WF
open PySem PySem.Spec PyProof.Rows L2 DL PL
section
variable {s : Site} {S : Sto} {b : Int} {j : Job} {hi : Int} {k : Nat} {st : Sy} {r t : URun} {us vs : Us}
theorem range_mem {w : Wd} {n : Nat} (hw : w ∈ rangeD 0 (Int.toNat n)) : ∃ i : Nat, i < n ∧ w = .int i := by
  unfold rangeD at hw
  obtain ⟨i, hi, rfl⟩ := List.mem_map.1 hw
  exact ⟨i, by simpa using hi, by simp⟩
end
end WF
namespace WF
open PySem PySem.Spec PyProof.Rows L2 DL
end WF
namespace WF
open PySem PySem.Spec PyProof.Rows L2 DL
end WF
namespace WF
open PySem PySem.Spec PyProof.Rows L2 DL
end WF
namespace WF
open PySem PySem.Spec PyProof.Rows L2 DL
end WF
namespace WF
open PySem PySem.Spec PyProof.Rows L2 DL
end WF
namespace WF
open PySem PySem.Spec PyProof.Rows L2 DL
end WF
namespace WF
open PySem PySem.Spec PyProof.Rows L2 DL
end WF
namespace PL
open PySem PySem.Spec PyProof.Rows L2 DL
noncomputable section
def stayAt (st : Sy) (d : Int) (o : Option Str) : Sy := st.filter (fun q => decide (q.1 < d)) ++ [(d, o)]
end
section
variable {a b st : Sy} {d k : Int} {o : Option Str}
end
end PL
namespace WF
open PySem PySem.Spec PyProof.Rows L2 DL PL
section
variable {s : Site} {S : Sto} {n : Nat} {d : Int} {Q : Wd → Sto → Prop}
section
variable (G : Good n s)
include G
theorem Good.place {o : Option Str} (ho : ∀ x, o = some x → x ∈ s.mc.map (·.1)) : ∀ x, o = some x → PyData.strOk x = true := fun x e => G.mso x (ho x e)
end
end
end WF
namespace WF
open PySem PySem.Spec PyProof.Rows L2 DL
end WF
namespace WF
open PySem PySem.Spec PyProof.Rows L2 DL
end WF
namespace WF
open PySem PySem.Spec PyProof.Rows L2 DL
end WF
namespace WF
open PySem PySem.Spec PyProof.Rows L2 DL
end WF
namespace WF
open PySem PySem.Spec PyProof.Rows L2 DL
end WF
namespace WF
open PySem PySem.Spec PyProof.Rows L2 DL
end WF
namespace WF
open PySem PySem.Spec PyProof.Rows L2 DL
end WF
namespace WF
open PySem PySem.Spec PyProof.Rows L2 DL
end WF
namespace WF
open PySem PySem.Spec PyProof.Rows L2 DL
end WF
namespace WF
open PySem PySem.Spec PyProof.Rows L2 DL
end WF
namespace WF
open PySem PySem.Spec PyProof.Rows L2 DL
end WF
namespace WF
open PySem PySem.Spec PyProof.Rows L2 DL PL
section
variable {s : Site} {S : Sto} {n : Nat} {d : Int} {Q : Wd → Sto → Prop} {ρ : Ev}
end
end WF
namespace PL
open PySem PySem.Spec PyProof.Rows L2 DL
instance {x y : Str} : Decidable (ltS x y) := inferInstanceAs (Decidable (kS x < kS y))
end PL
namespace WF
open PySem PySem.Spec PyProof.Rows L2 DL PL
section
variable {s : Site} {S : Sto} {n : Nat} {d : Int} {Q : Wd → Sto → Prop}
theorem StK.mono {nm : List Str} {n n' : Nat} {st : Sy} (h : StK nm n st) (hn : n ≤ n') : StK nm n' st := ⟨h.hd, Nat.le_trans h.ln hn, h.rise, h.bd, h.us⟩
theorem filt_rise {st : Sy} (h : (st.map (·.1)).Pairwise (· < ·)) (p : Int × Option Str → Bool) : ((st.filter p).map (·.1)).Pairwise (· < ·) := h.sublist (List.filter_sublist.map _)
theorem StK.stay {nm : List Str} {n : Nat} {st : Sy} (h : StK nm n st) (hd : 0 ≤ d) (hd1 : d ≤ 1000) {o : Option Str} (ho : ∀ x, o = some x → x ∈ nm) : StK nm (n + 1) (stayAt st d o) := by
  obtain ⟨p, r, e⟩ := h.hd
  have l1 := List.length_filter_le (fun q : Int × Option Str => decide (q.1 < d)) st
  refine ⟨?_, by have := h.ln; unfold stayAt; simp; omega, ?_, fun q hq => ?_, fun q hq x ex => ?_⟩
  · unfold stayAt
    by_cases c : 0 < d
    · exact ⟨p, r.filter (fun q => decide (q.1 < d)) ++ [(d, o)], by rw [e]; simp [c]⟩
    · obtain rfl : d = 0 := by omega
      have : st.filter (fun q => decide (q.1 < 0)) = [] := List.filter_eq_nil_iff.2 fun q hq => by
        have := (h.bd q hq).1
        simp only [decide_eq_true_eq]
        omega
      exact ⟨o, [], by rw [this]; rfl⟩
  · unfold stayAt
    rw [List.map_append, List.pairwise_append]
    refine ⟨filt_rise h.rise _, by simp, fun x hx y hy => ?_⟩
    obtain ⟨q, hq, rfl⟩ := List.mem_map.1 hx
    simp only [List.map_cons, List.map_nil, List.mem_singleton] at hy
    subst hy
    exact of_decide_eq_true (List.mem_filter.1 hq).2
  · unfold stayAt at hq
    rcases List.mem_append.1 hq with m | m
    · exact h.bd q (List.mem_filter.1 m).1
    · rw [List.mem_singleton.1 m]; exact ⟨hd, hd1⟩
  · unfold stayAt at hq
    rcases List.mem_append.1 hq with m | m
    · exact h.us q (List.mem_filter.1 m).1 x ex
    · rw [List.mem_singleton.1 m] at ex
      exact ho x ex
section
variable (G : Good n s)
include G
theorem Good.mono {n' : Nat} (h : n ≤ n') (h3 : n' ≤ 300) : Good n' s := ⟨G.mn, G.pn, G.jn, G.mr, G.pr, G.jr, G.us, fun p hp => (G.st p hp).mono h, G.jb, G.ml, G.pl, G.jl, h3⟩
omit G in
theorem lay_lim (l : Lim) {hi : Int} : ∀ {k : Nat} {lo : Int}, LimB lo hi k l → Lay (2 * k + 1) (encL l) := by
  intro k lo h
  have dp : ∀ (k : Nat) (l : Lim), LimB lo hi k l → (encL l).depth ≤ 2 * k + 1 := by
    intro k
    induction k with
    | zero =>
      intro l h
      cases l with
      | one w i => unfold encL; simp [PyData.depth, PyData.depthAll]
      | join c ls => obtain ⟨_, e, _⟩ := h.join_; cases e
    | succ k ih =>
      intro l h
      cases l with
      | one w i =>
        unfold encL
        simp only [PyData.depth, PyData.depthAll]
        omega
      | join c ls =>
        obtain ⟨k', e, _, _, hall⟩ := h.join_
        cases e
        rw [encL_join]
        have : PyData.depthAll (ls.map encL) ≤ 2 * k + 1 := by
          have hh : ∀ w ∈ ls.map encL, w.depth ≤ 2 * k + 1 := fun w hw => by
            obtain ⟨z, hz, rfl⟩ := List.mem_map.1 hw
            exact ih z (hall z hz)
          generalize ls.map encL = ws at hh
          induction ws with
          | nil => simp [PyData.depthAll]
          | cons w ws ihw =>
            simp only [PyData.depthAll]
            have := hh w (List.mem_cons_self ..)
            have := ihw fun z hz => hh z (List.mem_cons_of_mem _ hz)
            omega
        simp only [PyData.depth, PyData.depthAll]
        omega
  exact ⟨canLay_encL l, dp k l h⟩
omit G in
theorem lay_S {q : Int × Option Str} (h : ∀ x, q.2 = some x → PyData.strOk x = true) : Lay 1 (encS q) := Lay.tup (k := 0) fun w hw => by
  simp only [List.mem_cons, List.mem_nil_iff, or_false] at hw
  rcases hw with rfl | rfl
  · exact Lay.int
  · cases e : q.2 with
    | none => exact Lay.non
    | some x => exact Lay.str (h x e)
theorem Good.layM {m : Str × Us} (hm : m ∈ s.mc) : Lay 3 (PL.encM m) := Lay.tup (k := 2) fun w hw => by
  simp only [List.mem_cons, List.mem_nil_iff, or_false] at hw
  rcases hw with rfl | rfl
  · exact Lay.str (G.mn m hm).so
  · exact Lay.tup (k := 1) fun w hw => by
      obtain ⟨u, hu, rfl⟩ := List.mem_map.1 hw
      exact Lay.tup (k := 0) fun w hw => by
        simp only [List.mem_cons, List.mem_nil_iff, or_false] at hw
        rcases hw with rfl | rfl <;> exact Lay.int
theorem Good.layP {p : Str × Sy} (hp : p ∈ s.parts) : Lay 3 (encP p) := Lay.tup (k := 2) fun w hw => by
  simp only [List.mem_cons, List.mem_nil_iff, or_false] at hw
  rcases hw with rfl | rfl
  · exact Lay.str (G.pn p hp).so
  · exact Lay.tup (k := 1) fun w hw => by
      obtain ⟨q, hq, rfl⟩ := List.mem_map.1 hw
      exact lay_S fun x e => G.mso x ((G.st p hp).us q hq x e)
theorem Good.layJ {j : Job} (hj : j ∈ s.jobs) : Lay 30 (PL.encJ j) := by
  have h := G.jb j hj
  obtain ⟨hi, k, hl, hk⟩ := h.lim
  refine Lay.tup (k := 29) fun w hw => ?_
  simp only [List.mem_cons, List.mem_nil_iff, or_false] at hw
  rcases hw with rfl | rfl | rfl | rfl | rfl
  · exact Lay.str (G.jn j hj).so
  · exact Lay.str (G.pso j.pt h.pt)
  · rcases h.wy with e | e <;> rw [e] <;> exact Lay.str (by decide +kernel)
  · exact (lay_lim j.lim hl.b).mono (by omega)
  · exact (Lay.tup (k := 0) fun w hw => by
      simp only [List.mem_cons, List.mem_nil_iff, or_false] at hw
      rcases hw with rfl | rfl | rfl <;> exact Lay.int).mono (by decide)
theorem Good.layMs : Lay 4 (.tuple (s.mc.map PL.encM)) := Lay.tup (k := 3) fun w hw => by
  obtain ⟨m, hm, rfl⟩ := List.mem_map.1 hw
  exact G.layM hm
theorem Good.layJs : Lay 31 (.tuple (s.jobs.map PL.encJ)) := Lay.tup (k := 30) fun w hw => by
  obtain ⟨m, hm, rfl⟩ := List.mem_map.1 hw
  exact G.layJ hm
theorem Good.lay : Lay 32 (encSite s) := Lay.tup (k := 31) fun w hw => by
  simp only [List.mem_cons, List.mem_nil_iff, or_false] at hw
  rcases hw with rfl | rfl | rfl
  · exact G.layMs.mono (by decide)
  · exact (Lay.tup (k := 3) fun w hw => by
      obtain ⟨m, hm, rfl⟩ := List.mem_map.1 hw
      exact G.layP hm).mono (by decide)
  · exact G.layJs
omit G in
theorem eqv_refl {k : Nat} {w : Wd} (h : Lay k w) : PyData.eqv w w = true := SeqAt.eqv_refl _ h.cl
end
end
end WF
namespace DL
open PySem PySem.Spec PyProof.Rows L2
def wpB (o : Out) (x : Option (Xn × Sto)) (N : Ev → Sto → Prop) (Rt : Wd → Sto → Prop) (Ex : Xn → Sto → Prop) : Prop := match x with
  | none => wpS o N Rt
  | some (e, S) => o = .bad ∧ Ex e S
def wpC {α : Type} (r : R α) (x : Option (Xn × Sto)) (Q : α → Sto → Prop) (Ex : Xn → Sto → Prop) : Prop := match x with
  | none => wpE r Q
  | some (e, S) => r = .bad ∧ Ex e S
section
variable {N N' : Ev → Sto → Prop} {Rt Rt' : Wd → Sto → Prop} {Ex Ex' : Xn → Sto → Prop} {ρ : Ev} {S : Sto} {Q : Wd → Sto → Prop} {Qs : List Wd → Sto → Prop}
theorem wpB_mono {o : Out} {x : Option (Xn × Sto)} (h : wpB o x N Rt Ex) (n : ∀ a S, N a S → N' a S) (r : ∀ a S, Rt a S → Rt' a S) (e : ∀ a S, Ex a S → Ex' a S) : wpB o x N' Rt' Ex' := by
  cases x with
  | none => exact wpS_mono (show wpS o N Rt from h) n r
  | some p => exact ⟨h.1, e _ _ h.2⟩
theorem b_no {o : Out} (h : wpS o N Rt) : wpB o (xNo ρ S) N Rt Ex := h
theorem c_no {α : Type} {r : R α} {Q : α → Sto → Prop} (h : wpE r Q) : wpC r (xNo ρ S) Q Ex := h
theorem b_seq {m m' : Ms} {fx fr : Xm} (h : wpB (m ρ S) (fx ρ S) (fun ρ' S' => wpB (m' ρ' S') (fr ρ' S') N Rt Ex) Rt Ex) : wpB (sSeq m m' ρ S) (xSeq fx m fr ρ S) N Rt Ex := by
  unfold xSeq sSeq
  cases y : fx ρ S with
  | some r =>
    rw [y] at h
    obtain ⟨e, S'⟩ := r
    exact ⟨by simp only [show m ρ S = .bad from h.1], h.2⟩
  | none =>
    rw [y] at h
    have h : wpS (m ρ S) _ _ := h
    simp only
    cases z : m ρ S with
    | nx ρ' S' => rw [z] at h; exact h
    | rt w S' => rw [z] at h; exact h
    | bk _ _ => rw [z] at h; exact h.elim
    | ct _ _ => rw [z] at h; exact h.elim
    | bad => rw [z] at h; exact h.elim
theorem b_seqN {m m' : Ms} {fr : Xm} (h : wpS (m ρ S) (fun ρ' S' => wpB (m' ρ' S') (fr ρ' S') N Rt Ex) Rt) : wpB (sSeq m m' ρ S) (xSeq xNo m fr ρ S) N Rt Ex := b_seq h
theorem b_if {t : Mt} {m m' : Ms} {fb fo : Xm} (h : wpE (t ρ S) fun b S1 => if b = true then wpB (m ρ S1) (fb ρ S1) N Rt Ex else wpB (m' ρ S1) (fo ρ S1) N Rt Ex) : wpB (sIf t m m' ρ S) (xIf t fb fo ρ S) N Rt Ex := by
  obtain ⟨b, S1, e, h⟩ := wpE_ex.1 h
  unfold sIf xIf
  simp only [e, sTest_ok]
  cases b with
  | true => exact h
  | false => exact h
theorem b_expr {f : Mx} {fx : Xm} (h : wpC (f ρ S) (fx ρ S) (fun _ S1 => N ρ S1) Ex) : wpB (sExpr f ρ S) (fx ρ S) N Rt Ex := by
  cases y : fx ρ S with
  | some r =>
    rw [y] at h
    refine ⟨?_, h.2⟩
    unfold sExpr
    rw [show f ρ S = .bad from h.1]
    rfl
  | none => rw [y] at h; exact w_expr h
theorem b_ret {f : Mx} {fx : Xm} (h : wpC (f ρ S) (fx ρ S) Rt Ex) : wpB (sRet f ρ S) (fx ρ S) N Rt Ex := by
  cases y : fx ρ S with
  | some r =>
    rw [y] at h
    refine ⟨?_, h.2⟩
    unfold sRet
    rw [show f ρ S = .bad from h.1]
    rfl
  | none => rw [y] at h; exact w_ret h
theorem b_set {i : Nat} {f : Mx} {fx : Xm} (h : wpC (f ρ S) (fx ρ S) (fun w S1 => N (ρ.set i (some (.val w))) S1) Ex) : wpB (sSet i f ρ S) (fx ρ S) N Rt Ex := by
  cases y : fx ρ S with
  | some r =>
    rw [y] at h
    refine ⟨?_, h.2⟩
    unfold sSet
    rw [show f ρ S = .bad from h.1]
    rfl
  | none => rw [y] at h; exact w_set h
theorem b_raise {c : Str} {ns : List Str} {fs : Ma} (h : wpE (fs ρ S) fun ws S1 => ws.length = ns.length ∧ Ex ⟨c, ns.zip ws⟩ S1) : wpB (sBad ρ S) (xMk c ns fs ρ S) N Rt Ex := by
  obtain ⟨ws, S1, e1, h1, h2⟩ := wpE_ex.1 h
  unfold xMk
  simp only [e1]
  rw [if_pos h1]
  exact ⟨rfl, h2⟩
theorem c_call {g : Gd} {x : Xd} {fs : Ma} (h : wpE (fs ρ S) fun ws S1 => wpC (g ws S1) (x ws S1) Q Ex) : wpC (mCall g fs ρ S) (xCall x fs ρ S) Q Ex := by
  obtain ⟨ws, S1, e, h⟩ := wpE_ex.1 h
  unfold mCall xCall
  simp only [e, R.bnd_ok]
  exact h
theorem c_hd {g : Gd} {f : Mx} {fs : Ma} {fx fr : Xm} (h : wpC (f ρ S) (fx ρ S) (fun w S1 => wpC (fs ρ S1) (fr ρ S1) (fun ws S2 => wpE (g (w :: ws) S2) Q) Ex) Ex) : wpC (mCall g (aCons f fs) ρ S) (xHd fx f fr ρ S) Q Ex := by
  unfold mCall xHd aCons
  cases y : fx ρ S with
  | some r =>
    rw [y] at h
    refine ⟨?_, h.2⟩
    rw [show f ρ S = .bad from h.1]
    rfl
  | none =>
    rw [y] at h
    obtain ⟨w, S1, e, h⟩ := wpE_ex.1 (show wpE (f ρ S) _ from h)
    simp only [e, R.bnd_ok]
    cases z : fr ρ S1 with
    | some r =>
      rw [z] at h
      refine ⟨?_, h.2⟩
      rw [show fs ρ S1 = .bad from h.1]
      rfl
    | none =>
      rw [z] at h
      obtain ⟨ws, S2, e2, h⟩ := wpE_ex.1 (show wpE (fs ρ S1) _ from h)
      simp only [e2, R.bnd_ok]
      exact h
theorem b_forL {g : Mg} {m : Ms} {fx : Xm} (I : List Wd → Ev → Sto → Prop) (hs : ∀ w r ρ S, I (w :: r) ρ S → ∃ ρ1, g w ρ = some ρ1 ∧ wpB (m ρ1 S) (fx ρ1 S) (I r) Rt Ex) (he : ∀ ρ S, I [] ρ S → N ρ S) : ∀ (ws : List Wd) (ρ : Ev) (S : Sto), I ws ρ S → wpB (forLoop g m ws ρ S) (xForL g fx m ws ρ S) N Rt Ex
  | [], ρ, S, h => he ρ S h
  | w :: r, ρ, S, h => by
    obtain ⟨ρ1, e, q⟩ := hs w r ρ S h
    unfold forLoop xForL
    simp only [e]
    cases y : fx ρ1 S with
    | some p =>
      rw [y] at q
      refine ⟨?_, q.2⟩
      rw [show m ρ1 S = .bad from q.1]
    | none =>
      rw [y] at q
      have q : wpS (m ρ1 S) _ _ := q
      simp only
      cases z : m ρ1 S with
      | nx ρ2 S2 => rw [z] at q; exact b_forL I hs he r ρ2 S2 q
      | rt w S2 => rw [z] at q; exact q
      | bk _ _ => rw [z] at q; exact q.elim
      | ct _ _ => rw [z] at q; exact q.elim
      | bad => rw [z] at q; exact q.elim
instance ib_seqN {m m' : Ms} {fr : Xm} : Stp (wpB (sSeq m m' ρ S) (xSeq xNo m fr ρ S) N Rt Ex) (wpS (m ρ S) (fun ρ' S' => wpB (m' ρ' S') (fr ρ' S') N Rt Ex) Rt) := ⟨b_seqN⟩
instance ib_if {t : Mt} {m m' : Ms} {fb fo : Xm} : Stp (wpB (sIf t m m' ρ S) (xIf t fb fo ρ S) N Rt Ex) (wpE (t ρ S) fun b S1 => if b = true then wpB (m ρ S1) (fb ρ S1) N Rt Ex else wpB (m' ρ S1) (fo ρ S1) N Rt Ex) := ⟨b_if⟩
instance ib_no {o : Out} : Stp (wpB o (xNo ρ S) N Rt Ex) (wpS o N Rt) := ⟨b_no⟩
instance ic_no {r : R Wd} : Stp (wpC r (xNo ρ S) Q Ex) (wpE r Q) := ⟨c_no⟩
instance ic_noA {r : R (List Wd)} : Stp (wpC r (xNo ρ S) Qs Ex) (wpE r Qs) := ⟨c_no⟩
instance ib_expr {f : Mx} {fx : Xm} : Stp (wpB (sExpr f ρ S) (fx ρ S) N Rt Ex) (wpC (f ρ S) (fx ρ S) (fun _ S1 => N ρ S1) Ex) := ⟨b_expr⟩
instance ib_ret {f : Mx} {fx : Xm} : Stp (wpB (sRet f ρ S) (fx ρ S) N Rt Ex) (wpC (f ρ S) (fx ρ S) Rt Ex) := ⟨b_ret⟩
instance ib_set {i : Nat} {f : Mx} {fx : Xm} : Stp (wpB (sSet i f ρ S) (fx ρ S) N Rt Ex) (wpC (f ρ S) (fx ρ S) (fun w S1 => N (ρ.set i (some (.val w))) S1) Ex) := ⟨b_set⟩
instance ib_raise {c : Str} {ns : List Str} {fs : Ma} : Stp (wpB (sBad ρ S) (xMk c ns fs ρ S) N Rt Ex) (wpE (fs ρ S) fun ws S1 => ws.length = ns.length ∧ Ex ⟨c, ns.zip ws⟩ S1) := ⟨b_raise⟩
instance ic_call {g : Gd} {x : Xd} {fs : Ma} : Stp (wpC (mCall g fs ρ S) (xCall x fs ρ S) Q Ex) (wpE (fs ρ S) fun ws S1 => wpC (g ws S1) (x ws S1) Q Ex) := ⟨c_call⟩
instance ic_hd {g : Gd} {f : Mx} {fs : Ma} {fx fr : Xm} : Stp (wpC (mCall g (aCons f fs) ρ S) (xHd fx f fr ρ S) Q Ex) (wpC (f ρ S) (fx ρ S) (fun w S1 => wpC (fs ρ S1) (fr ρ S1) (fun ws S2 => wpE (g (w :: ws) S2) Q) Ex) Ex) := ⟨c_hd⟩
end
end DL
namespace PL
open PySem PySem.Spec PyProof.Rows L2 DL
mutual
def okW (m : Nat) : Wd → Bool
  | .none => true
  | .bool _ => true
  | .int i => decide (i.natAbs ≤ m)
  | .str s => PyData.strOk s && decide (s.cps.size ≤ 8)
  | .list xs => okWs m xs
  | .tuple xs => okWs m xs
  | .dict _ => false
def okWs (m : Nat) : List Wd → Bool
  | [] => true
  | x :: xs => okW m x && okWs m xs
end
mutual
def nodes : Wd → Nat
  | .list xs => nodesL xs + 1
  | .tuple xs => nodesL xs + 1
  | .none => 1
  | .bool _ => 1
  | .int _ => 1
  | .str _ => 1
  | .dict _ => 1
def nodesL : List Wd → Nat
  | [] => 0
  | x :: xs => nodes x + nodesL xs
end
structure Gw (m n k : Nat) (w : Wd) : Prop where
  ok : okW m w = true
  nd : nodes w ≤ n
  dp : w.depth ≤ k
theorem okWs_iff {m : Nat} : ∀ {xs : List Wd}, okWs m xs = true ↔ ∀ x ∈ xs, okW m x = true
  | [] => by simp [okWs]
  | x :: xs => by simp [okWs, okWs_iff (xs := xs)]
theorem nodes_pos (w : Wd) : 1 ≤ nodes w := by cases w <;> simp [nodes]
theorem nodesL_len : ∀ (xs : List Wd), xs.length ≤ nodesL xs
  | [] => Nat.le_refl _
  | x :: xs => by
    have h1 := nodesL_len xs
    have h2 := nodes_pos x
    simp only [nodesL, List.length_cons]
    omega
theorem nodes_mem : ∀ {xs : List Wd} {x : Wd}, x ∈ xs → nodes x ≤ nodesL xs
  | y :: xs, x, h => by
    simp only [nodesL]
    rcases List.mem_cons.1 h with rfl | h
    · omega
    · have := nodes_mem h
      omega
theorem depthAll_iff {k : Nat} : ∀ {xs : List Wd}, PyData.depthAll xs ≤ k ↔ ∀ x ∈ xs, x.depth ≤ k
  | [] => by simp [PyData.depthAll]
  | x :: xs => by
    simp only [PyData.depthAll, Nat.max_le, List.mem_cons, forall_eq_or_imp, depthAll_iff (xs := xs)]
mutual
theorem okW_facts {m : Nat} (hm : m < 2 ^ 30) : ∀ (w : Wd), okW m w = true → w.showable = true ∧ w.canLay0 = true ∧ w.leavesShort 13 = true ∧ w.weight + 1 ≤ 32 * nodes w
  | .none, _ => ⟨rfl, rfl, rfl, by simp [PyData.weight, nodes]⟩
  | .bool b, _ => ⟨rfl, rfl, rfl, by simp [PyData.weight, nodes]⟩
  | .int i, h => by
    have h1 : i.natAbs < 2 ^ 30 := by
      have := of_decide_eq_true (show decide (i.natAbs ≤ m) = true from h)
      omega
    have s := Sz.int h1
    exact ⟨s.sh, s.cl, s.ls, by have := s.wt; simp only [nodes]; omega⟩
  | .str x, h => by
    obtain ⟨h1, h2⟩ := Bool.and_eq_true_iff.mp (show (PyData.strOk x && decide (x.cps.size ≤ 8)) = true from h)
    have h2 := of_decide_eq_true h2
    have s := Sz.str h1 h2
    exact ⟨s.sh, s.cl, s.ls, by have := s.wt; simp only [nodes]; omega⟩
  | .list xs, h => by
    obtain ⟨a, b, c, d⟩ := okWs_facts hm xs h
    exact ⟨by simp [PyData.showable, a], by simp [PyData.canLay0, b], by simp [PyData.leavesShort, c], by simp only [PyData.weight, nodes]; omega⟩
  | .tuple xs, h => by
    obtain ⟨a, b, c, d⟩ := okWs_facts hm xs h
    exact ⟨by simp [PyData.showable, a], by simp [PyData.canLay0, b], by simp [PyData.leavesShort, c], by simp only [PyData.weight, nodes]; omega⟩
  | .dict xs, h => by cases h
theorem okWs_facts {m : Nat} (hm : m < 2 ^ 30) : ∀ (xs : List Wd), okWs m xs = true → PyData.showableAll xs = true ∧ PyData.canLayAll0 xs = true ∧ PyData.leavesShortAll 13 xs = true ∧ PyData.weightAll xs ≤ 32 * nodesL xs
  | [], _ => by simp [PyData.showableAll, PyData.canLayAll0, PyData.leavesShortAll, PyData.weightAll]
  | x :: xs, h => by
    obtain ⟨h1, h2⟩ := Bool.and_eq_true_iff.mp (show (okW m x && okWs m xs) = true from h)
    obtain ⟨a, b, c, d⟩ := okW_facts hm x h1
    obtain ⟨a', b', c', d'⟩ := okWs_facts hm xs h2
    exact ⟨by simp [PyData.showableAll, a, a'], by simp [PyData.canLayAll0, b, b'], by simp [PyData.leavesShortAll, c, c'], by simp only [PyData.weightAll, nodesL]; omega⟩
end
mutual
theorem okW_cl {m : Nat} : ∀ (w : Wd), okW m w = true → w.canLay0 = true
  | .none, _ => rfl
  | .bool b, _ => rfl
  | .int i, h => rfl
  | .str x, h => (Bool.and_eq_true_iff.mp (show (PyData.strOk x && decide (x.cps.size ≤ 8)) = true from h)).1
  | .list xs, h => by simp only [PyData.canLay0]; exact okWs_cl xs h
  | .tuple xs, h => by simp only [PyData.canLay0]; exact okWs_cl xs h
  | .dict xs, h => by cases h
theorem okWs_cl {m : Nat} : ∀ (xs : List Wd), okWs m xs = true → PyData.canLayAll0 xs = true
  | [], _ => rfl
  | x :: xs, h => by
    obtain ⟨h1, h2⟩ := Bool.and_eq_true_iff.mp (show (okW m x && okWs m xs) = true from h)
    simp [PyData.canLayAll0, okW_cl x h1, okWs_cl xs h2]
end
mutual
theorem okW_mono {m m' : Nat} (hm : m ≤ m') : ∀ (w : Wd), okW m w = true → okW m' w = true
  | .none, _ => rfl
  | .bool b, _ => rfl
  | .int i, h => by
    have := of_decide_eq_true (show decide (i.natAbs ≤ m) = true from h)
    exact decide_eq_true (show i.natAbs ≤ m' by omega)
  | .str x, h => h
  | .list xs, h => okWs_mono hm xs h
  | .tuple xs, h => okWs_mono hm xs h
  | .dict xs, h => by cases h
theorem okWs_mono {m m' : Nat} (hm : m ≤ m') : ∀ (xs : List Wd), okWs m xs = true → okWs m' xs = true
  | [], _ => rfl
  | x :: xs, h => by
    obtain ⟨h1, h2⟩ := Bool.and_eq_true_iff.mp (show (okW m x && okWs m xs) = true from h)
    simp [okWs, okW_mono hm x h1, okWs_mono hm xs h2]
end
theorem Gw.sz {m n k : Nat} {w : Wd} (h : Gw m n k w) (hm : m < 2 ^ 30) : Sz (32 * n) k w := by
  obtain ⟨a, b, c, d⟩ := okW_facts hm w h.ok
  have := h.nd
  exact ⟨a, b, h.dp, c, by omega⟩
theorem Gw.mono {m n k m' n' k' : Nat} {w : Wd} (h : Gw m n k w) (h1 : m ≤ m') (h2 : n ≤ n') (h3 : k ≤ k') : Gw m' n' k' w := ⟨okW_mono h1 w h.ok, Nat.le_trans h.nd h2, Nat.le_trans h.dp h3⟩
theorem Gw.tup {m n k : Nat} {xs : List Wd} (h : ∀ x ∈ xs, okW m x = true) (hd : ∀ x ∈ xs, x.depth ≤ k) (hn : nodesL xs + 1 ≤ n) : Gw m n (k + 1) (.tuple xs) := ⟨by simp only [okW]; exact okWs_iff.2 h, by simpa [nodes] using hn, by simp only [PyData.depth]; have := depthAll_iff.2 hd; omega⟩
theorem Gw.lst {m n k : Nat} {xs : List Wd} (h : ∀ x ∈ xs, okW m x = true) (hd : ∀ x ∈ xs, x.depth ≤ k) (hn : nodesL xs + 1 ≤ n) : Gw m n (k + 1) (.list xs) := ⟨by simp only [okW]; exact okWs_iff.2 h, by simpa [nodes] using hn, by simp only [PyData.depth]; have := depthAll_iff.2 hd; omega⟩
theorem Gw.mem {m n k : Nat} {xs : List Wd} (h : Gw m n (k + 1) (.tuple xs)) {x : Wd} (hx : x ∈ xs) : Gw m n k x := ⟨okWs_iff.1 (show okWs m xs = true from h.ok) x hx, by have := nodes_mem hx; have := h.nd; simp only [nodes] at this; omega, by have := h.dp; simp only [PyData.depth] at this; exact depthAll_iff.1 (show PyData.depthAll xs ≤ k by omega) x hx⟩
def Nw (w : Wd) : Prop := ∃ m n k, Gw m n k w ∧ n ≤ 100000 ∧ k ≤ 60
section
variable {w : Wd} {xs : List Wd}
theorem Nw.mem (h : Nw (.tuple xs)) {x : Wd} (hx : x ∈ xs) : Nw x := by
  obtain ⟨m, n, k, g, h1, h2⟩ := h
  refine ⟨m, n, k, ⟨okWs_iff.1 (show okWs m xs = true from g.ok) x hx, ?_, ?_⟩, h1, h2⟩
  · have a := nodes_mem hx
    have b := g.nd
    simp only [nodes] at b
    omega
  · have b := g.dp
    simp only [PyData.depth] at b
    exact depthAll_iff.1 (show PyData.depthAll xs ≤ k by omega) x hx
theorem Nw.len (h : Nw (.tuple xs)) : xs.length ≤ 100000 := by
  obtain ⟨m, n, k, g, h1, h2⟩ := h
  have a := nodesL_len xs
  have b := g.nd
  simp only [nodes] at b
  omega
theorem siz5 : 100000 ≤ sizeLine := by decide
theorem Nw.line (h : Nw (.tuple xs)) : xs.length ≤ sizeLine := Nat.le_trans h.len siz5
theorem Nw.shaped (h : Nw w) : SeqAt.shaped w = true := by
  obtain ⟨m, n, k, g, h1, h2⟩ := h
  have b := g.dp
  simp only [SeqAt.shaped, okW_cl w g.ok, Bool.true_and, decide_eq_true_eq]
  omega
theorem Nw.kind (h : Nw w) : ∃ k, kindD w = some k := by
  obtain ⟨m, n, k, g, h1, h2⟩ := h
  have := g.ok
  cases w <;> first | exact ⟨_, rfl⟩ | cases this
end
section
variable {g : Mg} {t : Mt} {fe : Mx} {ρ : Ev} {S : Sto} {Q : List Wd → Sto → Prop}
end
theorem b_range {n : Nat} {g : Mg} {m : Ms} {fx : Xm} {N : Ev → Sto → Prop} {Rt : Wd → Sto → Prop} {Ex : Xn → Sto → Prop} (J : Nat → Ev → Sto → Prop) (hs : ∀ i ρ S, i < n → J i ρ S → ∃ ρ1, g (.int i) ρ = some ρ1 ∧ wpB (m ρ1 S) (fx ρ1 S) (J (i + 1)) Rt Ex) (he : ∀ ρ S, J n ρ S → N ρ S)
    {ρ : Ev} {S : Sto} (h : J 0 ρ S) : wpB (forLoop g m (rangeD 0 n) ρ S) (xForL g fx m (rangeD 0 n) ρ S) N Rt Ex := by
  have gen : ∀ (k i : Nat), i + k = n → ∀ (ρ : Ev) (S : Sto), J i ρ S → wpB (forLoop g m ((List.range' i k).map fun (j : Nat) => (.int (0 + j) : Wd)) ρ S) (xForL g fx m ((List.range' i k).map fun (j : Nat) => (.int (0 + j) : Wd)) ρ S) N Rt Ex := by
    intro k
    induction k with
    | zero =>
      intro i hi ρ S h
      obtain rfl : i = n := by omega
      exact he ρ S h
    | succ k ih =>
      intro i hi ρ S h
      refine b_forL (fun r ρ S => (r = (List.range' i (k + 1)).map (fun (j : Nat) => (.int (0 + j) : Wd)) ∧ J i ρ S) ∨ ∃ i' k', i' + k' = n ∧ r = (List.range' i' k').map (fun (j : Nat) => (.int (0 + j) : Wd)) ∧ J i' ρ S) ?_ ?_ _ _ _ (.inl ⟨rfl, h⟩)
      · have st : ∀ (i' k' : Nat) (w : Wd) (r : List Wd) (ρ : Ev) (S : Sto), i' + k' = n → w :: r = (List.range' i' k').map (fun (j : Nat) => (.int (0 + j) : Wd)) → J i' ρ S → ∃ ρ1, g w ρ = some ρ1 ∧ wpB (m ρ1 S) (fx ρ1 S) (fun ρ S => (r = (List.range' i (k + 1)).map (fun (j : Nat) => (.int (0 + j) : Wd)) ∧ J i ρ S) ∨ ∃ i' k', i' + k' = n ∧ r = (List.range' i' k').map (fun (j : Nat) => (.int (0 + j) : Wd)) ∧ J i' ρ S) Rt Ex := by
          intro i' k' w r ρ S e1 e2 h
          cases k' with
          | zero => simp at e2
          | succ k' =>
            rw [List.range'_succ, List.map_cons] at e2
            cases e2
            obtain ⟨ρ1, a, b⟩ := hs i' ρ S (by omega) h
            refine ⟨ρ1, by simpa using a, wpB_mono b (fun ρ2 S2 h2 => .inr ⟨i' + 1, k', by omega, rfl, h2⟩) (fun _ _ z => z) fun _ _ z => z⟩
        rintro w r ρ S (⟨e, h⟩ | ⟨i', k', e1, e2, h⟩)
        · exact st i (k + 1) w r ρ S hi e h
        · exact st i' k' w r ρ S e1 e2 h
      · rintro ρ S (⟨e, h⟩ | ⟨i', k', e1, e2, h⟩)
        · simp at e
        · cases k' with
          | zero =>
            obtain rfl : i' = n := by omega
            exact he ρ S h
          | succ k' => simp [List.range'_succ] at e2
  have := gen n 0 (by omega) ρ S h
  rw [rangeD, List.range_eq_range']
  exact this
end PL
namespace WF
open PySem PySem.Spec PyProof.Rows L2 DL PL
def fedR (c : List Int) (a l t : Int) : Rec := .dct [("cells", .list (c.map PyData.int)), ("at", .int a), ("left", .int l), ("count", .int t)]
def FedOk (S0 S : Sto) : Prop := ∃ c a l t, S = fedR c a l t :: S0
section
variable {c : List Int} {a l t i : Int} {S0 : Sto} {k : Sto → Prop} {K : Wd → Prop}
instance iwd_count : Stp (oW 0 = oW 0 ∧ wpO (recPut (fedR c a l t :: S0) 0 "count" (.int i)) k) (k (fedR c a l i :: S0)) := ⟨fun h => ⟨rfl, _, rfl, h⟩⟩
instance iwd_left : Stp (oW 0 = oW 0 ∧ wpO (recPut (fedR c a l t :: S0) 0 "left" (.int i)) k) (k (fedR c a i t :: S0)) := ⟨fun h => ⟨rfl, _, rfl, h⟩⟩
instance iwd_at : Stp (oW 0 = oW 0 ∧ wpO (recPut (fedR c a l t :: S0) 0 "at" (.int i)) k) (k (fedR c i l t :: S0)) := ⟨fun h => ⟨rfl, _, rfl, h⟩⟩
end
section
variable {S S0 : Sto} {Q : Wd → Sto → Prop}
theorem feed_k01_eq {ns : List Int} (h : ns.length ≤ 63) : g_feed_k01 [.list (ns.map PyData.int)] [] = .ok (oW 0) [fedR ns 0 0 0] := by
  refine wpR_ok (w_def rfl ?_)
  unfold m_feed_k01
  (repeat (first | with_reducible refine zq15 ?_ | (with_reducible first | refine zq14 ?_ | refine zq11 ?_ | refine zq10 ?_ | refine zq3 ?_ | refine zq4 ?_ | refine zq5 ?_ | refine zq0 ?_ | refine zq8 ?_ | refine zq6 ?_ | refine zq1 ?_ | refine zq13 ?_ | refine zq12 ?_ | refine zq7 ?_ | refine zq2 ?_ | refine zq9 ?_)))
  have e : DL.cutD (ns.map PyData.int) none (some 63) = ns.map PyData.int := by
    refine cut_whole ⟨rfl, ?_⟩
    show min 63 (ns.map PyData.int).length = _
    rw [List.length_map]
    omega
  rw [e]
  exact ⟨rfl, rfl⟩
theorem draw_k01_wp {m : Int} (hS : FedOk S0 S) (h0 : 0 < m) (h1 : m < 1073741824) (q : ∀ d S', 0 ≤ d → d < m → FedOk S0 S' → Q (.int d) S') : wpE (g_draw_k01 [oW 0, .int m] S) Q := by
  obtain ⟨c, a, l, t, rfl⟩ := hS
  have fin : ∀ (i : Int) (S' : Sto), FedOk S0 S' → Q (.int (i % m)) S' := fun i S' h => q _ S' (Int.emod_nonneg _ (by omega)) (Int.emod_lt_of_pos _ h0) h
  have ok : ∀ c a l t, FedOk S0 (fedR c a l t :: S0) := fun c a l t => ⟨c, a, l, t, rfl⟩
  refine w_def rfl ?_
  unfold m_draw_k01
  refine zq15 ?_
  (repeat (with_reducible first | refine zq14 ?_ | refine zq11 ?_ | refine zq10 ?_ | refine zq3 ?_ | refine zq4 ?_ | refine zq5 ?_ | refine zq0 ?_ | refine zq8 ?_ | refine zq6 ?_ | refine zq1 ?_ | refine zq13 ?_ | refine zq12 ?_ | refine zq7 ?_ | refine zq2 ?_ | refine zq9 ?_))
  refine zq15 ?_
  (repeat (with_reducible first | refine zq14 ?_ | refine zq11 ?_ | refine zq10 ?_ | refine zq3 ?_ | refine zq4 ?_ | refine zq5 ?_ | refine zq0 ?_ | refine zq8 ?_ | refine zq6 ?_ | refine zq1 ?_ | refine zq13 ?_ | refine zq12 ?_ | refine zq7 ?_ | refine zq2 ?_ | refine zq9 ?_))
  refine w_b (fun hl => ?_) (fun hl => ?_)
  · (repeat (first | with_reducible refine zq15 ?_ | (with_reducible first | refine zq14 ?_ | refine zq11 ?_ | refine zq10 ?_ | refine zq3 ?_ | refine zq4 ?_ | refine zq5 ?_ | refine zq0 ?_ | refine zq8 ?_ | refine zq6 ?_ | refine zq1 ?_ | refine zq13 ?_ | refine zq12 ?_ | refine zq7 ?_ | refine zq2 ?_ | refine zq9 ?_)))
    exact fin _ _ (ok _ _ _ _)
  refine zq15 ?_
  (repeat (with_reducible first | refine zq14 ?_ | refine zq11 ?_ | refine zq10 ?_ | refine zq3 ?_ | refine zq4 ?_ | refine zq5 ?_ | refine zq0 ?_ | refine zq8 ?_ | refine zq6 ?_ | refine zq1 ?_ | refine zq13 ?_ | refine zq12 ?_ | refine zq7 ?_ | refine zq2 ?_ | refine zq9 ?_))
  refine zq15 ?_
  (repeat (with_reducible first | refine zq14 ?_ | refine zq11 ?_ | refine zq10 ?_ | refine zq3 ?_ | refine zq4 ?_ | refine zq5 ?_ | refine zq0 ?_ | refine zq8 ?_ | refine zq6 ?_ | refine zq1 ?_ | refine zq13 ?_ | refine zq12 ?_ | refine zq7 ?_ | refine zq2 ?_ | refine zq9 ?_))
  refine w_seqJ (fun ρ S => ∃ z : Int, S = fedR c (a + 1) l (t + 1) :: S0 ∧ ρ = [some (.val (oW 0)), some (.val (.int m)), none, some (.val (.int a)), some (.val (.int z)), none]) ?_ ?_
  · (repeat (with_reducible first | refine zq14 ?_ | refine zq11 ?_ | refine zq10 ?_ | refine zq3 ?_ | refine zq4 ?_ | refine zq5 ?_ | refine zq0 ?_ | refine zq8 ?_ | refine zq6 ?_ | refine zq1 ?_ | refine zq13 ?_ | refine zq12 ?_ | refine zq7 ?_ | refine zq2 ?_ | refine zq9 ?_))
    refine wpO_rfl gNe_cells ?_
    (repeat (with_reducible first | refine zq14 ?_ | refine zq11 ?_ | refine zq10 ?_ | refine zq3 ?_ | refine zq4 ?_ | refine zq5 ?_ | refine zq0 ?_ | refine zq8 ?_ | refine zq6 ?_ | refine zq1 ?_ | refine zq13 ?_ | refine zq12 ?_ | refine zq7 ?_ | refine zq2 ?_ | refine zq9 ?_))
    refine w_b (fun hc => ?_) (fun hc => ?_)
    · have hc1 : 0 < c.length := by
        cases c with
        | nil => cases hc
        | cons _ _ => exact Nat.succ_pos _
      (repeat (with_reducible first | refine zq14 ?_ | refine zq11 ?_ | refine zq10 ?_ | refine zq3 ?_ | refine zq4 ?_ | refine zq5 ?_ | refine zq0 ?_ | refine zq8 ?_ | refine zq6 ?_ | refine zq1 ?_ | refine zq13 ?_ | refine zq12 ?_ | refine zq7 ?_ | refine zq2 ?_ | refine zq9 ?_))
      refine wo_mod (by simpa using hc1) ?_
      have hx : 0 ≤ a % ((c.map PyData.int).length : Int) := Int.emod_nonneg _ (by rw [List.length_map]; omega)
      have hy : a % ((c.map PyData.int).length : Int) < (c.map PyData.int).length := Int.emod_lt_of_pos _ (by simpa using hc1)
      (repeat (with_reducible first | refine zq14 ?_ | refine zq11 ?_ | refine zq10 ?_ | refine zq3 ?_ | refine zq4 ?_ | refine zq5 ?_ | refine zq0 ?_ | refine zq8 ?_ | refine zq6 ?_ | refine zq1 ?_ | refine zq13 ?_ | refine zq12 ?_ | refine zq7 ?_ | refine zq2 ?_ | refine zq9 ?_))
      refine wpO_rfl (atI_in hx hy) ?_
      rw [List.getElem_map]
      exact ⟨_, rfl, rfl⟩
    · (repeat (with_reducible first | refine zq14 ?_ | refine zq11 ?_ | refine zq10 ?_ | refine zq3 ?_ | refine zq4 ?_ | refine zq5 ?_ | refine zq0 ?_ | refine zq8 ?_ | refine zq6 ?_ | refine zq1 ?_ | refine zq13 ?_ | refine zq12 ?_ | refine zq7 ?_ | refine zq2 ?_ | refine zq9 ?_))
      exact ⟨_, rfl, rfl⟩
  · rintro ρ S ⟨z, rfl, rfl⟩
    refine zq15 ?_
    refine w_ifS ?_
    refine wpE_mono (Q := fun b S1 => S1 = fedR c (a + 1) l (t + 1) :: S0) ?_ ?_
    · (repeat (with_reducible first | refine zq14 ?_ | refine zq11 ?_ | refine zq10 ?_ | refine zq3 ?_ | refine zq4 ?_ | refine zq5 ?_ | refine zq0 ?_ | refine zq8 ?_ | refine zq6 ?_ | refine zq1 ?_ | refine zq13 ?_ | refine zq12 ?_ | refine zq7 ?_ | refine zq2 ?_ | refine zq9 ?_))
      refine w_b (fun hl => ?_) (fun hl => ?_)
      · (repeat (with_reducible first | refine zq14 ?_ | refine zq11 ?_ | refine zq10 ?_ | refine zq3 ?_ | refine zq4 ?_ | refine zq5 ?_ | refine zq0 ?_ | refine zq8 ?_ | refine zq6 ?_ | refine zq1 ?_ | refine zq13 ?_ | refine zq12 ?_ | refine zq7 ?_ | refine zq2 ?_ | refine zq9 ?_))
        rfl
      · rfl
    rintro b _ rfl
    cases b with
    | true =>
      (repeat (with_reducible first | refine zq14 ?_ | refine zq11 ?_ | refine zq10 ?_ | refine zq3 ?_ | refine zq4 ?_ | refine zq5 ?_ | refine zq0 ?_ | refine zq8 ?_ | refine zq6 ?_ | refine zq1 ?_ | refine zq13 ?_ | refine zq12 ?_ | refine zq7 ?_ | refine zq2 ?_ | refine zq9 ?_))
      refine zq15 ?_
      (repeat (with_reducible first | refine zq14 ?_ | refine zq11 ?_ | refine zq10 ?_ | refine zq3 ?_ | refine zq4 ?_ | refine zq5 ?_ | refine zq0 ?_ | refine zq8 ?_ | refine zq6 ?_ | refine zq1 ?_ | refine zq13 ?_ | refine zq12 ?_ | refine zq7 ?_ | refine zq2 ?_ | refine zq9 ?_))
      exact fin _ _ (ok _ _ _ _)
    | false =>
      (repeat (with_reducible first | refine zq14 ?_ | refine zq11 ?_ | refine zq10 ?_ | refine zq3 ?_ | refine zq4 ?_ | refine zq5 ?_ | refine zq0 ?_ | refine zq8 ?_ | refine zq6 ?_ | refine zq1 ?_ | refine zq13 ?_ | refine zq12 ?_ | refine zq7 ?_ | refine zq2 ?_ | refine zq9 ?_))
      refine zq15 ?_
      (repeat (with_reducible first | refine zq14 ?_ | refine zq11 ?_ | refine zq10 ?_ | refine zq3 ?_ | refine zq4 ?_ | refine zq5 ?_ | refine zq0 ?_ | refine zq8 ?_ | refine zq6 ?_ | refine zq1 ?_ | refine zq13 ?_ | refine zq12 ?_ | refine zq7 ?_ | refine zq2 ?_ | refine zq9 ?_))
      refine zq15 ?_
      generalize hx : (z % 1000000531 + 230017 * (t + 1) + 101) % 2147482951 = x
      have x0 : 0 ≤ x := by rw [← hx]; exact Int.emod_nonneg _ (by decide)
      have x1 : x < 2147482951 := by rw [← hx]; exact Int.emod_lt_of_pos _ (by decide)
      (repeat (with_reducible first | refine zq14 ?_ | refine zq11 ?_ | refine zq10 ?_ | refine zq3 ?_ | refine zq4 ?_ | refine zq5 ?_ | refine zq0 ?_ | refine zq8 ?_ | refine zq6 ?_ | refine zq1 ?_ | refine zq13 ?_ | refine zq12 ?_ | refine zq7 ?_ | refine zq2 ?_ | refine zq9 ?_))
      generalize hy : (x * x + 5100007 * (t + 1) + 59) % 2147482949 = y
      have y0 : 0 ≤ y := by rw [← hy]; exact Int.emod_nonneg _ (by decide)
      have y1 : y < 2147482949 := by rw [← hy]; exact Int.emod_lt_of_pos _ (by decide)
      (repeat (with_reducible first | refine zq14 ?_ | refine zq11 ?_ | refine zq10 ?_ | refine zq3 ?_ | refine zq4 ?_ | refine zq5 ?_ | refine zq0 ?_ | refine zq8 ?_ | refine zq6 ?_ | refine zq1 ?_ | refine zq13 ?_ | refine zq12 ?_ | refine zq7 ?_ | refine zq2 ?_ | refine zq9 ?_))
      exact fin _ _ (ok _ _ _ _)
theorem w_aug {N : Ev → Sto → Prop} {Rt : Wd → Sto → Prop} {ρ : Ev} {i : Nat} {g : Wd → Wd → Option Wd} {f : Mx} {x : Wd} (h : ρ[i]? = some (some (.val x))) (q : wpE (f ρ S) fun y S1 => wpO (g x y) fun w => N (ρ.set i (some (.val w))) S1) : wpS (sAug i g f ρ S) N Rt := by
  unfold sAug
  rw [h]
  cases e : f ρ S with
  | bad => rw [e] at q; exact q.elim
  | ok y S1 =>
    rw [e] at q
    obtain ⟨w, h1, h2⟩ := q
    simp only [sOf_ok, h1]
    exact h2
theorem pickK {ys : List Wd} {d : Int} {K : Wd → Prop} (h0 : 0 ≤ d) (h1 : d < ys.length) (q : ∀ y ∈ ys, K y) : wpO (gIx S (.list ys) (.int d)) K :=
  wpO_rfl (atI_in h0 h1) (q _ (List.getElem_mem _))
theorem pickT {ys : List Wd} {d : Int} {K : Wd → Prop} (h0 : 0 ≤ d) (h1 : d < ys.length) (q : ∀ y ∈ ys, K y) : wpO (gIx S (.tuple ys) (.int d)) K :=
  wpO_rfl (atI_in h0 h1) (q _ (List.getElem_mem _))
def zK : Nat → Nat
  | 0 => 1
  | n + 1 => 1 + 3 * zK n
theorem zK_pos : ∀ n, 1 ≤ zK n
  | 0 => Nat.le_refl _
  | n + 1 => by simp only [zK]; omega
theorem szLsK {m : Nat} : ∀ {ls : List Lim}, (∀ l ∈ ls, szL l ≤ m) → szLs ls ≤ ls.length * m
  | [], _ => by simp [szLs]
  | l :: ls, h => by
    have h1 := h l (List.mem_cons_self ..)
    have h2 := szLsK fun x hx => h x (List.mem_cons_of_mem l hx)
    simp only [szLs, List.length_cons, Nat.succ_mul]
    omega
theorem limit_k01_wp : ∀ (n k : Nat) (S : Sto) (Q : Wd → Sto → Prop), FedOk S0 S → n < k → (∀ l S', LimB 1 99 n l → szL l ≤ zK n → FedOk S0 S' → Q (encL l) S') → wpE (g_limit_k01 k [oW 0, .int n] S) Q := by
  have hz := siz
  intro n
  induction n with
  | zero =>
    intro k S Q hS hk q
    obtain ⟨k, rfl⟩ : ∃ k', k = k' + 1 := ⟨k - 1, by omega⟩
    refine w_def rfl ?_
    unfold m_limit_k01
    refine zq15 ?_
    (repeat (with_reducible first | refine zq14 ?_ | refine zq11 ?_ | refine zq10 ?_ | refine zq3 ?_ | refine zq4 ?_ | refine zq5 ?_ | refine zq0 ?_ | refine zq8 ?_ | refine zq6 ?_ | refine zq1 ?_ | refine zq13 ?_ | refine zq12 ?_ | refine zq7 ?_ | refine zq2 ?_ | refine zq9 ?_))
    refine draw_k01_wp hS (by decide) (by decide) fun d S' hd0 hd1 hS' => ?_
    refine zq15 ?_
    refine w_ifS ?_
    refine wpE_mono (Q := fun b S1 => S1 = S' ∧ b = true) ?_ ?_
    · (repeat (with_reducible first | refine zq14 ?_ | refine zq11 ?_ | refine zq10 ?_ | refine zq3 ?_ | refine zq4 ?_ | refine zq5 ?_ | refine zq0 ?_ | refine zq8 ?_ | refine zq6 ?_ | refine zq1 ?_ | refine zq13 ?_ | refine zq12 ?_ | refine zq7 ?_ | refine zq2 ?_ | refine zq9 ?_))
      refine w_b (fun _ => ⟨rfl, rfl⟩) fun _ => ?_
      (repeat (with_reducible first | refine zq14 ?_ | refine zq11 ?_ | refine zq10 ?_ | refine zq3 ?_ | refine zq4 ?_ | refine zq5 ?_ | refine zq0 ?_ | refine zq8 ?_ | refine zq6 ?_ | refine zq1 ?_ | refine zq13 ?_ | refine zq12 ?_ | refine zq7 ?_ | refine zq2 ?_ | refine zq9 ?_))
      exact ⟨rfl, rfl⟩
    rintro b _ ⟨rfl, rfl⟩
    (repeat (with_reducible first | refine zq14 ?_ | refine zq11 ?_ | refine zq10 ?_ | refine zq3 ?_ | refine zq4 ?_ | refine zq5 ?_ | refine zq0 ?_ | refine zq8 ?_ | refine zq6 ?_ | refine zq1 ?_ | refine zq13 ?_ | refine zq12 ?_ | refine zq7 ?_ | refine zq2 ?_ | refine zq9 ?_))
    refine zq15 ?_
    (repeat (with_reducible first | refine zq14 ?_ | refine zq11 ?_ | refine zq10 ?_ | refine zq3 ?_ | refine zq4 ?_ | refine zq5 ?_ | refine zq0 ?_ | refine zq8 ?_ | refine zq6 ?_ | refine zq1 ?_ | refine zq13 ?_ | refine zq12 ?_ | refine zq7 ?_ | refine zq2 ?_ | refine zq9 ?_))
    refine draw_k01_wp hS' (by decide) (by decide) fun d2 S2 h20 h21 hS2 => ?_
    refine pickK h20 (by simpa using h21) fun y hy => ?_
    obtain ⟨i, rfl, hi⟩ : ∃ i : Int, y = .int i ∧ 1 ≤ i ∧ i ≤ 99 := by
      simp only [List.mem_cons, List.mem_nil_iff, or_false] at hy
      rcases hy with rfl | rfl | rfl | rfl | rfl | rfl <;> exact ⟨_, rfl, by decide, by decide⟩
    (repeat (with_reducible first | refine zq14 ?_ | refine zq11 ?_ | refine zq10 ?_ | refine zq3 ?_ | refine zq4 ?_ | refine zq5 ?_ | refine zq0 ?_ | refine zq8 ?_ | refine zq6 ?_ | refine zq1 ?_ | refine zq13 ?_ | refine zq12 ?_ | refine zq7 ?_ | refine zq2 ?_ | refine zq9 ?_))
    refine pickK (Int.emod_nonneg _ (by decide)) (by have := Int.emod_lt_of_pos d (show (0 : Int) < 3 by decide); simpa using this) fun y hy => ?_
    obtain ⟨w, rfl⟩ : ∃ w : CW, y = .str w.str := by
      simp only [List.mem_cons, List.mem_nil_iff, or_false] at hy
      rcases hy with rfl | rfl | rfl
      · exact ⟨.hours, rfl⟩
      · exact ⟨.cycles, rfl⟩
      · exact ⟨.days, rfl⟩
    (repeat (with_reducible first | refine zq14 ?_ | refine zq11 ?_ | refine zq10 ?_ | refine zq3 ?_ | refine zq4 ?_ | refine zq5 ?_ | refine zq0 ?_ | refine zq8 ?_ | refine zq6 ?_ | refine zq1 ?_ | refine zq13 ?_ | refine zq12 ?_ | refine zq7 ?_ | refine zq2 ?_ | refine zq9 ?_))
    exact q (.one w i) _ (LimB.mk_one hi) (Nat.le_refl _) hS2
  | succ n ih =>
    intro k S Q hS hk q
    obtain ⟨k, rfl⟩ : ∃ k', k = k' + 1 := ⟨k - 1, by omega⟩
    refine w_def rfl ?_
    unfold m_limit_k01
    refine zq15 ?_
    (repeat (with_reducible first | refine zq14 ?_ | refine zq11 ?_ | refine zq10 ?_ | refine zq3 ?_ | refine zq4 ?_ | refine zq5 ?_ | refine zq0 ?_ | refine zq8 ?_ | refine zq6 ?_ | refine zq1 ?_ | refine zq13 ?_ | refine zq12 ?_ | refine zq7 ?_ | refine zq2 ?_ | refine zq9 ?_))
    refine draw_k01_wp hS (by decide) (by decide) fun d S' hd0 hd1 hS' => ?_
    refine zq15 ?_
    refine w_ifS ?_
    refine wpE_mono (Q := fun b S1 => S1 = S') ?_ ?_
    · (repeat (with_reducible first | refine zq14 ?_ | refine zq11 ?_ | refine zq10 ?_ | refine zq3 ?_ | refine zq4 ?_ | refine zq5 ?_ | refine zq0 ?_ | refine zq8 ?_ | refine zq6 ?_ | refine zq1 ?_ | refine zq13 ?_ | refine zq12 ?_ | refine zq7 ?_ | refine zq2 ?_ | refine zq9 ?_))
      refine w_b (fun _ => rfl) fun _ => ?_
      (repeat (with_reducible first | refine zq14 ?_ | refine zq11 ?_ | refine zq10 ?_ | refine zq3 ?_ | refine zq4 ?_ | refine zq5 ?_ | refine zq0 ?_ | refine zq8 ?_ | refine zq6 ?_ | refine zq1 ?_ | refine zq13 ?_ | refine zq12 ?_ | refine zq7 ?_ | refine zq2 ?_ | refine zq9 ?_))
      rfl
    rintro b _ rfl
    cases b with
    | true =>
      (repeat (with_reducible first | refine zq14 ?_ | refine zq11 ?_ | refine zq10 ?_ | refine zq3 ?_ | refine zq4 ?_ | refine zq5 ?_ | refine zq0 ?_ | refine zq8 ?_ | refine zq6 ?_ | refine zq1 ?_ | refine zq13 ?_ | refine zq12 ?_ | refine zq7 ?_ | refine zq2 ?_ | refine zq9 ?_))
      refine zq15 ?_
      (repeat (with_reducible first | refine zq14 ?_ | refine zq11 ?_ | refine zq10 ?_ | refine zq3 ?_ | refine zq4 ?_ | refine zq5 ?_ | refine zq0 ?_ | refine zq8 ?_ | refine zq6 ?_ | refine zq1 ?_ | refine zq13 ?_ | refine zq12 ?_ | refine zq7 ?_ | refine zq2 ?_ | refine zq9 ?_))
      refine draw_k01_wp hS' (by decide) (by decide) fun d2 S2 h20 h21 hS2 => ?_
      refine pickK h20 (by simpa using h21) fun y hy => ?_
      obtain ⟨i, rfl, hi⟩ : ∃ i : Int, y = .int i ∧ 1 ≤ i ∧ i ≤ 99 := by
        simp only [List.mem_cons, List.mem_nil_iff, or_false] at hy
        rcases hy with rfl | rfl | rfl | rfl | rfl | rfl <;> exact ⟨_, rfl, by decide, by decide⟩
      (repeat (with_reducible first | refine zq14 ?_ | refine zq11 ?_ | refine zq10 ?_ | refine zq3 ?_ | refine zq4 ?_ | refine zq5 ?_ | refine zq0 ?_ | refine zq8 ?_ | refine zq6 ?_ | refine zq1 ?_ | refine zq13 ?_ | refine zq12 ?_ | refine zq7 ?_ | refine zq2 ?_ | refine zq9 ?_))
      refine pickK (Int.emod_nonneg _ (by decide)) (by have := Int.emod_lt_of_pos d (show (0 : Int) < 3 by decide); simpa using this) fun y hy => ?_
      obtain ⟨w, rfl⟩ : ∃ w : CW, y = .str w.str := by
        simp only [List.mem_cons, List.mem_nil_iff, or_false] at hy
        rcases hy with rfl | rfl | rfl
        · exact ⟨.hours, rfl⟩
        · exact ⟨.cycles, rfl⟩
        · exact ⟨.days, rfl⟩
      (repeat (with_reducible first | refine zq14 ?_ | refine zq11 ?_ | refine zq10 ?_ | refine zq3 ?_ | refine zq4 ?_ | refine zq5 ?_ | refine zq0 ?_ | refine zq8 ?_ | refine zq6 ?_ | refine zq1 ?_ | refine zq13 ?_ | refine zq12 ?_ | refine zq7 ?_ | refine zq2 ?_ | refine zq9 ?_))
      exact q (.one w i) _ (LimB.mk_one hi) (zK_pos _) hS2
    | false =>
      (repeat (with_reducible first | refine zq14 ?_ | refine zq11 ?_ | refine zq10 ?_ | refine zq3 ?_ | refine zq4 ?_ | refine zq5 ?_ | refine zq0 ?_ | refine zq8 ?_ | refine zq6 ?_ | refine zq1 ?_ | refine zq13 ?_ | refine zq12 ?_ | refine zq7 ?_ | refine zq2 ?_ | refine zq9 ?_))
      refine zq15 ?_
      (repeat (with_reducible first | refine zq14 ?_ | refine zq11 ?_ | refine zq10 ?_ | refine zq3 ?_ | refine zq4 ?_ | refine zq5 ?_ | refine zq0 ?_ | refine zq8 ?_ | refine zq6 ?_ | refine zq1 ?_ | refine zq13 ?_ | refine zq12 ?_ | refine zq7 ?_ | refine zq2 ?_ | refine zq9 ?_))
      refine draw_k01_wp hS' (by decide) (by decide) fun d2 S2 h20 h21 hS2 => ?_
      (repeat (with_reducible first | refine zq14 ?_ | refine zq11 ?_ | refine zq10 ?_ | refine zq3 ?_ | refine zq4 ?_ | refine zq5 ?_ | refine zq0 ?_ | refine zq8 ?_ | refine zq6 ?_ | refine zq1 ?_ | refine zq13 ?_ | refine zq12 ?_ | refine zq7 ?_ | refine zq2 ?_ | refine zq9 ?_))
      refine ⟨by omega, ?_⟩
      refine wp_lc (I := fun r acc S' => FedOk S0 S' ∧ ∃ ls : List Lim, acc = ls.map encL ∧ 0 < ls.length + r.length ∧ ls.length + r.length ≤ 3 ∧ ∀ l ∈ ls, LimB 1 99 n l ∧ szL l ≤ zK n) ?_ ?_ _ _ _ ⟨hS2, [], rfl, by simp [rangeD]; omega, by simp [rangeD]; omega, by simp⟩
      · rintro w r acc S' ⟨hS', ls, rfl, hl0, hl, ha⟩
        refine ⟨_, rfl, ?_⟩
        (repeat (with_reducible first | refine zq14 ?_ | refine zq11 ?_ | refine zq10 ?_ | refine zq3 ?_ | refine zq4 ?_ | refine zq5 ?_ | refine zq0 ?_ | refine zq8 ?_ | refine zq6 ?_ | refine zq1 ?_ | refine zq13 ?_ | refine zq12 ?_ | refine zq7 ?_ | refine zq2 ?_ | refine zq9 ?_))
        have e : ((n + 1 : Nat) : Int) - 1 = (n : Nat) := by omega
        rw [e]
        simp only [List.length_cons] at hl hl0
        refine ih k S' _ hS' (by omega) fun l S' hw hw2 hS' => ⟨by simp; omega, hS', ls ++ [l], by simp, by simp; omega, by simp; omega, ?_⟩
        intro x hx
        rcases List.mem_append.1 hx with hx | hx
        · exact ha x hx
        · rw [List.mem_singleton.1 hx]; exact ⟨hw, hw2⟩
      · rintro acc S' ⟨hS', ls, rfl, hl0, hl, ha⟩
        simp only [List.length_nil, Nat.add_zero] at hl hl0
        (repeat (with_reducible first | refine zq14 ?_ | refine zq11 ?_ | refine zq10 ?_ | refine zq3 ?_ | refine zq4 ?_ | refine zq5 ?_ | refine zq0 ?_ | refine zq8 ?_ | refine zq6 ?_ | refine zq1 ?_ | refine zq13 ?_ | refine zq12 ?_ | refine zq7 ?_ | refine zq2 ?_ | refine zq9 ?_))
        refine pickK (Int.emod_nonneg _ (by decide)) (by have := Int.emod_lt_of_pos d (show (0 : Int) < 2 by decide); simpa using this) fun y hy => ?_
        obtain ⟨b, rfl⟩ : ∃ b, y = .str (jw b) := by
          simp only [List.mem_cons, List.mem_nil_iff, or_false] at hy
          rcases hy with rfl | rfl
          · exact ⟨false, rfl⟩
          · exact ⟨true, rfl⟩
        (repeat (with_reducible first | refine zq14 ?_ | refine zq11 ?_ | refine zq10 ?_ | refine zq3 ?_ | refine zq4 ?_ | refine zq5 ?_ | refine zq0 ?_ | refine zq8 ?_ | refine zq6 ?_ | refine zq1 ?_ | refine zq13 ?_ | refine zq12 ?_ | refine zq7 ?_ | refine zq2 ?_ | refine zq9 ?_))
        have q := q (.join b ls) S'
        rw [encL_join] at q
        refine q (LimB.mk_join (List.length_pos_iff.1 hl0) (by omega) fun l hl => (ha l hl).1) ?_ hS'
        have h2 := szLsK fun l hl => (ha l hl).2
        have h3 := Nat.mul_le_mul_right (zK n) hl
        simp only [szL, zK]
        omega
theorem slack_k01_wp (hS : FedOk S0 S) (q : ∀ (a : Int × Int × Int) S', (0 ≤ a.1 ∧ a.1 ≤ 9) ∧ (0 ≤ a.2.1 ∧ a.2.1 ≤ 9) ∧ (0 ≤ a.2.2 ∧ a.2.2 ≤ 9) → FedOk S0 S' → Q (encSl a) S') : wpE (g_slack_k01 [oW 0] S) Q := by
  have hz := siz
  refine w_def rfl ?_
  unfold m_slack_k01
  (repeat (with_reducible first | refine zq14 ?_ | refine zq11 ?_ | refine zq10 ?_ | refine zq3 ?_ | refine zq4 ?_ | refine zq5 ?_ | refine zq0 ?_ | refine zq8 ?_ | refine zq6 ?_ | refine zq1 ?_ | refine zq13 ?_ | refine zq12 ?_ | refine zq7 ?_ | refine zq2 ?_ | refine zq9 ?_))
  refine ⟨by decide, ?_⟩
  refine wp_lc (I := fun r acc S' => FedOk S0 S' ∧ ∃ ns : List Int, acc = ns.map PyData.int ∧ ns.length + r.length = 3 ∧ ∀ i ∈ ns, 0 ≤ i ∧ i ≤ 9) ?_ ?_ _ _ _ ⟨hS, [], rfl, by decide, by simp⟩
  · rintro w r acc S' ⟨hS', ns, rfl, hl, ha⟩
    refine ⟨_, rfl, ?_⟩
    (repeat (with_reducible first | refine zq14 ?_ | refine zq11 ?_ | refine zq10 ?_ | refine zq3 ?_ | refine zq4 ?_ | refine zq5 ?_ | refine zq0 ?_ | refine zq8 ?_ | refine zq6 ?_ | refine zq1 ?_ | refine zq13 ?_ | refine zq12 ?_ | refine zq7 ?_ | refine zq2 ?_ | refine zq9 ?_))
    simp only [List.length_cons] at hl
    refine draw_k01_wp hS' (by decide) (by decide) fun d S2 hd0 hd1 hS2 => ?_
    refine pickK hd0 (by simpa using hd1) fun y hy => ?_
    obtain ⟨i, rfl, hi⟩ : ∃ i : Int, y = .int i ∧ 0 ≤ i ∧ i ≤ 9 := by
      simp only [List.mem_cons, List.mem_nil_iff, or_false] at hy
      rcases hy with rfl | rfl | rfl | rfl | rfl <;> exact ⟨_, rfl, by decide, by decide⟩
    refine ⟨by simp; omega, hS2, ns ++ [i], by simp, by simp; omega, ?_⟩
    intro x hx
    rcases List.mem_append.1 hx with hx | hx
    · exact ha x hx
    · rw [List.mem_singleton.1 hx]
      exact hi
  rintro acc S' ⟨hS', ns, rfl, hal, ha⟩
  simp only [List.length_nil, Nat.add_zero] at hal
  obtain ⟨i1, i2, i3, rfl⟩ : ∃ a b c, ns = [a, b, c] := by
    match ns, hal with
    | [a, b, c], _ => exact ⟨a, b, c, rfl⟩
  (repeat (with_reducible first | refine zq14 ?_ | refine zq11 ?_ | refine zq10 ?_ | refine zq3 ?_ | refine zq4 ?_ | refine zq5 ?_ | refine zq0 ?_ | refine zq8 ?_ | refine zq6 ?_ | refine zq1 ?_ | refine zq13 ?_ | refine zq12 ?_ | refine zq7 ?_ | refine zq2 ?_ | refine zq9 ?_))
  exact q (i1, i2, i3) _ ⟨ha i1 (by simp), ha i2 (by simp), ha i3 (by simp)⟩ hS'
theorem stays_k01_wp {nm : List Str} (hnl : nm.length ≤ 3) (hS : FedOk S0 S) (q : ∀ st S', StK nm 3 st → FedOk S0 S' → Q (encSy st) S') : wpE (g_stays_k01 [oW 0, .list (nm.map .str)] S) Q := by
  have hz := siz
  refine w_def rfl ?_
  unfold m_stays_k01
  refine zq15 ?_
  (repeat (with_reducible first | refine zq14 ?_ | refine zq11 ?_ | refine zq10 ?_ | refine zq3 ?_ | refine zq4 ?_ | refine zq5 ?_ | refine zq0 ?_ | refine zq8 ?_ | refine zq6 ?_ | refine zq1 ?_ | refine zq13 ?_ | refine zq12 ?_ | refine zq7 ?_ | refine zq2 ?_ | refine zq9 ?_))
  refine zq15 ?_
  (repeat (with_reducible first | refine zq14 ?_ | refine zq11 ?_ | refine zq10 ?_ | refine zq3 ?_ | refine zq4 ?_ | refine zq5 ?_ | refine zq0 ?_ | refine zq8 ?_ | refine zq6 ?_ | refine zq1 ?_ | refine zq13 ?_ | refine zq12 ?_ | refine zq7 ?_ | refine zq2 ?_ | refine zq9 ?_))
  refine draw_k01_wp hS (by decide) (by decide) fun d S' hd0 hd1 hS' => ?_
  (repeat (with_reducible first | refine zq14 ?_ | refine zq11 ?_ | refine zq10 ?_ | refine zq3 ?_ | refine zq4 ?_ | refine zq5 ?_ | refine zq0 ?_ | refine zq8 ?_ | refine zq6 ?_ | refine zq1 ?_ | refine zq13 ?_ | refine zq12 ?_ | refine zq7 ?_ | refine zq2 ?_ | refine zq9 ?_))
  refine ⟨by omega, ?_⟩
  refine wp_for (I := fun r ρ S' => FedOk S0 S' ∧ ∃ (done : Sy) (a : Int) (x : Option Sl), ρ = [some (.val (oW 0)), some (.val (.list (nm.map .str))), some (.own (done.map encS)), some (.val (.int a)), x] ∧ 0 < done.length + r.length ∧ done.length + r.length ≤ 3 ∧ 0 ≤ a ∧ a ≤ 10 * done.length ∧ (done = [] → a = 0) ∧ (done ≠ [] → ∃ p r, done = (0, p) :: r) ∧
    (∀ s ∈ done, s.1 < a ∧ 0 ≤ s.1) ∧ (∀ s ∈ done, ∀ x, s.2 = some x → x ∈ nm) ∧ (done.map (·.1)).Pairwise (· < ·)) ?_ ?_ _ _ _
    ⟨hS', [], 0, none, rfl, by simp [rangeD]; omega, by simp [rangeD]; omega, by simp, by simp, fun _ => rfl, fun h => absurd rfl h, by simp, by simp, by simp⟩
  · rintro w r ρ S' ⟨hS', done, a, x, rfl, hl0, hl, ha0, ha, hnil, hne, hlt, hnm, hri⟩
    simp only [List.length_cons] at hl hl0
    refine ⟨_, rfl, ?_⟩
    refine zq15 ?_
    (repeat (with_reducible first | refine zq14 ?_ | refine zq11 ?_ | refine zq10 ?_ | refine zq3 ?_ | refine zq4 ?_ | refine zq5 ?_ | refine zq0 ?_ | refine zq8 ?_ | refine zq6 ?_ | refine zq1 ?_ | refine zq13 ?_ | refine zq12 ?_ | refine zq7 ?_ | refine zq2 ?_ | refine zq9 ?_))
    refine wpO_rfl (w := .list (nm.map PyData.str ++ [PyData.none])) (by show (if _ then _ else _) = _; rw [if_pos (by simp; omega)]) ?_
    (repeat (with_reducible first | refine zq14 ?_ | refine zq11 ?_ | refine zq10 ?_ | refine zq3 ?_ | refine zq4 ?_ | refine zq5 ?_ | refine zq0 ?_ | refine zq8 ?_ | refine zq6 ?_ | refine zq1 ?_ | refine zq13 ?_ | refine zq12 ?_ | refine zq7 ?_ | refine zq2 ?_ | refine zq9 ?_))
    refine draw_k01_wp hS' (by rw [List.length_map]; omega) (by rw [List.length_map]; omega) fun d S2 hd0 hd1 hS2 => ?_
    refine pickK hd0 (by simpa using hd1) fun y hy => ?_
    obtain ⟨p, rfl, hp⟩ : ∃ p : Option Str, y = oS p ∧ ∀ x, p = some x → x ∈ nm := by
      rcases List.mem_append.1 hy with hy | hy
      · obtain ⟨x, hx, rfl⟩ := List.mem_map.1 hy
        exact ⟨some x, rfl, fun x' e => by cases e; exact hx⟩
      · rw [List.mem_singleton.1 hy]
        exact ⟨none, rfl, fun _ e => by cases e⟩
    (repeat (with_reducible first | refine zq14 ?_ | refine zq11 ?_ | refine zq10 ?_ | refine zq3 ?_ | refine zq4 ?_ | refine zq5 ?_ | refine zq0 ?_ | refine zq8 ?_ | refine zq6 ?_ | refine zq1 ?_ | refine zq13 ?_ | refine zq12 ?_ | refine zq7 ?_ | refine zq2 ?_ | refine zq9 ?_))
    refine ⟨by simp; omega, ?_⟩
    refine w_aug rfl ?_
    (repeat (with_reducible first | refine zq14 ?_ | refine zq11 ?_ | refine zq10 ?_ | refine zq3 ?_ | refine zq4 ?_ | refine zq5 ?_ | refine zq0 ?_ | refine zq8 ?_ | refine zq6 ?_ | refine zq1 ?_ | refine zq13 ?_ | refine zq12 ?_ | refine zq7 ?_ | refine zq2 ?_ | refine zq9 ?_))
    refine draw_k01_wp hS2 (by decide) (by decide) fun d2 S3 hd20 hd21 hS3 => ?_
    refine pickK hd20 (by simpa using hd21) fun y hy => ?_
    obtain ⟨i, rfl, hi⟩ : ∃ i : Int, y = .int i ∧ 0 ≤ i ∧ i ≤ 9 := by
      simp only [List.mem_cons, List.mem_nil_iff, or_false] at hy
      rcases hy with rfl | rfl | rfl | rfl <;> exact ⟨_, rfl, by decide, by decide⟩
    (repeat (with_reducible first | refine zq14 ?_ | refine zq11 ?_ | refine zq10 ?_ | refine zq3 ?_ | refine zq4 ?_ | refine zq5 ?_ | refine zq0 ?_ | refine zq8 ?_ | refine zq6 ?_ | refine zq1 ?_ | refine zq13 ?_ | refine zq12 ?_ | refine zq7 ?_ | refine zq2 ?_ | refine zq9 ?_))
    refine ⟨hS3, done ++ [(a, p)], a + (1 + i), some (.val w), ?_, by simp; omega, by simp; omega, by omega, by simp; omega, by simp, fun _ => ?_, ?_, ?_, ?_⟩
    · rw [List.map_append]
      rfl
    · cases done with
      | nil => exact ⟨p, [], by rw [hnil rfl]; rfl⟩
      | cons s done =>
        obtain ⟨p', r', e⟩ := hne (List.cons_ne_nil _ _)
        exact ⟨p', r' ++ [(a, p)], by rw [e]; rfl⟩
    · intro s hs
      rcases List.mem_append.1 hs with hs | hs
      · have := hlt s hs; omega
      · rw [List.mem_singleton.1 hs]; simp only; omega
    · intro s hs
      rcases List.mem_append.1 hs with hs | hs
      · exact hnm s hs
      · rw [List.mem_singleton.1 hs]; exact hp
    · rw [List.map_append, List.pairwise_append]
      refine ⟨hri, by simp, fun x hx y hy => ?_⟩
      obtain ⟨z, hz, rfl⟩ := List.mem_map.1 hx
      simp only [List.map_cons, List.map_nil, List.mem_singleton] at hy
      subst hy
      exact (hlt z hz).1
  · rintro ρ S' ⟨hS', done, a, x, rfl, hl0, hl, ha0, ha, hnil, hne, hlt, hnm, hri⟩
    simp only [List.length_nil, Nat.add_zero] at hl hl0
    (repeat (first | with_reducible refine zq15 ?_ | (with_reducible first | refine zq14 ?_ | refine zq11 ?_ | refine zq10 ?_ | refine zq3 ?_ | refine zq4 ?_ | refine zq5 ?_ | refine zq0 ?_ | refine zq8 ?_ | refine zq6 ?_ | refine zq1 ?_ | refine zq13 ?_ | refine zq12 ?_ | refine zq7 ?_ | refine zq2 ?_ | refine zq9 ?_)))
    refine q done S' ⟨hne (by intro e; rw [e] at hl0; exact absurd hl0 (by decide)), hl, hri, fun s hs => by have := hlt s hs; omega, hnm⟩ hS'
end
theorem nm_all : ∀ x ∈ ([("lift" : Str), "mill", "a", "first", "machine", "zzzzzzzz", "days", "part", "pump", "saw", "b", "c", "d", "task", "x", "clean", "oil", "fresh", "kept", "nn", "mm"] : List Str), Nm x := by
  intro x hx
  simp only [List.mem_cons, List.mem_nil_iff, or_false] at hx
  rcases hx with rfl | rfl | rfl | rfl | rfl | rfl | rfl | rfl | rfl | rfl | rfl | rfl | rfl | rfl | rfl | rfl | rfl | rfl | rfl | rfl | rfl <;> exact ⟨fun S => by kernel_rfl, by decide +kernel, by decide +kernel⟩
structure NmL (k : Nat) (nm : List Str) : Prop where
  ok : ∀ x ∈ nm, Nm x
  rise : nm.Pairwise ltS
  ln : nm.length ≤ k
theorem nmL {k : Nat} {nm : List Str} (h : ∀ x ∈ nm, x ∈ ([("lift" : Str), "mill", "a", "first", "machine", "zzzzzzzz", "days", "part", "pump", "saw", "b", "c", "d", "task", "x", "clean", "oil", "fresh", "kept", "nn", "mm"] : List Str)) (r : nm.Pairwise ltS) (l : nm.length ≤ k) : NmL k nm := ⟨fun x hx => nm_all x (h x hx), r, l⟩
instance {l : List Str} : Decidable (l.Pairwise ltS) := inferInstance
structure SmallS (s : Site) : Prop where
  ml : s.mc.length ≤ 3
  us : ∀ m ∈ s.mc, m.2.length ≤ 3
  pl : s.parts.length ≤ 4
  st : ∀ p ∈ s.parts, p.2.length ≤ 4
  jl : s.jobs.length ≤ 6
  lm : ∀ j ∈ s.jobs, LimB 1 99 4 j.lim ∧ szL j.lim ≤ 13
  sl : ∀ j ∈ s.jobs, j.sl.1 ≤ 9 ∧ j.sl.2.1 ≤ 9 ∧ j.sl.2.2 ≤ 9
structure Drawn (s : Site) : Prop where
  g : Good 4 s
  sm : SmallS s
  m0 : 0 < s.mc.length
  p0 : 0 < s.parts.length
  j4 : s.jobs.length ≤ 4
  nn : ("nn" : Str) ∉ s.jobs.map (·.nm)
  mm : ("mm" : Str) ∉ s.jobs.map (·.nm)
abbrev mL01 : List (List Str) := [["lift", "mill"], ["a"], ["first", "machine", "zzzzzzzz"], ["days", "part"]]
abbrev pL01 : List (List Str) := [["pump", "saw"], ["a", "b", "c", "d"], ["part", "task"], ["x"]]
abbrev jL01 : List (List Str) := [["clean", "oil"], [], ["fresh", "kept", "task"], ["a", "b", "c", "d"]]
structure Named (s : Site) : Prop where
  m : s.mc.map (·.1) ∈ mL01
  p : s.parts.map (·.1) ∈ pL01
  j : s.jobs.map (·.nm) ∈ jL01
section
variable {S S0 : Sto} {Q : Wd → Sto → Prop}
theorem site_k01_wp (hS : FedOk S0 S) (q : ∀ s S', Drawn s → Named s → FedOk S0 S' → Q (encSite s) S') : wpE (g_site_k01 [oW 0] S) Q := by
  have hz := siz
  refine w_def rfl ?_
  unfold m_site_k01
  refine zq15 ?_
  (repeat (with_reducible first | refine zq14 ?_ | refine zq11 ?_ | refine zq10 ?_ | refine zq3 ?_ | refine zq4 ?_ | refine zq5 ?_ | refine zq0 ?_ | refine zq8 ?_ | refine zq6 ?_ | refine zq1 ?_ | refine zq13 ?_ | refine zq12 ?_ | refine zq7 ?_ | refine zq2 ?_ | refine zq9 ?_))
  refine draw_k01_wp hS (by decide) (by decide) fun d S1 hd0 hd1 hS1 => ?_
  refine pickK hd0 (by simpa using hd1) fun y hy => ?_
  obtain ⟨mn, rfl, hmn, hm0, hmL⟩ : ∃ nm : List Str, y = .tuple (nm.map PyData.str) ∧ NmL 3 nm ∧ 0 < nm.length ∧ nm ∈ mL01 := by
    simp only [List.mem_cons, List.mem_nil_iff, or_false] at hy
    rcases hy with rfl | rfl | rfl | rfl
    · exact ⟨["lift", "mill"], rfl, nmL (by decide +kernel) (by decide +kernel) (by decide), by decide, by simp⟩
    · exact ⟨["a"], rfl, nmL (by decide +kernel) (by decide +kernel) (by decide), by decide, by simp⟩
    · exact ⟨["first", "machine", "zzzzzzzz"], rfl, nmL (by decide +kernel) (by decide +kernel) (by decide), by decide, by simp⟩
    · exact ⟨["days", "part"], rfl, nmL (by decide +kernel) (by decide +kernel) (by decide), by decide, by simp⟩
  clear hy hd0 hd1 d hS
  refine zq15 ?_
  (repeat (with_reducible first | refine zq14 ?_ | refine zq11 ?_ | refine zq10 ?_ | refine zq3 ?_ | refine zq4 ?_ | refine zq5 ?_ | refine zq0 ?_ | refine zq8 ?_ | refine zq6 ?_ | refine zq1 ?_ | refine zq13 ?_ | refine zq12 ?_ | refine zq7 ?_ | refine zq2 ?_ | refine zq9 ?_))
  refine draw_k01_wp hS1 (by decide) (by decide) fun d S2 hd0 hd1 hS2 => ?_
  refine pickK hd0 (by simpa using hd1) fun y hy => ?_
  obtain ⟨pn, rfl, hpn, hp0, hpL⟩ : ∃ nm : List Str, y = .tuple (nm.map PyData.str) ∧ NmL 4 nm ∧ 0 < nm.length ∧ nm ∈ pL01 := by
    simp only [List.mem_cons, List.mem_nil_iff, or_false] at hy
    rcases hy with rfl | rfl | rfl | rfl
    · exact ⟨["pump", "saw"], rfl, nmL (by decide +kernel) (by decide +kernel) (by decide), by decide, by simp⟩
    · exact ⟨["a", "b", "c", "d"], rfl, nmL (by decide +kernel) (by decide +kernel) (by decide), by decide, by simp⟩
    · exact ⟨["part", "task"], rfl, nmL (by decide +kernel) (by decide +kernel) (by decide), by decide, by simp⟩
    · exact ⟨["x"], rfl, nmL (by decide +kernel) (by decide +kernel) (by decide), by decide, by simp⟩
  clear hy hd0 hd1 d hS1
  refine zq15 ?_
  (repeat (with_reducible first | refine zq14 ?_ | refine zq11 ?_ | refine zq10 ?_ | refine zq3 ?_ | refine zq4 ?_ | refine zq5 ?_ | refine zq0 ?_ | refine zq8 ?_ | refine zq6 ?_ | refine zq1 ?_ | refine zq13 ?_ | refine zq12 ?_ | refine zq7 ?_ | refine zq2 ?_ | refine zq9 ?_))
  refine draw_k01_wp hS2 (by decide) (by decide) fun d S3 hd0 hd1 hS3 => ?_
  refine pickK hd0 (by simpa using hd1) fun y hy => ?_
  obtain ⟨jn, rfl, hjn, hnn, hmm, hjL⟩ : ∃ nm : List Str, y = .tuple (nm.map PyData.str) ∧ NmL 4 nm ∧ ("nn" : Str) ∉ nm ∧ ("mm" : Str) ∉ nm ∧ nm ∈ jL01 := by
    simp only [List.mem_cons, List.mem_nil_iff, or_false] at hy
    rcases hy with rfl | rfl | rfl | rfl
    · exact ⟨["clean", "oil"], rfl, nmL (by decide +kernel) (by decide +kernel) (by decide), by decide +kernel, by decide +kernel, by simp⟩
    · exact ⟨[], rfl, nmL (by decide +kernel) (by decide +kernel) (by decide), by decide +kernel, by decide +kernel, by simp⟩
    · exact ⟨["fresh", "kept", "task"], rfl, nmL (by decide +kernel) (by decide +kernel) (by decide), by decide +kernel, by decide +kernel, by simp⟩
    · exact ⟨["a", "b", "c", "d"], rfl, nmL (by decide +kernel) (by decide +kernel) (by decide), by decide +kernel, by decide +kernel, by simp⟩
  clear hy hd0 hd1 d hS2
  have hml := hmn.ln
  have hpl := hpn.ln
  have hjl := hjn.ln
  refine zq15 ?_
  (repeat (with_reducible first | refine zq14 ?_ | refine zq11 ?_ | refine zq10 ?_ | refine zq3 ?_ | refine zq4 ?_ | refine zq5 ?_ | refine zq0 ?_ | refine zq8 ?_ | refine zq6 ?_ | refine zq1 ?_ | refine zq13 ?_ | refine zq12 ?_ | refine zq7 ?_ | refine zq2 ?_ | refine zq9 ?_))
  refine w_seqJ (fun ρ S' => FedOk S0 S' ∧ ∃ (mc : List (Str × Us)) (x5 x6 : Option Sl), mn = mc.map (·.1) ∧ (∀ m ∈ mc, UsOk m.2 ∧ m.2.length ≤ 3) ∧
    ρ = [some (.val (oW 0)), some (.val (.tuple (mn.map PyData.str))), some (.val (.tuple (pn.map PyData.str))), some (.val (.tuple (jn.map PyData.str))), some (.own (mc.map PL.encM)), x5, x6, none, none, none, none, none]) ?_ ?_
  · (repeat (with_reducible first | refine zq14 ?_ | refine zq11 ?_ | refine zq10 ?_ | refine zq3 ?_ | refine zq4 ?_ | refine zq5 ?_ | refine zq0 ?_ | refine zq8 ?_ | refine zq6 ?_ | refine zq1 ?_ | refine zq13 ?_ | refine zq12 ?_ | refine zq7 ?_ | refine zq2 ?_ | refine zq9 ?_))
    refine wp_for (I := fun r ρ S' => FedOk S0 S' ∧ ∃ (done : List (Str × Us)) (rest : List Str) (x5 x6 : Option Sl), mn = done.map (·.1) ++ rest ∧ r = rest.map PyData.str ∧ (∀ m ∈ done, UsOk m.2 ∧ m.2.length ≤ 3) ∧
      ρ = [some (.val (oW 0)), some (.val (.tuple (mn.map PyData.str))), some (.val (.tuple (pn.map PyData.str))), some (.val (.tuple (jn.map PyData.str))), some (.own (done.map PL.encM)), x5, x6, none, none, none, none, none]) ?_ ?_ _ _ _ ⟨hS3, [], mn, none, none, rfl, rfl, by simp, rfl⟩
    · rintro w r ρ S' ⟨hS', done, rest, x5, x6, e1, e2, hu, rfl⟩
      cases rest with
      | nil => cases e2
      | cons x rest =>
        cases e2
        have hl : done.length + 1 ≤ 3 := by
          have := congrArg List.length e1
          simp at this
          omega
        refine ⟨_, rfl, ?_⟩
        refine zq15 ?_
        (repeat (with_reducible first | refine zq14 ?_ | refine zq11 ?_ | refine zq10 ?_ | refine zq3 ?_ | refine zq4 ?_ | refine zq5 ?_ | refine zq0 ?_ | refine zq8 ?_ | refine zq6 ?_ | refine zq1 ?_ | refine zq13 ?_ | refine zq12 ?_ | refine zq7 ?_ | refine zq2 ?_ | refine zq9 ?_))
        refine draw_k01_wp hS' (by decide) (by decide) fun d S' hd0 hd1 hS' => ?_
        (repeat (with_reducible first | refine zq14 ?_ | refine zq11 ?_ | refine zq10 ?_ | refine zq3 ?_ | refine zq4 ?_ | refine zq5 ?_ | refine zq0 ?_ | refine zq8 ?_ | refine zq6 ?_ | refine zq1 ?_ | refine zq13 ?_ | refine zq12 ?_ | refine zq7 ?_ | refine zq2 ?_ | refine zq9 ?_))
        refine ⟨by omega, ?_⟩
        refine wp_lc (I := fun r acc S' => FedOk S0 S' ∧ ∃ us : Us, acc = us.map encU ∧ 0 < us.length + r.length ∧ us.length + r.length ≤ 3 ∧ ∀ u ∈ us, (0 ≤ u.1 ∧ u.1 ≤ 20) ∧ 0 ≤ u.2 ∧ u.2 ≤ 20) ?_ ?_ _ _ _ ⟨hS', [], rfl, by simp [rangeD]; omega, by simp [rangeD]; omega, by simp⟩
        · rintro w r acc S' ⟨hS', us, rfl, hl0, hl1, hb⟩
          refine ⟨_, rfl, ?_⟩
          (repeat (with_reducible first | refine zq14 ?_ | refine zq11 ?_ | refine zq10 ?_ | refine zq3 ?_ | refine zq4 ?_ | refine zq5 ?_ | refine zq0 ?_ | refine zq8 ?_ | refine zq6 ?_ | refine zq1 ?_ | refine zq13 ?_ | refine zq12 ?_ | refine zq7 ?_ | refine zq2 ?_ | refine zq9 ?_))
          refine draw_k01_wp hS' (by decide) (by decide) fun d1 S' hd10 hd11 hS' => ?_
          (repeat (with_reducible first | refine zq14 ?_ | refine zq11 ?_ | refine zq10 ?_ | refine zq3 ?_ | refine zq4 ?_ | refine zq5 ?_ | refine zq0 ?_ | refine zq8 ?_ | refine zq6 ?_ | refine zq1 ?_ | refine zq13 ?_ | refine zq12 ?_ | refine zq7 ?_ | refine zq2 ?_ | refine zq9 ?_))
          refine draw_k01_wp hS' (by decide) (by decide) fun d2 S' hd20 hd21 hS' => ?_
          (repeat (with_reducible first | refine zq14 ?_ | refine zq11 ?_ | refine zq10 ?_ | refine zq3 ?_ | refine zq4 ?_ | refine zq5 ?_ | refine zq0 ?_ | refine zq8 ?_ | refine zq6 ?_ | refine zq1 ?_ | refine zq13 ?_ | refine zq12 ?_ | refine zq7 ?_ | refine zq2 ?_ | refine zq9 ?_))
          simp only [List.length_cons] at hl0 hl1
          refine ⟨by simp; omega, hS', us ++ [(d1, d2)], by rw [List.map_append]; rfl, by simp; omega, by simp; omega, ?_⟩
          intro u hu
          rcases List.mem_append.1 hu with hu | hu
          · exact hb u hu
          · rw [List.mem_singleton.1 hu]; simp only; omega
        · rintro acc S' ⟨hS', us, rfl, hl0, hl1, hb⟩
          simp only [List.length_nil, Nat.add_zero] at hl0 hl1
          (repeat (with_reducible first | refine zq14 ?_ | refine zq11 ?_ | refine zq10 ?_ | refine zq3 ?_ | refine zq4 ?_ | refine zq5 ?_ | refine zq0 ?_ | refine zq8 ?_ | refine zq6 ?_ | refine zq1 ?_ | refine zq13 ?_ | refine zq12 ?_ | refine zq7 ?_ | refine zq2 ?_ | refine zq9 ?_))
          refine ⟨by simp; omega, ?_⟩
          refine ⟨hS', done ++ [(x, us)], rest, some (.val (.str x)), some (.val (.list (us.map encU))), by simp [e1], rfl, ?_, ?_⟩
          · intro m hm
            rcases List.mem_append.1 hm with hm | hm
            · exact hu m hm
            · rw [List.mem_singleton.1 hm]
              exact ⟨⟨List.length_pos_iff.1 hl0, by simp only; omega, fun u hu => by have := hb u hu; omega⟩, hl1⟩
          · rw [List.map_append]
            rfl
    · rintro ρ S' ⟨hS', mc, rest, x5, x6, e1, e2, hu, rfl⟩
      cases rest with
      | cons x rest => cases e2
      | nil =>
        simp only [List.append_nil] at e1
        exact ⟨hS', mc, x5, x6, e1, hu, rfl⟩
  rintro ρ S4 ⟨hS4, mc, x5, x6, rfl, hu, rfl⟩
  (repeat (with_reducible first | refine zq14 ?_ | refine zq11 ?_ | refine zq10 ?_ | refine zq3 ?_ | refine zq4 ?_ | refine zq5 ?_ | refine zq0 ?_ | refine zq8 ?_ | refine zq6 ?_ | refine zq1 ?_ | refine zq13 ?_ | refine zq12 ?_ | refine zq7 ?_ | refine zq2 ?_ | refine zq9 ?_))
  refine zq15 ?_
  (repeat (with_reducible first | refine zq14 ?_ | refine zq11 ?_ | refine zq10 ?_ | refine zq3 ?_ | refine zq4 ?_ | refine zq5 ?_ | refine zq0 ?_ | refine zq8 ?_ | refine zq6 ?_ | refine zq1 ?_ | refine zq13 ?_ | refine zq12 ?_ | refine zq7 ?_ | refine zq2 ?_ | refine zq9 ?_))
  refine wp_lc (I := fun r acc S' => FedOk S0 S' ∧ ∃ (done : List (Str × Sy)) (rest : List Str), pn = done.map (·.1) ++ rest ∧ r = rest.map PyData.str ∧ acc = done.map encP ∧ ∀ p ∈ done, StK (mc.map (·.1)) 3 p.2) ?_ ?_ _ _ _ ⟨hS4, [], pn, rfl, rfl, rfl, by simp⟩
  · rintro w r acc S' ⟨hS', done, rest, e1, e2, rfl, hst⟩
    cases rest with
    | nil => cases e2
    | cons x rest =>
      cases e2
      refine ⟨_, rfl, ?_⟩
      (repeat (with_reducible first | refine zq14 ?_ | refine zq11 ?_ | refine zq10 ?_ | refine zq3 ?_ | refine zq4 ?_ | refine zq5 ?_ | refine zq0 ?_ | refine zq8 ?_ | refine zq6 ?_ | refine zq1 ?_ | refine zq13 ?_ | refine zq12 ?_ | refine zq7 ?_ | refine zq2 ?_ | refine zq9 ?_))
      refine stays_k01_wp (nm := mc.map (·.1)) hml hS' fun st S' hg hS' => ?_
      (repeat (with_reducible first | refine zq14 ?_ | refine zq11 ?_ | refine zq10 ?_ | refine zq3 ?_ | refine zq4 ?_ | refine zq5 ?_ | refine zq0 ?_ | refine zq8 ?_ | refine zq6 ?_ | refine zq1 ?_ | refine zq13 ?_ | refine zq12 ?_ | refine zq7 ?_ | refine zq2 ?_ | refine zq9 ?_))
      have hl : done.length + 1 ≤ 4 := by
        have := congrArg List.length e1
        simp at this
        omega
      refine ⟨by simp; omega, hS', done ++ [(x, st)], rest, by simp [e1], rfl, by rw [List.map_append]; rfl, ?_⟩
      intro p hp
      rcases List.mem_append.1 hp with hp | hp
      · exact hst p hp
      · rw [List.mem_singleton.1 hp]; exact hg
  rintro acc S5 ⟨hS5, parts, rest, e1, e2, rfl, hst⟩
  cases rest with
  | cons x rest => cases e2
  | nil =>
  simp only [List.append_nil] at e1
  subst e1
  (repeat (with_reducible first | refine zq14 ?_ | refine zq11 ?_ | refine zq10 ?_ | refine zq3 ?_ | refine zq4 ?_ | refine zq5 ?_ | refine zq0 ?_ | refine zq8 ?_ | refine zq6 ?_ | refine zq1 ?_ | refine zq13 ?_ | refine zq12 ?_ | refine zq7 ?_ | refine zq2 ?_ | refine zq9 ?_))
  refine zq15 ?_
  (repeat (with_reducible first | refine zq14 ?_ | refine zq11 ?_ | refine zq10 ?_ | refine zq3 ?_ | refine zq4 ?_ | refine zq5 ?_ | refine zq0 ?_ | refine zq8 ?_ | refine zq6 ?_ | refine zq1 ?_ | refine zq13 ?_ | refine zq12 ?_ | refine zq7 ?_ | refine zq2 ?_ | refine zq9 ?_))
  refine w_seqJ (fun ρ S' => FedOk S0 S' ∧ ∃ (jobs : List Job) (x5 x9 x10 : Option Sl), jn = jobs.map (·.nm) ∧ (∀ j ∈ jobs, JbK (parts.map (·.1)) j ∧ (LimB 1 99 4 j.lim ∧ szL j.lim ≤ 13) ∧ j.sl.1 ≤ 9 ∧ j.sl.2.1 ≤ 9 ∧ j.sl.2.2 ≤ 9) ∧
    ρ = [some (.val (oW 0)), some (.val (.tuple ((mc.map (·.1)).map PyData.str))), some (.val (.tuple ((parts.map (·.1)).map PyData.str))), some (.val (.tuple (jn.map PyData.str))), some (.val (.list (mc.map PL.encM))), x5, x6, some (.val (.list (parts.map encP))), some (.own (jobs.map PL.encJ)), x9, x10, none]) ?_ ?_
  · (repeat (with_reducible first | refine zq14 ?_ | refine zq11 ?_ | refine zq10 ?_ | refine zq3 ?_ | refine zq4 ?_ | refine zq5 ?_ | refine zq0 ?_ | refine zq8 ?_ | refine zq6 ?_ | refine zq1 ?_ | refine zq13 ?_ | refine zq12 ?_ | refine zq7 ?_ | refine zq2 ?_ | refine zq9 ?_))
    refine wp_for (I := fun r ρ S' => FedOk S0 S' ∧ ∃ (done : List Job) (rest : List Str) (x5 x9 x10 : Option Sl), jn = done.map (·.nm) ++ rest ∧ r = rest.map PyData.str ∧ (∀ j ∈ done, JbK (parts.map (·.1)) j ∧ (LimB 1 99 4 j.lim ∧ szL j.lim ≤ 13) ∧ j.sl.1 ≤ 9 ∧ j.sl.2.1 ≤ 9 ∧ j.sl.2.2 ≤ 9) ∧
      ρ = [some (.val (oW 0)), some (.val (.tuple ((mc.map (·.1)).map PyData.str))), some (.val (.tuple ((parts.map (·.1)).map PyData.str))), some (.val (.tuple (jn.map PyData.str))), some (.val (.list (mc.map PL.encM))), x5, x6, some (.val (.list (parts.map encP))), some (.own (done.map PL.encJ)), x9, x10, none]) ?_ ?_ _ _ _ ⟨hS5, [], jn, x5, none, none, rfl, rfl, by simp, rfl⟩
    · rintro w r ρ S' ⟨hS', done, rest, y5, y9, y10, e1, e2, hd, rfl⟩
      cases rest with
      | nil => cases e2
      | cons x rest =>
      cases e2
      have hl : done.length + 1 ≤ 4 := by
        have := congrArg List.length e1
        simp at this
        omega
      refine ⟨_, rfl, ?_⟩
      refine zq15 ?_
      (repeat (with_reducible first | refine zq14 ?_ | refine zq11 ?_ | refine zq10 ?_ | refine zq3 ?_ | refine zq4 ?_ | refine zq5 ?_ | refine zq0 ?_ | refine zq8 ?_ | refine zq6 ?_ | refine zq1 ?_ | refine zq13 ?_ | refine zq12 ?_ | refine zq7 ?_ | refine zq2 ?_ | refine zq9 ?_))
      have hpl' : parts.length ≤ 4 := by simpa using hpl
      have hp0' : 0 < parts.length := by simpa using hp0
      refine draw_k01_wp hS' (by simp; omega) (by simp; omega) fun d S' hd0 hd1 hS' => ?_
      refine pickT hd0 hd1 fun y hy => ?_
      obtain ⟨y, hyp, rfl⟩ := List.mem_map.1 hy
      (repeat (with_reducible first | refine zq14 ?_ | refine zq11 ?_ | refine zq10 ?_ | refine zq3 ?_ | refine zq4 ?_ | refine zq5 ?_ | refine zq0 ?_ | refine zq8 ?_ | refine zq6 ?_ | refine zq1 ?_ | refine zq13 ?_ | refine zq12 ?_ | refine zq7 ?_ | refine zq2 ?_ | refine zq9 ?_))
      refine draw_k01_wp hS' (by decide) (by decide) fun d S' hd0 hd1 hS' => ?_
      refine pickK hd0 (by simpa using hd1) fun y2 hy2 => ?_
      obtain ⟨y2, rfl, hyw⟩ : ∃ z : Str, y2 = .str z ∧ (z = ("kept" : Str) ∨ z = ("fresh" : Str)) := by
        simp only [List.mem_cons, List.mem_nil_iff, or_false] at hy2
        rcases hy2 with rfl | rfl
        · exact ⟨_, rfl, .inr rfl⟩
        · exact ⟨_, rfl, .inl rfl⟩
      (repeat (with_reducible first | refine zq14 ?_ | refine zq11 ?_ | refine zq10 ?_ | refine zq3 ?_ | refine zq4 ?_ | refine zq5 ?_ | refine zq0 ?_ | refine zq8 ?_ | refine zq6 ?_ | refine zq1 ?_ | refine zq13 ?_ | refine zq12 ?_ | refine zq7 ?_ | refine zq2 ?_ | refine zq9 ?_))
      refine limit_k01_wp 2 12 _ _ hS' (by decide) fun l S' hlb hlz hS' => ?_
      (repeat (with_reducible first | refine zq14 ?_ | refine zq11 ?_ | refine zq10 ?_ | refine zq3 ?_ | refine zq4 ?_ | refine zq5 ?_ | refine zq0 ?_ | refine zq8 ?_ | refine zq6 ?_ | refine zq1 ?_ | refine zq13 ?_ | refine zq12 ?_ | refine zq7 ?_ | refine zq2 ?_ | refine zq9 ?_))
      refine slack_k01_wp hS' fun sa S' hsa hS' => ?_
      (repeat (with_reducible first | refine zq14 ?_ | refine zq11 ?_ | refine zq10 ?_ | refine zq3 ?_ | refine zq4 ?_ | refine zq5 ?_ | refine zq0 ?_ | refine zq8 ?_ | refine zq6 ?_ | refine zq1 ?_ | refine zq13 ?_ | refine zq12 ?_ | refine zq7 ?_ | refine zq2 ?_ | refine zq9 ?_))
      refine ⟨by simp; omega, ?_⟩
      refine ⟨hS', done ++ [⟨x, y, y2, l, sa⟩], rest, some (.val (.str x)), some (.val (.str y)), some (.val (.str y2)), by simp [e1], rfl, ?_, ?_⟩
      · intro j hj
        rcases List.mem_append.1 hj with hj | hj
        · exact hd j hj
        · rw [List.mem_singleton.1 hj]
          have hz3 : zK 2 = 13 := rfl
          refine ⟨⟨hyp, hyw, ⟨99, 4, ⟨hlb.mono (Int.le_refl _) (Int.le_refl _) (by decide), by simp only; omega, by decide⟩, by decide⟩, by simp only; omega⟩, ⟨hlb.mono (Int.le_refl _) (Int.le_refl _) (by decide), by simp only; omega⟩, by simp only; omega⟩
      · rw [List.map_append]
        rfl
    · rintro ρ S' ⟨hS', jobs, rest, x5, x9, x10, e1, e2, hj, rfl⟩
      cases rest with
      | cons x rest => cases e2
      | nil =>
        simp only [List.append_nil] at e1
        exact ⟨hS', jobs, x5, x9, x10, e1, hj, rfl⟩
  rintro ρ S6 ⟨hS6, jobs, x5, x9, x10, rfl, hj, rfl⟩
  (repeat (with_reducible first | refine zq14 ?_ | refine zq11 ?_ | refine zq10 ?_ | refine zq3 ?_ | refine zq4 ?_ | refine zq5 ?_ | refine zq0 ?_ | refine zq8 ?_ | refine zq6 ?_ | refine zq1 ?_ | refine zq13 ?_ | refine zq12 ?_ | refine zq7 ?_ | refine zq2 ?_ | refine zq9 ?_))
  have hml' : mc.length ≤ 3 := by simpa using hml
  have hpl' : parts.length ≤ 4 := by simpa using hpl
  have hjl' : jobs.length ≤ 4 := by simpa using hjl
  refine q ⟨mc, parts, jobs⟩ _ ⟨⟨fun m hm => hmn.ok _ (List.mem_map_of_mem hm), fun p hp => hpn.ok _ (List.mem_map_of_mem hp), fun j hj => hjn.ok _ (List.mem_map_of_mem (f := fun j : Job => j.nm) hj), hmn.rise, hpn.rise, hjn.rise, fun m hm => (hu m hm).1, fun p hp => (hst p hp).mono (by decide), fun j h => (hj j h).1, by simp only; omega, by simp only; omega, by simp only; omega, by decide⟩,
    ⟨hml', fun m hm => (hu m hm).2, hpl', fun p hp => by have := (hst p hp).ln; omega, by simp only; omega, fun j h => (hj j h).2.1, fun j h => (hj j h).2.2⟩, by simpa using hm0, by simpa using hp0, hjl', hnn, hmm⟩ ⟨hmL, hpL, hjL⟩ hS6
end
end WF
namespace WF
open PySem PySem.Spec PyProof.Rows L2 DL
end WF
namespace PL
open PySem PySem.Spec PyProof.Rows L2 DL
theorem nodesL_map {α : Type} {f : α → Wd} {c : Nat} : ∀ {l : List α}, (∀ x ∈ l, nodes (f x) ≤ c) → nodesL (l.map f) ≤ l.length * c
  | [], _ => by simp [nodesL]
  | x :: l, h => by
    have h1 := h x (List.mem_cons_self ..)
    have h2 := nodesL_map fun y hy => h y (List.mem_cons_of_mem x hy)
    simp only [List.map_cons, nodesL, List.length_cons, Nat.succ_mul]
    omega
mutual
theorem nodes_lim : ∀ l : Lim, nodes (encL l) = 3 * szL l
  | .one w n => by simp only [encL, nodes, nodesL, szL]
  | .join b ls => by
    have := nodes_lims ls
    simp only [encL, nodes, nodesL, szL]
    omega
theorem nodes_lims : ∀ ls : List Lim, nodesL (encLs ls) = 3 * szLs ls
  | [] => rfl
  | l :: ls => by
    have h1 := nodes_lim l
    have h2 := nodes_lims ls
    simp only [encLs, nodesL, szLs]
    omega
end
theorem mem_pick {α : Type} {xs : List α} {lo hi st : Option Int} {x : α} (h : x ∈ pickL xs lo hi st) : x ∈ xs := by
  unfold pickL at h
  obtain ⟨k, _, e⟩ := List.mem_filterMap.1 h
  exact List.mem_of_getElem? e
end PL
namespace WF
open PySem PySem.Spec PyProof.Rows L2 DL PL
theorem ok_int {i : Int} (h : i.natAbs ≤ 1000) : okW 1000 (.int i) = true := decide_eq_true h
theorem ok_str {x : Str} (h : PyData.strOk x = true) (l : x.cps.size ≤ 8) : okW 1000 (.str x) = true := by
  show (PyData.strOk x && decide (x.cps.size ≤ 8)) = true
  rw [h, decide_eq_true l]
  rfl
theorem ok_tup {xs : List Wd} (h : ∀ x ∈ xs, okW 1000 x = true) : okW 1000 (.tuple xs) = true := by
  simp only [okW]
  exact okWs_iff.2 h
theorem ok_lim : ∀ (k : Nat) (l : Lim), LimB 1 99 k l → okW 1000 (encL l) = true := by
  intro k
  induction k with
  | zero =>
    intro l h
    cases l with
    | one w i =>
      have := h.one_
      unfold encL
      refine ok_tup (mem2 ?_ (ok_int (by omega)))
      cases w <;> exact ok_str (by decide +kernel) (by decide +kernel)
    | join c ls => obtain ⟨_, e, _⟩ := h.join_; cases e
  | succ k ih =>
    intro l h
    cases l with
    | one w i =>
      have := h.one_
      unfold encL
      refine ok_tup (mem2 ?_ (ok_int (by omega)))
      cases w <;> exact ok_str (by decide +kernel) (by decide +kernel)
    | join c ls =>
      obtain ⟨k', e, _, _, hall⟩ := h.join_
      cases e
      rw [encL_join]
      refine ok_tup (mem2 ?_ (ok_tup fun w hw => ?_))
      · cases c <;> exact ok_str (by decide +kernel) (by decide +kernel)
      · obtain ⟨z, hz, rfl⟩ := List.mem_map.1 hw
        exact ih z (hall z hz)
section
variable {s : Site} {S S0 : Sto} {n : Nat} {d : Int} {Q : Wd → Sto → Prop}
theorem repr_small (G : Good n s) (h : SmallS s) : gRepr [encSite s] = some (.str (encSite s).shown) := by
  have h1 : ∀ m ∈ s.mc, okW 1000 (PL.encM m) = true ∧ nodes (PL.encM m) ≤ 20 := fun m hm => by
    have hu := (G.us m hm).bd
    have hl := h.us m hm
    constructor
    · refine ok_tup (mem2 (ok_str (G.mn m hm).so (G.mn m hm).le) (ok_tup fun w hw => ?_))
      obtain ⟨u, hu', rfl⟩ := List.mem_map.1 hw
      have := hu u hu'
      exact ok_tup (mem2 (ok_int (by omega)) (ok_int (by omega)))
    · have := nodesL_map (f := encU) (c := 3) (l := m.2) fun u _ => Nat.le_refl 3
      show nodesL [.str m.1, encUs m.2] + 1 ≤ 20
      simp only [nodesL, nodes, encUs]
      omega
  have h2 : ∀ p ∈ s.parts, okW 1000 (encP p) = true ∧ nodes (encP p) ≤ 20 := fun p hp => by
    have hu := (G.st p hp).bd
    have hl := h.st p hp
    constructor
    · refine ok_tup (mem2 (ok_str (G.pn p hp).so (G.pn p hp).le) (ok_tup fun w hw => ?_))
      obtain ⟨u, hu', rfl⟩ := List.mem_map.1 hw
      have := hu u hu'
      refine ok_tup (mem2 (ok_int (by omega)) ?_)
      cases e : u.2 with
      | none => rfl
      | some x =>
        obtain ⟨m, hm, e2⟩ := List.mem_map.1 ((G.st p hp).us u hu' x e)
        rw [← e2]
        exact ok_str (G.mn m hm).so (G.mn m hm).le
    · have := nodesL_map (f := encS) (c := 3) (l := p.2) fun u _ => by
        unfold encS
        cases u.2 <;> exact Nat.le_refl 3
      show nodesL [.str p.1, encSy p.2] + 1 ≤ 20
      simp only [nodesL, nodes, encSy]
      omega
  have h3 : ∀ j ∈ s.jobs, okW 1000 (PL.encJ j) = true ∧ nodes (PL.encJ j) ≤ 60 := fun j hj => by
    have hb := G.jb j hj
    have hl := h.lm j hj
    have hs := h.sl j hj
    have hs0 := hb.sl
    obtain ⟨p, hp, ep⟩ := List.mem_map.1 hb.pt
    constructor
    · refine ok_tup fun w hw => ?_
      simp only [List.mem_cons, List.mem_nil_iff, or_false] at hw
      rcases hw with rfl | rfl | rfl | rfl | rfl
      · exact ok_str (G.jn j hj).so (G.jn j hj).le
      · rw [← ep]; exact ok_str (G.pn p hp).so (G.pn p hp).le
      · rcases hb.wy with e | e <;> rw [e] <;> exact ok_str (by decide +kernel) (by decide +kernel)
      · exact ok_lim 4 j.lim hl.1
      · exact ok_tup (mem3 (ok_int (by omega)) (ok_int (by omega)) (ok_int (by omega)))
    · have := nodes_lim j.lim
      show nodesL [.str j.nm, .str j.pt, .str j.wy, encL j.lim, encSl j.sl] + 1 ≤ 60
      simp only [nodesL, nodes, encSl]
      omega
  have n1 := nodesL_map fun m hm => (h1 m hm).2
  have n2 := nodesL_map fun m hm => (h2 m hm).2
  have n3 := nodesL_map fun m hm => (h3 m hm).2
  have l1 := Nat.mul_le_mul_right 20 h.ml
  have l2 := Nat.mul_le_mul_right 20 h.pl
  have l3 := Nat.mul_le_mul_right 60 h.jl
  have g : Gw 1000 600 32 (encSite s) := ⟨ok_tup (mem3 (ok_tup fun w hw => by obtain ⟨m, hm, rfl⟩ := List.mem_map.1 hw; exact (h1 m hm).1) (ok_tup fun w hw => by obtain ⟨m, hm, rfl⟩ := List.mem_map.1 hw; exact (h2 m hm).1) (ok_tup fun w hw => by obtain ⟨m, hm, rfl⟩ := List.mem_map.1 hw; exact (h3 m hm).1)), by
    show nodesL [.tuple (s.mc.map PL.encM), .tuple (s.parts.map encP), .tuple (s.jobs.map PL.encJ)] + 1 ≤ 600
    simp only [nodesL, nodes]
    omega, G.lay.dp⟩
  exact (g.sz (by decide)).repr (by decide) (by decide)
def secondS : Site where
  mc := [("days", [(0, 0), (20, 3), (1, 1)]), ("task", [(5, 5)])]
  parts := [("machine", [(0, none), (1, some "task"), (2, none), (9, some "days")]), ("task", [(0, some "days"), (3, some "task")])]
  jobs := [⟨"first", "task", "kept", .join true [.join false [.one .cycles 3, .join true [.one .days 2]], .one .hours 1, .one .cycles 3], 3, 1, 0⟩, ⟨"part", "machine", "fresh", .one .cycles 99, 0, 9, 9⟩, ⟨"task", "task", "kept", .join false [.one .days 1], 0, 0, 5⟩]
theorem second_eq : g_second_site_k02 [] S = .ok (encSite secondS) S := by kernel_rfl
theorem second_drawn : Drawn secondS := by
  have nmM : Nm "machine" := nm_all _ (by decide +kernel)
  have nmD : Nm "days" := nm_all _ (by decide +kernel)
  have nmT : Nm "task" := nm_all _ (by decide +kernel)
  have nmF : Nm "first" := nm_all _ (by decide +kernel)
  have nmP : Nm "part" := nm_all _ (by decide +kernel)
  have l1 : LimB 1 99 4 (.join true [.join false [.one .cycles 3, .join true [.one .days 2]], .one .hours 1, .one .cycles 3]) := by simp [LimB]
  have l2 : LimB 1 99 4 (.one .cycles 99) := by simp [LimB]
  have l3 : LimB 1 99 4 (.join false [.one .days 1]) := by simp [LimB]
  refine ⟨⟨?_, ?_, ?_, by decide +kernel, by decide +kernel, by decide +kernel, by decide +kernel, ?_, ?_, by decide, by decide, by decide, by decide⟩, ⟨by decide, by decide +kernel, by decide, by decide +kernel, by decide, ?_, by decide +kernel⟩, by decide, by decide, by decide, by decide +kernel, by decide +kernel⟩
  · intro m hm
    simp only [secondS, List.mem_cons, List.mem_nil_iff, or_false] at hm
    rcases hm with rfl | rfl
    · exact nmD
    · exact nmT
  · intro m hm
    simp only [secondS, List.mem_cons, List.mem_nil_iff, or_false] at hm
    rcases hm with rfl | rfl
    · exact nmM
    · exact nmT
  · intro m hm
    simp only [secondS, List.mem_cons, List.mem_nil_iff, or_false] at hm
    rcases hm with rfl | rfl | rfl
    · exact nmF
    · exact nmP
    · exact nmT
  · intro p hp
    simp only [secondS, List.mem_cons, List.mem_nil_iff, or_false] at hp
    rcases hp with rfl | rfl
    · exact ⟨⟨_, _, rfl⟩, by decide, by decide +kernel, by decide +kernel, by
        intro q hq x e
        simp only [List.mem_cons, List.mem_nil_iff, or_false] at hq
        rcases hq with rfl | rfl | rfl | rfl <;> simp at e <;> subst e <;> decide +kernel⟩
    · exact ⟨⟨_, _, rfl⟩, by decide, by decide +kernel, by decide +kernel, by
        intro q hq x e
        simp only [List.mem_cons, List.mem_nil_iff, or_false] at hq
        rcases hq with rfl | rfl <;> simp at e <;> subst e <;> decide +kernel⟩
  · intro j hj
    simp only [secondS, List.mem_cons, List.mem_nil_iff, or_false] at hj
    rcases hj with rfl | rfl | rfl
    · exact ⟨by decide +kernel, .inl rfl, ⟨99, 4, ⟨l1, by decide, by decide⟩, by decide⟩, by decide⟩
    · exact ⟨by decide +kernel, .inr rfl, ⟨99, 4, ⟨l2, by decide, by decide⟩, by decide⟩, by decide⟩
    · exact ⟨by decide +kernel, .inl rfl, ⟨99, 4, ⟨l3, by decide, by decide⟩, by decide⟩, by decide⟩
  · intro j hj
    simp only [secondS, List.mem_cons, List.mem_nil_iff, or_false] at hj
    rcases hj with rfl | rfl | rfl
    · exact ⟨l1, by decide⟩
    · exact ⟨l2, by decide⟩
    · exact ⟨l3, by decide⟩
theorem days_of_wp (G : Good n s) (h : SmallS s) (q : ∀ ds : List Int, (∀ d ∈ ds, 0 ≤ d) → ds.length ≤ 64 → Q (.list (ds.map PyData.int)) S) : wpE (g_days_of_k04 [encSite s] S) Q := by
  have hz := siz
  have hml := h.ml
  have hpl := h.pl
  refine w_def rfl ?_
  unfold m_days_of_k04
  refine zq15 ?_
  (repeat (with_reducible first | refine zq14 ?_ | refine zq11 ?_ | refine zq10 ?_ | refine zq3 ?_ | refine zq4 ?_ | refine zq5 ?_ | refine zq0 ?_ | refine zq8 ?_ | refine zq6 ?_ | refine zq1 ?_ | refine zq13 ?_ | refine zq12 ?_ | refine zq7 ?_ | refine zq2 ?_ | refine zq9 ?_))
  refine w_seqJ (fun ρ S' => S' = S ∧ ∃ (ns : List Int) (x2 x3 x4 x5 x6 : Option Sl), (∀ d ∈ ns, 0 ≤ d) ∧ ns.length ≤ 52 ∧ ρ = [some (.val (encSite s)), some (.own (ns.map PyData.int)), x2, x3, x4, x5, x6]) ?_ ?_
  · (repeat (with_reducible first | refine zq14 ?_ | refine zq11 ?_ | refine zq10 ?_ | refine zq3 ?_ | refine zq4 ?_ | refine zq5 ?_ | refine zq0 ?_ | refine zq8 ?_ | refine zq6 ?_ | refine zq1 ?_ | refine zq13 ?_ | refine zq12 ?_ | refine zq7 ?_ | refine zq2 ?_ | refine zq9 ?_))
    refine wp_for (I := fun r ρ S' => S' = S ∧ ∃ (ns : List Int) (rest : List (Str × Sy)) (x2 x3 x4 x5 x6 : Option Sl), r = rest.map encP ∧ (∀ p ∈ rest, p ∈ s.parts) ∧ (∀ d ∈ ns, 0 ≤ d) ∧ ns.length + 12 * rest.length ≤ 52 ∧ ρ = [some (.val (encSite s)), some (.own (ns.map PyData.int)), x2, x3, x4, x5, x6]) ?_ ?_ _ _ _ ⟨rfl, [0, 1, 99, 10 ^ Int.toNat 59], s.parts, none, none, none, none, none, rfl, fun _ h => h, by decide +kernel, by simp; omega, rfl⟩
    · rintro w r ρ S' ⟨rfl, ns, rest, x2, x3, x4, x5, x6, er, hr, h0, hl, rfl⟩
      cases rest with
      | nil => cases er
      | cons p rest =>
        cases er
        have hp := hr p (List.mem_cons_self ..)
        have hst := h.st p hp
        simp only [List.length_cons] at hl
        refine ⟨_, rfl, ?_⟩
        (repeat (with_reducible first | refine zq14 ?_ | refine zq11 ?_ | refine zq10 ?_ | refine zq3 ?_ | refine zq4 ?_ | refine zq5 ?_ | refine zq0 ?_ | refine zq8 ?_ | refine zq6 ?_ | refine zq1 ?_ | refine zq13 ?_ | refine zq12 ?_ | refine zq7 ?_ | refine zq2 ?_ | refine zq9 ?_))
        refine wp_for (I := fun r ρ S'' => S'' = S' ∧ ∃ (ns : List Int) (st : Sy) (x2 x3 x4 x5 x6 : Option Sl), r = st.map encS ∧ (∀ q ∈ st, q ∈ p.2) ∧ (∀ d ∈ ns, 0 ≤ d) ∧ ns.length + 3 * st.length + 12 * rest.length ≤ 52 ∧ ρ = [some (.val (encSite s)), some (.own (ns.map PyData.int)), x2, x3, x4, x5, x6]) ?_ ?_ _ _ _ ⟨rfl, ns, p.2, _, _, _, _, _, rfl, fun _ h => h, h0, by omega, rfl⟩
        · rintro w r ρ S'' ⟨rfl, ns, st, x2, x3, x4, x5, x6, er, hr2, h0, hl, rfl⟩
          cases st with
          | nil => cases er
          | cons z st =>
            cases er
            have hb := (G.st p hp).bd z (hr2 z (List.mem_cons_self ..))
            simp only [List.length_cons] at hl
            refine ⟨_, rfl, ?_⟩
            (repeat (with_reducible first | refine zq14 ?_ | refine zq11 ?_ | refine zq10 ?_ | refine zq3 ?_ | refine zq4 ?_ | refine zq5 ?_ | refine zq0 ?_ | refine zq8 ?_ | refine zq6 ?_ | refine zq1 ?_ | refine zq13 ?_ | refine zq12 ?_ | refine zq7 ?_ | refine zq2 ?_ | refine zq9 ?_))
            refine ⟨by simp; omega, ?_⟩
            have e3 : ns.map PyData.int ++ [PyData.int (if z.1 - 1 > 0 then z.1 - 1 else 0), PyData.int z.1, PyData.int (z.1 + 1)] = (ns ++ [if z.1 - 1 > 0 then z.1 - 1 else 0, z.1, z.1 + 1]).map PyData.int := by rw [List.map_append]; rfl
            rw [e3]
            refine ⟨rfl, ns ++ [if z.1 - 1 > 0 then z.1 - 1 else 0, z.1, z.1 + 1], st, _, _, _, _, _, rfl, fun q hq => hr2 q (List.mem_cons_of_mem _ hq), ?_, by simp; omega, rfl⟩
            intro d hd
            · rcases List.mem_append.1 hd with hd | hd
              · exact h0 d hd
              · simp only [List.mem_cons, List.mem_nil_iff, or_false] at hd
                rcases hd with rfl | rfl | rfl
                · split <;> omega
                · omega
                · omega
        · rintro ρ S'' ⟨rfl, ns, st, x2, x3, x4, x5, x6, er, hr2, h0, hl, rfl⟩
          exact ⟨rfl, ns, rest, _, _, _, _, _, rfl, fun q hq => hr q (List.mem_cons_of_mem _ hq), h0, by omega, rfl⟩
    · rintro ρ S' ⟨rfl, ns, rest, x2, x3, x4, x5, x6, er, hr, h0, hl, rfl⟩
      exact ⟨rfl, ns, _, _, _, _, _, h0, by omega, rfl⟩
  · rintro ρ S' ⟨rfl, ns, x2, x3, x4, x5, x6, h0, hl, rfl⟩
    (repeat (with_reducible first | refine zq14 ?_ | refine zq11 ?_ | refine zq10 ?_ | refine zq3 ?_ | refine zq4 ?_ | refine zq5 ?_ | refine zq0 ?_ | refine zq8 ?_ | refine zq6 ?_ | refine zq1 ?_ | refine zq13 ?_ | refine zq12 ?_ | refine zq7 ?_ | refine zq2 ?_ | refine zq9 ?_))
    refine lc_map (enc := PL.encM) (out := fun m => .int (m.2.length : Int)) s.mc (by omega) (fun m hm => ⟨_, rfl, wpX_ok ?_⟩) ?_
    · (repeat (with_reducible first | refine zq14 ?_ | refine zq11 ?_ | refine zq10 ?_ | refine zq3 ?_ | refine zq4 ?_ | refine zq5 ?_ | refine zq0 ?_ | refine zq8 ?_ | refine zq6 ?_ | refine zq1 ?_ | refine zq13 ?_ | refine zq12 ?_ | refine zq7 ?_ | refine zq2 ?_ | refine zq9 ?_))
      exact ⟨by show PyData.int ((m.2.map encU).length : Int) = _; rw [List.length_map], rfl⟩
    (repeat (with_reducible first | refine zq14 ?_ | refine zq11 ?_ | refine zq10 ?_ | refine zq3 ?_ | refine zq4 ?_ | refine zq5 ?_ | refine zq0 ?_ | refine zq8 ?_ | refine zq6 ?_ | refine zq1 ?_ | refine zq13 ?_ | refine zq12 ?_ | refine zq7 ?_ | refine zq2 ?_ | refine zq9 ?_))
    have e : ns.map PyData.int ++ s.mc.map (fun m => PyData.int (m.2.length : Int)) = (ns ++ s.mc.map fun m => (m.2.length : Int)).map PyData.int := by
      rw [List.map_append, List.map_map]
      rfl
    have hn : (ns ++ s.mc.map fun m => (m.2.length : Int)).length ≤ 55 := by simp; omega
    have h1 : ∀ d ∈ ns ++ s.mc.map (fun m => (m.2.length : Int)), 0 ≤ d := by
      intro d hd
      rcases List.mem_append.1 hd with hd | hd
      · exact h0 d hd
      · obtain ⟨m, hm, rfl⟩ := List.mem_map.1 hd
        omega
    refine wpO_rfl (w := .list (ns.map PyData.int ++ s.mc.map fun m => PyData.int (m.2.length : Int))) (by show (if _ then _ else _) = _; rw [if_pos (by simp; omega)]) ?_
    rw [e]
    generalize ns ++ s.mc.map (fun m => (m.2.length : Int)) = zs at hn h1
    (repeat (with_reducible first | refine zq14 ?_ | refine zq11 ?_ | refine zq10 ?_ | refine zq3 ?_ | refine zq4 ?_ | refine zq5 ?_ | refine zq0 ?_ | refine zq8 ?_ | refine zq6 ?_ | refine zq1 ?_ | refine zq13 ?_ | refine zq12 ?_ | refine zq7 ?_ | refine zq2 ?_ | refine zq9 ?_))
    refine wpO_rfl (w := .list ((sortU zs).map PyData.int)) (by simp only [gSortSetW, ints_int, Option.bind_some]; rw [if_pos ⟨by omega, Nat.lt_of_le_of_lt sortU_len (by omega)⟩]) ?_
    exact q _ (fun d hd => h1 d (mem_sortU.1 hd)) (Nat.le_trans sortU_len (by omega))
theorem w_slk {ρ : Ev} {k : Int} {f : Mx} {lo hi : Mo} (q : wpE (f ρ S) fun x S1 => wpE (lo ρ S1) fun l S2 => wpE (hi ρ S2) fun u S3 => wpO (gSlk k l u x) fun w => Q w S3) : wpE (mSlk k f lo hi ρ S) Q := by
  unfold mSlk
  simp only [wpE_bnd]
  exact wpE_mono q fun x S1 q => wpE_mono q fun l S2 q => wpE_mono q fun u S3 ⟨w, e, q⟩ => by
    rw [e]
    exact q
end
end WF
namespace WF
open PySem PySem.Spec PyProof.Rows L2 DL
end WF
namespace WF
open PySem PySem.Spec PyProof.Rows L2 DL
end WF
namespace WF
open PySem PySem.Spec PyProof.Rows L2 DL PL
section
variable {s : Site} {S S0 : Sto} {n : Nat} {d : Int} {Q : Wd → Sto → Prop}
theorem at_of_mem {p : Str × Sy} (hp : p ∈ s.parts) : ∃ i : Nat, s.parts[i]? = some p := List.mem_iff_getElem?.1 hp
end
end WF
namespace WF
open PySem PySem.Spec PyProof.Rows L2 DL
end WF
namespace WF
open PySem PySem.Spec PyProof.Rows L2 DL PL
section
variable {s : Site} {S S0 : Sto} {n : Nat} {d : Int} {Q : Wd → Sto → Prop}
end
end WF
namespace WF
open PySem PySem.Spec PyProof.Rows L2 DL
end WF
namespace PL
open PySem PySem.Spec PyProof.Rows L2 DL
end PL
namespace WF
open PySem PySem.Spec PyProof.Rows L2 DL PL
section
variable {s : Site} {S S0 : Sto} {n : Nat} {d : Int} {Q : Wd → Sto → Prop}
def places (s : Site) : List (Option Str) := (s.mc.map fun m => some m.1) ++ [none]
theorem places_ok (G : Good n s) {o : Option Str} (h : o ∈ places s) : ∀ x, o = some x → x ∈ s.mc.map (·.1) := by
  rintro x rfl
  unfold places at h
  rcases List.mem_append.1 h with h | h
  · obtain ⟨m, hm, e⟩ := List.mem_map.1 h
    cases e
    exact List.mem_map_of_mem hm
  · simp at h
end
end WF
namespace WF
open PySem PySem.Spec PyProof.Rows L2 DL PL
section
variable {s : Site} {st : Sy} {us : Us} {S : Sto} {n : Nat} {d : Int} {Q : Wd → Sto → Prop}
theorem place_k04_eq (h : StOkP s st) (hd : 0 ≤ d) : g_place_k04 [encSy st, .int d] S = .ok (oS (plc st d)) S := by
  refine wpR_ok (w_def rfl ?_)
  unfold m_place_k04 encSy
  (repeat (first | with_reducible refine zq15 ?_ | (with_reducible first | refine zq14 ?_ | refine zq11 ?_ | refine zq10 ?_ | refine zq3 ?_ | refine zq4 ?_ | refine zq5 ?_ | refine zq0 ?_ | refine zq8 ?_ | refine zq6 ?_ | refine zq1 ?_ | refine zq13 ?_ | refine zq12 ?_ | refine zq7 ?_ | refine zq2 ?_ | refine zq9 ?_)))
  refine w_eq (lc_pure (p := fun s => decide (s.1 ≤ d)) (out := fun s => oS s.2) st [] (by have := siz; have := h.ln; simp; omega) fun x hx => ⟨_, rfl, rfl, fun _ => rfl⟩) ?_
  (repeat (first | with_reducible refine zq15 ?_ | (with_reducible first | refine zq14 ?_ | refine zq11 ?_ | refine zq10 ?_ | refine zq3 ?_ | refine zq4 ?_ | refine zq5 ?_ | refine zq0 ?_ | refine zq8 ?_ | refine zq6 ?_ | refine zq1 ?_ | refine zq13 ?_ | refine zq12 ?_ | refine zq7 ?_ | refine zq2 ?_ | refine zq9 ?_)))
  have hne : st.filter (fun s => decide (s.1 ≤ d)) ≠ [] := by
    obtain ⟨p, r, e⟩ := h.hd
    rw [e]
    simp [hd]
  unfold plc
  generalize st.filter (fun s => decide (s.1 ≤ d)) = fs at hne
  obtain ⟨i, l, e⟩ : ∃ i l, fs = i ++ [l] := ⟨_, _, (List.dropLast_concat_getLast hne).symm⟩
  subst e
  refine ⟨oS l.2, ?_, ?_⟩
  · simp only [List.map_append, List.map_cons, List.map_nil, List.nil_append, gIx]
    exact atI_last _ _
  · simp
theorem use_k04_eq (G : Good n s) {m : Str × Us} (hm : m ∈ s.mc) (hd : 0 ≤ d) : g_use_k04 [.tuple (s.mc.map PL.encM), .str m.1, .int d] S = .ok (encU (usAt m.2 d)) S := by
  have h := G.us m hm
  refine wpR_ok (w_def rfl ?_)
  unfold m_use_k04
  refine zq15 ?_
  (repeat (with_reducible first | refine zq14 ?_ | refine zq11 ?_ | refine zq10 ?_ | refine zq3 ?_ | refine zq4 ?_ | refine zq5 ?_ | refine zq0 ?_ | refine zq8 ?_ | refine zq6 ?_ | refine zq1 ?_ | refine zq13 ?_ | refine zq12 ?_ | refine zq7 ?_ | refine zq2 ?_ | refine zq9 ?_))
  refine zq15 ?_
  (repeat (with_reducible first | refine zq14 ?_ | refine zq11 ?_ | refine zq10 ?_ | refine zq3 ?_ | refine zq4 ?_ | refine zq5 ?_ | refine zq0 ?_ | refine zq8 ?_ | refine zq6 ?_ | refine zq1 ?_ | refine zq13 ?_ | refine zq12 ?_ | refine zq7 ?_ | refine zq2 ?_ | refine zq9 ?_))
  refine wpO_rfl (dict_T (e := encUs) (rise_nodup G.mr)) ?_
  (repeat (with_reducible first | refine zq14 ?_ | refine zq11 ?_ | refine zq10 ?_ | refine zq3 ?_ | refine zq4 ?_ | refine zq5 ?_ | refine zq0 ?_ | refine zq8 ?_ | refine zq6 ?_ | refine zq1 ?_ | refine zq13 ?_ | refine zq12 ?_ | refine zq7 ?_ | refine zq2 ?_ | refine zq9 ?_))
  refine wpO_rfl (gIx_look (look_T s.mc m (rise_nodup G.mr) hm)) ?_
  unfold encUs
  (repeat (with_reducible first | refine zq14 ?_ | refine zq11 ?_ | refine zq10 ?_ | refine zq3 ?_ | refine zq4 ?_ | refine zq5 ?_ | refine zq0 ?_ | refine zq8 ?_ | refine zq6 ?_ | refine zq1 ?_ | refine zq13 ?_ | refine zq12 ?_ | refine zq7 ?_ | refine zq2 ?_ | refine zq9 ?_))
  have hl : 0 < m.2.length := List.length_pos_iff.2 h.ne
  unfold usAt
  simp only [List.length_map]
  have h0 : 0 ≤ (if (m.2.length : Int) - 1 < d then (m.2.length : Int) - 1 else d) := by split <;> omega
  have h1 : (if (m.2.length : Int) - 1 < d then (m.2.length : Int) - 1 else d) < m.2.length := by split <;> omega
  generalize (if (m.2.length : Int) - 1 < d then (m.2.length : Int) - 1 else d) = i at h0 h1
  refine wpO_rfl (atI_in h0 (by simpa using h1)) ?_
  simp only [List.getElem_map, and_true]
  rw [List.getD_eq_getElem?_getD, List.getElem?_eq_getElem (by omega)]
  rfl
theorem repr_g {w : Wd} (h : Gw 1000 600 32 w) : gRepr [w] = some (.str w.shown) := (h.sz (by decide)).repr (by decide) (by decide)
theorem repr_same {w : Wd} : gNe (.str w.shown) (.str w.shown) = some (.bool false) := by
  have e : gNe (.str w.shown) (.str w.shown) = some (.bool (!decide (w.shown = w.shown))) := rfl
  rw [e, decide_eq_true rfl]
  rfl
theorem ok_oS {o : Option Str} (h : ∀ x, o = some x → PyData.strOk x = true ∧ x.cps.size ≤ 8) : okW 1000 (oS o) = true := by
  cases o with
  | none => rfl
  | some x => exact ok_str (h x rfl).1 (h x rfl).2
theorem nodes_oS {o : Option Str} : nodes (oS o) = 1 := by cases o <;> rfl
theorem g_lst {xs : List Wd} (h : ∀ x ∈ xs, okW 1000 x = true ∧ nodes x ≤ 3 ∧ x.depth ≤ 2) (hl : xs.length ≤ 21) : Gw 1000 600 32 (.list xs) := by
  have hn := nodesL_map (f := id) (c := 3) (l := xs) fun x hx => (h x hx).2.1
  rw [List.map_id] at hn
  exact (Gw.lst (m := 1000) (n := 600) (k := 2) (fun x hx => (h x hx).1) (fun x hx => (h x hx).2.2) (by omega)).mono (Nat.le_refl _) (Nat.le_refl _) (by decide)
theorem g_tup {xs : List Wd} (h : ∀ x ∈ xs, okW 1000 x = true ∧ nodes x ≤ 3 ∧ x.depth ≤ 2) (hl : xs.length ≤ 21) : Gw 1000 600 32 (.tuple xs) := by
  have hn := nodesL_map (f := id) (c := 3) (l := xs) fun x hx => (h x hx).2.1
  rw [List.map_id] at hn
  exact (Gw.tup (m := 1000) (n := 600) (k := 2) (fun x hx => (h x hx).1) (fun x hx => (h x hx).2.2) (by omega)).mono (Nat.le_refl _) (Nat.le_refl _) (by decide)
theorem flat3 {x : Str} (h : Nm x) : okW 1000 (.str x) = true ∧ nodes (.str x) ≤ 3 ∧ (PyData.str x).depth ≤ 2 := ⟨ok_str h.so h.le, by simp [nodes], by simp [PyData.depth]⟩
theorem dp_oS {o : Option Str} : (oS o).depth = 0 := by cases o <;> simp [oS, PyData.depth]
theorem names_right_eq (G : Good n s) : g_names_right_k04 [encSite s] S = .ok (.bool true) S := by
  have hz := siz
  have hjl := G.jl
  refine wpR_ok (w_def rfl ?_)
  unfold m_names_right_k04
  refine w_seqJ (fun ρ S' => S' = S ∧ ∃ x1 x2 x3 x4 x5 : Option Sl, ρ = [some (.val (encSite s)), x1, x2, x3, x4, x5]) ?_ ?_
  · (repeat (with_reducible first | refine zq14 ?_ | refine zq11 ?_ | refine zq10 ?_ | refine zq3 ?_ | refine zq4 ?_ | refine zq5 ?_ | refine zq0 ?_ | refine zq8 ?_ | refine zq6 ?_ | refine zq1 ?_ | refine zq13 ?_ | refine zq12 ?_ | refine zq7 ?_ | refine zq2 ?_ | refine zq9 ?_))
    refine wp_forT encP s.parts (I := fun ρ S' => S' = S ∧ ∃ x1 x2 x3 x4 x5 : Option Sl, ρ = [some (.val (encSite s)), x1, x2, x3, x4, x5]) ?_ (fun _ _ h => h) _ _ ⟨rfl, _, _, _, _, _, rfl⟩
    rintro p hp ρ S' ⟨rfl, x1, x2, x3, x4, x5, rfl⟩
    obtain ⟨i, hi⟩ := at_of_mem hp
    refine ⟨_, rfl, ?_⟩
    have hfl : (s.jobs.filter fun j => decide (j.pt = p.1)).length ≤ 20 := Nat.le_trans (List.length_filter_le _ _) hjl
    have gT : Gw 1000 600 32 (.tuple (((s.jobs.filter fun j => decide (j.pt = p.1)).map (·.nm)).map PyData.str)) := g_tup (fun w hw => by
      obtain ⟨x, hx, rfl⟩ := List.mem_map.1 hw
      obtain ⟨j, hj, rfl⟩ := List.mem_map.1 hx
      exact flat3 (G.jn j (List.mem_filter.1 hj).1)) (by simp; omega)
    (repeat (with_reducible first | refine zq14 ?_ | refine zq11 ?_ | refine zq10 ?_ | refine zq3 ?_ | refine zq4 ?_ | refine zq5 ?_ | refine zq0 ?_ | refine zq8 ?_ | refine zq6 ?_ | refine zq1 ?_ | refine zq13 ?_ | refine zq12 ?_ | refine zq7 ?_ | refine zq2 ?_ | refine zq9 ?_))
    refine w_eq (tasks_of_eq G hi) ?_
    refine wpO_rfl (repr_g gT) ?_
    (repeat (with_reducible first | refine zq14 ?_ | refine zq11 ?_ | refine zq10 ?_ | refine zq3 ?_ | refine zq4 ?_ | refine zq5 ?_ | refine zq0 ?_ | refine zq8 ?_ | refine zq6 ?_ | refine zq1 ?_ | refine zq13 ?_ | refine zq12 ?_ | refine zq7 ?_ | refine zq2 ?_ | refine zq9 ?_))
    refine w_eq (lc_pure (enc := PL.encJ) (p := fun j => decide (j.pt = p.1)) (out := fun q => .str q.nm) s.jobs [] (by simp; omega) fun j hj => ⟨_, rfl, rfl, fun _ => rfl⟩) ?_
    rw [List.nil_append, show (s.jobs.filter fun j => decide (j.pt = p.1)).map (fun q => PyData.str q.nm) = ((s.jobs.filter fun j => decide (j.pt = p.1)).map (·.nm)).map PyData.str by rw [List.map_map]; rfl]
    (repeat (with_reducible first | refine zq14 ?_ | refine zq11 ?_ | refine zq10 ?_ | refine zq3 ?_ | refine zq4 ?_ | refine zq5 ?_ | refine zq0 ?_ | refine zq8 ?_ | refine zq6 ?_ | refine zq1 ?_ | refine zq13 ?_ | refine zq12 ?_ | refine zq7 ?_ | refine zq2 ?_ | refine zq9 ?_))
    refine wpO_rfl (repr_g gT) ?_
    refine wpO_rfl repr_same ?_
    (repeat (with_reducible first | refine zq14 ?_ | refine zq11 ?_ | refine zq10 ?_ | refine zq3 ?_ | refine zq4 ?_ | refine zq5 ?_ | refine zq0 ?_ | refine zq8 ?_ | refine zq6 ?_ | refine zq1 ?_ | refine zq13 ?_ | refine zq12 ?_ | refine zq7 ?_ | refine zq2 ?_ | refine zq9 ?_))
    exact ⟨rfl, _, _, _, _, _, rfl⟩
  obtain ⟨W, hW⟩ : ∃ W, W = encSite s := ⟨_, rfl⟩
  rw [← hW]
  rintro ρ S' ⟨rfl, x1, x2, x3, x4, x5, rfl⟩
  refine zq15 ?_
  (repeat (with_reducible first | refine zq14 ?_ | refine zq11 ?_ | refine zq10 ?_ | refine zq3 ?_ | refine zq4 ?_ | refine zq5 ?_ | refine zq0 ?_ | refine zq8 ?_ | refine zq6 ?_ | refine zq1 ?_ | refine zq13 ?_ | refine zq12 ?_ | refine zq7 ?_ | refine zq2 ?_ | refine zq9 ?_))
  refine wpO_rfl (w := .tuple (s.jobs.map PL.encJ)) (by rw [hW]; rfl) ?_
  (repeat (with_reducible first | refine zq14 ?_ | refine zq11 ?_ | refine zq10 ?_ | refine zq3 ?_ | refine zq4 ?_ | refine zq5 ?_ | refine zq0 ?_ | refine zq8 ?_ | refine zq6 ?_ | refine zq1 ?_ | refine zq13 ?_ | refine zq12 ?_ | refine zq7 ?_ | refine zq2 ?_ | refine zq9 ?_))
  trace_state
  refine ⟨by simp; omega, ?_⟩
  refine wp_forI (I := fun ρ S'' => S'' = S' ∧ ∃ x1 x2 x3 x4 x5 : Option Sl, ρ = [some (.val W), x1, x2, x3, x4, x5]) ?_ ?_ _ _ ⟨rfl, _, _, _, _, _, rfl⟩
  rotate_left
  · rintro ρ S'' ⟨rfl, x1, x2, x3, x4, x5, rfl⟩
    (repeat (with_reducible first | refine zq14 ?_ | refine zq11 ?_ | refine zq10 ?_ | refine zq3 ?_ | refine zq4 ?_ | refine zq5 ?_ | refine zq0 ?_ | refine zq8 ?_ | refine zq6 ?_ | refine zq1 ?_ | refine zq13 ?_ | refine zq12 ?_ | refine zq7 ?_ | refine zq2 ?_ | refine zq9 ?_))
    exact ⟨rfl, rfl⟩
  · rintro w hw ρ S'' ⟨rfl, x1, x2, x3, x4, x5, rfl⟩
    obtain ⟨k, hk, rfl⟩ : ∃ k : Nat, k < s.jobs.length ∧ w = .int k := range_mem (by simpa using hw)
    obtain ⟨j, hj⟩ : ∃ j, s.jobs[k]? = some j := ⟨_, List.getElem?_eq_getElem hk⟩
    have hjm := List.mem_of_getElem? hj
    obtain ⟨p, hp, ep⟩ := List.mem_map.1 (G.jb j hjm).pt
    refine ⟨_, rfl, ?_⟩
    refine zq15 ?_
    (repeat (with_reducible first | refine zq14 ?_ | refine zq11 ?_ | refine zq10 ?_ | refine zq3 ?_ | refine zq4 ?_ | refine zq5 ?_ | refine zq0 ?_ | refine zq8 ?_ | refine zq6 ?_ | refine zq1 ?_ | refine zq13 ?_ | refine zq12 ?_ | refine zq7 ?_ | refine zq2 ?_ | refine zq9 ?_))
    refine wpO_rfl (w := .tuple (s.jobs.map PL.encJ)) (by rw [hW]; rfl) ?_
    (repeat (with_reducible first | refine zq14 ?_ | refine zq11 ?_ | refine zq10 ?_ | refine zq3 ?_ | refine zq4 ?_ | refine zq5 ?_ | refine zq0 ?_ | refine zq8 ?_ | refine zq6 ?_ | refine zq1 ?_ | refine zq13 ?_ | refine zq12 ?_ | refine zq7 ?_ | refine zq2 ?_ | refine zq9 ?_))
    refine wpO_rfl (w := PL.encJ j) (ixTo (by rw [List.getElem?_map, hj]; rfl)) ?_
    (repeat (with_reducible first | refine zq14 ?_ | refine zq11 ?_ | refine zq10 ?_ | refine zq3 ?_ | refine zq4 ?_ | refine zq5 ?_ | refine zq0 ?_ | refine zq8 ?_ | refine zq6 ?_ | refine zq1 ?_ | refine zq13 ?_ | refine zq12 ?_ | refine zq7 ?_ | refine zq2 ?_ | refine zq9 ?_))
    rw [hW]
    refine w_eq (part_of_eq G hj) ?_
    (repeat (with_reducible first | refine zq14 ?_ | refine zq11 ?_ | refine zq10 ?_ | refine zq3 ?_ | refine zq4 ?_ | refine zq5 ?_ | refine zq0 ?_ | refine zq8 ?_ | refine zq6 ?_ | refine zq1 ?_ | refine zq13 ?_ | refine zq12 ?_ | refine zq7 ?_ | refine zq2 ?_ | refine zq9 ?_))
    refine w_eq (number_of_eq G hj) ?_
    (repeat (with_reducible first | refine zq14 ?_ | refine zq11 ?_ | refine zq10 ?_ | refine zq3 ?_ | refine zq4 ?_ | refine zq5 ?_ | refine zq0 ?_ | refine zq8 ?_ | refine zq6 ?_ | refine zq1 ?_ | refine zq13 ?_ | refine zq12 ?_ | refine zq7 ?_ | refine zq2 ?_ | refine zq9 ?_))
    have gT : Gw 1000 600 32 (.list [.str j.pt, .int (k : Int)]) := g_lst (fun w hw => by
      simp only [List.mem_cons, List.mem_nil_iff, or_false] at hw
      rcases hw with rfl | rfl
      · rw [← ep]; exact flat3 (G.pn p hp)
      · exact ⟨ok_int (by omega), by simp [nodes], by simp [PyData.depth]⟩) (by simp)
    refine wpO_rfl (repr_g gT) ?_
    (repeat (with_reducible first | refine zq14 ?_ | refine zq11 ?_ | refine zq10 ?_ | refine zq3 ?_ | refine zq4 ?_ | refine zq5 ?_ | refine zq0 ?_ | refine zq8 ?_ | refine zq6 ?_ | refine zq1 ?_ | refine zq13 ?_ | refine zq12 ?_ | refine zq7 ?_ | refine zq2 ?_ | refine zq9 ?_))
    refine wpO_rfl (repr_g gT) ?_
    refine wpO_rfl repr_same ?_
    (repeat (with_reducible first | refine zq14 ?_ | refine zq11 ?_ | refine zq10 ?_ | refine zq3 ?_ | refine zq4 ?_ | refine zq5 ?_ | refine zq0 ?_ | refine zq8 ?_ | refine zq6 ?_ | refine zq1 ?_ | refine zq13 ?_ | refine zq12 ?_ | refine zq7 ?_ | refine zq2 ?_ | refine zq9 ?_))
    rw [← hW]
    exact ⟨rfl, _, _, _, _, _, rfl⟩
theorem places_eq : s.mc.map (fun m => PyData.str m.1) ++ [PyData.none] = (places s).map oS := by
  unfold places
  rw [List.map_append, List.map_map]
  rfl
theorem days_right_k04_eq (G : Good n s) (hD : ∃ ds : List Int, g_days_of_k04 [encSite s] S = .ok (.list (ds.map PyData.int)) S ∧ ∀ d ∈ ds, 0 ≤ d) : g_days_right_k04 [encSite s] S = .ok (.bool true) S := by
  have hz := siz
  have hml := G.ml
  have hpl := G.pl
  obtain ⟨ds, hds, hds0⟩ := hD
  refine wpR_ok (w_def rfl ?_)
  unfold m_days_right_k04
  refine w_seqJ (fun ρ S' => S' = S ∧ ∃ x1 x2 x3 x4 x5 x6 x7 x8 x9 : Option Sl, ρ = [some (.val (encSite s)), x1, x2, x3, x4, x5, x6, x7, x8, x9]) ?_ ?_
  · (repeat (with_reducible first | refine zq14 ?_ | refine zq11 ?_ | refine zq10 ?_ | refine zq3 ?_ | refine zq4 ?_ | refine zq5 ?_ | refine zq0 ?_ | refine zq8 ?_ | refine zq6 ?_ | refine zq1 ?_ | refine zq13 ?_ | refine zq12 ?_ | refine zq7 ?_ | refine zq2 ?_ | refine zq9 ?_))
    refine w_eq hds ?_
    (repeat (with_reducible first | refine zq14 ?_ | refine zq11 ?_ | refine zq10 ?_ | refine zq3 ?_ | refine zq4 ?_ | refine zq5 ?_ | refine zq0 ?_ | refine zq8 ?_ | refine zq6 ?_ | refine zq1 ?_ | refine zq13 ?_ | refine zq12 ?_ | refine zq7 ?_ | refine zq2 ?_ | refine zq9 ?_))
    refine wp_forT PyData.int ds (I := fun ρ S' => S' = S ∧ ∃ x1 x2 x3 x4 x5 x6 x7 x8 x9 : Option Sl, ρ = [some (.val (encSite s)), x1, x2, x3, x4, x5, x6, x7, x8, x9]) ?_ (fun _ _ h => h) _ _ ⟨rfl, _, _, _, _, _, _, _, _, _, rfl⟩
    rintro k hk ρ S' ⟨rfl, x1, x2, x3, x4, x5, x6, x7, x8, x9, rfl⟩
    have hk0 := hds0 k hk
    clear hds hk hds0
    have pso : ∀ p ∈ s.parts, ∀ x, plc p.2 k = some x → PyData.strOk x = true := fun p hp x e => G.mso x (G.plcOk hp x e)
    have pok : ∀ p ∈ s.parts, okW 1000 (oS (plc p.2 k)) = true := fun p hp => ok_oS fun x e => by
      obtain ⟨m, hm, e2⟩ := List.mem_map.1 (G.plcOk hp x e)
      rw [← e2]
      exact ⟨(G.mn m hm).so, (G.mn m hm).le⟩
    refine ⟨_, rfl, ?_⟩
    refine zq15 ?_
    (repeat (with_reducible first | refine zq14 ?_ | refine zq11 ?_ | refine zq10 ?_ | refine zq3 ?_ | refine zq4 ?_ | refine zq5 ?_ | refine zq0 ?_ | refine zq8 ?_ | refine zq6 ?_ | refine zq1 ?_ | refine zq13 ?_ | refine zq12 ?_ | refine zq7 ?_ | refine zq2 ?_ | refine zq9 ?_))
    refine lc_map (enc := encP) (out := fun p => .tuple [.str p.1, oS (plc p.2 k)]) s.parts (by omega) (fun p hp => ⟨_, rfl, wpX_ok ?_⟩) ?_
    · (repeat (with_reducible first | refine zq14 ?_ | refine zq11 ?_ | refine zq10 ?_ | refine zq3 ?_ | refine zq4 ?_ | refine zq5 ?_ | refine zq0 ?_ | refine zq8 ?_ | refine zq6 ?_ | refine zq1 ?_ | refine zq13 ?_ | refine zq12 ?_ | refine zq7 ?_ | refine zq2 ?_ | refine zq9 ?_))
      refine w_eq (place_k04_eq (G.stp hp) hk0) ?_
      (repeat (with_reducible first | refine zq14 ?_ | refine zq11 ?_ | refine zq10 ?_ | refine zq3 ?_ | refine zq4 ?_ | refine zq5 ?_ | refine zq0 ?_ | refine zq8 ?_ | refine zq6 ?_ | refine zq1 ?_ | refine zq13 ?_ | refine zq12 ?_ | refine zq7 ?_ | refine zq2 ?_ | refine zq9 ?_))
      exact ⟨rfl, rfl⟩
    obtain ⟨enc, henc⟩ : ∃ enc : Str × Sy → Wd, enc = fun p => PyData.tuple [.str p.1, oS (plc p.2 k)] := ⟨_, rfl⟩
    rw [← henc]
    have gP : Gw 1000 600 32 (.list (s.parts.map fun p => oS (plc p.2 k))) := g_lst (fun w hw => by
      obtain ⟨p, hp, rfl⟩ := List.mem_map.1 hw
      exact ⟨pok p hp, by rw [nodes_oS]; decide, by rw [dp_oS]; decide⟩) (by simp; omega)
    refine w_seqJ (fun ρ S'' => S'' = S' ∧ ∃ x3 x4 x5 x6 x7 x8 x9 : Option Sl, ρ = [some (.val (encSite s)), some (.val (.int k)), some (.val (.list (s.parts.map enc))), x3, x4, x5, x6, x7, x8, x9]) ?_ ?_
    · (repeat (with_reducible first | refine zq14 ?_ | refine zq11 ?_ | refine zq10 ?_ | refine zq3 ?_ | refine zq4 ?_ | refine zq5 ?_ | refine zq0 ?_ | refine zq8 ?_ | refine zq6 ?_ | refine zq1 ?_ | refine zq13 ?_ | refine zq12 ?_ | refine zq7 ?_ | refine zq2 ?_ | refine zq9 ?_))
      refine lc_map (enc := enc) (out := fun p => oS (plc p.2 k)) s.parts (by omega) (fun p hp => ⟨_, rfl, wpX_ok ?_⟩) ?_
      · obtain ⟨i, hi⟩ := at_of_mem hp
        rw [henc]
        (repeat (with_reducible first | refine zq14 ?_ | refine zq11 ?_ | refine zq10 ?_ | refine zq3 ?_ | refine zq4 ?_ | refine zq5 ?_ | refine zq0 ?_ | refine zq8 ?_ | refine zq6 ?_ | refine zq1 ?_ | refine zq13 ?_ | refine zq12 ?_ | refine zq7 ?_ | refine zq2 ?_ | refine zq9 ?_))
        refine w_eq (place_of_eq G hi hk0) ?_
        exact ⟨rfl, rfl⟩
      (repeat (with_reducible first | refine zq14 ?_ | refine zq11 ?_ | refine zq10 ?_ | refine zq3 ?_ | refine zq4 ?_ | refine zq5 ?_ | refine zq0 ?_ | refine zq8 ?_ | refine zq6 ?_ | refine zq1 ?_ | refine zq13 ?_ | refine zq12 ?_ | refine zq7 ?_ | refine zq2 ?_ | refine zq9 ?_))
      refine wpO_rfl (repr_g gP) ?_
      (repeat (with_reducible first | refine zq14 ?_ | refine zq11 ?_ | refine zq10 ?_ | refine zq3 ?_ | refine zq4 ?_ | refine zq5 ?_ | refine zq0 ?_ | refine zq8 ?_ | refine zq6 ?_ | refine zq1 ?_ | refine zq13 ?_ | refine zq12 ?_ | refine zq7 ?_ | refine zq2 ?_ | refine zq9 ?_))
      refine lc_map (enc := enc) (out := fun p => oS (plc p.2 k)) s.parts (by omega) (fun p hp => ⟨_, rfl, wpX_ok ?_⟩) ?_
      · rw [henc]
        (repeat (with_reducible first | refine zq14 ?_ | refine zq11 ?_ | refine zq10 ?_ | refine zq3 ?_ | refine zq4 ?_ | refine zq5 ?_ | refine zq0 ?_ | refine zq8 ?_ | refine zq6 ?_ | refine zq1 ?_ | refine zq13 ?_ | refine zq12 ?_ | refine zq7 ?_ | refine zq2 ?_ | refine zq9 ?_))
        exact ⟨rfl, rfl⟩
      (repeat (with_reducible first | refine zq14 ?_ | refine zq11 ?_ | refine zq10 ?_ | refine zq3 ?_ | refine zq4 ?_ | refine zq5 ?_ | refine zq0 ?_ | refine zq8 ?_ | refine zq6 ?_ | refine zq1 ?_ | refine zq13 ?_ | refine zq12 ?_ | refine zq7 ?_ | refine zq2 ?_ | refine zq9 ?_))
      refine wpO_rfl (repr_g gP) ?_
      refine wpO_rfl repr_same ?_
      (repeat (with_reducible first | refine zq14 ?_ | refine zq11 ?_ | refine zq10 ?_ | refine zq3 ?_ | refine zq4 ?_ | refine zq5 ?_ | refine zq0 ?_ | refine zq8 ?_ | refine zq6 ?_ | refine zq1 ?_ | refine zq13 ?_ | refine zq12 ?_ | refine zq7 ?_ | refine zq2 ?_ | refine zq9 ?_))
      exact ⟨rfl, _, _, _, _, _, _, _, rfl⟩
    rintro ρ S'' ⟨rfl, x3, x4, x5, x6, x7, x8, x9, rfl⟩
    refine w_seqJ (fun ρ S' => S' = S'' ∧ ∃ x3 x4 x5 x6 x7 x8 x9 : Option Sl, ρ = [some (.val (encSite s)), some (.val (.int k)), some (.val (.list (s.parts.map enc))), x3, x4, x5, x6, x7, x8, x9]) ?_ ?_
    · (repeat (with_reducible first | refine zq14 ?_ | refine zq11 ?_ | refine zq10 ?_ | refine zq3 ?_ | refine zq4 ?_ | refine zq5 ?_ | refine zq0 ?_ | refine zq8 ?_ | refine zq6 ?_ | refine zq1 ?_ | refine zq13 ?_ | refine zq12 ?_ | refine zq7 ?_ | refine zq2 ?_ | refine zq9 ?_))
      refine wp_forT PL.encM s.mc (I := fun ρ S' => S' = S'' ∧ ∃ x3 x4 x5 x6 x7 x8 x9 : Option Sl, ρ = [some (.val (encSite s)), some (.val (.int k)), some (.val (.list (s.parts.map enc))), x3, x4, x5, x6, x7, x8, x9]) ?_ (fun _ _ h => h) _ _ ⟨rfl, _, _, _, _, _, _, _, rfl⟩
      rintro m hm ρ S' ⟨rfl, x3, x4, x5, x6, x7, x8, x9, rfl⟩
      obtain ⟨i, hi⟩ : ∃ i : Nat, s.mc[i]? = some m := List.mem_iff_getElem?.1 hm
      have hu := G.us m hm
      have hmem : usAt m.2 k ∈ m.2 := by
        unfold usAt
        have hl : 0 < m.2.length := List.length_pos_iff.2 hu.ne
        have h1 : (if (m.2.length : Int) - 1 < k then (m.2.length : Int) - 1 else k).toNat < m.2.length := by split <;> omega
        rw [List.getD_eq_getElem?_getD, List.getElem?_eq_getElem h1]
        exact List.getElem_mem _
      have hb := hu.bd _ hmem
      have gU : Gw 1000 600 32 (encU (usAt m.2 k)) := g_tup (fun w hw => by
        simp only [List.mem_cons, List.mem_nil_iff, or_false] at hw
        rcases hw with rfl | rfl
        · exact ⟨ok_int (by omega), by simp [nodes], by simp [PyData.depth]⟩
        · exact ⟨ok_int (by omega), by simp [nodes], by simp [PyData.depth]⟩) (by simp)
      refine ⟨_, rfl, ?_⟩
      (repeat (with_reducible first | refine zq14 ?_ | refine zq11 ?_ | refine zq10 ?_ | refine zq3 ?_ | refine zq4 ?_ | refine zq5 ?_ | refine zq0 ?_ | refine zq8 ?_ | refine zq6 ?_ | refine zq1 ?_ | refine zq13 ?_ | refine zq12 ?_ | refine zq7 ?_ | refine zq2 ?_ | refine zq9 ?_))
      refine w_eq (use_of_eq G hi hk0) ?_
      (repeat (with_reducible first | refine zq14 ?_ | refine zq11 ?_ | refine zq10 ?_ | refine zq3 ?_ | refine zq4 ?_ | refine zq5 ?_ | refine zq0 ?_ | refine zq8 ?_ | refine zq6 ?_ | refine zq1 ?_ | refine zq13 ?_ | refine zq12 ?_ | refine zq7 ?_ | refine zq2 ?_ | refine zq9 ?_))
      refine wpO_rfl (repr_g gU) ?_
      (repeat (with_reducible first | refine zq14 ?_ | refine zq11 ?_ | refine zq10 ?_ | refine zq3 ?_ | refine zq4 ?_ | refine zq5 ?_ | refine zq0 ?_ | refine zq8 ?_ | refine zq6 ?_ | refine zq1 ?_ | refine zq13 ?_ | refine zq12 ?_ | refine zq7 ?_ | refine zq2 ?_ | refine zq9 ?_))
      refine w_eq (use_k04_eq G hm hk0) ?_
      (repeat (with_reducible first | refine zq14 ?_ | refine zq11 ?_ | refine zq10 ?_ | refine zq3 ?_ | refine zq4 ?_ | refine zq5 ?_ | refine zq0 ?_ | refine zq8 ?_ | refine zq6 ?_ | refine zq1 ?_ | refine zq13 ?_ | refine zq12 ?_ | refine zq7 ?_ | refine zq2 ?_ | refine zq9 ?_))
      refine wpO_rfl (repr_g gU) ?_
      refine wpO_rfl repr_same ?_
      (repeat (with_reducible first | refine zq14 ?_ | refine zq11 ?_ | refine zq10 ?_ | refine zq3 ?_ | refine zq4 ?_ | refine zq5 ?_ | refine zq0 ?_ | refine zq8 ?_ | refine zq6 ?_ | refine zq1 ?_ | refine zq13 ?_ | refine zq12 ?_ | refine zq7 ?_ | refine zq2 ?_ | refine zq9 ?_))
      exact ⟨rfl, _, _, _, _, _, _, _, rfl⟩
    rintro ρ S' ⟨rfl, x3, x4, x5, x6, x7, x8, x9, rfl⟩
    (repeat (with_reducible first | refine zq14 ?_ | refine zq11 ?_ | refine zq10 ?_ | refine zq3 ?_ | refine zq4 ?_ | refine zq5 ?_ | refine zq0 ?_ | refine zq8 ?_ | refine zq6 ?_ | refine zq1 ?_ | refine zq13 ?_ | refine zq12 ?_ | refine zq7 ?_ | refine zq2 ?_ | refine zq9 ?_))
    refine lc_map (enc := PL.encM) (out := fun m => .str m.1) s.mc (by omega) (fun x hx => ⟨_, rfl, rfl⟩) ?_
    (repeat (with_reducible first | refine zq14 ?_ | refine zq11 ?_ | refine zq10 ?_ | refine zq3 ?_ | refine zq4 ?_ | refine zq5 ?_ | refine zq0 ?_ | refine zq8 ?_ | refine zq6 ?_ | refine zq1 ?_ | refine zq13 ?_ | refine zq12 ?_ | refine zq7 ?_ | refine zq2 ?_ | refine zq9 ?_))
    refine wpO_rfl (w := PyData.list (s.mc.map (fun m => PyData.str m.1) ++ [PyData.none])) (if_pos (by simp; omega)) ?_
    rw [places_eq]
    (repeat (with_reducible first | refine zq14 ?_ | refine zq11 ?_ | refine zq10 ?_ | refine zq3 ?_ | refine zq4 ?_ | refine zq5 ?_ | refine zq0 ?_ | refine zq8 ?_ | refine zq6 ?_ | refine zq1 ?_ | refine zq13 ?_ | refine zq12 ?_ | refine zq7 ?_ | refine zq2 ?_ | refine zq9 ?_))
    refine wp_forT oS (places s) (I := fun ρ S'' => S'' = S' ∧ ∃ x3 x4 x5 x6 x7 x8 x9 : Option Sl, ρ = [some (.val (encSite s)), some (.val (.int k)), some (.val (.list (s.parts.map enc))), x3, x4, x5, x6, x7, x8, x9]) ?_ (fun _ _ ⟨h, _, _, _, _, _, _, _, h2⟩ => ⟨h, _, _, _, _, _, _, _, _, _, h2⟩) _ _ ⟨rfl, _, _, _, _, _, _, _, rfl⟩
    rintro o ho ρ S'' ⟨rfl, x3, x4, x5, x6, x7, x8, x9, rfl⟩
    have hoo := places_ok G ho
    have hos : ∀ x, o = some x → PyData.strOk x = true := fun x e => G.mso x (hoo x e)
    have gT : Gw 1000 600 32 (.tuple (((s.parts.filter fun p => decide (plc p.2 k = o)).map (·.1)).map PyData.str)) := g_tup (fun w hw => by
      obtain ⟨x, hx, rfl⟩ := List.mem_map.1 hw
      obtain ⟨p, hp, rfl⟩ := List.mem_map.1 hx
      exact flat3 (G.pn p (List.mem_filter.1 hp).1)) (by have := List.length_filter_le (fun p : Str × Sy => decide (plc p.2 k = o)) s.parts; simp; omega)
    refine ⟨_, rfl, ?_⟩
    refine zq15 ?_
    (repeat (with_reducible first | refine zq14 ?_ | refine zq11 ?_ | refine zq10 ?_ | refine zq3 ?_ | refine zq4 ?_ | refine zq5 ?_ | refine zq0 ?_ | refine zq8 ?_ | refine zq6 ?_ | refine zq1 ?_ | refine zq13 ?_ | refine zq12 ?_ | refine zq7 ?_ | refine zq2 ?_ | refine zq9 ?_))
    refine w_eq (lc_pure (enc := enc) (p := fun p => decide (plc p.2 k = o)) (out := fun q => .str q.1) s.parts [] (by simp; omega) fun p hp => ⟨[some (.val (encSite s)), some (.val (.int k)), some (.val (.list (s.parts.map enc))), x3, x4, some (.val (oS o)), x6, some (.val (.str p.1)), x8, some (.val (oS (plc p.2 k)))], by rw [henc]; rfl, wpX_ok ?_, fun _ => rfl⟩) ?_
    · (repeat (with_reducible first | refine zq14 ?_ | refine zq11 ?_ | refine zq10 ?_ | refine zq3 ?_ | refine zq4 ?_ | refine zq5 ?_ | refine zq0 ?_ | refine zq8 ?_ | refine zq6 ?_ | refine zq1 ?_ | refine zq13 ?_ | refine zq12 ?_ | refine zq7 ?_ | refine zq2 ?_ | refine zq9 ?_))
      refine wpO_rfl (eq_oS (pso p hp) hos) ?_
      (repeat (with_reducible first | refine zq14 ?_ | refine zq11 ?_ | refine zq10 ?_ | refine zq3 ?_ | refine zq4 ?_ | refine zq5 ?_ | refine zq0 ?_ | refine zq8 ?_ | refine zq6 ?_ | refine zq1 ?_ | refine zq13 ?_ | refine zq12 ?_ | refine zq7 ?_ | refine zq2 ?_ | refine zq9 ?_))
      exact ⟨rfl, rfl⟩
    rw [List.nil_append, show (s.parts.filter fun p => decide (plc p.2 k = o)).map (fun q => PyData.str q.1) = ((s.parts.filter fun p => decide (plc p.2 k = o)).map (·.1)).map PyData.str by rw [List.map_map]; rfl]
    (repeat (with_reducible first | refine zq14 ?_ | refine zq11 ?_ | refine zq10 ?_ | refine zq3 ?_ | refine zq4 ?_ | refine zq5 ?_ | refine zq0 ?_ | refine zq8 ?_ | refine zq6 ?_ | refine zq1 ?_ | refine zq13 ?_ | refine zq12 ?_ | refine zq7 ?_ | refine zq2 ?_ | refine zq9 ?_))
    refine w_eq (parts_at_eq G hoo hk0) ?_
    (repeat (with_reducible first | refine zq14 ?_ | refine zq11 ?_ | refine zq10 ?_ | refine zq3 ?_ | refine zq4 ?_ | refine zq5 ?_ | refine zq0 ?_ | refine zq8 ?_ | refine zq6 ?_ | refine zq1 ?_ | refine zq13 ?_ | refine zq12 ?_ | refine zq7 ?_ | refine zq2 ?_ | refine zq9 ?_))
    refine wpO_rfl (repr_g gT) ?_
    (repeat (with_reducible first | refine zq14 ?_ | refine zq11 ?_ | refine zq10 ?_ | refine zq3 ?_ | refine zq4 ?_ | refine zq5 ?_ | refine zq0 ?_ | refine zq8 ?_ | refine zq6 ?_ | refine zq1 ?_ | refine zq13 ?_ | refine zq12 ?_ | refine zq7 ?_ | refine zq2 ?_ | refine zq9 ?_))
    refine wpO_rfl (repr_g gT) ?_
    refine wpO_rfl repr_same ?_
    (repeat (with_reducible first | refine zq14 ?_ | refine zq11 ?_ | refine zq10 ?_ | refine zq3 ?_ | refine zq4 ?_ | refine zq5 ?_ | refine zq0 ?_ | refine zq8 ?_ | refine zq6 ?_ | refine zq1 ?_ | refine zq13 ?_ | refine zq12 ?_ | refine zq7 ?_ | refine zq2 ?_ | refine zq9 ?_))
    exact ⟨rfl, _, _, _, _, _, _, _, rfl⟩
  rintro ρ S' ⟨rfl, x1, x2, x3, x4, x5, x6, x7, x8, x9, rfl⟩
  (repeat (with_reducible first | refine zq14 ?_ | refine zq11 ?_ | refine zq10 ?_ | refine zq3 ?_ | refine zq4 ?_ | refine zq5 ?_ | refine zq0 ?_ | refine zq8 ?_ | refine zq6 ?_ | refine zq1 ?_ | refine zq13 ?_ | refine zq12 ?_ | refine zq7 ?_ | refine zq2 ?_ | refine zq9 ?_))
  exact ⟨rfl, rfl⟩
end
end WF
namespace WF
open PySem PySem.Spec PyProof.Rows L2 DL
end WF
namespace WF
open PySem PySem.Spec PyProof.Rows L2 DL
end WF
namespace WF
open PySem PySem.Spec PyProof.Rows L2 DL
end WF
namespace WF.TB
open PySem PySem.Spec PyProof.Rows L2 DL
def sprR (c : List Int) (a l t : Int) : Rec := .dct [("cells", .list (c.map PyData.int)), ("place", .int a), ("rest", .int l), ("count", .int t)]
def SprOk (x : Str) (S0 : Sto) (n : Nat) (S : Sto) : Prop := ∃ c a l t, S = Rec.tab x :: sprR c a l t :: S0 ∧ 0 ≤ t ∧ t + n ≤ 1000000
scoped instance iw_put1 {ρ : Ev} {S : Sto} {N : Ev → Sto → Prop} {Rt : Wd → Sto → Prop} {fo : Mx} {y : Str} {f : Mx} : Stp (DL.wpS (sPut fo y f ρ S) N Rt) (wpE (f ρ S) fun w S1 => wpE (fo ρ S1) fun o S2 => o = oW 1 ∧ wpO (recPut S2 1 y w) fun S3 => N ρ S3) := ⟨w_put⟩
theorem SprOk.le {x : Str} {S0 S : Sto} {n m : Nat} (h : SprOk x S0 n S) (hm : m ≤ n) : SprOk x S0 m S := by
  obtain ⟨c, a, l, t, e, h0, h1⟩ := h
  exact ⟨c, a, l, t, e, h0, by omega⟩
section
variable {x : Str} {c : List Int} {a l t i : Int} {x : Str} {S0 : Sto} {k : Sto → Prop} {K : Wd → Prop}
instance iws_count : Stp (oW 1 = oW 1 ∧ wpO (recPut (Rec.tab x :: sprR c a l t :: S0) 1 "count" (.int i)) k) (k (Rec.tab x :: sprR c a l i :: S0)) := ⟨fun h => ⟨rfl, _, rfl, h⟩⟩
instance iws_rest : Stp (oW 1 = oW 1 ∧ wpO (recPut (Rec.tab x :: sprR c a l t :: S0) 1 "rest" (.int i)) k) (k (Rec.tab x :: sprR c a i t :: S0)) := ⟨fun h => ⟨rfl, _, rfl, h⟩⟩
instance iws_place : Stp (oW 1 = oW 1 ∧ wpO (recPut (Rec.tab x :: sprR c a l t :: S0) 1 "place" (.int i)) k) (k (Rec.tab x :: sprR c i l t :: S0)) := ⟨fun h => ⟨rfl, _, rfl, h⟩⟩
end
section
variable {x : Str} {S S0 : Sto} {Q : Wd → Sto → Prop} {n : Nat}
end
end WF.TB
namespace WF.TB
open PySem PySem.Spec PyProof.Rows L2 DL PL
def FedOk (x0 : Str) (S0 S : Sto) : Prop := ∃ c a l t, S = Rec.tab x0 :: fedR c a l t :: S0
section
variable {x0 : Str} {c : List Int} {a l t i : Int} {S0 : Sto} {k : Sto → Prop} {K : Wd → Prop}
scoped instance iwd_count : Stp (oW 1 = oW 1 ∧ wpO (recPut (Rec.tab x0 :: fedR c a l t :: S0) 1 "count" (.int i)) k) (k (Rec.tab x0 :: fedR c a l i :: S0)) := ⟨fun h => ⟨rfl, _, rfl, h⟩⟩
scoped instance iwd_left : Stp (oW 1 = oW 1 ∧ wpO (recPut (Rec.tab x0 :: fedR c a l t :: S0) 1 "left" (.int i)) k) (k (Rec.tab x0 :: fedR c a i t :: S0)) := ⟨fun h => ⟨rfl, _, rfl, h⟩⟩
scoped instance iwd_at : Stp (oW 1 = oW 1 ∧ wpO (recPut (Rec.tab x0 :: fedR c a l t :: S0) 1 "at" (.int i)) k) (k (Rec.tab x0 :: fedR c i l t :: S0)) := ⟨fun h => ⟨rfl, _, rfl, h⟩⟩
end
section
variable {x0 : Str} {S S0 : Sto} {Q : Wd → Sto → Prop}
theorem feed_k01_eq {ns : List Int} (h : ns.length ≤ 63) : g_feed_k01 [.list (ns.map PyData.int)] [Rec.tab x0] = .ok (oW 1) [Rec.tab x0, fedR ns 0 0 0] := by
  refine wpR_ok (w_def rfl ?_)
  unfold m_feed_k01
  (repeat (first | with_reducible refine zq15 ?_ | (with_reducible first | refine zq14 ?_ | refine zq11 ?_ | refine zq10 ?_ | refine zq3 ?_ | refine zq4 ?_ | refine zq5 ?_ | refine zq0 ?_ | refine zq8 ?_ | refine zq6 ?_ | refine zq1 ?_ | refine zq13 ?_ | refine zq12 ?_ | refine zq7 ?_ | refine zq2 ?_ | refine zq9 ?_)))
  have e : DL.cutD (ns.map PyData.int) none (some 63) = ns.map PyData.int := by
    refine cut_whole ⟨rfl, ?_⟩
    show min 63 (ns.map PyData.int).length = _
    rw [List.length_map]
    omega
  rw [e]
  exact ⟨rfl, rfl⟩
theorem draw_k01_wp {m : Int} (hS : FedOk x0 S0 S) (h0 : 0 < m) (h1 : m < 1073741824) (q : ∀ d S', 0 ≤ d → d < m → FedOk x0 S0 S' → Q (.int d) S') : wpE (g_draw_k01 [oW 1, .int m] S) Q := by
  obtain ⟨c, a, l, t, rfl⟩ := hS
  have fin : ∀ (i : Int) (S' : Sto), FedOk x0 S0 S' → Q (.int (i % m)) S' := fun i S' h => q _ S' (Int.emod_nonneg _ (by omega)) (Int.emod_lt_of_pos _ h0) h
  have ok : ∀ c a l t, FedOk x0 S0 (Rec.tab x0 :: fedR c a l t :: S0) := fun c a l t => ⟨c, a, l, t, rfl⟩
  refine w_def rfl ?_
  unfold m_draw_k01
  refine zq15 ?_
  (repeat (with_reducible first | refine zq14 ?_ | refine zq11 ?_ | refine zq10 ?_ | refine zq3 ?_ | refine zq4 ?_ | refine zq5 ?_ | refine zq0 ?_ | refine zq8 ?_ | refine zq6 ?_ | refine zq1 ?_ | refine zq13 ?_ | refine zq12 ?_ | refine zq7 ?_ | refine zq2 ?_ | refine zq9 ?_))
  refine zq15 ?_
  (repeat (with_reducible first | refine zq14 ?_ | refine zq11 ?_ | refine zq10 ?_ | refine zq3 ?_ | refine zq4 ?_ | refine zq5 ?_ | refine zq0 ?_ | refine zq8 ?_ | refine zq6 ?_ | refine zq1 ?_ | refine zq13 ?_ | refine zq12 ?_ | refine zq7 ?_ | refine zq2 ?_ | refine zq9 ?_))
  refine w_b (fun hl => ?_) (fun hl => ?_)
  · (repeat (first | with_reducible refine zq15 ?_ | (with_reducible first | refine zq14 ?_ | refine zq11 ?_ | refine zq10 ?_ | refine zq3 ?_ | refine zq4 ?_ | refine zq5 ?_ | refine zq0 ?_ | refine zq8 ?_ | refine zq6 ?_ | refine zq1 ?_ | refine zq13 ?_ | refine zq12 ?_ | refine zq7 ?_ | refine zq2 ?_ | refine zq9 ?_)))
    exact fin _ _ (ok _ _ _ _)
  refine zq15 ?_
  (repeat (with_reducible first | refine zq14 ?_ | refine zq11 ?_ | refine zq10 ?_ | refine zq3 ?_ | refine zq4 ?_ | refine zq5 ?_ | refine zq0 ?_ | refine zq8 ?_ | refine zq6 ?_ | refine zq1 ?_ | refine zq13 ?_ | refine zq12 ?_ | refine zq7 ?_ | refine zq2 ?_ | refine zq9 ?_))
  refine zq15 ?_
  (repeat (with_reducible first | refine zq14 ?_ | refine zq11 ?_ | refine zq10 ?_ | refine zq3 ?_ | refine zq4 ?_ | refine zq5 ?_ | refine zq0 ?_ | refine zq8 ?_ | refine zq6 ?_ | refine zq1 ?_ | refine zq13 ?_ | refine zq12 ?_ | refine zq7 ?_ | refine zq2 ?_ | refine zq9 ?_))
  refine w_seqJ (fun ρ S => ∃ z : Int, S = Rec.tab x0 :: fedR c (a + 1) l (t + 1) :: S0 ∧ ρ = [some (.val (oW 1)), some (.val (.int m)), none, some (.val (.int a)), some (.val (.int z)), none]) ?_ ?_
  · (repeat (with_reducible first | refine zq14 ?_ | refine zq11 ?_ | refine zq10 ?_ | refine zq3 ?_ | refine zq4 ?_ | refine zq5 ?_ | refine zq0 ?_ | refine zq8 ?_ | refine zq6 ?_ | refine zq1 ?_ | refine zq13 ?_ | refine zq12 ?_ | refine zq7 ?_ | refine zq2 ?_ | refine zq9 ?_))
    refine wpO_rfl gNe_cells ?_
    (repeat (with_reducible first | refine zq14 ?_ | refine zq11 ?_ | refine zq10 ?_ | refine zq3 ?_ | refine zq4 ?_ | refine zq5 ?_ | refine zq0 ?_ | refine zq8 ?_ | refine zq6 ?_ | refine zq1 ?_ | refine zq13 ?_ | refine zq12 ?_ | refine zq7 ?_ | refine zq2 ?_ | refine zq9 ?_))
    refine w_b (fun hc => ?_) (fun hc => ?_)
    · have hc1 : 0 < c.length := by
        cases c with
        | nil => cases hc
        | cons _ _ => exact Nat.succ_pos _
      (repeat (with_reducible first | refine zq14 ?_ | refine zq11 ?_ | refine zq10 ?_ | refine zq3 ?_ | refine zq4 ?_ | refine zq5 ?_ | refine zq0 ?_ | refine zq8 ?_ | refine zq6 ?_ | refine zq1 ?_ | refine zq13 ?_ | refine zq12 ?_ | refine zq7 ?_ | refine zq2 ?_ | refine zq9 ?_))
      refine wo_mod (by simpa using hc1) ?_
      have hx : 0 ≤ a % ((c.map PyData.int).length : Int) := Int.emod_nonneg _ (by rw [List.length_map]; omega)
      have hy : a % ((c.map PyData.int).length : Int) < (c.map PyData.int).length := Int.emod_lt_of_pos _ (by simpa using hc1)
      (repeat (with_reducible first | refine zq14 ?_ | refine zq11 ?_ | refine zq10 ?_ | refine zq3 ?_ | refine zq4 ?_ | refine zq5 ?_ | refine zq0 ?_ | refine zq8 ?_ | refine zq6 ?_ | refine zq1 ?_ | refine zq13 ?_ | refine zq12 ?_ | refine zq7 ?_ | refine zq2 ?_ | refine zq9 ?_))
      refine wpO_rfl (atI_in hx hy) ?_
      rw [List.getElem_map]
      exact ⟨_, rfl, rfl⟩
    · (repeat (with_reducible first | refine zq14 ?_ | refine zq11 ?_ | refine zq10 ?_ | refine zq3 ?_ | refine zq4 ?_ | refine zq5 ?_ | refine zq0 ?_ | refine zq8 ?_ | refine zq6 ?_ | refine zq1 ?_ | refine zq13 ?_ | refine zq12 ?_ | refine zq7 ?_ | refine zq2 ?_ | refine zq9 ?_))
      exact ⟨_, rfl, rfl⟩
  · rintro ρ S ⟨z, rfl, rfl⟩
    refine zq15 ?_
    refine w_ifS ?_
    refine wpE_mono (Q := fun b S1 => S1 = Rec.tab x0 :: fedR c (a + 1) l (t + 1) :: S0) ?_ ?_
    · (repeat (with_reducible first | refine zq14 ?_ | refine zq11 ?_ | refine zq10 ?_ | refine zq3 ?_ | refine zq4 ?_ | refine zq5 ?_ | refine zq0 ?_ | refine zq8 ?_ | refine zq6 ?_ | refine zq1 ?_ | refine zq13 ?_ | refine zq12 ?_ | refine zq7 ?_ | refine zq2 ?_ | refine zq9 ?_))
      refine w_b (fun hl => ?_) (fun hl => ?_)
      · (repeat (with_reducible first | refine zq14 ?_ | refine zq11 ?_ | refine zq10 ?_ | refine zq3 ?_ | refine zq4 ?_ | refine zq5 ?_ | refine zq0 ?_ | refine zq8 ?_ | refine zq6 ?_ | refine zq1 ?_ | refine zq13 ?_ | refine zq12 ?_ | refine zq7 ?_ | refine zq2 ?_ | refine zq9 ?_))
        rfl
      · rfl
    rintro b _ rfl
    cases b with
    | true =>
      (repeat (with_reducible first | refine zq14 ?_ | refine zq11 ?_ | refine zq10 ?_ | refine zq3 ?_ | refine zq4 ?_ | refine zq5 ?_ | refine zq0 ?_ | refine zq8 ?_ | refine zq6 ?_ | refine zq1 ?_ | refine zq13 ?_ | refine zq12 ?_ | refine zq7 ?_ | refine zq2 ?_ | refine zq9 ?_))
      refine zq15 ?_
      (repeat (with_reducible first | refine zq14 ?_ | refine zq11 ?_ | refine zq10 ?_ | refine zq3 ?_ | refine zq4 ?_ | refine zq5 ?_ | refine zq0 ?_ | refine zq8 ?_ | refine zq6 ?_ | refine zq1 ?_ | refine zq13 ?_ | refine zq12 ?_ | refine zq7 ?_ | refine zq2 ?_ | refine zq9 ?_))
      exact fin _ _ (ok _ _ _ _)
    | false =>
      (repeat (with_reducible first | refine zq14 ?_ | refine zq11 ?_ | refine zq10 ?_ | refine zq3 ?_ | refine zq4 ?_ | refine zq5 ?_ | refine zq0 ?_ | refine zq8 ?_ | refine zq6 ?_ | refine zq1 ?_ | refine zq13 ?_ | refine zq12 ?_ | refine zq7 ?_ | refine zq2 ?_ | refine zq9 ?_))
      refine zq15 ?_
      (repeat (with_reducible first | refine zq14 ?_ | refine zq11 ?_ | refine zq10 ?_ | refine zq3 ?_ | refine zq4 ?_ | refine zq5 ?_ | refine zq0 ?_ | refine zq8 ?_ | refine zq6 ?_ | refine zq1 ?_ | refine zq13 ?_ | refine zq12 ?_ | refine zq7 ?_ | refine zq2 ?_ | refine zq9 ?_))
      refine zq15 ?_
      generalize hx : (z % 1000000531 + 230017 * (t + 1) + 101) % 2147482951 = x
      have x0 : 0 ≤ x := by rw [← hx]; exact Int.emod_nonneg _ (by decide)
      have x1 : x < 2147482951 := by rw [← hx]; exact Int.emod_lt_of_pos _ (by decide)
      (repeat (with_reducible first | refine zq14 ?_ | refine zq11 ?_ | refine zq10 ?_ | refine zq3 ?_ | refine zq4 ?_ | refine zq5 ?_ | refine zq0 ?_ | refine zq8 ?_ | refine zq6 ?_ | refine zq1 ?_ | refine zq13 ?_ | refine zq12 ?_ | refine zq7 ?_ | refine zq2 ?_ | refine zq9 ?_))
      generalize hy : (x * x + 5100007 * (t + 1) + 59) % 2147482949 = y
      have y0 : 0 ≤ y := by rw [← hy]; exact Int.emod_nonneg _ (by decide)
      have y1 : y < 2147482949 := by rw [← hy]; exact Int.emod_lt_of_pos _ (by decide)
      (repeat (with_reducible first | refine zq14 ?_ | refine zq11 ?_ | refine zq10 ?_ | refine zq3 ?_ | refine zq4 ?_ | refine zq5 ?_ | refine zq0 ?_ | refine zq8 ?_ | refine zq6 ?_ | refine zq1 ?_ | refine zq13 ?_ | refine zq12 ?_ | refine zq7 ?_ | refine zq2 ?_ | refine zq9 ?_))
      exact fin _ _ (ok _ _ _ _)
theorem limit_k01_wp : ∀ (n k : Nat) (S : Sto) (Q : Wd → Sto → Prop), FedOk x0 S0 S → n < k → (∀ l S', LimB 1 99 n l → szL l ≤ zK n → FedOk x0 S0 S' → Q (encL l) S') → wpE (g_limit_k01 k [oW 1, .int n] S) Q := by
  have hz := siz
  intro n
  induction n with
  | zero =>
    intro k S Q hS hk q
    obtain ⟨k, rfl⟩ : ∃ k', k = k' + 1 := ⟨k - 1, by omega⟩
    refine w_def rfl ?_
    unfold m_limit_k01
    refine zq15 ?_
    (repeat (with_reducible first | refine zq14 ?_ | refine zq11 ?_ | refine zq10 ?_ | refine zq3 ?_ | refine zq4 ?_ | refine zq5 ?_ | refine zq0 ?_ | refine zq8 ?_ | refine zq6 ?_ | refine zq1 ?_ | refine zq13 ?_ | refine zq12 ?_ | refine zq7 ?_ | refine zq2 ?_ | refine zq9 ?_))
    refine draw_k01_wp hS (by decide) (by decide) fun d S' hd0 hd1 hS' => ?_
    refine zq15 ?_
    refine w_ifS ?_
    refine wpE_mono (Q := fun b S1 => S1 = S' ∧ b = true) ?_ ?_
    · (repeat (with_reducible first | refine zq14 ?_ | refine zq11 ?_ | refine zq10 ?_ | refine zq3 ?_ | refine zq4 ?_ | refine zq5 ?_ | refine zq0 ?_ | refine zq8 ?_ | refine zq6 ?_ | refine zq1 ?_ | refine zq13 ?_ | refine zq12 ?_ | refine zq7 ?_ | refine zq2 ?_ | refine zq9 ?_))
      refine w_b (fun _ => ⟨rfl, rfl⟩) fun _ => ?_
      (repeat (with_reducible first | refine zq14 ?_ | refine zq11 ?_ | refine zq10 ?_ | refine zq3 ?_ | refine zq4 ?_ | refine zq5 ?_ | refine zq0 ?_ | refine zq8 ?_ | refine zq6 ?_ | refine zq1 ?_ | refine zq13 ?_ | refine zq12 ?_ | refine zq7 ?_ | refine zq2 ?_ | refine zq9 ?_))
      exact ⟨rfl, rfl⟩
    rintro b _ ⟨rfl, rfl⟩
    (repeat (with_reducible first | refine zq14 ?_ | refine zq11 ?_ | refine zq10 ?_ | refine zq3 ?_ | refine zq4 ?_ | refine zq5 ?_ | refine zq0 ?_ | refine zq8 ?_ | refine zq6 ?_ | refine zq1 ?_ | refine zq13 ?_ | refine zq12 ?_ | refine zq7 ?_ | refine zq2 ?_ | refine zq9 ?_))
    refine zq15 ?_
    (repeat (with_reducible first | refine zq14 ?_ | refine zq11 ?_ | refine zq10 ?_ | refine zq3 ?_ | refine zq4 ?_ | refine zq5 ?_ | refine zq0 ?_ | refine zq8 ?_ | refine zq6 ?_ | refine zq1 ?_ | refine zq13 ?_ | refine zq12 ?_ | refine zq7 ?_ | refine zq2 ?_ | refine zq9 ?_))
    refine draw_k01_wp hS' (by decide) (by decide) fun d2 S2 h20 h21 hS2 => ?_
    refine pickK h20 (by simpa using h21) fun y hy => ?_
    obtain ⟨i, rfl, hi⟩ : ∃ i : Int, y = .int i ∧ 1 ≤ i ∧ i ≤ 99 := by
      simp only [List.mem_cons, List.mem_nil_iff, or_false] at hy
      rcases hy with rfl | rfl | rfl | rfl | rfl | rfl <;> exact ⟨_, rfl, by decide, by decide⟩
    (repeat (with_reducible first | refine zq14 ?_ | refine zq11 ?_ | refine zq10 ?_ | refine zq3 ?_ | refine zq4 ?_ | refine zq5 ?_ | refine zq0 ?_ | refine zq8 ?_ | refine zq6 ?_ | refine zq1 ?_ | refine zq13 ?_ | refine zq12 ?_ | refine zq7 ?_ | refine zq2 ?_ | refine zq9 ?_))
    refine pickK (Int.emod_nonneg _ (by decide)) (by have := Int.emod_lt_of_pos d (show (0 : Int) < 3 by decide); simpa using this) fun y hy => ?_
    obtain ⟨w, rfl⟩ : ∃ w : CW, y = .str w.str := by
      simp only [List.mem_cons, List.mem_nil_iff, or_false] at hy
      rcases hy with rfl | rfl | rfl
      · exact ⟨.hours, rfl⟩
      · exact ⟨.cycles, rfl⟩
      · exact ⟨.days, rfl⟩
    (repeat (with_reducible first | refine zq14 ?_ | refine zq11 ?_ | refine zq10 ?_ | refine zq3 ?_ | refine zq4 ?_ | refine zq5 ?_ | refine zq0 ?_ | refine zq8 ?_ | refine zq6 ?_ | refine zq1 ?_ | refine zq13 ?_ | refine zq12 ?_ | refine zq7 ?_ | refine zq2 ?_ | refine zq9 ?_))
    exact q (.one w i) _ (LimB.mk_one hi) (Nat.le_refl _) hS2
  | succ n ih =>
    intro k S Q hS hk q
    obtain ⟨k, rfl⟩ : ∃ k', k = k' + 1 := ⟨k - 1, by omega⟩
    refine w_def rfl ?_
    unfold m_limit_k01
    refine zq15 ?_
    (repeat (with_reducible first | refine zq14 ?_ | refine zq11 ?_ | refine zq10 ?_ | refine zq3 ?_ | refine zq4 ?_ | refine zq5 ?_ | refine zq0 ?_ | refine zq8 ?_ | refine zq6 ?_ | refine zq1 ?_ | refine zq13 ?_ | refine zq12 ?_ | refine zq7 ?_ | refine zq2 ?_ | refine zq9 ?_))
    refine draw_k01_wp hS (by decide) (by decide) fun d S' hd0 hd1 hS' => ?_
    refine zq15 ?_
    refine w_ifS ?_
    refine wpE_mono (Q := fun b S1 => S1 = S') ?_ ?_
    · (repeat (with_reducible first | refine zq14 ?_ | refine zq11 ?_ | refine zq10 ?_ | refine zq3 ?_ | refine zq4 ?_ | refine zq5 ?_ | refine zq0 ?_ | refine zq8 ?_ | refine zq6 ?_ | refine zq1 ?_ | refine zq13 ?_ | refine zq12 ?_ | refine zq7 ?_ | refine zq2 ?_ | refine zq9 ?_))
      refine w_b (fun _ => rfl) fun _ => ?_
      (repeat (with_reducible first | refine zq14 ?_ | refine zq11 ?_ | refine zq10 ?_ | refine zq3 ?_ | refine zq4 ?_ | refine zq5 ?_ | refine zq0 ?_ | refine zq8 ?_ | refine zq6 ?_ | refine zq1 ?_ | refine zq13 ?_ | refine zq12 ?_ | refine zq7 ?_ | refine zq2 ?_ | refine zq9 ?_))
      rfl
    rintro b _ rfl
    cases b with
    | true =>
      (repeat (with_reducible first | refine zq14 ?_ | refine zq11 ?_ | refine zq10 ?_ | refine zq3 ?_ | refine zq4 ?_ | refine zq5 ?_ | refine zq0 ?_ | refine zq8 ?_ | refine zq6 ?_ | refine zq1 ?_ | refine zq13 ?_ | refine zq12 ?_ | refine zq7 ?_ | refine zq2 ?_ | refine zq9 ?_))
      refine zq15 ?_
      (repeat (with_reducible first | refine zq14 ?_ | refine zq11 ?_ | refine zq10 ?_ | refine zq3 ?_ | refine zq4 ?_ | refine zq5 ?_ | refine zq0 ?_ | refine zq8 ?_ | refine zq6 ?_ | refine zq1 ?_ | refine zq13 ?_ | refine zq12 ?_ | refine zq7 ?_ | refine zq2 ?_ | refine zq9 ?_))
      refine draw_k01_wp hS' (by decide) (by decide) fun d2 S2 h20 h21 hS2 => ?_
      refine pickK h20 (by simpa using h21) fun y hy => ?_
      obtain ⟨i, rfl, hi⟩ : ∃ i : Int, y = .int i ∧ 1 ≤ i ∧ i ≤ 99 := by
        simp only [List.mem_cons, List.mem_nil_iff, or_false] at hy
        rcases hy with rfl | rfl | rfl | rfl | rfl | rfl <;> exact ⟨_, rfl, by decide, by decide⟩
      (repeat (with_reducible first | refine zq14 ?_ | refine zq11 ?_ | refine zq10 ?_ | refine zq3 ?_ | refine zq4 ?_ | refine zq5 ?_ | refine zq0 ?_ | refine zq8 ?_ | refine zq6 ?_ | refine zq1 ?_ | refine zq13 ?_ | refine zq12 ?_ | refine zq7 ?_ | refine zq2 ?_ | refine zq9 ?_))
      refine pickK (Int.emod_nonneg _ (by decide)) (by have := Int.emod_lt_of_pos d (show (0 : Int) < 3 by decide); simpa using this) fun y hy => ?_
      obtain ⟨w, rfl⟩ : ∃ w : CW, y = .str w.str := by
        simp only [List.mem_cons, List.mem_nil_iff, or_false] at hy
        rcases hy with rfl | rfl | rfl
        · exact ⟨.hours, rfl⟩
        · exact ⟨.cycles, rfl⟩
        · exact ⟨.days, rfl⟩
      (repeat (with_reducible first | refine zq14 ?_ | refine zq11 ?_ | refine zq10 ?_ | refine zq3 ?_ | refine zq4 ?_ | refine zq5 ?_ | refine zq0 ?_ | refine zq8 ?_ | refine zq6 ?_ | refine zq1 ?_ | refine zq13 ?_ | refine zq12 ?_ | refine zq7 ?_ | refine zq2 ?_ | refine zq9 ?_))
      exact q (.one w i) _ (LimB.mk_one hi) (zK_pos _) hS2
    | false =>
      (repeat (with_reducible first | refine zq14 ?_ | refine zq11 ?_ | refine zq10 ?_ | refine zq3 ?_ | refine zq4 ?_ | refine zq5 ?_ | refine zq0 ?_ | refine zq8 ?_ | refine zq6 ?_ | refine zq1 ?_ | refine zq13 ?_ | refine zq12 ?_ | refine zq7 ?_ | refine zq2 ?_ | refine zq9 ?_))
      refine zq15 ?_
      (repeat (with_reducible first | refine zq14 ?_ | refine zq11 ?_ | refine zq10 ?_ | refine zq3 ?_ | refine zq4 ?_ | refine zq5 ?_ | refine zq0 ?_ | refine zq8 ?_ | refine zq6 ?_ | refine zq1 ?_ | refine zq13 ?_ | refine zq12 ?_ | refine zq7 ?_ | refine zq2 ?_ | refine zq9 ?_))
      refine draw_k01_wp hS' (by decide) (by decide) fun d2 S2 h20 h21 hS2 => ?_
      (repeat (with_reducible first | refine zq14 ?_ | refine zq11 ?_ | refine zq10 ?_ | refine zq3 ?_ | refine zq4 ?_ | refine zq5 ?_ | refine zq0 ?_ | refine zq8 ?_ | refine zq6 ?_ | refine zq1 ?_ | refine zq13 ?_ | refine zq12 ?_ | refine zq7 ?_ | refine zq2 ?_ | refine zq9 ?_))
      refine ⟨by omega, ?_⟩
      refine wp_lc (I := fun r acc S' => FedOk x0 S0 S' ∧ ∃ ls : List Lim, acc = ls.map encL ∧ 0 < ls.length + r.length ∧ ls.length + r.length ≤ 3 ∧ ∀ l ∈ ls, LimB 1 99 n l ∧ szL l ≤ zK n) ?_ ?_ _ _ _ ⟨hS2, [], rfl, by simp [rangeD]; omega, by simp [rangeD]; omega, by simp⟩
      · rintro w r acc S' ⟨hS', ls, rfl, hl0, hl, ha⟩
        refine ⟨_, rfl, ?_⟩
        (repeat (with_reducible first | refine zq14 ?_ | refine zq11 ?_ | refine zq10 ?_ | refine zq3 ?_ | refine zq4 ?_ | refine zq5 ?_ | refine zq0 ?_ | refine zq8 ?_ | refine zq6 ?_ | refine zq1 ?_ | refine zq13 ?_ | refine zq12 ?_ | refine zq7 ?_ | refine zq2 ?_ | refine zq9 ?_))
        have e : ((n + 1 : Nat) : Int) - 1 = (n : Nat) := by omega
        rw [e]
        simp only [List.length_cons] at hl hl0
        refine ih k S' _ hS' (by omega) fun l S' hw hw2 hS' => ⟨by simp; omega, hS', ls ++ [l], by simp, by simp; omega, by simp; omega, ?_⟩
        intro x hx
        rcases List.mem_append.1 hx with hx | hx
        · exact ha x hx
        · rw [List.mem_singleton.1 hx]; exact ⟨hw, hw2⟩
      · rintro acc S' ⟨hS', ls, rfl, hl0, hl, ha⟩
        simp only [List.length_nil, Nat.add_zero] at hl hl0
        (repeat (with_reducible first | refine zq14 ?_ | refine zq11 ?_ | refine zq10 ?_ | refine zq3 ?_ | refine zq4 ?_ | refine zq5 ?_ | refine zq0 ?_ | refine zq8 ?_ | refine zq6 ?_ | refine zq1 ?_ | refine zq13 ?_ | refine zq12 ?_ | refine zq7 ?_ | refine zq2 ?_ | refine zq9 ?_))
        refine pickK (Int.emod_nonneg _ (by decide)) (by have := Int.emod_lt_of_pos d (show (0 : Int) < 2 by decide); simpa using this) fun y hy => ?_
        obtain ⟨b, rfl⟩ : ∃ b, y = .str (jw b) := by
          simp only [List.mem_cons, List.mem_nil_iff, or_false] at hy
          rcases hy with rfl | rfl
          · exact ⟨false, rfl⟩
          · exact ⟨true, rfl⟩
        (repeat (with_reducible first | refine zq14 ?_ | refine zq11 ?_ | refine zq10 ?_ | refine zq3 ?_ | refine zq4 ?_ | refine zq5 ?_ | refine zq0 ?_ | refine zq8 ?_ | refine zq6 ?_ | refine zq1 ?_ | refine zq13 ?_ | refine zq12 ?_ | refine zq7 ?_ | refine zq2 ?_ | refine zq9 ?_))
        have q := q (.join b ls) S'
        rw [encL_join] at q
        refine q (LimB.mk_join (List.length_pos_iff.1 hl0) (by omega) fun l hl => (ha l hl).1) ?_ hS'
        have h2 := szLsK fun l hl => (ha l hl).2
        have h3 := Nat.mul_le_mul_right (zK n) hl
        simp only [szL, zK]
        omega
theorem slack_k01_wp (hS : FedOk x0 S0 S) (q : ∀ (a : Int × Int × Int) S', (0 ≤ a.1 ∧ a.1 ≤ 9) ∧ (0 ≤ a.2.1 ∧ a.2.1 ≤ 9) ∧ (0 ≤ a.2.2 ∧ a.2.2 ≤ 9) → FedOk x0 S0 S' → Q (encSl a) S') : wpE (g_slack_k01 [oW 1] S) Q := by
  have hz := siz
  refine w_def rfl ?_
  unfold m_slack_k01
  (repeat (with_reducible first | refine zq14 ?_ | refine zq11 ?_ | refine zq10 ?_ | refine zq3 ?_ | refine zq4 ?_ | refine zq5 ?_ | refine zq0 ?_ | refine zq8 ?_ | refine zq6 ?_ | refine zq1 ?_ | refine zq13 ?_ | refine zq12 ?_ | refine zq7 ?_ | refine zq2 ?_ | refine zq9 ?_))
  refine ⟨by decide, ?_⟩
  refine wp_lc (I := fun r acc S' => FedOk x0 S0 S' ∧ ∃ ns : List Int, acc = ns.map PyData.int ∧ ns.length + r.length = 3 ∧ ∀ i ∈ ns, 0 ≤ i ∧ i ≤ 9) ?_ ?_ _ _ _ ⟨hS, [], rfl, by decide, by simp⟩
  · rintro w r acc S' ⟨hS', ns, rfl, hl, ha⟩
    refine ⟨_, rfl, ?_⟩
    (repeat (with_reducible first | refine zq14 ?_ | refine zq11 ?_ | refine zq10 ?_ | refine zq3 ?_ | refine zq4 ?_ | refine zq5 ?_ | refine zq0 ?_ | refine zq8 ?_ | refine zq6 ?_ | refine zq1 ?_ | refine zq13 ?_ | refine zq12 ?_ | refine zq7 ?_ | refine zq2 ?_ | refine zq9 ?_))
    simp only [List.length_cons] at hl
    refine draw_k01_wp hS' (by decide) (by decide) fun d S2 hd0 hd1 hS2 => ?_
    refine pickK hd0 (by simpa using hd1) fun y hy => ?_
    obtain ⟨i, rfl, hi⟩ : ∃ i : Int, y = .int i ∧ 0 ≤ i ∧ i ≤ 9 := by
      simp only [List.mem_cons, List.mem_nil_iff, or_false] at hy
      rcases hy with rfl | rfl | rfl | rfl | rfl <;> exact ⟨_, rfl, by decide, by decide⟩
    refine ⟨by simp; omega, hS2, ns ++ [i], by simp, by simp; omega, ?_⟩
    intro x hx
    rcases List.mem_append.1 hx with hx | hx
    · exact ha x hx
    · rw [List.mem_singleton.1 hx]
      exact hi
  rintro acc S' ⟨hS', ns, rfl, hal, ha⟩
  simp only [List.length_nil, Nat.add_zero] at hal
  obtain ⟨i1, i2, i3, rfl⟩ : ∃ a b c, ns = [a, b, c] := by
    match ns, hal with
    | [a, b, c], _ => exact ⟨a, b, c, rfl⟩
  (repeat (with_reducible first | refine zq14 ?_ | refine zq11 ?_ | refine zq10 ?_ | refine zq3 ?_ | refine zq4 ?_ | refine zq5 ?_ | refine zq0 ?_ | refine zq8 ?_ | refine zq6 ?_ | refine zq1 ?_ | refine zq13 ?_ | refine zq12 ?_ | refine zq7 ?_ | refine zq2 ?_ | refine zq9 ?_))
  exact q (i1, i2, i3) _ ⟨ha i1 (by simp), ha i2 (by simp), ha i3 (by simp)⟩ hS'
theorem stays_k01_wp {nm : List Str} (hnl : nm.length ≤ 3) (hS : FedOk x0 S0 S) (q : ∀ st S', StK nm 3 st → FedOk x0 S0 S' → Q (encSy st) S') : wpE (g_stays_k01 [oW 1, .list (nm.map .str)] S) Q := by
  have hz := siz
  refine w_def rfl ?_
  unfold m_stays_k01
  refine zq15 ?_
  (repeat (with_reducible first | refine zq14 ?_ | refine zq11 ?_ | refine zq10 ?_ | refine zq3 ?_ | refine zq4 ?_ | refine zq5 ?_ | refine zq0 ?_ | refine zq8 ?_ | refine zq6 ?_ | refine zq1 ?_ | refine zq13 ?_ | refine zq12 ?_ | refine zq7 ?_ | refine zq2 ?_ | refine zq9 ?_))
  refine zq15 ?_
  (repeat (with_reducible first | refine zq14 ?_ | refine zq11 ?_ | refine zq10 ?_ | refine zq3 ?_ | refine zq4 ?_ | refine zq5 ?_ | refine zq0 ?_ | refine zq8 ?_ | refine zq6 ?_ | refine zq1 ?_ | refine zq13 ?_ | refine zq12 ?_ | refine zq7 ?_ | refine zq2 ?_ | refine zq9 ?_))
  refine draw_k01_wp hS (by decide) (by decide) fun d S' hd0 hd1 hS' => ?_
  (repeat (with_reducible first | refine zq14 ?_ | refine zq11 ?_ | refine zq10 ?_ | refine zq3 ?_ | refine zq4 ?_ | refine zq5 ?_ | refine zq0 ?_ | refine zq8 ?_ | refine zq6 ?_ | refine zq1 ?_ | refine zq13 ?_ | refine zq12 ?_ | refine zq7 ?_ | refine zq2 ?_ | refine zq9 ?_))
  refine ⟨by omega, ?_⟩
  refine wp_for (I := fun r ρ S' => FedOk x0 S0 S' ∧ ∃ (done : Sy) (a : Int) (x : Option Sl), ρ = [some (.val (oW 1)), some (.val (.list (nm.map .str))), some (.own (done.map encS)), some (.val (.int a)), x] ∧ 0 < done.length + r.length ∧ done.length + r.length ≤ 3 ∧ 0 ≤ a ∧ a ≤ 10 * done.length ∧ (done = [] → a = 0) ∧ (done ≠ [] → ∃ p r, done = (0, p) :: r) ∧
    (∀ s ∈ done, s.1 < a ∧ 0 ≤ s.1) ∧ (∀ s ∈ done, ∀ x, s.2 = some x → x ∈ nm) ∧ (done.map (·.1)).Pairwise (· < ·)) ?_ ?_ _ _ _
    ⟨hS', [], 0, none, rfl, by simp [rangeD]; omega, by simp [rangeD]; omega, by simp, by simp, fun _ => rfl, fun h => absurd rfl h, by simp, by simp, by simp⟩
  · rintro w r ρ S' ⟨hS', done, a, x, rfl, hl0, hl, ha0, ha, hnil, hne, hlt, hnm, hri⟩
    simp only [List.length_cons] at hl hl0
    refine ⟨_, rfl, ?_⟩
    refine zq15 ?_
    (repeat (with_reducible first | refine zq14 ?_ | refine zq11 ?_ | refine zq10 ?_ | refine zq3 ?_ | refine zq4 ?_ | refine zq5 ?_ | refine zq0 ?_ | refine zq8 ?_ | refine zq6 ?_ | refine zq1 ?_ | refine zq13 ?_ | refine zq12 ?_ | refine zq7 ?_ | refine zq2 ?_ | refine zq9 ?_))
    refine wpO_rfl (w := .list (nm.map PyData.str ++ [PyData.none])) (by show (if _ then _ else _) = _; rw [if_pos (by simp; omega)]) ?_
    (repeat (with_reducible first | refine zq14 ?_ | refine zq11 ?_ | refine zq10 ?_ | refine zq3 ?_ | refine zq4 ?_ | refine zq5 ?_ | refine zq0 ?_ | refine zq8 ?_ | refine zq6 ?_ | refine zq1 ?_ | refine zq13 ?_ | refine zq12 ?_ | refine zq7 ?_ | refine zq2 ?_ | refine zq9 ?_))
    refine draw_k01_wp hS' (by rw [List.length_map]; omega) (by rw [List.length_map]; omega) fun d S2 hd0 hd1 hS2 => ?_
    refine pickK hd0 (by simpa using hd1) fun y hy => ?_
    obtain ⟨p, rfl, hp⟩ : ∃ p : Option Str, y = oS p ∧ ∀ x, p = some x → x ∈ nm := by
      rcases List.mem_append.1 hy with hy | hy
      · obtain ⟨x, hx, rfl⟩ := List.mem_map.1 hy
        exact ⟨some x, rfl, fun x' e => by cases e; exact hx⟩
      · rw [List.mem_singleton.1 hy]
        exact ⟨none, rfl, fun _ e => by cases e⟩
    (repeat (with_reducible first | refine zq14 ?_ | refine zq11 ?_ | refine zq10 ?_ | refine zq3 ?_ | refine zq4 ?_ | refine zq5 ?_ | refine zq0 ?_ | refine zq8 ?_ | refine zq6 ?_ | refine zq1 ?_ | refine zq13 ?_ | refine zq12 ?_ | refine zq7 ?_ | refine zq2 ?_ | refine zq9 ?_))
    refine ⟨by simp; omega, ?_⟩
    refine w_aug rfl ?_
    (repeat (with_reducible first | refine zq14 ?_ | refine zq11 ?_ | refine zq10 ?_ | refine zq3 ?_ | refine zq4 ?_ | refine zq5 ?_ | refine zq0 ?_ | refine zq8 ?_ | refine zq6 ?_ | refine zq1 ?_ | refine zq13 ?_ | refine zq12 ?_ | refine zq7 ?_ | refine zq2 ?_ | refine zq9 ?_))
    refine draw_k01_wp hS2 (by decide) (by decide) fun d2 S3 hd20 hd21 hS3 => ?_
    refine pickK hd20 (by simpa using hd21) fun y hy => ?_
    obtain ⟨i, rfl, hi⟩ : ∃ i : Int, y = .int i ∧ 0 ≤ i ∧ i ≤ 9 := by
      simp only [List.mem_cons, List.mem_nil_iff, or_false] at hy
      rcases hy with rfl | rfl | rfl | rfl <;> exact ⟨_, rfl, by decide, by decide⟩
    (repeat (with_reducible first | refine zq14 ?_ | refine zq11 ?_ | refine zq10 ?_ | refine zq3 ?_ | refine zq4 ?_ | refine zq5 ?_ | refine zq0 ?_ | refine zq8 ?_ | refine zq6 ?_ | refine zq1 ?_ | refine zq13 ?_ | refine zq12 ?_ | refine zq7 ?_ | refine zq2 ?_ | refine zq9 ?_))
    refine ⟨hS3, done ++ [(a, p)], a + (1 + i), some (.val w), ?_, by simp; omega, by simp; omega, by omega, by simp; omega, by simp, fun _ => ?_, ?_, ?_, ?_⟩
    · rw [List.map_append]
      rfl
    · cases done with
      | nil => exact ⟨p, [], by rw [hnil rfl]; rfl⟩
      | cons s done =>
        obtain ⟨p', r', e⟩ := hne (List.cons_ne_nil _ _)
        exact ⟨p', r' ++ [(a, p)], by rw [e]; rfl⟩
    · intro s hs
      rcases List.mem_append.1 hs with hs | hs
      · have := hlt s hs; omega
      · rw [List.mem_singleton.1 hs]; simp only; omega
    · intro s hs
      rcases List.mem_append.1 hs with hs | hs
      · exact hnm s hs
      · rw [List.mem_singleton.1 hs]; exact hp
    · rw [List.map_append, List.pairwise_append]
      refine ⟨hri, by simp, fun x hx y hy => ?_⟩
      obtain ⟨z, hz, rfl⟩ := List.mem_map.1 hx
      simp only [List.map_cons, List.map_nil, List.mem_singleton] at hy
      subst hy
      exact (hlt z hz).1
  · rintro ρ S' ⟨hS', done, a, x, rfl, hl0, hl, ha0, ha, hnil, hne, hlt, hnm, hri⟩
    simp only [List.length_nil, Nat.add_zero] at hl hl0
    (repeat (first | with_reducible refine zq15 ?_ | (with_reducible first | refine zq14 ?_ | refine zq11 ?_ | refine zq10 ?_ | refine zq3 ?_ | refine zq4 ?_ | refine zq5 ?_ | refine zq0 ?_ | refine zq8 ?_ | refine zq6 ?_ | refine zq1 ?_ | refine zq13 ?_ | refine zq12 ?_ | refine zq7 ?_ | refine zq2 ?_ | refine zq9 ?_)))
    refine q done S' ⟨hne (by intro e; rw [e] at hl0; exact absurd hl0 (by decide)), hl, hri, fun s hs => by have := hlt s hs; omega, hnm⟩ hS'
end
section
variable {x0 : Str} {S S0 : Sto} {Q : Wd → Sto → Prop}
theorem site_k01_wp (hS : FedOk x0 S0 S) (q : ∀ s S', Drawn s → Named s → FedOk x0 S0 S' → Q (encSite s) S') : wpE (g_site_k01 [oW 1] S) Q := by
  have hz := siz
  refine w_def rfl ?_
  unfold m_site_k01
  refine zq15 ?_
  (repeat (with_reducible first | refine zq14 ?_ | refine zq11 ?_ | refine zq10 ?_ | refine zq3 ?_ | refine zq4 ?_ | refine zq5 ?_ | refine zq0 ?_ | refine zq8 ?_ | refine zq6 ?_ | refine zq1 ?_ | refine zq13 ?_ | refine zq12 ?_ | refine zq7 ?_ | refine zq2 ?_ | refine zq9 ?_))
  refine draw_k01_wp hS (by decide) (by decide) fun d S1 hd0 hd1 hS1 => ?_
  refine pickK hd0 (by simpa using hd1) fun y hy => ?_
  obtain ⟨mn, rfl, hmn, hm0, hmL⟩ : ∃ nm : List Str, y = .tuple (nm.map PyData.str) ∧ NmL 3 nm ∧ 0 < nm.length ∧ nm ∈ mL01 := by
    simp only [List.mem_cons, List.mem_nil_iff, or_false] at hy
    rcases hy with rfl | rfl | rfl | rfl
    · exact ⟨["lift", "mill"], rfl, nmL (by decide +kernel) (by decide +kernel) (by decide), by decide, by simp⟩
    · exact ⟨["a"], rfl, nmL (by decide +kernel) (by decide +kernel) (by decide), by decide, by simp⟩
    · exact ⟨["first", "machine", "zzzzzzzz"], rfl, nmL (by decide +kernel) (by decide +kernel) (by decide), by decide, by simp⟩
    · exact ⟨["days", "part"], rfl, nmL (by decide +kernel) (by decide +kernel) (by decide), by decide, by simp⟩
  clear hy hd0 hd1 d hS
  refine zq15 ?_
  (repeat (with_reducible first | refine zq14 ?_ | refine zq11 ?_ | refine zq10 ?_ | refine zq3 ?_ | refine zq4 ?_ | refine zq5 ?_ | refine zq0 ?_ | refine zq8 ?_ | refine zq6 ?_ | refine zq1 ?_ | refine zq13 ?_ | refine zq12 ?_ | refine zq7 ?_ | refine zq2 ?_ | refine zq9 ?_))
  refine draw_k01_wp hS1 (by decide) (by decide) fun d S2 hd0 hd1 hS2 => ?_
  refine pickK hd0 (by simpa using hd1) fun y hy => ?_
  obtain ⟨pn, rfl, hpn, hp0, hpL⟩ : ∃ nm : List Str, y = .tuple (nm.map PyData.str) ∧ NmL 4 nm ∧ 0 < nm.length ∧ nm ∈ pL01 := by
    simp only [List.mem_cons, List.mem_nil_iff, or_false] at hy
    rcases hy with rfl | rfl | rfl | rfl
    · exact ⟨["pump", "saw"], rfl, nmL (by decide +kernel) (by decide +kernel) (by decide), by decide, by simp⟩
    · exact ⟨["a", "b", "c", "d"], rfl, nmL (by decide +kernel) (by decide +kernel) (by decide), by decide, by simp⟩
    · exact ⟨["part", "task"], rfl, nmL (by decide +kernel) (by decide +kernel) (by decide), by decide, by simp⟩
    · exact ⟨["x"], rfl, nmL (by decide +kernel) (by decide +kernel) (by decide), by decide, by simp⟩
  clear hy hd0 hd1 d hS1
  refine zq15 ?_
  (repeat (with_reducible first | refine zq14 ?_ | refine zq11 ?_ | refine zq10 ?_ | refine zq3 ?_ | refine zq4 ?_ | refine zq5 ?_ | refine zq0 ?_ | refine zq8 ?_ | refine zq6 ?_ | refine zq1 ?_ | refine zq13 ?_ | refine zq12 ?_ | refine zq7 ?_ | refine zq2 ?_ | refine zq9 ?_))
  refine draw_k01_wp hS2 (by decide) (by decide) fun d S3 hd0 hd1 hS3 => ?_
  refine pickK hd0 (by simpa using hd1) fun y hy => ?_
  obtain ⟨jn, rfl, hjn, hnn, hmm, hjL⟩ : ∃ nm : List Str, y = .tuple (nm.map PyData.str) ∧ NmL 4 nm ∧ ("nn" : Str) ∉ nm ∧ ("mm" : Str) ∉ nm ∧ nm ∈ jL01 := by
    simp only [List.mem_cons, List.mem_nil_iff, or_false] at hy
    rcases hy with rfl | rfl | rfl | rfl
    · exact ⟨["clean", "oil"], rfl, nmL (by decide +kernel) (by decide +kernel) (by decide), by decide +kernel, by decide +kernel, by simp⟩
    · exact ⟨[], rfl, nmL (by decide +kernel) (by decide +kernel) (by decide), by decide +kernel, by decide +kernel, by simp⟩
    · exact ⟨["fresh", "kept", "task"], rfl, nmL (by decide +kernel) (by decide +kernel) (by decide), by decide +kernel, by decide +kernel, by simp⟩
    · exact ⟨["a", "b", "c", "d"], rfl, nmL (by decide +kernel) (by decide +kernel) (by decide), by decide +kernel, by decide +kernel, by simp⟩
  clear hy hd0 hd1 d hS2
  have hml := hmn.ln
  have hpl := hpn.ln
  have hjl := hjn.ln
  refine zq15 ?_
  (repeat (with_reducible first | refine zq14 ?_ | refine zq11 ?_ | refine zq10 ?_ | refine zq3 ?_ | refine zq4 ?_ | refine zq5 ?_ | refine zq0 ?_ | refine zq8 ?_ | refine zq6 ?_ | refine zq1 ?_ | refine zq13 ?_ | refine zq12 ?_ | refine zq7 ?_ | refine zq2 ?_ | refine zq9 ?_))
  refine w_seqJ (fun ρ S' => FedOk x0 S0 S' ∧ ∃ (mc : List (Str × Us)) (x5 x6 : Option Sl), mn = mc.map (·.1) ∧ (∀ m ∈ mc, UsOk m.2 ∧ m.2.length ≤ 3) ∧
    ρ = [some (.val (oW 1)), some (.val (.tuple (mn.map PyData.str))), some (.val (.tuple (pn.map PyData.str))), some (.val (.tuple (jn.map PyData.str))), some (.own (mc.map PL.encM)), x5, x6, none, none, none, none, none]) ?_ ?_
  · (repeat (with_reducible first | refine zq14 ?_ | refine zq11 ?_ | refine zq10 ?_ | refine zq3 ?_ | refine zq4 ?_ | refine zq5 ?_ | refine zq0 ?_ | refine zq8 ?_ | refine zq6 ?_ | refine zq1 ?_ | refine zq13 ?_ | refine zq12 ?_ | refine zq7 ?_ | refine zq2 ?_ | refine zq9 ?_))
    refine wp_for (I := fun r ρ S' => FedOk x0 S0 S' ∧ ∃ (done : List (Str × Us)) (rest : List Str) (x5 x6 : Option Sl), mn = done.map (·.1) ++ rest ∧ r = rest.map PyData.str ∧ (∀ m ∈ done, UsOk m.2 ∧ m.2.length ≤ 3) ∧
      ρ = [some (.val (oW 1)), some (.val (.tuple (mn.map PyData.str))), some (.val (.tuple (pn.map PyData.str))), some (.val (.tuple (jn.map PyData.str))), some (.own (done.map PL.encM)), x5, x6, none, none, none, none, none]) ?_ ?_ _ _ _ ⟨hS3, [], mn, none, none, rfl, rfl, by simp, rfl⟩
    · rintro w r ρ S' ⟨hS', done, rest, x5, x6, e1, e2, hu, rfl⟩
      cases rest with
      | nil => cases e2
      | cons x rest =>
        cases e2
        have hl : done.length + 1 ≤ 3 := by
          have := congrArg List.length e1
          simp at this
          omega
        refine ⟨_, rfl, ?_⟩
        refine zq15 ?_
        (repeat (with_reducible first | refine zq14 ?_ | refine zq11 ?_ | refine zq10 ?_ | refine zq3 ?_ | refine zq4 ?_ | refine zq5 ?_ | refine zq0 ?_ | refine zq8 ?_ | refine zq6 ?_ | refine zq1 ?_ | refine zq13 ?_ | refine zq12 ?_ | refine zq7 ?_ | refine zq2 ?_ | refine zq9 ?_))
        refine draw_k01_wp hS' (by decide) (by decide) fun d S' hd0 hd1 hS' => ?_
        (repeat (with_reducible first | refine zq14 ?_ | refine zq11 ?_ | refine zq10 ?_ | refine zq3 ?_ | refine zq4 ?_ | refine zq5 ?_ | refine zq0 ?_ | refine zq8 ?_ | refine zq6 ?_ | refine zq1 ?_ | refine zq13 ?_ | refine zq12 ?_ | refine zq7 ?_ | refine zq2 ?_ | refine zq9 ?_))
        refine ⟨by omega, ?_⟩
        refine wp_lc (I := fun r acc S' => FedOk x0 S0 S' ∧ ∃ us : Us, acc = us.map encU ∧ 0 < us.length + r.length ∧ us.length + r.length ≤ 3 ∧ ∀ u ∈ us, (0 ≤ u.1 ∧ u.1 ≤ 20) ∧ 0 ≤ u.2 ∧ u.2 ≤ 20) ?_ ?_ _ _ _ ⟨hS', [], rfl, by simp [rangeD]; omega, by simp [rangeD]; omega, by simp⟩
        · rintro w r acc S' ⟨hS', us, rfl, hl0, hl1, hb⟩
          refine ⟨_, rfl, ?_⟩
          (repeat (with_reducible first | refine zq14 ?_ | refine zq11 ?_ | refine zq10 ?_ | refine zq3 ?_ | refine zq4 ?_ | refine zq5 ?_ | refine zq0 ?_ | refine zq8 ?_ | refine zq6 ?_ | refine zq1 ?_ | refine zq13 ?_ | refine zq12 ?_ | refine zq7 ?_ | refine zq2 ?_ | refine zq9 ?_))
          refine draw_k01_wp hS' (by decide) (by decide) fun d1 S' hd10 hd11 hS' => ?_
          (repeat (with_reducible first | refine zq14 ?_ | refine zq11 ?_ | refine zq10 ?_ | refine zq3 ?_ | refine zq4 ?_ | refine zq5 ?_ | refine zq0 ?_ | refine zq8 ?_ | refine zq6 ?_ | refine zq1 ?_ | refine zq13 ?_ | refine zq12 ?_ | refine zq7 ?_ | refine zq2 ?_ | refine zq9 ?_))
          refine draw_k01_wp hS' (by decide) (by decide) fun d2 S' hd20 hd21 hS' => ?_
          (repeat (with_reducible first | refine zq14 ?_ | refine zq11 ?_ | refine zq10 ?_ | refine zq3 ?_ | refine zq4 ?_ | refine zq5 ?_ | refine zq0 ?_ | refine zq8 ?_ | refine zq6 ?_ | refine zq1 ?_ | refine zq13 ?_ | refine zq12 ?_ | refine zq7 ?_ | refine zq2 ?_ | refine zq9 ?_))
          simp only [List.length_cons] at hl0 hl1
          refine ⟨by simp; omega, hS', us ++ [(d1, d2)], by rw [List.map_append]; rfl, by simp; omega, by simp; omega, ?_⟩
          intro u hu
          rcases List.mem_append.1 hu with hu | hu
          · exact hb u hu
          · rw [List.mem_singleton.1 hu]; simp only; omega
        · rintro acc S' ⟨hS', us, rfl, hl0, hl1, hb⟩
          simp only [List.length_nil, Nat.add_zero] at hl0 hl1
          (repeat (with_reducible first | refine zq14 ?_ | refine zq11 ?_ | refine zq10 ?_ | refine zq3 ?_ | refine zq4 ?_ | refine zq5 ?_ | refine zq0 ?_ | refine zq8 ?_ | refine zq6 ?_ | refine zq1 ?_ | refine zq13 ?_ | refine zq12 ?_ | refine zq7 ?_ | refine zq2 ?_ | refine zq9 ?_))
          refine ⟨by simp; omega, ?_⟩
          refine ⟨hS', done ++ [(x, us)], rest, some (.val (.str x)), some (.val (.list (us.map encU))), by simp [e1], rfl, ?_, ?_⟩
          · intro m hm
            rcases List.mem_append.1 hm with hm | hm
            · exact hu m hm
            · rw [List.mem_singleton.1 hm]
              exact ⟨⟨List.length_pos_iff.1 hl0, by simp only; omega, fun u hu => by have := hb u hu; omega⟩, hl1⟩
          · rw [List.map_append]
            rfl
    · rintro ρ S' ⟨hS', mc, rest, x5, x6, e1, e2, hu, rfl⟩
      cases rest with
      | cons x rest => cases e2
      | nil =>
        simp only [List.append_nil] at e1
        exact ⟨hS', mc, x5, x6, e1, hu, rfl⟩
  rintro ρ S4 ⟨hS4, mc, x5, x6, rfl, hu, rfl⟩
  (repeat (with_reducible first | refine zq14 ?_ | refine zq11 ?_ | refine zq10 ?_ | refine zq3 ?_ | refine zq4 ?_ | refine zq5 ?_ | refine zq0 ?_ | refine zq8 ?_ | refine zq6 ?_ | refine zq1 ?_ | refine zq13 ?_ | refine zq12 ?_ | refine zq7 ?_ | refine zq2 ?_ | refine zq9 ?_))
  refine zq15 ?_
  (repeat (with_reducible first | refine zq14 ?_ | refine zq11 ?_ | refine zq10 ?_ | refine zq3 ?_ | refine zq4 ?_ | refine zq5 ?_ | refine zq0 ?_ | refine zq8 ?_ | refine zq6 ?_ | refine zq1 ?_ | refine zq13 ?_ | refine zq12 ?_ | refine zq7 ?_ | refine zq2 ?_ | refine zq9 ?_))
  refine wp_lc (I := fun r acc S' => FedOk x0 S0 S' ∧ ∃ (done : List (Str × Sy)) (rest : List Str), pn = done.map (·.1) ++ rest ∧ r = rest.map PyData.str ∧ acc = done.map encP ∧ ∀ p ∈ done, StK (mc.map (·.1)) 3 p.2) ?_ ?_ _ _ _ ⟨hS4, [], pn, rfl, rfl, rfl, by simp⟩
  · rintro w r acc S' ⟨hS', done, rest, e1, e2, rfl, hst⟩
    cases rest with
    | nil => cases e2
    | cons x rest =>
      cases e2
      refine ⟨_, rfl, ?_⟩
      (repeat (with_reducible first | refine zq14 ?_ | refine zq11 ?_ | refine zq10 ?_ | refine zq3 ?_ | refine zq4 ?_ | refine zq5 ?_ | refine zq0 ?_ | refine zq8 ?_ | refine zq6 ?_ | refine zq1 ?_ | refine zq13 ?_ | refine zq12 ?_ | refine zq7 ?_ | refine zq2 ?_ | refine zq9 ?_))
      refine stays_k01_wp (nm := mc.map (·.1)) hml hS' fun st S' hg hS' => ?_
      (repeat (with_reducible first | refine zq14 ?_ | refine zq11 ?_ | refine zq10 ?_ | refine zq3 ?_ | refine zq4 ?_ | refine zq5 ?_ | refine zq0 ?_ | refine zq8 ?_ | refine zq6 ?_ | refine zq1 ?_ | refine zq13 ?_ | refine zq12 ?_ | refine zq7 ?_ | refine zq2 ?_ | refine zq9 ?_))
      have hl : done.length + 1 ≤ 4 := by
        have := congrArg List.length e1
        simp at this
        omega
      refine ⟨by simp; omega, hS', done ++ [(x, st)], rest, by simp [e1], rfl, by rw [List.map_append]; rfl, ?_⟩
      intro p hp
      rcases List.mem_append.1 hp with hp | hp
      · exact hst p hp
      · rw [List.mem_singleton.1 hp]; exact hg
  rintro acc S5 ⟨hS5, parts, rest, e1, e2, rfl, hst⟩
  cases rest with
  | cons x rest => cases e2
  | nil =>
  simp only [List.append_nil] at e1
  subst e1
  (repeat (with_reducible first | refine zq14 ?_ | refine zq11 ?_ | refine zq10 ?_ | refine zq3 ?_ | refine zq4 ?_ | refine zq5 ?_ | refine zq0 ?_ | refine zq8 ?_ | refine zq6 ?_ | refine zq1 ?_ | refine zq13 ?_ | refine zq12 ?_ | refine zq7 ?_ | refine zq2 ?_ | refine zq9 ?_))
  refine zq15 ?_
  (repeat (with_reducible first | refine zq14 ?_ | refine zq11 ?_ | refine zq10 ?_ | refine zq3 ?_ | refine zq4 ?_ | refine zq5 ?_ | refine zq0 ?_ | refine zq8 ?_ | refine zq6 ?_ | refine zq1 ?_ | refine zq13 ?_ | refine zq12 ?_ | refine zq7 ?_ | refine zq2 ?_ | refine zq9 ?_))
  refine w_seqJ (fun ρ S' => FedOk x0 S0 S' ∧ ∃ (jobs : List Job) (x5 x9 x10 : Option Sl), jn = jobs.map (·.nm) ∧ (∀ j ∈ jobs, JbK (parts.map (·.1)) j ∧ (LimB 1 99 4 j.lim ∧ szL j.lim ≤ 13) ∧ j.sl.1 ≤ 9 ∧ j.sl.2.1 ≤ 9 ∧ j.sl.2.2 ≤ 9) ∧
    ρ = [some (.val (oW 1)), some (.val (.tuple ((mc.map (·.1)).map PyData.str))), some (.val (.tuple ((parts.map (·.1)).map PyData.str))), some (.val (.tuple (jn.map PyData.str))), some (.val (.list (mc.map PL.encM))), x5, x6, some (.val (.list (parts.map encP))), some (.own (jobs.map PL.encJ)), x9, x10, none]) ?_ ?_
  · (repeat (with_reducible first | refine zq14 ?_ | refine zq11 ?_ | refine zq10 ?_ | refine zq3 ?_ | refine zq4 ?_ | refine zq5 ?_ | refine zq0 ?_ | refine zq8 ?_ | refine zq6 ?_ | refine zq1 ?_ | refine zq13 ?_ | refine zq12 ?_ | refine zq7 ?_ | refine zq2 ?_ | refine zq9 ?_))
    refine wp_for (I := fun r ρ S' => FedOk x0 S0 S' ∧ ∃ (done : List Job) (rest : List Str) (x5 x9 x10 : Option Sl), jn = done.map (·.nm) ++ rest ∧ r = rest.map PyData.str ∧ (∀ j ∈ done, JbK (parts.map (·.1)) j ∧ (LimB 1 99 4 j.lim ∧ szL j.lim ≤ 13) ∧ j.sl.1 ≤ 9 ∧ j.sl.2.1 ≤ 9 ∧ j.sl.2.2 ≤ 9) ∧
      ρ = [some (.val (oW 1)), some (.val (.tuple ((mc.map (·.1)).map PyData.str))), some (.val (.tuple ((parts.map (·.1)).map PyData.str))), some (.val (.tuple (jn.map PyData.str))), some (.val (.list (mc.map PL.encM))), x5, x6, some (.val (.list (parts.map encP))), some (.own (done.map PL.encJ)), x9, x10, none]) ?_ ?_ _ _ _ ⟨hS5, [], jn, x5, none, none, rfl, rfl, by simp, rfl⟩
    · rintro w r ρ S' ⟨hS', done, rest, y5, y9, y10, e1, e2, hd, rfl⟩
      cases rest with
      | nil => cases e2
      | cons x rest =>
      cases e2
      have hl : done.length + 1 ≤ 4 := by
        have := congrArg List.length e1
        simp at this
        omega
      refine ⟨_, rfl, ?_⟩
      refine zq15 ?_
      (repeat (with_reducible first | refine zq14 ?_ | refine zq11 ?_ | refine zq10 ?_ | refine zq3 ?_ | refine zq4 ?_ | refine zq5 ?_ | refine zq0 ?_ | refine zq8 ?_ | refine zq6 ?_ | refine zq1 ?_ | refine zq13 ?_ | refine zq12 ?_ | refine zq7 ?_ | refine zq2 ?_ | refine zq9 ?_))
      have hpl' : parts.length ≤ 4 := by simpa using hpl
      have hp0' : 0 < parts.length := by simpa using hp0
      refine draw_k01_wp hS' (by simp; omega) (by simp; omega) fun d S' hd0 hd1 hS' => ?_
      refine pickT hd0 hd1 fun y hy => ?_
      obtain ⟨y, hyp, rfl⟩ := List.mem_map.1 hy
      (repeat (with_reducible first | refine zq14 ?_ | refine zq11 ?_ | refine zq10 ?_ | refine zq3 ?_ | refine zq4 ?_ | refine zq5 ?_ | refine zq0 ?_ | refine zq8 ?_ | refine zq6 ?_ | refine zq1 ?_ | refine zq13 ?_ | refine zq12 ?_ | refine zq7 ?_ | refine zq2 ?_ | refine zq9 ?_))
      refine draw_k01_wp hS' (by decide) (by decide) fun d S' hd0 hd1 hS' => ?_
      refine pickK hd0 (by simpa using hd1) fun y2 hy2 => ?_
      obtain ⟨y2, rfl, hyw⟩ : ∃ z : Str, y2 = .str z ∧ (z = ("kept" : Str) ∨ z = ("fresh" : Str)) := by
        simp only [List.mem_cons, List.mem_nil_iff, or_false] at hy2
        rcases hy2 with rfl | rfl
        · exact ⟨_, rfl, .inr rfl⟩
        · exact ⟨_, rfl, .inl rfl⟩
      (repeat (with_reducible first | refine zq14 ?_ | refine zq11 ?_ | refine zq10 ?_ | refine zq3 ?_ | refine zq4 ?_ | refine zq5 ?_ | refine zq0 ?_ | refine zq8 ?_ | refine zq6 ?_ | refine zq1 ?_ | refine zq13 ?_ | refine zq12 ?_ | refine zq7 ?_ | refine zq2 ?_ | refine zq9 ?_))
      refine limit_k01_wp 2 12 _ _ hS' (by decide) fun l S' hlb hlz hS' => ?_
      (repeat (with_reducible first | refine zq14 ?_ | refine zq11 ?_ | refine zq10 ?_ | refine zq3 ?_ | refine zq4 ?_ | refine zq5 ?_ | refine zq0 ?_ | refine zq8 ?_ | refine zq6 ?_ | refine zq1 ?_ | refine zq13 ?_ | refine zq12 ?_ | refine zq7 ?_ | refine zq2 ?_ | refine zq9 ?_))
      refine slack_k01_wp hS' fun sa S' hsa hS' => ?_
      (repeat (with_reducible first | refine zq14 ?_ | refine zq11 ?_ | refine zq10 ?_ | refine zq3 ?_ | refine zq4 ?_ | refine zq5 ?_ | refine zq0 ?_ | refine zq8 ?_ | refine zq6 ?_ | refine zq1 ?_ | refine zq13 ?_ | refine zq12 ?_ | refine zq7 ?_ | refine zq2 ?_ | refine zq9 ?_))
      refine ⟨by simp; omega, ?_⟩
      refine ⟨hS', done ++ [⟨x, y, y2, l, sa⟩], rest, some (.val (.str x)), some (.val (.str y)), some (.val (.str y2)), by simp [e1], rfl, ?_, ?_⟩
      · intro j hj
        rcases List.mem_append.1 hj with hj | hj
        · exact hd j hj
        · rw [List.mem_singleton.1 hj]
          have hz3 : zK 2 = 13 := rfl
          refine ⟨⟨hyp, hyw, ⟨99, 4, ⟨hlb.mono (Int.le_refl _) (Int.le_refl _) (by decide), by simp only; omega, by decide⟩, by decide⟩, by simp only; omega⟩, ⟨hlb.mono (Int.le_refl _) (Int.le_refl _) (by decide), by simp only; omega⟩, by simp only; omega⟩
      · rw [List.map_append]
        rfl
    · rintro ρ S' ⟨hS', jobs, rest, x5, x9, x10, e1, e2, hj, rfl⟩
      cases rest with
      | cons x rest => cases e2
      | nil =>
        simp only [List.append_nil] at e1
        exact ⟨hS', jobs, x5, x9, x10, e1, hj, rfl⟩
  rintro ρ S6 ⟨hS6, jobs, x5, x9, x10, rfl, hj, rfl⟩
  (repeat (with_reducible first | refine zq14 ?_ | refine zq11 ?_ | refine zq10 ?_ | refine zq3 ?_ | refine zq4 ?_ | refine zq5 ?_ | refine zq0 ?_ | refine zq8 ?_ | refine zq6 ?_ | refine zq1 ?_ | refine zq13 ?_ | refine zq12 ?_ | refine zq7 ?_ | refine zq2 ?_ | refine zq9 ?_))
  have hml' : mc.length ≤ 3 := by simpa using hml
  have hpl' : parts.length ≤ 4 := by simpa using hpl
  have hjl' : jobs.length ≤ 4 := by simpa using hjl
  refine q ⟨mc, parts, jobs⟩ _ ⟨⟨fun m hm => hmn.ok _ (List.mem_map_of_mem hm), fun p hp => hpn.ok _ (List.mem_map_of_mem hp), fun j hj => hjn.ok _ (List.mem_map_of_mem (f := fun j : Job => j.nm) hj), hmn.rise, hpn.rise, hjn.rise, fun m hm => (hu m hm).1, fun p hp => (hst p hp).mono (by decide), fun j h => (hj j h).1, by simp only; omega, by simp only; omega, by simp only; omega, by decide⟩,
    ⟨hml', fun m hm => (hu m hm).2, hpl', fun p hp => by have := (hst p hp).ln; omega, by simp only; omega, fun j h => (hj j h).2.1, fun j h => (hj j h).2.2⟩, by simpa using hm0, by simpa using hp0, hjl', hnn, hmm⟩ ⟨hmL, hpL, hjL⟩ hS6
end
end WF.TB
namespace DL
open PySem PySem.Spec PyProof.Rows L2
section
variable {ρ : Ev} {S S1 S2 : Sto} {f fa fb : Mx} {fs : Ma} {w v : Wd} {ws : List Wd} {m : Ms} {st : Ms} {i n p : Nat} {g : Gd} {gx : Xd}
theorem bad_seq (h : st ρ S = .bad) : sSeq st m ρ S = .bad := by unfold sSeq; rw [h]
theorem nx_seq {ρ' : Ev} (h : st ρ S = .nx ρ' S1) : sSeq st m ρ S = m ρ' S1 := by unfold sSeq; rw [h]
theorem bad_expr (h : f ρ S = .bad) : sExpr f ρ S = .bad := by unfold sExpr; rw [h]; rfl
theorem ok_expr (h : f ρ S = .ok w S1) : sExpr f ρ S = .nx ρ S1 := by unfold sExpr; rw [h]; rfl
theorem bad_set (h : f ρ S = .bad) : sSet i f ρ S = .bad := by unfold sSet; rw [h]; rfl
theorem ok_set (h : f ρ S = .ok w S1) : sSet i f ρ S = .nx (ρ.set i (some (.val w))) S1 := by unfold sSet; rw [h]; rfl
theorem bad_ret (h : f ρ S = .bad) : sRet f ρ S = .bad := by unfold sRet; rw [h]; rfl
theorem to_call (h : fs ρ S = .ok ws S1) : mCall g fs ρ S = g ws S1 := by unfold mCall; rw [h]; rfl
theorem to_callX (h : fs ρ S = .ok ws S1) : xCall gx fs ρ S = gx ws S1 := by unfold xCall; rw [h]
theorem ok_nil : aNil ρ S = .ok [] S := rfl
theorem ok_cons (h : f ρ S = .ok w S1) (k : fs ρ S1 = .ok ws S2) : aCons f fs ρ S = .ok (w :: ws) S2 := by
  unfold aCons
  rw [h]
  show (fs ρ S1).bnd _ = _
  rw [k]
  rfl
theorem bad_ixA (h : fa ρ S = .bad) : mIx fa fb ρ S = .bad := by unfold mIx; rw [h]; rfl
theorem bad_ixB (h : fa ρ S = .ok v S1) (k : fb ρ S1 = .bad) : mIx fa fb ρ S = .bad := by
  unfold mIx
  rw [h]
  show (fb ρ S1).bnd _ = _
  rw [k]
  rfl
theorem bad_def (hl : ws.length = p) (h : m (startE n ws) S = .bad) : runDef n p m ws S = .bad := by unfold runDef; rw [if_pos hl, h]
theorem to_defX {fx : Xm} (hl : ws.length = p) : runDefX n p fx ws S = fx (startE n ws) S := by unfold runDefX; rw [if_pos hl]
theorem hd_some {fx fr : Xm} {r : Xn × Sto} (h : fx ρ S = some r) : xHd fx f fr ρ S = some r := by unfold xHd; rw [h]
theorem hd_none {fx fr : Xm} (h : fx ρ S = none) (k : f ρ S = .ok w S1) : xHd fx f fr ρ S = fr ρ S1 := by unfold xHd; rw [h]; simp only [k]
theorem sq_some {fx fr : Xm} {r : Xn × Sto} (h : fx ρ S = some r) : xSeq fx m fr ρ S = some r := by unfold xSeq; rw [h]
theorem sq_none {fx fr : Xm} {ρ' : Ev} (h : fx ρ S = none) (k : m ρ S = .nx ρ' S1) : xSeq fx m fr ρ S = fr ρ' S1 := by unfold xSeq; rw [h]; simp only [k]
end
end DL
namespace WF
open PySem PySem.Spec PyProof.Rows L2 DL PL
def useX (w : Str) : Xn := ⟨"NotUsable", [("word", .str w), ("at", .int (-1))]⟩
def NoName (w : Wd) : Prop := ∀ S, g_is_name [w] S = .ok (.bool false) S
def NoOf (w : Wd) (ns : List Str) : Prop := NoName w ∨ ∃ x, w = .str x ∧ NameOk x ∧ PyData.strOk x = true ∧ x ∉ ns
def NoNum (w : Wd) : Prop := ∀ S, g_is_number [w] S = .ok (.bool false) S
section
variable {S : Sto} {w v : Wd} {ns : List Str} {x z : Str} {s : Site} {n : Nat}
theorem noName_of (h : gIsi "str" w = some (.bool false)) : NoName w := fun S => by
  refine wpR_ok (w_def rfl ?_)
  unfold m_is_name
  refine zq15 ?_
  (repeat (with_reducible first | refine zq14 ?_ | refine zq11 ?_ | refine zq10 ?_ | refine zq3 ?_ | refine zq4 ?_ | refine zq5 ?_ | refine zq0 ?_ | refine zq8 ?_ | refine zq6 ?_ | refine zq1 ?_ | refine zq13 ?_ | refine zq12 ?_ | refine zq7 ?_ | refine zq2 ?_ | refine zq9 ?_))
  refine wpO_rfl h ?_
  (repeat (with_reducible first | refine zq14 ?_ | refine zq11 ?_ | refine zq10 ?_ | refine zq3 ?_ | refine zq4 ?_ | refine zq5 ?_ | refine zq0 ?_ | refine zq8 ?_ | refine zq6 ?_ | refine zq1 ?_ | refine zq13 ?_ | refine zq12 ?_ | refine zq7 ?_ | refine zq2 ?_ | refine zq9 ?_))
  exact ⟨rfl, rfl⟩
theorem cond_no (h : NoOf w ns) (hn : ∀ y ∈ ns, PyData.strOk y = true) {ρ : Ev} {f : Mx} (e1 : ∀ S, mV 1 ρ S = .ok w S) (e0 : ∀ S, f ρ S = .ok (.list (ns.map PyData.str)) S) : mAnd (mCall g_is_name (aCons (mV 1) aNil)) (mBin gIn (mV 1) f) ρ S = .ok (.bool false) S := by
  have c : mCall g_is_name (aCons (mV 1) aNil) ρ S = g_is_name [w] S := to_call (ok_cons (e1 S) ok_nil)
  unfold mAnd
  rcases h with h | ⟨x, rfl, h1, h2, h3⟩
  · rw [c, h S]
    rfl
  · rw [c, h1 S]
    show mBin gIn (mV 1) f ρ S = _
    unfold mBin
    rw [e1 S]
    show (f ρ S).bnd _ = _
    rw [e0 S]
    show R.of (gIn (.str x) (.list (ns.map PyData.str))) S = _
    rw [in_strs hn h2, decide_eq_false h3]
    rfl
theorem args_no (h : NoOf w ns) (hn : ∀ y ∈ ns, PyData.strOk y = true) : (aCons (mAnd (mCall g_is_name (aCons (mV 1) aNil)) (mBin gIn (mV 1) (mV 0))) (aCons (mV 2) (aCons (mUn gNeg (mC (.int 1))) aNil))) (startE 3 [.list (ns.map PyData.str), w, .str z]) S = .ok [.bool false, .str z, .int (-1)] S :=
  ok_cons (cond_no h hn (fun _ => rfl) fun _ => rfl) (ok_cons rfl (ok_cons rfl ok_nil))
theorem among_bad (h : NoOf w ns) (hn : ∀ y ∈ ns, PyData.strOk y = true) : g_index_among [.list (ns.map PyData.str), w, .str z] S = .bad := by
  refine bad_def rfl (bad_seq (bad_expr ?_))
  rw [to_call (args_no h hn)]
  rfl
theorem among_x (h : NoOf w ns) (hn : ∀ y ∈ ns, PyData.strOk y = true) : x_index_among_9b27d0 [.list (ns.map PyData.str), w, .str z] S = some (useX z, S) := by
  refine (to_defX rfl).trans ?_
  rw [to_callX (args_no h hn)]
  rfl
theorem among_ok {i : Nat} (nd : ns.Nodup) (hn : ∀ y ∈ ns, PyData.strOk y = true) (hx : NameOk x) (hi : ns[i]? = some x) : x_index_among_9b27d0 [.list (ns.map PyData.str), .str x, .str z] S = none := by
  have hm := List.mem_of_getElem? hi
  have e : (aCons (mAnd (mCall g_is_name (aCons (mV 1) aNil)) (mBin gIn (mV 1) (mV 0))) (aCons (mV 2) (aCons (mUn gNeg (mC (.int 1))) aNil))) (startE 3 [.list (ns.map PyData.str), .str x, .str z]) S = .ok [.bool true, .str z, .int (-1)] S := by
    refine ok_cons ?_ (ok_cons rfl (ok_cons rfl ok_nil))
    have c : mCall g_is_name (aCons (mV 1) aNil) (startE 3 [.list (ns.map PyData.str), .str x, .str z]) S = g_is_name [.str x] S := to_call (ok_cons rfl ok_nil)
    unfold mAnd
    rw [c, hx S]
    show R.of (gIn (.str x) (.list (ns.map PyData.str))) S = _
    rw [in_strs hn (hn x hm), decide_eq_true hm]
    rfl
  refine (to_defX rfl).trans ?_
  rw [to_callX e]
  rfl
end
section
variable {S : Sto} {w v : Wd} {s : Site} {n : Nat} (G : Good n s)
include G
theorem pnE {ρ : Ev} (h0 : ∀ S, mV 0 ρ S = .ok (encSite s) S) (h1 : ∀ S, mV 1 ρ S = .ok w S) {z : Str} : (aCons (mCall g_part_names (aCons (mV 0) aNil)) (aCons (mV 1) (aCons (mC (.str z)) aNil))) ρ S = .ok [.list ((s.parts.map (·.1)).map PyData.str), w, .str z] S :=
  ok_cons ((to_call (ok_cons (h0 S) ok_nil)).trans (part_namesK (by have := G.pl; omega))) (ok_cons (h1 S) (ok_cons rfl ok_nil))
theorem mnE {ρ : Ev} (h0 : ∀ S, mV 0 ρ S = .ok (encSite s) S) (h1 : ∀ S, mV 1 ρ S = .ok w S) {z : Str} : (aCons (mCall g_machine_names (aCons (mV 0) aNil)) (aCons (mV 1) (aCons (mC (.str z)) aNil))) ρ S = .ok [.list ((s.mc.map (·.1)).map PyData.str), w, .str z] S :=
  ok_cons ((to_call (ok_cons (h0 S) ok_nil)).trans (machine_names_eq (by have := G.ml; omega))) (ok_cons (h1 S) (ok_cons rfl ok_nil))
theorem tnE {ρ : Ev} (h0 : ∀ S, mV 0 ρ S = .ok (encSite s) S) (h1 : ∀ S, mV 1 ρ S = .ok w S) {z : Str} : (aCons (mCall g_task_names (aCons (mV 0) aNil)) (aCons (mV 1) (aCons (mC (.str z)) aNil))) ρ S = .ok [.list ((s.jobs.map (·.nm)).map PyData.str), w, .str z] S :=
  ok_cons ((to_call (ok_cons (h0 S) ok_nil)).trans (task_names_eq (by have := G.jl; omega))) (ok_cons (h1 S) (ok_cons rfl ok_nil))
theorem stays_bad (h : NoOf w (s.parts.map (·.1))) : g_stays_of [encSite s, w] S = .bad := by
  refine bad_def rfl (bad_ret (bad_ixA (bad_ixB (v := .tuple (s.parts.map encP)) (S1 := S) rfl ?_)))
  rw [to_call (pnE G (fun _ => rfl) fun _ => rfl)]
  exact among_bad h G.pso
theorem stays_x (h : NoOf w (s.parts.map (·.1))) : x_stays_of_7073d6 [encSite s, w] S = some (useX "part", S) := by
  refine (to_defX rfl).trans (hd_some ?_)
  rw [hd_none (w := .tuple (s.parts.map encP)) (S1 := S) rfl rfl, to_callX (pnE G (fun _ => rfl) fun _ => rfl)]
  exact among_x h G.pso
theorem place_bad (h : NoOf w (s.parts.map (·.1))) : g_place_of [encSite s, w, v] S = .bad := by
  refine bad_def rfl (bad_seq (bad_set ?_))
  rw [to_call (ok_cons rfl (ok_cons rfl ok_nil))]
  exact stays_bad G h
theorem place_x (h : NoOf w (s.parts.map (·.1))) : x_place_of_e1ff63 [encSite s, w, v] S = some (useX "part", S) := by
  refine (to_defX rfl).trans (sq_some ?_)
  rw [to_callX (ok_cons rfl (ok_cons rfl ok_nil))]
  exact stays_x G h
theorem tasks_bad (h : NoOf w (s.parts.map (·.1))) : g_tasks_of [encSite s, w] S = .bad := by
  refine bad_def rfl (bad_seq (bad_expr ?_))
  rw [to_call (pnE G (fun _ => rfl) fun _ => rfl)]
  exact among_bad h G.pso
theorem tasks_x (h : NoOf w (s.parts.map (·.1))) : x_tasks_of_d04af4 [encSite s, w] S = some (useX "part", S) := by
  refine (to_defX rfl).trans ?_
  rw [to_callX (pnE G (fun _ => rfl) fun _ => rfl)]
  exact among_x h G.pso
theorem uses_bad (h : NoOf w (s.mc.map (·.1))) : g_uses_of [encSite s, w] S = .bad := by
  refine bad_def rfl (bad_ret (bad_ixA (bad_ixB (v := .tuple (s.mc.map PL.encM)) (S1 := S) rfl ?_)))
  rw [to_call (mnE G (fun _ => rfl) fun _ => rfl)]
  exact among_bad h G.mso
theorem uses_x (h : NoOf w (s.mc.map (·.1))) : x_uses_of_f61634 [encSite s, w] S = some (useX "machine", S) := by
  refine (to_defX rfl).trans (hd_some ?_)
  rw [hd_none (w := .tuple (s.mc.map PL.encM)) (S1 := S) rfl rfl, to_callX (mnE G (fun _ => rfl) fun _ => rfl)]
  exact among_x h G.mso
theorem use_bad (h : NoOf w (s.mc.map (·.1))) : g_use_of [encSite s, w, v] S = .bad := by
  refine bad_def rfl (bad_seq (bad_set ?_))
  rw [to_call (ok_cons rfl (ok_cons rfl ok_nil))]
  exact uses_bad G h
theorem use_x (h : NoOf w (s.mc.map (·.1))) : x_use_of_c41b10 [encSite s, w, v] S = some (useX "machine", S) := by
  refine (to_defX rfl).trans (sq_some ?_)
  rw [to_callX (ok_cons rfl (ok_cons rfl ok_nil))]
  exact uses_x G h
theorem number_bad (h : NoOf w (s.jobs.map (·.nm))) : g_number_of [encSite s, w] S = .bad := by
  refine bad_def rfl (bad_ret ?_)
  rw [to_call (tnE G (fun _ => rfl) fun _ => rfl)]
  exact among_bad h G.jso
theorem number_x (h : NoOf w (s.jobs.map (·.nm))) : x_number_of_f03686 [encSite s, w] S = some (useX "task", S) := by
  refine (to_defX rfl).trans ?_
  rw [to_callX (tnE G (fun _ => rfl) fun _ => rfl)]
  exact among_x h G.jso
theorem task_bad (h : NoOf w (s.jobs.map (·.nm))) : g_task_of [encSite s, w] S = .bad := by
  refine bad_def rfl (bad_ret (bad_ixB (v := .tuple (s.jobs.map PL.encJ)) (S1 := S) rfl ?_))
  rw [to_call (ok_cons rfl (ok_cons rfl ok_nil))]
  exact number_bad G h
theorem task_x (h : NoOf w (s.jobs.map (·.nm))) : x_task_of_af8e3b [encSite s, w] S = some (useX "task", S) := by
  refine (to_defX rfl).trans ?_
  rw [hd_none (w := .tuple (s.jobs.map PL.encJ)) (S1 := S) rfl rfl, to_callX (ok_cons rfl (ok_cons rfl ok_nil))]
  exact number_x G h
theorem part_bad (h : NoOf w (s.jobs.map (·.nm))) : g_part_of [encSite s, w] S = .bad := by
  refine bad_def rfl (bad_ret (bad_ixA ?_))
  rw [to_call (ok_cons rfl (ok_cons rfl ok_nil))]
  exact task_bad G h
theorem part_x (h : NoOf w (s.jobs.map (·.nm))) : x_part_of_075258 [encSite s, w] S = some (useX "task", S) := by
  refine (to_defX rfl).trans (hd_some ?_)
  rw [to_callX (ok_cons rfl (ok_cons rfl ok_nil))]
  exact task_x G h
end
end WF
namespace WF
open PySem PySem.Spec PyProof.Rows L2 DL PL
section
variable {S S1 : Sto} {w v : Wd} {ns : List Str} {x z : Str} {s : Site} {n : Nat} {d : Int}
theorem usable_dual {ws : List Wd} (h : g_require_usable ws S = .ok v S1) : x_require_usable_ca6ef5 ws S = none := by
  unfold g_require_usable runDef at h
  unfold x_require_usable_ca6ef5 runDefX
  by_cases c : ws.length = 3
  · rw [if_pos c] at h ⊢
    unfold m_require_usable sIf at h
    unfold xIf
    cases e : mNotT (mTru (mV 0)) (startE 3 ws) S with
    | bad => rfl
    | ok b S2 =>
      rw [e] at h
      cases b with
      | true => cases h
      | false => rfl
  · rw [if_neg c]
theorem need_dual {fs : Ma} {ρ ρ1 : Ev} (h : sExpr (mCall g_require_usable fs) ρ S = .nx ρ1 S1) : xCall x_require_usable_ca6ef5 fs ρ S = none := by
  unfold xCall
  unfold sExpr at h
  cases e : fs ρ S with
  | bad => rfl
  | ok ws S2 =>
    rw [to_call e] at h
    cases k : g_require_usable ws S2 with
    | bad => rw [k] at h; cases h
    | ok v S3 => exact usable_dual k
theorem def_nx {m : Ms} {n p : Nat} {ws : List Wd} (hm : ∀ ρ S w S', m ρ S ≠ .rt w S') (h : runDef n p m ws S = .ok v S1) : ∃ ρ', m (startE n ws) S = .nx ρ' S1 := by
  unfold runDef at h
  by_cases c : ws.length = p
  · rw [if_pos c] at h
    cases e : m (startE n ws) S with
    | nx ρ' S' => rw [e] at h; cases h; exact ⟨ρ', rfl⟩
    | rt w S' => exact absurd e (hm _ _ _ _)
    | bk _ _ => rw [e] at h; cases h
    | ct _ _ => rw [e] at h; cases h
    | bad => rw [e] at h; cases h
  · rw [if_neg c] at h
    cases h
theorem expr_rt {f : Mx} {ρ : Ev} {w : Wd} : sExpr f ρ S ≠ .rt w S1 := by
  unfold sExpr
  cases f ρ S <;> exact fun h => by cases h
theorem day_bad (h : NoNum v) : g_require_day [v] S = .bad := by
  refine bad_def rfl (bad_expr ?_)
  rw [to_call (ok_cons ((to_call (ok_cons rfl ok_nil)).trans (h S)) (ok_cons rfl (ok_cons rfl ok_nil)))]
  rfl
theorem day_x (h : NoNum v) : x_require_day_3d2eb6 [v] S = some (useX "day", S) := by
  refine (to_defX rfl).trans ?_
  rw [to_callX (ok_cons ((to_call (ok_cons rfl ok_nil)).trans (h S)) (ok_cons rfl (ok_cons rfl ok_nil)))]
  rfl
end
section
variable {S : Sto} {w v : Wd} {s : Site} {n : Nat} (G : Good n s)
include G
theorem pargs (h : NoOf w (s.mc.map (·.1))) (hw : gIsN w .none = some (.bool false)) : (aCons (mOr (mBin gIsN (mV 1) (mC .none)) (mAnd (mCall WF.g_is_name (aCons (mV 1) aNil)) (mBin gIn (mV 1) (mCall WF.g_machine_names (aCons (mV 0) aNil))))) (aCons (mC (.str "place")) (aCons (mUn gNeg (mC (.int 1))) aNil))) (startE 2 [encSite s, w]) S = .ok [.bool false, .str "place", .int (-1)] S := by
  refine ok_cons ?_ (ok_cons rfl (ok_cons rfl ok_nil))
  have c := cond_no (S := S) h G.mso (ρ := startE 2 [encSite s, w]) (f := mCall WF.g_machine_names (aCons (mV 0) aNil)) (fun _ => rfl) fun S => (to_call (ok_cons rfl ok_nil)).trans (machine_names_eq (by have := G.ml; omega))
  have e : mBin gIsN (mV 1) (mC .none) (startE 2 [encSite s, w]) S = .ok (.bool false) S := by
    show R.of (gIsN w .none) S = _
    rw [hw]
    rfl
  unfold mOr
  rw [e]
  exact c
theorem req_place_bad (h : NoOf w (s.mc.map (·.1))) (hw : gIsN w .none = some (.bool false)) : g_require_place [encSite s, w] S = .bad := by
  refine bad_def rfl (bad_expr ?_)
  rw [to_call (pargs G h hw)]
  rfl
theorem req_place_x (h : NoOf w (s.mc.map (·.1))) (hw : gIsN w .none = some (.bool false)) : x_require_place_6dfbd6 [encSite s, w] S = some (useX "place", S) := by
  refine (to_defX rfl).trans ?_
  rw [to_callX (pargs G h hw)]
  rfl
theorem parts_bad (h : NoOf w (s.mc.map (·.1))) (hw : gIsN w .none = some (.bool false)) : g_parts_at [encSite s, w, v] S = .bad := by
  refine bad_def rfl (bad_seq (bad_expr ?_))
  rw [to_call (ok_cons rfl (ok_cons rfl ok_nil))]
  exact req_place_bad G h hw
theorem parts_x (h : NoOf w (s.mc.map (·.1))) (hw : gIsN w .none = some (.bool false)) : x_parts_at_158b9b [encSite s, w, v] S = some (useX "place", S) := by
  refine (to_defX rfl).trans (sq_some ?_)
  rw [to_callX (ok_cons rfl (ok_cons rfl ok_nil))]
  exact req_place_x G h hw
theorem place_day_bad {i : Nat} {p : Str × Sy} (hi : s.parts[i]? = some p) (h : NoNum v) : g_place_of [encSite s, .str p.1, v] S = .bad := by
  refine bad_def rfl ?_
  refine (nx_seq (ok_set ((to_call (ok_cons rfl (ok_cons rfl ok_nil))).trans (stays_ofK G hi)))).trans ?_
  refine bad_seq (bad_expr ?_)
  rw [to_call (ok_cons rfl ok_nil)]
  exact day_bad h
theorem stays_xno {i : Nat} {p : Str × Sy} (hi : s.parts[i]? = some p) : x_stays_of_7073d6 [encSite s, .str p.1] S = none := by
  have hm := List.mem_of_getElem? hi
  refine (to_defX rfl).trans ?_
  have e : xHd xNo (mIx (mV 0) (mC (.int 1))) (xCall WF.x_index_among_9b27d0 (aCons (mCall WF.g_part_names (aCons (mV 0) aNil)) (aCons (mV 1) (aCons (mC (.str "part")) aNil)))) (startE 2 [encSite s, .str p.1]) S = none := by
    rw [hd_none (w := .tuple (s.parts.map encP)) (S1 := S) rfl rfl, to_callX (pnE G (fun _ => rfl) fun _ => rfl)]
    exact among_ok (rise_nodup G.pr) G.pso (G.pn p hm).ok (by rw [List.getElem?_map, hi]; rfl)
  unfold xHd at e ⊢
  rw [e]
  cases mIx (mIx (mV 0) (mC (.int 1))) (mCall WF.g_index_among (aCons (mCall WF.g_part_names (aCons (mV 0) aNil)) (aCons (mV 1) (aCons (mC (.str "part")) aNil)))) (startE 2 [encSite s, .str p.1]) S <;> rfl
theorem place_day_x {i : Nat} {p : Str × Sy} (hi : s.parts[i]? = some p) (h : NoNum v) : x_place_of_e1ff63 [encSite s, .str p.1, v] S = some (useX "day", S) := by
  refine (to_defX rfl).trans ?_
  rw [sq_none ((to_callX (ok_cons rfl (ok_cons rfl ok_nil))).trans (stays_xno G hi)) (ok_set ((to_call (ok_cons rfl (ok_cons rfl ok_nil))).trans (stays_ofK G hi))), to_callX (ok_cons rfl ok_nil)]
  exact day_x h
theorem use_day_bad {i : Nat} {p : Str × Us} (hi : s.mc[i]? = some p) (h : NoNum v) : g_use_of [encSite s, .str p.1, v] S = .bad := by
  refine bad_def rfl ?_
  refine (nx_seq (ok_set ((to_call (ok_cons rfl (ok_cons rfl ok_nil))).trans (uses_of_eq G hi)))).trans ?_
  refine bad_seq (bad_expr ?_)
  rw [to_call (ok_cons rfl ok_nil)]
  exact day_bad h
theorem uses_xno {i : Nat} {p : Str × Us} (hi : s.mc[i]? = some p) : x_uses_of_f61634 [encSite s, .str p.1] S = none := by
  have hm := List.mem_of_getElem? hi
  refine (to_defX rfl).trans ?_
  have e : xHd xNo (mIx (mV 0) (mC (.int 0))) (xCall WF.x_index_among_9b27d0 (aCons (mCall WF.g_machine_names (aCons (mV 0) aNil)) (aCons (mV 1) (aCons (mC (.str "machine")) aNil)))) (startE 2 [encSite s, .str p.1]) S = none := by
    rw [hd_none (w := .tuple (s.mc.map PL.encM)) (S1 := S) rfl rfl, to_callX (mnE G (fun _ => rfl) fun _ => rfl)]
    exact among_ok (rise_nodup G.mr) G.mso (G.mn p hm).ok (by rw [List.getElem?_map, hi]; rfl)
  unfold xHd at e ⊢
  rw [e]
  cases mIx (mIx (mV 0) (mC (.int 0))) (mCall WF.g_index_among (aCons (mCall WF.g_machine_names (aCons (mV 0) aNil)) (aCons (mV 1) (aCons (mC (.str "machine")) aNil)))) (startE 2 [encSite s, .str p.1]) S <;> rfl
theorem use_day_x {i : Nat} {p : Str × Us} (hi : s.mc[i]? = some p) (h : NoNum v) : x_use_of_c41b10 [encSite s, .str p.1, v] S = some (useX "day", S) := by
  refine (to_defX rfl).trans ?_
  rw [sq_none ((to_callX (ok_cons rfl (ok_cons rfl ok_nil))).trans (uses_xno G hi)) (ok_set ((to_call (ok_cons rfl (ok_cons rfl ok_nil))).trans (uses_of_eq G hi))), to_callX (ok_cons rfl ok_nil)]
  exact day_x h
theorem parts_day_bad {o : Option Str} (ho : ∀ x, o = some x → x ∈ s.mc.map (·.1)) (h : NoNum v) : g_parts_at [encSite s, oS o, v] S = .bad := by
  refine bad_def rfl ?_
  refine (nx_seq (ok_expr ((to_call (ok_cons rfl (ok_cons rfl ok_nil))).trans (require_place_eq G ho)))).trans ?_
  refine bad_seq (bad_expr ?_)
  rw [to_call (ok_cons rfl ok_nil)]
  exact day_bad h
theorem parts_day_x {o : Option Str} (ho : ∀ x, o = some x → x ∈ s.mc.map (·.1)) (h : NoNum v) : x_parts_at_158b9b [encSite s, oS o, v] S = some (useX "day", S) := by
  have rp := require_place_eq (S := S) G ho
  have xn : x_require_place_6dfbd6 [encSite s, oS o] S = none := by
    obtain ⟨ρ', e⟩ := def_nx (m := m_require_place) (n := 2) (p := 2) (fun _ _ _ _ => expr_rt) rp
    exact (to_defX rfl).trans (need_dual e)
  refine (to_defX rfl).trans ?_
  rw [sq_none ((to_callX (ok_cons rfl (ok_cons rfl ok_nil))).trans xn) (ok_expr ((to_call (ok_cons rfl (ok_cons rfl ok_nil))).trans rp)), to_callX (ok_cons rfl ok_nil)]
  exact day_x h
end
section
variable {S S' : Sto} {ρ : Ev} {fE : Mx} {xE : Xm} {z x0 : Str} {c : List Int} {a l t : Int} {N : Ev → Sto → Prop} {Rt : Wd → Sto → Prop}
abbrev useT (z : Str) : Wd := .tuple [.str "use", .str z, .int (-1)]
theorem hot_use (hS : S = [Rec.tab x0, fedR c a l t]) : hotR g_heard_k02 (useX z) S = .ok (useT z) S := by
  unfold hotR
  have e1 : g_heard_k02 [oW S.length] (S ++ [.exn (useX z).c (useX z).fs]) = .ok (useT z) (S ++ [.exn (useX z).c (useX z).fs]) := by
    rw [hS]
    generalize fedR c a l t = r
    kernel_rfl
  rw [e1]
  simp only
  have e2 : (S ++ [Rec.exn (useX z).c (useX z).fs]).take S.length = S := List.take_left ..
  rw [e2, if_pos]
  refine ⟨rfl, ?_⟩
  rw [hS]
  simp only [List.all_cons, List.all_nil, Bool.and_true, Rec.bnd, Bool.true_and, fedR, bndW, bnd_ints]
theorem ask_use (hS : S = [Rec.tab x0, fedR c a l t]) (hE : fE ρ S = .bad) (hX : xE ρ S = some (useX z, S)) : mAsk "told" ["NotUsable"] g_heard_k02 fE xE ρ S = .ok (useT z) S := by
  unfold mAsk
  simp only [hE, hX]
  rw [if_pos (by simp [useX]), hot_use hS]
theorem lam_use (hS : S = [Rec.tab x0, fedR c a l t]) (hE : fE ρ S = .bad) (hX : xE ρ S = some (useX z, S)) : mLam x0 "told" ["NotUsable"] g_heard_k02 fE xE ρ S = .ok (useT z) S := by
  unfold mLam
  have e0 : tabAt S x0 = some 0 := by
    rw [hS]
    unfold tabAt
    simp [List.findIdx?_cons]
  simp only [e0, hE, hX]
  rw [if_pos (by simp [useX]), hot_use hS]
theorem use_ne (hz : PyData.strOk z = true) : gNe (useT z) (useT z) = some (.bool false) := by
  have h : Lay 1 (useT z) := Lay.tup (k := 0) (mem3 (Lay.str (by decide +kernel)) (Lay.str hz) Lay.int)
  exact gNe_same (h.sh (by decide)) (eqv_refl h)
abbrev useM (z : Str) : Mx := mTup (aCons (mC (.str "use")) (aCons (mC (.str z)) (aCons (mUn gNeg (mC (.int 1))) aNil)))
theorem use_tup : useM z ρ S = .ok (useT z) S := by
  have hz := siz
  show (if 3 ≤ sizeLine then R.ok (useT z) S else .bad) = _
  rw [if_pos (by omega)]
theorem w_lams {i : Nat} {xo : Str} {m : Ms} (h : i < ρ.length) (ht : (tabAt S xo).isSome = true) (q : DL.wpS (m (ρ.set i none) S) N Rt) : DL.wpS (sLams i xo m ρ S) N Rt := by
  unfold sLams
  rw [if_pos ⟨h, ht⟩]
  exact q
theorem w_asks {ts : List (Mx × Xm)} {m : Ms} (hS : S = [Rec.tab x0, fedR c a l t]) (hz : PyData.strOk z = true) (h : ∀ t ∈ ts, t.1 ρ S = .bad ∧ t.2 ρ S = some (useX z, S)) (q : DL.wpS (m ρ S) N Rt) : DL.wpS (sAsk "told" ["NotUsable"] g_heard_k02 (useM z) ts m ρ S) N Rt := by
  have e : ∀ (ts : List (Mx × Xm)), (∀ t ∈ ts, t.1 ρ S = .bad ∧ t.2 ρ S = some (useX z, S)) → askL "told" ["NotUsable"] g_heard_k02 (useM z) ρ.length ts ρ S = some S := by
    intro ts
    induction ts with
    | nil => intro _; rfl
    | cons t ts ih =>
      intro h
      obtain ⟨h1, h2⟩ := h t (List.mem_cons_self ..)
      obtain ⟨fE, xE⟩ := t
      unfold askL
      simp only [ask_use hS h1 h2, use_tup, use_ne hz]
      exact ih fun t ht => h t (List.mem_cons_of_mem _ ht)
  unfold sAsk
  rw [e ts h]
  exact q
end
end WF
namespace WF
open PySem PySem.Spec PyProof.Rows L2 DL PL
structure Stray (s : Site) (m0 : Str × Us) (p0 : Str × Sy) : Prop where
  wm : ("west" : Str) ∉ s.mc.map (·.1)
  wp : ("west" : Str) ∉ s.parts.map (·.1)
  nj : ("nobody" : Str) ∉ s.jobs.map (·.nm)
  ez : ∃ y, gAdd (.str m0.1) (.str "z") = some (.str y) ∧ NoOf (.str y) (s.mc.map (·.1))
  ob : ∃ y, gAdd (.str p0.1) (.str " ") = some (.str y) ∧ NoName (.str y)
section
variable {S : Sto} {s : Site} {n : Nat} {x0 : Str} {c : List Int} {a l t : Int}
theorem no_west : NameOk "west" ∧ PyData.strOk "west" = true := ⟨fun S => by kernel_rfl, by decide +kernel⟩
theorem no_nobody : NameOk "nobody" ∧ PyData.strOk "nobody" = true := ⟨fun S => by kernel_rfl, by decide +kernel⟩
theorem no_empty : NoName (.str "") := fun S => by kernel_rfl
theorem no_nobody2 : NoName (.str "nobody ") := fun S => by kernel_rfl
theorem noNum_int {i : Int} (h : i < 0) : NoNum (.int i) := fun S => by
  refine wpR_ok (w_def rfl ?_)
  unfold m_is_number
  (repeat (with_reducible first | refine zq14 ?_ | refine zq11 ?_ | refine zq10 ?_ | refine zq3 ?_ | refine zq4 ?_ | refine zq5 ?_ | refine zq0 ?_ | refine zq8 ?_ | refine zq6 ?_ | refine zq1 ?_ | refine zq13 ?_ | refine zq12 ?_ | refine zq7 ?_ | refine zq2 ?_ | refine zq9 ?_))
  refine w_eq (show g_is_integer [.int i] S = .ok (.bool true) S from rfl) ?_
  (repeat (with_reducible first | refine zq14 ?_ | refine zq11 ?_ | refine zq10 ?_ | refine zq3 ?_ | refine zq4 ?_ | refine zq5 ?_ | refine zq0 ?_ | refine zq8 ?_ | refine zq6 ?_ | refine zq1 ?_ | refine zq13 ?_ | refine zq12 ?_ | refine zq7 ?_ | refine zq2 ?_ | refine zq9 ?_))
  exact ⟨by rw [decide_eq_false (by omega)], rfl⟩
theorem ask2 {ρ : Ev} {fs : Ma} {g : Gd} {gx : Xd} {ws : List Wd} {r : Xn × Sto} (h : fs ρ S = .ok ws S) (h1 : g ws S = .bad) (h2 : gx ws S = some r) : (mCall g fs, xCall gx fs).1 ρ S = .bad ∧ (mCall g fs, xCall gx fs).2 ρ S = some r := ⟨(to_call h).trans h1, (to_callX h).trans h2⟩
theorem strays_right_eq (G : Good n s) {m0 : Str × Us} {p0 : Str × Sy} (hm0 : s.mc[0]? = some m0) (hp0 : s.parts[0]? = some p0) (F : Stray s m0 p0) {spot : Int} (hS : S = [Rec.tab "_law_strays_right", fedR c a l t]) : g_strays_right_k04 [encSite s, .int spot] S = .ok (.bool true) S := by
  have hz := siz
  have tb : (tabAt S "_law_strays_right").isSome = true := by
    rw [hS]
    unfold tabAt
    simp [List.findIdx?_cons]
  obtain ⟨ey, ee, en⟩ := F.ez
  obtain ⟨oy, oe, on⟩ := F.ob
  refine wpR_ok (w_def rfl ?_)
  unfold m_strays_right_k04
  refine zq15 ?_
  (repeat (with_reducible first | refine zq14 ?_ | refine zq11 ?_ | refine zq10 ?_ | refine zq3 ?_ | refine zq4 ?_ | refine zq5 ?_ | refine zq0 ?_ | refine zq8 ?_ | refine zq6 ?_ | refine zq1 ?_ | refine zq13 ?_ | refine zq12 ?_ | refine zq7 ?_ | refine zq2 ?_ | refine zq9 ?_))
  refine wpO_rfl (w := PL.encM m0) (ixTo (i := 0) (by rw [List.getElem?_map, hm0]; rfl)) ?_
  (repeat (with_reducible first | refine zq14 ?_ | refine zq11 ?_ | refine zq10 ?_ | refine zq3 ?_ | refine zq4 ?_ | refine zq5 ?_ | refine zq0 ?_ | refine zq8 ?_ | refine zq6 ?_ | refine zq1 ?_ | refine zq13 ?_ | refine zq12 ?_ | refine zq7 ?_ | refine zq2 ?_ | refine zq9 ?_))
  refine wpO_rfl (w := encP p0) (ixTo (i := 0) (by rw [List.getElem?_map, hp0]; rfl)) ?_
  (repeat (with_reducible first | refine zq14 ?_ | refine zq11 ?_ | refine zq10 ?_ | refine zq3 ?_ | refine zq4 ?_ | refine zq5 ?_ | refine zq0 ?_ | refine zq8 ?_ | refine zq6 ?_ | refine zq1 ?_ | refine zq13 ?_ | refine zq12 ?_ | refine zq7 ?_ | refine zq2 ?_ | refine zq9 ?_))
  refine w_seqJ (fun ρ S' => S' = S ∧ ∃ x4 x5 x6 : Option Sl, ρ = [some (.val (encSite s)), some (.val (.int spot)), some (.val (.str m0.1)), some (.val (.str p0.1)), x4, x5, x6]) ?_ ?_
  · (repeat (with_reducible first | refine zq14 ?_ | refine zq11 ?_ | refine zq10 ?_ | refine zq3 ?_ | refine zq4 ?_ | refine zq5 ?_ | refine zq0 ?_ | refine zq8 ?_ | refine zq6 ?_ | refine zq1 ?_ | refine zq13 ?_ | refine zq12 ?_ | refine zq7 ?_ | refine zq2 ?_ | refine zq9 ?_))
    refine w_slk ?_
    (repeat (with_reducible first | refine zq14 ?_ | refine zq11 ?_ | refine zq10 ?_ | refine zq3 ?_ | refine zq4 ?_ | refine zq5 ?_ | refine zq0 ?_ | refine zq8 ?_ | refine zq6 ?_ | refine zq1 ?_ | refine zq13 ?_ | refine zq12 ?_ | refine zq7 ?_ | refine zq2 ?_ | refine zq9 ?_))
    refine wpO_rfl oe ?_
    (repeat (with_reducible first | refine zq14 ?_ | refine zq11 ?_ | refine zq10 ?_ | refine zq3 ?_ | refine zq4 ?_ | refine zq5 ?_ | refine zq0 ?_ | refine zq8 ?_ | refine zq6 ?_ | refine zq1 ?_ | refine zq13 ?_ | refine zq12 ?_ | refine zq7 ?_ | refine zq2 ?_ | refine zq9 ?_))
    refine wpO_rfl (w := encP p0) (ixTo (i := 0) (by rw [List.getElem?_map, hp0]; rfl)) ?_
    (repeat (with_reducible first | refine zq14 ?_ | refine zq11 ?_ | refine zq10 ?_ | refine zq3 ?_ | refine zq4 ?_ | refine zq5 ?_ | refine zq0 ?_ | refine zq8 ?_ | refine zq6 ?_ | refine zq1 ?_ | refine zq13 ?_ | refine zq12 ?_ | refine zq7 ?_ | refine zq2 ?_ | refine zq9 ?_))
    refine wp_forI (I := fun ρ S' => S' = S ∧ ∃ x4 x5 x6 : Option Sl, ρ = [some (.val (encSite s)), some (.val (.int spot)), some (.val (.str m0.1)), some (.val (.str p0.1)), x4, x5, x6]) ?_ (fun _ _ h => h) _ _ ⟨rfl, _, _, _, rfl⟩
    rintro w hw ρ S' ⟨rfl, x4, x5, x6, rfl⟩
    have hw := mem_pick hw
    have no : NoOf w (s.parts.map (·.1)) := by
      simp only [List.mem_cons, List.mem_nil_iff, or_false] at hw
      rcases hw with rfl | rfl | rfl | rfl | rfl | rfl | rfl | rfl | rfl | rfl
      · exact .inr ⟨_, rfl, no_west.1, no_west.2, F.wp⟩
      · exact .inl no_empty
      · exact .inl (noName_of rfl)
      · exact .inl (noName_of rfl)
      · exact .inl (noName_of rfl)
      · exact .inl (noName_of rfl)
      · exact .inl (noName_of rfl)
      · exact .inl on
      · exact .inl (noName_of rfl)
      · exact .inl (noName_of rfl)
    clear hw
    refine ⟨_, rfl, ?_⟩
    refine w_lams (by simp) tb ?_
    refine w_asks hS (by decide +kernel) ?_ ?_
    · intro t ht
      simp only [List.mem_cons, List.mem_nil_iff, or_false] at ht
      rcases ht with rfl | rfl
      · exact ask2 (ok_cons rfl (ok_cons rfl (ok_cons rfl ok_nil))) (place_bad G no) (place_x G no)
      · exact ask2 (ok_cons rfl (ok_cons rfl ok_nil)) (tasks_bad G no) (tasks_x G no)
    (repeat (with_reducible first | refine zq14 ?_ | refine zq11 ?_ | refine zq10 ?_ | refine zq3 ?_ | refine zq4 ?_ | refine zq5 ?_ | refine zq0 ?_ | refine zq8 ?_ | refine zq6 ?_ | refine zq1 ?_ | refine zq13 ?_ | refine zq12 ?_ | refine zq7 ?_ | refine zq2 ?_ | refine zq9 ?_))
    exact ⟨rfl, _, _, _, rfl⟩
  rintro ρ S' ⟨rfl, x4, x5, x6, rfl⟩
  refine w_seqJ (fun ρ S'' => S'' = S' ∧ ∃ x4 x5 x6 : Option Sl, ρ = [some (.val (encSite s)), some (.val (.int spot)), some (.val (.str m0.1)), some (.val (.str p0.1)), x4, x5, x6]) ?_ ?_
  · (repeat (with_reducible first | refine zq14 ?_ | refine zq11 ?_ | refine zq10 ?_ | refine zq3 ?_ | refine zq4 ?_ | refine zq5 ?_ | refine zq0 ?_ | refine zq8 ?_ | refine zq6 ?_ | refine zq1 ?_ | refine zq13 ?_ | refine zq12 ?_ | refine zq7 ?_ | refine zq2 ?_ | refine zq9 ?_))
    refine w_slk ?_
    (repeat (with_reducible first | refine zq14 ?_ | refine zq11 ?_ | refine zq10 ?_ | refine zq3 ?_ | refine zq4 ?_ | refine zq5 ?_ | refine zq0 ?_ | refine zq8 ?_ | refine zq6 ?_ | refine zq1 ?_ | refine zq13 ?_ | refine zq12 ?_ | refine zq7 ?_ | refine zq2 ?_ | refine zq9 ?_))
    refine wpO_rfl ee ?_
    (repeat (with_reducible first | refine zq14 ?_ | refine zq11 ?_ | refine zq10 ?_ | refine zq3 ?_ | refine zq4 ?_ | refine zq5 ?_ | refine zq0 ?_ | refine zq8 ?_ | refine zq6 ?_ | refine zq1 ?_ | refine zq13 ?_ | refine zq12 ?_ | refine zq7 ?_ | refine zq2 ?_ | refine zq9 ?_))
    refine wpO_rfl (w := PL.encM m0) (ixTo (i := 0) (by rw [List.getElem?_map, hm0]; rfl)) ?_
    (repeat (with_reducible first | refine zq14 ?_ | refine zq11 ?_ | refine zq10 ?_ | refine zq3 ?_ | refine zq4 ?_ | refine zq5 ?_ | refine zq0 ?_ | refine zq8 ?_ | refine zq6 ?_ | refine zq1 ?_ | refine zq13 ?_ | refine zq12 ?_ | refine zq7 ?_ | refine zq2 ?_ | refine zq9 ?_))
    refine wp_forI (I := fun ρ S'' => S'' = S' ∧ ∃ x4 x5 x6 : Option Sl, ρ = [some (.val (encSite s)), some (.val (.int spot)), some (.val (.str m0.1)), some (.val (.str p0.1)), x4, x5, x6]) ?_ (fun _ _ h => h) _ _ ⟨rfl, _, _, _, rfl⟩
    rintro w hw ρ S'' ⟨rfl, x4, x5, x6, rfl⟩
    have hw := mem_pick hw
    have no : NoOf w (s.mc.map (·.1)) := by
      simp only [List.mem_cons, List.mem_nil_iff, or_false] at hw
      rcases hw with rfl | rfl | rfl | rfl | rfl | rfl | rfl | rfl | rfl
      · exact .inr ⟨_, rfl, no_west.1, no_west.2, F.wm⟩
      · exact .inl no_empty
      · exact .inl (noName_of rfl)
      · exact .inl (noName_of rfl)
      · exact .inl (noName_of rfl)
      · exact .inl (noName_of rfl)
      · exact en
      · exact .inl (noName_of rfl)
      · exact .inl (noName_of rfl)
    clear hw
    refine ⟨_, rfl, ?_⟩
    refine zq15 ?_
    (repeat (with_reducible first | refine zq14 ?_ | refine zq11 ?_ | refine zq10 ?_ | refine zq3 ?_ | refine zq4 ?_ | refine zq5 ?_ | refine zq0 ?_ | refine zq8 ?_ | refine zq6 ?_ | refine zq1 ?_ | refine zq13 ?_ | refine zq12 ?_ | refine zq7 ?_ | refine zq2 ?_ | refine zq9 ?_))
    refine w_eq (lam_use hS ((to_call (ok_cons rfl (ok_cons rfl (ok_cons rfl ok_nil)))).trans (use_bad G no)) ((to_callX (ok_cons rfl (ok_cons rfl (ok_cons rfl ok_nil)))).trans (use_x G no))) ?_
    (repeat (with_reducible first | refine zq14 ?_ | refine zq11 ?_ | refine zq10 ?_ | refine zq3 ?_ | refine zq4 ?_ | refine zq5 ?_ | refine zq0 ?_ | refine zq8 ?_ | refine zq6 ?_ | refine zq1 ?_ | refine zq13 ?_ | refine zq12 ?_ | refine zq7 ?_ | refine zq2 ?_ | refine zq9 ?_))
    refine w_b (fun c => ?_) (fun c => ?_)
    · have hw : gIsN w .none = some (.bool false) := by
        show some (PyData.bool (noneD w)) = _
        rw [show noneD w = false by simpa using c]
      (repeat (with_reducible first | refine zq14 ?_ | refine zq11 ?_ | refine zq10 ?_ | refine zq3 ?_ | refine zq4 ?_ | refine zq5 ?_ | refine zq0 ?_ | refine zq8 ?_ | refine zq6 ?_ | refine zq1 ?_ | refine zq13 ?_ | refine zq12 ?_ | refine zq7 ?_ | refine zq2 ?_ | refine zq9 ?_))
      refine w_eq (lam_use hS ((to_call (ok_cons rfl (ok_cons rfl (ok_cons rfl ok_nil)))).trans (parts_bad G no hw)) ((to_callX (ok_cons rfl (ok_cons rfl (ok_cons rfl ok_nil)))).trans (parts_x G no hw))) ?_
      (repeat (with_reducible first | refine zq14 ?_ | refine zq11 ?_ | refine zq10 ?_ | refine zq3 ?_ | refine zq4 ?_ | refine zq5 ?_ | refine zq0 ?_ | refine zq8 ?_ | refine zq6 ?_ | refine zq1 ?_ | refine zq13 ?_ | refine zq12 ?_ | refine zq7 ?_ | refine zq2 ?_ | refine zq9 ?_))
      exact ⟨rfl, _, _, _, rfl⟩
    · (repeat (with_reducible first | refine zq14 ?_ | refine zq11 ?_ | refine zq10 ?_ | refine zq3 ?_ | refine zq4 ?_ | refine zq5 ?_ | refine zq0 ?_ | refine zq8 ?_ | refine zq6 ?_ | refine zq1 ?_ | refine zq13 ?_ | refine zq12 ?_ | refine zq7 ?_ | refine zq2 ?_ | refine zq9 ?_))
      exact ⟨rfl, _, _, _, rfl⟩
  rintro ρ S'' ⟨rfl, x4, x5, x6, rfl⟩
  refine w_seqJ (fun ρ S' => S' = S'' ∧ ∃ x4 x5 x6 : Option Sl, ρ = [some (.val (encSite s)), some (.val (.int spot)), some (.val (.str m0.1)), some (.val (.str p0.1)), x4, x5, x6]) ?_ ?_
  · (repeat (with_reducible first | refine zq14 ?_ | refine zq11 ?_ | refine zq10 ?_ | refine zq3 ?_ | refine zq4 ?_ | refine zq5 ?_ | refine zq0 ?_ | refine zq8 ?_ | refine zq6 ?_ | refine zq1 ?_ | refine zq13 ?_ | refine zq12 ?_ | refine zq7 ?_ | refine zq2 ?_ | refine zq9 ?_))
    refine w_slk ?_
    (repeat (with_reducible first | refine zq14 ?_ | refine zq11 ?_ | refine zq10 ?_ | refine zq3 ?_ | refine zq4 ?_ | refine zq5 ?_ | refine zq0 ?_ | refine zq8 ?_ | refine zq6 ?_ | refine zq1 ?_ | refine zq13 ?_ | refine zq12 ?_ | refine zq7 ?_ | refine zq2 ?_ | refine zq9 ?_))
    refine wp_forI (I := fun ρ S' => S' = S'' ∧ ∃ x4 x5 x6 : Option Sl, ρ = [some (.val (encSite s)), some (.val (.int spot)), some (.val (.str m0.1)), some (.val (.str p0.1)), x4, x5, x6]) ?_ (fun _ _ h => h) _ _ ⟨rfl, _, _, _, rfl⟩
    rintro w hw ρ S' ⟨rfl, x4, x5, x6, rfl⟩
    have hw := mem_pick hw
    have no : NoNum w := by
      simp only [List.mem_cons, List.mem_nil_iff, or_false] at hw
      rcases hw with rfl | rfl | rfl | rfl | rfl | rfl | rfl | rfl
      · exact noNum_int (by decide)
      · exact fun S => by kernel_rfl
      · exact fun S => by kernel_rfl
      · exact fun S => by kernel_rfl
      · exact fun S => by kernel_rfl
      · exact fun S => by kernel_rfl
      · exact fun S => by kernel_rfl
      · exact noNum_int (by decide +kernel)
    clear hw
    refine ⟨_, rfl, ?_⟩
    refine w_lams (by simp) tb ?_
    refine w_asks hS (by decide +kernel) ?_ ?_
    · intro t ht
      have hom : ∀ x, some m0.1 = some x → x ∈ s.mc.map (·.1) := fun x e => by
        cases e
        exact List.mem_map_of_mem (List.mem_of_getElem? hm0)
      simp only [List.mem_cons, List.mem_nil_iff, or_false] at ht
      rcases ht with rfl | rfl | rfl | rfl
      · exact ask2 (ok_cons rfl (ok_cons rfl (ok_cons rfl ok_nil))) (place_day_bad G hp0 no) (place_day_x G hp0 no)
      · exact ask2 (ok_cons rfl (ok_cons rfl (ok_cons rfl ok_nil))) (use_day_bad G hm0 no) (use_day_x G hm0 no)
      · exact ask2 (ok_cons rfl (ok_cons rfl (ok_cons rfl ok_nil))) (parts_day_bad G (o := some m0.1) hom no) (parts_day_x G (o := some m0.1) hom no)
      · exact ask2 (ok_cons rfl (ok_cons rfl (ok_cons rfl ok_nil))) (parts_day_bad G (o := none) (fun _ e => by cases e) no) (parts_day_x G (o := none) (fun _ e => by cases e) no)
    (repeat (with_reducible first | refine zq14 ?_ | refine zq11 ?_ | refine zq10 ?_ | refine zq3 ?_ | refine zq4 ?_ | refine zq5 ?_ | refine zq0 ?_ | refine zq8 ?_ | refine zq6 ?_ | refine zq1 ?_ | refine zq13 ?_ | refine zq12 ?_ | refine zq7 ?_ | refine zq2 ?_ | refine zq9 ?_))
    exact ⟨rfl, _, _, _, rfl⟩
  rintro ρ S' ⟨rfl, x4, x5, x6, rfl⟩
  refine w_seqJ (fun ρ S'' => S'' = S' ∧ ∃ x4 x5 x6 : Option Sl, ρ = [some (.val (encSite s)), some (.val (.int spot)), some (.val (.str m0.1)), some (.val (.str p0.1)), x4, x5, x6]) ?_ ?_
  · (repeat (with_reducible first | refine zq14 ?_ | refine zq11 ?_ | refine zq10 ?_ | refine zq3 ?_ | refine zq4 ?_ | refine zq5 ?_ | refine zq0 ?_ | refine zq8 ?_ | refine zq6 ?_ | refine zq1 ?_ | refine zq13 ?_ | refine zq12 ?_ | refine zq7 ?_ | refine zq2 ?_ | refine zq9 ?_))
    refine w_slk ?_
    (repeat (with_reducible first | refine zq14 ?_ | refine zq11 ?_ | refine zq10 ?_ | refine zq3 ?_ | refine zq4 ?_ | refine zq5 ?_ | refine zq0 ?_ | refine zq8 ?_ | refine zq6 ?_ | refine zq1 ?_ | refine zq13 ?_ | refine zq12 ?_ | refine zq7 ?_ | refine zq2 ?_ | refine zq9 ?_))
    refine wp_forI (I := fun ρ S'' => S'' = S' ∧ ∃ x4 x5 x6 : Option Sl, ρ = [some (.val (encSite s)), some (.val (.int spot)), some (.val (.str m0.1)), some (.val (.str p0.1)), x4, x5, x6]) ?_ (fun _ _ h => h) _ _ ⟨rfl, _, _, _, rfl⟩
    rintro w hw ρ S'' ⟨rfl, x4, x5, x6, rfl⟩
    have hw := mem_pick hw
    have no : NoOf w (s.jobs.map (·.nm)) := by
      simp only [List.mem_cons, List.mem_nil_iff, or_false] at hw
      rcases hw with rfl | rfl | rfl | rfl | rfl | rfl | rfl | rfl | rfl
      · exact .inr ⟨_, rfl, no_nobody.1, no_nobody.2, F.nj⟩
      · exact .inl no_empty
      · exact .inl (noName_of rfl)
      · exact .inl (noName_of rfl)
      · exact .inl (noName_of rfl)
      · exact .inl (noName_of rfl)
      · exact .inl (noName_of rfl)
      · exact .inl (noName_of rfl)
      · exact .inl no_nobody2
    clear hw
    refine ⟨_, rfl, ?_⟩
    refine w_lams (by simp) tb ?_
    refine w_asks hS (by decide +kernel) ?_ ?_
    · intro t ht
      simp only [List.mem_cons, List.mem_nil_iff, or_false] at ht
      rcases ht with rfl | rfl
      · exact ask2 (ok_cons rfl (ok_cons rfl ok_nil)) (part_bad G no) (part_x G no)
      · exact ask2 (ok_cons rfl (ok_cons rfl ok_nil)) (number_bad G no) (number_x G no)
    (repeat (with_reducible first | refine zq14 ?_ | refine zq11 ?_ | refine zq10 ?_ | refine zq3 ?_ | refine zq4 ?_ | refine zq5 ?_ | refine zq0 ?_ | refine zq8 ?_ | refine zq6 ?_ | refine zq1 ?_ | refine zq13 ?_ | refine zq12 ?_ | refine zq7 ?_ | refine zq2 ?_ | refine zq9 ?_))
    exact ⟨rfl, _, _, _, rfl⟩
  rintro ρ S'' ⟨rfl, x4, x5, x6, rfl⟩
  (repeat (with_reducible first | refine zq14 ?_ | refine zq11 ?_ | refine zq10 ?_ | refine zq3 ?_ | refine zq4 ?_ | refine zq5 ?_ | refine zq0 ?_ | refine zq8 ?_ | refine zq6 ?_ | refine zq1 ?_ | refine zq13 ?_ | refine zq12 ?_ | refine zq7 ?_ | refine zq2 ?_ | refine zq9 ?_))
  exact ⟨rfl, rfl⟩
end
end WF
namespace WF
open PySem PySem.Spec PyProof.Rows L2 DL PL
section
variable {S : Sto}
theorem hand_right_eq : g_hand_right_k04 [] S = .ok (.bool true) S := by kernel_rfl
end
end WF
namespace WF
open PySem PySem.Spec PyProof.Rows L2 DL PL
section
variable {S : Sto}
theorem wide_right_eq : g_wide_right_k04 [] S = .ok (.bool true) S := by kernel_rfl
end
end WF
namespace WF
open PySem PySem.Spec PyProof.Rows L2 DL PL
def firstS : Site where
  mc := [("lift", [(8, 2)]), ("mill", [(2, 5), (6, 0)])]
  parts := [("pump", [(0, some "lift")]), ("saw", [(0, some "mill"), (4, some "lift")])]
  jobs := [⟨"clean", "saw", "fresh", .one .days 6, 0, 0, 0⟩, ⟨"oil", "pump", "kept", .join false [.one .hours 40, .one .days 7], 8, 0, 1⟩]
section
variable {S : Sto}
theorem first_eq : g_first_site_k01 [] S = .ok (encSite firstS) S := by kernel_rfl
theorem first_small : Good 4 firstS ∧ SmallS firstS := by
  have l1 : LimB 1 99 4 (.one .days 6) := by simp [LimB]
  have l2 : LimB 1 99 4 (.join false [.one .hours 40, .one .days 7]) := by simp [LimB]
  refine ⟨⟨?_, ?_, ?_, by decide +kernel, by decide +kernel, by decide +kernel, by decide +kernel, ?_, ?_, by decide, by decide, by decide, by decide⟩, ⟨by decide, by decide +kernel, by decide, by decide +kernel, by decide, ?_, by decide +kernel⟩⟩
  · intro m hm
    simp only [firstS, List.mem_cons, List.mem_nil_iff, or_false] at hm
    rcases hm with rfl | rfl
    · exact nm_all _ (by decide +kernel)
    · exact nm_all _ (by decide +kernel)
  · intro m hm
    simp only [firstS, List.mem_cons, List.mem_nil_iff, or_false] at hm
    rcases hm with rfl | rfl
    · exact nm_all _ (by decide +kernel)
    · exact nm_all _ (by decide +kernel)
  · intro m hm
    simp only [firstS, List.mem_cons, List.mem_nil_iff, or_false] at hm
    rcases hm with rfl | rfl
    · exact nm_all _ (by decide +kernel)
    · exact nm_all _ (by decide +kernel)
  · intro p hp
    simp only [firstS, List.mem_cons, List.mem_nil_iff, or_false] at hp
    rcases hp with rfl | rfl
    · exact ⟨⟨_, _, rfl⟩, by decide, by decide +kernel, by decide +kernel, by
        intro q hq x e
        simp only [List.mem_cons, List.mem_nil_iff, or_false] at hq
        rcases hq with rfl <;> simp at e <;> subst e <;> decide +kernel⟩
    · exact ⟨⟨_, _, rfl⟩, by decide, by decide +kernel, by decide +kernel, by
        intro q hq x e
        simp only [List.mem_cons, List.mem_nil_iff, or_false] at hq
        rcases hq with rfl | rfl <;> simp at e <;> subst e <;> decide +kernel⟩
  · intro j hj
    simp only [firstS, List.mem_cons, List.mem_nil_iff, or_false] at hj
    rcases hj with rfl | rfl
    · exact ⟨by decide +kernel, .inr rfl, ⟨99, 4, ⟨l1, by decide, by decide⟩, by decide⟩, by decide⟩
    · exact ⟨by decide +kernel, .inl rfl, ⟨99, 4, ⟨l2, by decide, by decide⟩, by decide⟩, by decide⟩
  · intro j hj
    simp only [firstS, List.mem_cons, List.mem_nil_iff, or_false] at hj
    rcases hj with rfl | rfl
    · exact ⟨l1, by decide⟩
    · exact ⟨l2, by decide⟩
structure FitK (s : Site) : Prop where
  g : Good 4 s
  sm : SmallS s
  st : ∃ m0 p0, s.mc[0]? = some m0 ∧ s.parts[0]? = some p0 ∧ Stray s m0 p0
theorem z_name {e : Str} {ns : List Str} (y : Str) (h : gAdd (.str e) (.str "z") = some (.str y)) (hy : NameOk y) (ho : PyData.strOk y = true) (hn : y ∉ ns) : ∃ y, gAdd (.str e) (.str "z") = some (.str y) ∧ NoOf (.str y) ns := ⟨y, h, .inr ⟨_, rfl, hy, ho, hn⟩⟩
abbrev mL4 : List (List Str) := [["days", "task"], ["lift", "mill"], ["a"], ["first", "machine", "zzzzzzzz"], ["days", "part"]]
abbrev pL4 : List (List Str) := [["machine", "task"], ["pump", "saw"], ["a", "b", "c", "d"], ["part", "task"], ["x"]]
abbrev jL4 : List (List Str) := [["first", "part", "task"], ["clean", "oil"], [], ["fresh", "kept", "task"], ["a", "b", "c", "d"]]
theorem m_facts : ∀ ns ∈ mL4, ∀ e, ns[0]? = some e → ("west" : Str) ∉ ns ∧ ∃ y, gAdd (.str e) (.str "z") = some (.str y) ∧ NoOf (.str y) ns := by
  intro ns h e he
  simp only [List.mem_cons, List.mem_nil_iff, or_false] at h
  rcases h with rfl | rfl | rfl | rfl | rfl
  · cases he; exact ⟨by decide +kernel, z_name "daysz" (by kernel_rfl) (fun S => by kernel_rfl) (by decide +kernel) (by decide +kernel)⟩
  · cases he; exact ⟨by decide +kernel, z_name "liftz" (by kernel_rfl) (fun S => by kernel_rfl) (by decide +kernel) (by decide +kernel)⟩
  · cases he; exact ⟨by decide +kernel, z_name "az" (by kernel_rfl) (fun S => by kernel_rfl) (by decide +kernel) (by decide +kernel)⟩
  · cases he; exact ⟨by decide +kernel, z_name "firstz" (by kernel_rfl) (fun S => by kernel_rfl) (by decide +kernel) (by decide +kernel)⟩
  · cases he; exact ⟨by decide +kernel, z_name "daysz" (by kernel_rfl) (fun S => by kernel_rfl) (by decide +kernel) (by decide +kernel)⟩
theorem p_facts : ∀ ns ∈ pL4, ∀ e, ns[0]? = some e → ("west" : Str) ∉ ns ∧ ∃ y, gAdd (.str e) (.str " ") = some (.str y) ∧ NoName (.str y) := by
  intro ns h e he
  simp only [List.mem_cons, List.mem_nil_iff, or_false] at h
  rcases h with rfl | rfl | rfl | rfl | rfl
  · cases he; exact ⟨by decide +kernel, "machine ", by kernel_rfl, fun S => by kernel_rfl⟩
  · cases he; exact ⟨by decide +kernel, "pump ", by kernel_rfl, fun S => by kernel_rfl⟩
  · cases he; exact ⟨by decide +kernel, "a ", by kernel_rfl, fun S => by kernel_rfl⟩
  · cases he; exact ⟨by decide +kernel, "part ", by kernel_rfl, fun S => by kernel_rfl⟩
  · cases he; exact ⟨by decide +kernel, "x ", by kernel_rfl, fun S => by kernel_rfl⟩
theorem j_facts : ∀ ns ∈ jL4, ("nobody" : Str) ∉ ns := by decide +kernel
theorem fitK_of {s : Site} (g : Good 4 s) (sm : SmallS s) (h1 : s.mc.map (·.1) ∈ mL4) (h2 : s.parts.map (·.1) ∈ pL4) (h3 : s.jobs.map (·.nm) ∈ jL4) (m0 : 0 < s.mc.length) (p0 : 0 < s.parts.length) : FitK s := by
  have em : (s.mc.map (·.1))[0]? = some (s.mc[0]).1 := by rw [List.getElem?_map, List.getElem?_eq_getElem m0]; rfl
  have ep : (s.parts.map (·.1))[0]? = some (s.parts[0]).1 := by rw [List.getElem?_map, List.getElem?_eq_getElem p0]; rfl
  obtain ⟨a1, a2⟩ := m_facts _ h1 _ em
  obtain ⟨b1, b2⟩ := p_facts _ h2 _ ep
  exact ⟨g, sm, s.mc[0], s.parts[0], List.getElem?_eq_getElem m0, List.getElem?_eq_getElem p0, ⟨a1, b1, j_facts _ h3, a2, b2⟩⟩
theorem fitK_first : FitK firstS := fitK_of first_small.1 first_small.2 (by decide +kernel) (by decide +kernel) (by decide +kernel) (by decide) (by decide)
theorem fitK_second : FitK secondS := fitK_of second_drawn.g second_drawn.sm (by decide +kernel) (by decide +kernel) (by decide +kernel) (by decide) (by decide)
theorem fitK_drawn {s : Site} (h : Drawn s) (k : Named s) : FitK s := fitK_of h.g h.sm (List.mem_cons_of_mem _ k.m) (List.mem_cons_of_mem _ k.p) (List.mem_cons_of_mem _ k.j) h.m0 h.p0
theorem told1 : g_place_of [encSite firstS, .str "saw", .int 3] S = .ok (.str "mill") S := by kernel_rfl
theorem told2 : g_use_of [encSite firstS, .str "mill", .int 9] S = .ok (.tuple [.int 6, .int 0]) S := by kernel_rfl
theorem told3 : g_parts_at [encSite firstS, .str "lift", .int 4] S = .ok (.tuple [.str "pump", .str "saw"]) S := by kernel_rfl
theorem told4 : g_tasks_of [encSite firstS, .str "saw"] S = .ok (.tuple [.str "clean"]) S := by kernel_rfl
theorem told5 : g_part_of [encSite firstS, .str "oil"] S = .ok (.str "pump") S := by kernel_rfl
theorem told6 : g_number_of [encSite firstS, .str "oil"] S = .ok (.int 1) S := by kernel_rfl
theorem law_k04_true (ns : List Int) (h : ns.length ≤ 63) : ∃ S', g_law_k04 [.list (ns.map PyData.int)] [Rec.tab "_law_strays_right"] = .ok (.bool true) S' := by
  have hz := siz
  suffices hw : wpE (g_law_k04 [.list (ns.map PyData.int)] [Rec.tab "_law_strays_right"]) fun w _ => w = .bool true by
    obtain ⟨w, S', e, rfl⟩ := wpE_ex.1 hw
    exact ⟨S', e⟩
  refine w_def rfl ?_
  unfold m_law_k04
  refine zq15 ?_
  (repeat (with_reducible first | refine zq14 ?_ | refine zq11 ?_ | refine zq10 ?_ | refine zq3 ?_ | refine zq4 ?_ | refine zq5 ?_ | refine zq0 ?_ | refine zq8 ?_ | refine zq6 ?_ | refine zq1 ?_ | refine zq13 ?_ | refine zq12 ?_ | refine zq7 ?_ | refine zq2 ?_ | refine zq9 ?_))
  refine w_eq (TB.feed_k01_eq h) ?_
  have hS : TB.FedOk "_law_strays_right" [] [Rec.tab "_law_strays_right", fedR ns 0 0 0] := ⟨_, _, _, _, rfl⟩
  refine w_seqJ (fun ρ S => TB.FedOk "_law_strays_right" [] S ∧ ∃ x2 x3 x4 : Option Sl, ρ = [some (.val (.list (ns.map PyData.int))), some (.val (oW 1)), x2, x3, x4]) ?_ ?_
  · (repeat (with_reducible first | refine zq14 ?_ | refine zq11 ?_ | refine zq10 ?_ | refine zq3 ?_ | refine zq4 ?_ | refine zq5 ?_ | refine zq0 ?_ | refine zq8 ?_ | refine zq6 ?_ | refine zq1 ?_ | refine zq13 ?_ | refine zq12 ?_ | refine zq7 ?_ | refine zq2 ?_ | refine zq9 ?_))
    refine TB.site_k01_wp hS fun s0 S1 hs0 hn0 hS1 => ?_
    (repeat (with_reducible first | refine zq14 ?_ | refine zq11 ?_ | refine zq10 ?_ | refine zq3 ?_ | refine zq4 ?_ | refine zq5 ?_ | refine zq0 ?_ | refine zq8 ?_ | refine zq6 ?_ | refine zq1 ?_ | refine zq13 ?_ | refine zq12 ?_ | refine zq7 ?_ | refine zq2 ?_ | refine zq9 ?_))
    refine w_eq second_eq ?_
    (repeat (with_reducible first | refine zq14 ?_ | refine zq11 ?_ | refine zq10 ?_ | refine zq3 ?_ | refine zq4 ?_ | refine zq5 ?_ | refine zq0 ?_ | refine zq8 ?_ | refine zq6 ?_ | refine zq1 ?_ | refine zq13 ?_ | refine zq12 ?_ | refine zq7 ?_ | refine zq2 ?_ | refine zq9 ?_))
    refine w_eq first_eq ?_
    (repeat (with_reducible first | refine zq14 ?_ | refine zq11 ?_ | refine zq10 ?_ | refine zq3 ?_ | refine zq4 ?_ | refine zq5 ?_ | refine zq0 ?_ | refine zq8 ?_ | refine zq6 ?_ | refine zq1 ?_ | refine zq13 ?_ | refine zq12 ?_ | refine zq7 ?_ | refine zq2 ?_ | refine zq9 ?_))
    refine TB.draw_k01_wp hS1 (by decide) (by decide) fun d S2 hd0 hd1 hS2 => ?_
    refine pickK hd0 (by simpa using hd1) fun y hy => ?_
    (repeat (with_reducible first | refine zq14 ?_ | refine zq11 ?_ | refine zq10 ?_ | refine zq3 ?_ | refine zq4 ?_ | refine zq5 ?_ | refine zq0 ?_ | refine zq8 ?_ | refine zq6 ?_ | refine zq1 ?_ | refine zq13 ?_ | refine zq12 ?_ | refine zq7 ?_ | refine zq2 ?_ | refine zq9 ?_))
    have hall : ∀ w ∈ [encSite s0, y], ∃ s, w = encSite s ∧ FitK s := by
      intro w hw
      simp only [List.mem_cons, List.mem_nil_iff, or_false] at hw hy
      rcases hw with rfl | rfl
      · exact ⟨_, rfl, fitK_drawn hs0 hn0⟩
      · rcases hy with rfl | rfl
        · exact ⟨_, rfl, fitK_second⟩
        · exact ⟨_, rfl, fitK_first⟩
    refine wp_forI (I := fun ρ S => TB.FedOk "_law_strays_right" [] S ∧ ∃ x2 x3 x4 : Option Sl, ρ = [some (.val (.list (ns.map PyData.int))), some (.val (oW 1)), x2, x3, x4]) ?_ (fun _ _ h => h) _ _ ⟨hS2, _, _, _, rfl⟩
    rintro w hw ρ S ⟨hS, x2, x3, x4, rfl⟩
    obtain ⟨s, rfl, hs⟩ := hall w hw
    clear hw hall hy hs0 hn0 hS1 hS2 hd0 hd1
    have G := hs.g
    have sm := hs.sm
    obtain ⟨m0, p0, hm0, hp0, F⟩ := hs.st
    have hr := repr_small G sm
    have hds : ∀ S, ∃ ds : List Int, g_days_of_k04 [encSite s] S = .ok (.list (ds.map PyData.int)) S ∧ ∀ d ∈ ds, 0 ≤ d := fun S => by
      obtain ⟨w, S', e, rfl, ds, rfl, h0⟩ := wpE_ex.1 (days_of_wp (S := S) (Q := fun w S1 => S1 = S ∧ ∃ ds : List Int, w = .list (ds.map PyData.int) ∧ ∀ d ∈ ds, 0 ≤ d) G sm fun ds h0 _ => ⟨rfl, ds, rfl, h0⟩)
      exact ⟨ds, e, h0⟩
    have e1 : ∀ S, g_days_right_k04 [encSite s] S = .ok (.bool true) S := fun S => days_right_k04_eq G (hds S)
    have e2 : ∀ S, g_names_right_k04 [encSite s] S = .ok (.bool true) S := fun S => names_right_eq G
    have e3 : ∀ {spot : Int} {S : Sto}, TB.FedOk "_law_strays_right" [] S → g_strays_right_k04 [encSite s, .int spot] S = .ok (.bool true) S := fun {spot S} ⟨c, a, l, t, e⟩ => strays_right_eq G hm0 hp0 F e
    generalize encSite s = W at hr e1 e2 e3
    generalize W.shown = rs at hr
    refine ⟨_, rfl, ?_⟩
    refine zq15 ?_
    (repeat (with_reducible first | refine zq14 ?_ | refine zq11 ?_ | refine zq10 ?_ | refine zq3 ?_ | refine zq4 ?_ | refine zq5 ?_ | refine zq0 ?_ | refine zq8 ?_ | refine zq6 ?_ | refine zq1 ?_ | refine zq13 ?_ | refine zq12 ?_ | refine zq7 ?_ | refine zq2 ?_ | refine zq9 ?_))
    refine wpO_rfl hr ?_
    refine w_seqJ (fun ρ S' => S' = S ∧ ρ = [some (.val (.list (ns.map PyData.int))), some (.val (oW 1)), some (.val W), some (.val (.str rs)), x4]) ?_ ?_
    · (repeat (with_reducible first | refine zq14 ?_ | refine zq11 ?_ | refine zq10 ?_ | refine zq3 ?_ | refine zq4 ?_ | refine zq5 ?_ | refine zq0 ?_ | refine zq8 ?_ | refine zq6 ?_ | refine zq1 ?_ | refine zq13 ?_ | refine zq12 ?_ | refine zq7 ?_ | refine zq2 ?_ | refine zq9 ?_))
      refine w_eq (e1 _) ?_
      (repeat (with_reducible first | refine zq14 ?_ | refine zq11 ?_ | refine zq10 ?_ | refine zq3 ?_ | refine zq4 ?_ | refine zq5 ?_ | refine zq0 ?_ | refine zq8 ?_ | refine zq6 ?_ | refine zq1 ?_ | refine zq13 ?_ | refine zq12 ?_ | refine zq7 ?_ | refine zq2 ?_ | refine zq9 ?_))
      refine w_eq (e2 _) ?_
      (repeat (with_reducible first | refine zq14 ?_ | refine zq11 ?_ | refine zq10 ?_ | refine zq3 ?_ | refine zq4 ?_ | refine zq5 ?_ | refine zq0 ?_ | refine zq8 ?_ | refine zq6 ?_ | refine zq1 ?_ | refine zq13 ?_ | refine zq12 ?_ | refine zq7 ?_ | refine zq2 ?_ | refine zq9 ?_))
      exact ⟨rfl, rfl⟩
    rintro ρ S' ⟨rfl, rfl⟩
    (repeat (with_reducible first | refine zq14 ?_ | refine zq11 ?_ | refine zq10 ?_ | refine zq3 ?_ | refine zq4 ?_ | refine zq5 ?_ | refine zq0 ?_ | refine zq8 ?_ | refine zq6 ?_ | refine zq1 ?_ | refine zq13 ?_ | refine zq12 ?_ | refine zq7 ?_ | refine zq2 ?_ | refine zq9 ?_))
    refine TB.draw_k01_wp hS (by decide) (by decide) fun d S2 hd0 hd1 hS2 => ?_
    (repeat (with_reducible first | refine zq14 ?_ | refine zq11 ?_ | refine zq10 ?_ | refine zq3 ?_ | refine zq4 ?_ | refine zq5 ?_ | refine zq0 ?_ | refine zq8 ?_ | refine zq6 ?_ | refine zq1 ?_ | refine zq13 ?_ | refine zq12 ?_ | refine zq7 ?_ | refine zq2 ?_ | refine zq9 ?_))
    refine w_eq (e3 hS2) ?_
    (repeat (with_reducible first | refine zq14 ?_ | refine zq11 ?_ | refine zq10 ?_ | refine zq3 ?_ | refine zq4 ?_ | refine zq5 ?_ | refine zq0 ?_ | refine zq8 ?_ | refine zq6 ?_ | refine zq1 ?_ | refine zq13 ?_ | refine zq12 ?_ | refine zq7 ?_ | refine zq2 ?_ | refine zq9 ?_))
    refine wpO_rfl hr ?_
    have enr : gNe (.str rs) (.str rs) = some (.bool (!decide (rs = rs))) := rfl
    refine wpO_rfl enr ?_
    rw [decide_eq_true rfl]
    (repeat (with_reducible first | refine zq14 ?_ | refine zq11 ?_ | refine zq10 ?_ | refine zq3 ?_ | refine zq4 ?_ | refine zq5 ?_ | refine zq0 ?_ | refine zq8 ?_ | refine zq6 ?_ | refine zq1 ?_ | refine zq13 ?_ | refine zq12 ?_ | refine zq7 ?_ | refine zq2 ?_ | refine zq9 ?_))
    exact ⟨hS2, _, _, _, rfl⟩
  · rintro ρ S ⟨hS, x2, x3, x4, rfl⟩
    refine zq15 ?_
    (repeat (with_reducible first | refine zq14 ?_ | refine zq11 ?_ | refine zq10 ?_ | refine zq3 ?_ | refine zq4 ?_ | refine zq5 ?_ | refine zq0 ?_ | refine zq8 ?_ | refine zq6 ?_ | refine zq1 ?_ | refine zq13 ?_ | refine zq12 ?_ | refine zq7 ?_ | refine zq2 ?_ | refine zq9 ?_))
    refine w_eq first_eq ?_
    refine zq15 ?_
    (repeat (with_reducible first | refine zq14 ?_ | refine zq11 ?_ | refine zq10 ?_ | refine zq3 ?_ | refine zq4 ?_ | refine zq5 ?_ | refine zq0 ?_ | refine zq8 ?_ | refine zq6 ?_ | refine zq1 ?_ | refine zq13 ?_ | refine zq12 ?_ | refine zq7 ?_ | refine zq2 ?_ | refine zq9 ?_))
    refine w_eq told1 ?_
    (repeat (with_reducible first | refine zq14 ?_ | refine zq11 ?_ | refine zq10 ?_ | refine zq3 ?_ | refine zq4 ?_ | refine zq5 ?_ | refine zq0 ?_ | refine zq8 ?_ | refine zq6 ?_ | refine zq1 ?_ | refine zq13 ?_ | refine zq12 ?_ | refine zq7 ?_ | refine zq2 ?_ | refine zq9 ?_))
    refine w_eq told2 ?_
    refine ⟨by simp; omega, ?_⟩
    refine zq15 ?_
    (repeat (with_reducible first | refine zq14 ?_ | refine zq11 ?_ | refine zq10 ?_ | refine zq3 ?_ | refine zq4 ?_ | refine zq5 ?_ | refine zq0 ?_ | refine zq8 ?_ | refine zq6 ?_ | refine zq1 ?_ | refine zq13 ?_ | refine zq12 ?_ | refine zq7 ?_ | refine zq2 ?_ | refine zq9 ?_))
    refine w_eq told3 ?_
    (repeat (with_reducible first | refine zq14 ?_ | refine zq11 ?_ | refine zq10 ?_ | refine zq3 ?_ | refine zq4 ?_ | refine zq5 ?_ | refine zq0 ?_ | refine zq8 ?_ | refine zq6 ?_ | refine zq1 ?_ | refine zq13 ?_ | refine zq12 ?_ | refine zq7 ?_ | refine zq2 ?_ | refine zq9 ?_))
    refine w_eq told4 ?_
    (repeat (with_reducible first | refine zq14 ?_ | refine zq11 ?_ | refine zq10 ?_ | refine zq3 ?_ | refine zq4 ?_ | refine zq5 ?_ | refine zq0 ?_ | refine zq8 ?_ | refine zq6 ?_ | refine zq1 ?_ | refine zq13 ?_ | refine zq12 ?_ | refine zq7 ?_ | refine zq2 ?_ | refine zq9 ?_))
    refine ⟨by simp; omega, ?_⟩
    refine zq15 ?_
    (repeat (with_reducible first | refine zq14 ?_ | refine zq11 ?_ | refine zq10 ?_ | refine zq3 ?_ | refine zq4 ?_ | refine zq5 ?_ | refine zq0 ?_ | refine zq8 ?_ | refine zq6 ?_ | refine zq1 ?_ | refine zq13 ?_ | refine zq12 ?_ | refine zq7 ?_ | refine zq2 ?_ | refine zq9 ?_))
    refine w_eq told5 ?_
    (repeat (with_reducible first | refine zq14 ?_ | refine zq11 ?_ | refine zq10 ?_ | refine zq3 ?_ | refine zq4 ?_ | refine zq5 ?_ | refine zq0 ?_ | refine zq8 ?_ | refine zq6 ?_ | refine zq1 ?_ | refine zq13 ?_ | refine zq12 ?_ | refine zq7 ?_ | refine zq2 ?_ | refine zq9 ?_))
    refine w_eq told6 ?_
    (repeat (with_reducible first | refine zq14 ?_ | refine zq11 ?_ | refine zq10 ?_ | refine zq3 ?_ | refine zq4 ?_ | refine zq5 ?_ | refine zq0 ?_ | refine zq8 ?_ | refine zq6 ?_ | refine zq1 ?_ | refine zq13 ?_ | refine zq12 ?_ | refine zq7 ?_ | refine zq2 ?_ | refine zq9 ?_))
    refine ⟨by simp; omega, ?_⟩
    (repeat (with_reducible first | refine zq14 ?_ | refine zq11 ?_ | refine zq10 ?_ | refine zq3 ?_ | refine zq4 ?_ | refine zq5 ?_ | refine zq0 ?_ | refine zq8 ?_ | refine zq6 ?_ | refine zq1 ?_ | refine zq13 ?_ | refine zq12 ?_ | refine zq7 ?_ | refine zq2 ?_ | refine zq9 ?_))
    refine w_eq hand_right_eq ?_
    (repeat (with_reducible first | refine zq14 ?_ | refine zq11 ?_ | refine zq10 ?_ | refine zq3 ?_ | refine zq4 ?_ | refine zq5 ?_ | refine zq0 ?_ | refine zq8 ?_ | refine zq6 ?_ | refine zq1 ?_ | refine zq13 ?_ | refine zq12 ?_ | refine zq7 ?_ | refine zq2 ?_ | refine zq9 ?_))
    refine w_eq wide_right_eq ?_
    (repeat (with_reducible first | refine zq14 ?_ | refine zq11 ?_ | refine zq10 ?_ | refine zq3 ?_ | refine zq4 ?_ | refine zq5 ?_ | refine zq0 ?_ | refine zq8 ?_ | refine zq6 ?_ | refine zq1 ?_ | refine zq13 ?_ | refine zq12 ?_ | refine zq7 ?_ | refine zq2 ?_ | refine zq9 ?_))
    exact congrArg PyData.bool (by kernel_rfl)
end
end WF
namespace K04
open PySem PySem.Spec PyProof.Rows L2 DL
theorem hfacts {w : World} {K : Fg} {h : Heap} {mg : Str → Option Value} (X : K.In h) (G : h.Ns mainGlobals mg) (c : He.SaysX hfa hfn [] htf hex_ w h K) :
    ∃ fd, FunD K "law" "law" (defArgs (top 55)) (defBody (top 55)) (defScope (top 55)) [] [] (He.ga K "law") fd ∧ mg "law" = some (.ref (He.ga K "law")) ∧ ((["_law_strays_right"] : List Str).map (tbX K)).Nodup ∧ ∀ base : Heap, StatB base → (∀ x ∈ (["_law_strays_right"] : List Str), LamX.TabB base mg (cdX K x) (tbX K x)) → Cal true (PySem.Challenge.rw_whichfirst_k04_site_parts_told).prog w K mg base 15 "law" (top 55) ["_law_script"] WF.g_law_k04 := by
  have cd := c.t.d
  have m0 := c.more
  obtain ⟨ecl_NotUsable, m1⟩ := Bool.and_eq_true_iff.mp (show (clsB K "WhichError" "NotUsable" "word" "at" && (idefB (PySem.Challenge.rw_whichfirst_k04_site_parts_told).prog K (He.ga K "NotUsable") "word" "at" && (isiB K "NotUsable" "BookError" false && (isiB K "NotUsable" "InvalidPaper" false && (isiB K "NotUsable" "InvalidRow" false && (isiB K "NotUsable" "InvalidText" false && (isiB K "NotUsable" "NeverKept" false && (isiB K "NotUsable" "NotUsable" true && (isiB K "NotUsable" "PaperError" false && (isiB K "NotUsable" "SiteError" true && (isiB K "NotUsable" "TextError" false && (decide ((["_law_strays_right"] : List Str).map (tbX K)).Nodup && true)))))))))))) = true from m0)
  obtain ⟨eid_NotUsable, m2⟩ := Bool.and_eq_true_iff.mp (show (idefB (PySem.Challenge.rw_whichfirst_k04_site_parts_told).prog K (He.ga K "NotUsable") "word" "at" && (isiB K "NotUsable" "BookError" false && (isiB K "NotUsable" "InvalidPaper" false && (isiB K "NotUsable" "InvalidRow" false && (isiB K "NotUsable" "InvalidText" false && (isiB K "NotUsable" "NeverKept" false && (isiB K "NotUsable" "NotUsable" true && (isiB K "NotUsable" "PaperError" false && (isiB K "NotUsable" "SiteError" true && (isiB K "NotUsable" "TextError" false && (decide ((["_law_strays_right"] : List Str).map (tbX K)).Nodup && true))))))))))) = true from m1)
  obtain ⟨eis_NotUsable_BookError, m3⟩ := Bool.and_eq_true_iff.mp (show (isiB K "NotUsable" "BookError" false && (isiB K "NotUsable" "InvalidPaper" false && (isiB K "NotUsable" "InvalidRow" false && (isiB K "NotUsable" "InvalidText" false && (isiB K "NotUsable" "NeverKept" false && (isiB K "NotUsable" "NotUsable" true && (isiB K "NotUsable" "PaperError" false && (isiB K "NotUsable" "SiteError" true && (isiB K "NotUsable" "TextError" false && (decide ((["_law_strays_right"] : List Str).map (tbX K)).Nodup && true)))))))))) = true from m2)
  obtain ⟨eis_NotUsable_InvalidPaper, m4⟩ := Bool.and_eq_true_iff.mp (show (isiB K "NotUsable" "InvalidPaper" false && (isiB K "NotUsable" "InvalidRow" false && (isiB K "NotUsable" "InvalidText" false && (isiB K "NotUsable" "NeverKept" false && (isiB K "NotUsable" "NotUsable" true && (isiB K "NotUsable" "PaperError" false && (isiB K "NotUsable" "SiteError" true && (isiB K "NotUsable" "TextError" false && (decide ((["_law_strays_right"] : List Str).map (tbX K)).Nodup && true))))))))) = true from m3)
  obtain ⟨eis_NotUsable_InvalidRow, m5⟩ := Bool.and_eq_true_iff.mp (show (isiB K "NotUsable" "InvalidRow" false && (isiB K "NotUsable" "InvalidText" false && (isiB K "NotUsable" "NeverKept" false && (isiB K "NotUsable" "NotUsable" true && (isiB K "NotUsable" "PaperError" false && (isiB K "NotUsable" "SiteError" true && (isiB K "NotUsable" "TextError" false && (decide ((["_law_strays_right"] : List Str).map (tbX K)).Nodup && true)))))))) = true from m4)
  obtain ⟨eis_NotUsable_InvalidText, m6⟩ := Bool.and_eq_true_iff.mp (show (isiB K "NotUsable" "InvalidText" false && (isiB K "NotUsable" "NeverKept" false && (isiB K "NotUsable" "NotUsable" true && (isiB K "NotUsable" "PaperError" false && (isiB K "NotUsable" "SiteError" true && (isiB K "NotUsable" "TextError" false && (decide ((["_law_strays_right"] : List Str).map (tbX K)).Nodup && true))))))) = true from m5)
  obtain ⟨eis_NotUsable_NeverKept, m7⟩ := Bool.and_eq_true_iff.mp (show (isiB K "NotUsable" "NeverKept" false && (isiB K "NotUsable" "NotUsable" true && (isiB K "NotUsable" "PaperError" false && (isiB K "NotUsable" "SiteError" true && (isiB K "NotUsable" "TextError" false && (decide ((["_law_strays_right"] : List Str).map (tbX K)).Nodup && true)))))) = true from m6)
  obtain ⟨eis_NotUsable_NotUsable, m8⟩ := Bool.and_eq_true_iff.mp (show (isiB K "NotUsable" "NotUsable" true && (isiB K "NotUsable" "PaperError" false && (isiB K "NotUsable" "SiteError" true && (isiB K "NotUsable" "TextError" false && (decide ((["_law_strays_right"] : List Str).map (tbX K)).Nodup && true))))) = true from m7)
  obtain ⟨eis_NotUsable_PaperError, m9⟩ := Bool.and_eq_true_iff.mp (show (isiB K "NotUsable" "PaperError" false && (isiB K "NotUsable" "SiteError" true && (isiB K "NotUsable" "TextError" false && (decide ((["_law_strays_right"] : List Str).map (tbX K)).Nodup && true)))) = true from m8)
  obtain ⟨eis_NotUsable_SiteError, m10⟩ := Bool.and_eq_true_iff.mp (show (isiB K "NotUsable" "SiteError" true && (isiB K "NotUsable" "TextError" false && (decide ((["_law_strays_right"] : List Str).map (tbX K)).Nodup && true))) = true from m9)
  obtain ⟨eis_NotUsable_TextError, m11⟩ := Bool.and_eq_true_iff.mp (show (isiB K "NotUsable" "TextError" false && (decide ((["_law_strays_right"] : List Str).map (tbX K)).Nodup && true)) = true from m10)
  obtain ⟨end_, m12⟩ := Bool.and_eq_true_iff.mp (show (decide ((["_law_strays_right"] : List Str).map (tbX K)).Nodup && true) = true from m11)
  have B : Bl (PySem.Challenge.rw_whichfirst_k04_site_parts_told).prog K mg := { b_all := He.free_ok X G (cd.fact 39 (f := .free "all") rfl), b_bool := He.free_ok X G (cd.fact 40 (f := .free "bool") rfl), b_dict := He.free_ok X G (cd.fact 41 (f := .free "dict") rfl), b_int := He.free_ok X G (cd.fact 42 (f := .free "int") rfl), b_isinstance := He.free_ok X G (cd.fact 43 (f := .free "isinstance") rfl), b_len := He.free_ok X G (cd.fact 44 (f := .free "len") rfl), b_list := He.free_ok X G (cd.fact 45 (f := .free "list") rfl), b_max := He.free_ok X G (cd.fact 46 (f := .free "max") rfl), b_min := He.free_ok X G (cd.fact 47 (f := .free "min") rfl), b_range := He.free_ok X G (cd.fact 48 (f := .free "range") rfl), b_repr := He.free_ok X G (cd.fact 49 (f := .free "repr") rfl), b_set := He.free_ok X G (cd.fact 50 (f := .free "set") rfl), b_sorted := He.free_ok X G (cd.fact 51 (f := .free "sorted") rfl), b_str := He.free_ok X G (cd.fact 52 (f := .free "str") rfl), b_super := He.free_ok X G (cd.fact 53 (f := .free "super") rfl), b_tuple := He.free_ok X G (cd.fact 54 (f := .free "tuple") rfl), c_LETTERS := He.str_ok X G (cd.fact 55 (f := .str "LETTERS" "abcdefghijklmnopqrstuvwxyz") rfl), c_LONGEST_NAME := He.int_ok X G (cd.fact 56 (f := .int "LONGEST_NAME" 8) rfl), y_BookError := He.glo_ok X G (cd.fact 57 (f := .glo "BookError") rfl), y_InvalidPaper := He.glo_ok X G (cd.fact 58 (f := .glo "InvalidPaper") rfl), y_InvalidRow := He.glo_ok X G (cd.fact 59 (f := .glo "InvalidRow") rfl), y_InvalidText := He.glo_ok X G (cd.fact 60 (f := .glo "InvalidText") rfl), y_NeverKept := He.glo_ok X G (cd.fact 61 (f := .glo "NeverKept") rfl), y_NotUsable := He.glo_ok X G (cd.fact 62 (f := .glo "NotUsable") rfl), y_PaperError := He.glo_ok X G (cd.fact 63 (f := .glo "PaperError") rfl), y_SiteError := He.glo_ok X G (cd.fact 64 (f := .glo "SiteError") rfl), y_TextError := He.glo_ok X G (cd.fact 65 (f := .glo "TextError") rfl), y_WhichError := He.glo_ok X G (cd.fact 66 (f := .glo "WhichError") rfl), cl_NotUsable := clsB_ok ecl_NotUsable, id_NotUsable := idefB_ok bind_word_at eid_NotUsable, is_NotUsable_BookError := of_decide_eq_true eis_NotUsable_BookError, is_NotUsable_InvalidPaper := of_decide_eq_true eis_NotUsable_InvalidPaper, is_NotUsable_InvalidRow := of_decide_eq_true eis_NotUsable_InvalidRow, is_NotUsable_InvalidText := of_decide_eq_true eis_NotUsable_InvalidText, is_NotUsable_NeverKept := of_decide_eq_true eis_NotUsable_NeverKept, is_NotUsable_NotUsable := of_decide_eq_true eis_NotUsable_NotUsable, is_NotUsable_PaperError := of_decide_eq_true eis_NotUsable_PaperError, is_NotUsable_SiteError := of_decide_eq_true eis_NotUsable_SiteError, is_NotUsable_TextError := of_decide_eq_true eis_NotUsable_TextError }
  have D__law_feed : Dfn K mg "_law_feed" (top 38) := by
    obtain ⟨fd, F⟩ := cd.def_ 0 (d := d__law_feed) rfl
    exact ⟨_, fd, He.glo_ok X G (cd.fact 0 (f := .glo "_law_feed") rfl), F⟩
  have D__law_first_site : Dfn K mg "_law_first_site" (top 44) := by
    obtain ⟨fd, F⟩ := cd.def_ 1 (d := d__law_first_site) rfl
    exact ⟨_, fd, He.glo_ok X G (cd.fact 1 (f := .glo "_law_first_site") rfl), F⟩
  have D__law_draw : Dfn K mg "_law_draw" (top 39) := by
    obtain ⟨fd, F⟩ := cd.def_ 2 (d := d__law_draw) rfl
    exact ⟨_, fd, He.glo_ok X G (cd.fact 2 (f := .glo "_law_draw") rfl), F⟩
  have D__law_stays : Dfn K mg "_law_stays" (top 42) := by
    obtain ⟨fd, F⟩ := cd.def_ 3 (d := d__law_stays) rfl
    exact ⟨_, fd, He.glo_ok X G (cd.fact 3 (f := .glo "_law_stays") rfl), F⟩
  have D__law_limit : Dfn K mg "_law_limit" (top 40) := by
    obtain ⟨fd, F⟩ := cd.def_ 4 (d := d__law_limit) rfl
    exact ⟨_, fd, He.glo_ok X G (cd.fact 4 (f := .glo "_law_limit") rfl), F⟩
  have D__law_slack : Dfn K mg "_law_slack" (top 41) := by
    obtain ⟨fd, F⟩ := cd.def_ 5 (d := d__law_slack) rfl
    exact ⟨_, fd, He.glo_ok X G (cd.fact 5 (f := .glo "_law_slack") rfl), F⟩
  have D__law_site : Dfn K mg "_law_site" (top 43) := by
    obtain ⟨fd, F⟩ := cd.def_ 6 (d := d__law_site) rfl
    exact ⟨_, fd, He.glo_ok X G (cd.fact 6 (f := .glo "_law_site") rfl), F⟩
  have D_require_usable : Dfn K mg "require_usable" (top 18) := by
    obtain ⟨fd, F⟩ := cd.def_ 7 (d := d_require_usable) rfl
    exact ⟨_, fd, He.glo_ok X G (cd.fact 7 (f := .glo "require_usable") rfl), F⟩
  have D_is_name : Dfn K mg "is_name" (top 5) := by
    obtain ⟨fd, F⟩ := cd.def_ 8 (d := d_is_name) rfl
    exact ⟨_, fd, He.glo_ok X G (cd.fact 8 (f := .glo "is_name") rfl), F⟩
  have D_index_among : Dfn K mg "index_among" (top 23) := by
    obtain ⟨fd, F⟩ := cd.def_ 9 (d := d_index_among) rfl
    exact ⟨_, fd, He.glo_ok X G (cd.fact 9 (f := .glo "index_among") rfl), F⟩
  have D_part_names : Dfn K mg "part_names" (top 21) := by
    obtain ⟨fd, F⟩ := cd.def_ 10 (d := d_part_names) rfl
    exact ⟨_, fd, He.glo_ok X G (cd.fact 10 (f := .glo "part_names") rfl), F⟩
  have D_stays_of : Dfn K mg "stays_of" (top 25) := by
    obtain ⟨fd, F⟩ := cd.def_ 11 (d := d_stays_of) rfl
    exact ⟨_, fd, He.glo_ok X G (cd.fact 11 (f := .glo "stays_of") rfl), F⟩
  have D_is_integer : Dfn K mg "is_integer" (top 3) := by
    obtain ⟨fd, F⟩ := cd.def_ 12 (d := d_is_integer) rfl
    exact ⟨_, fd, He.glo_ok X G (cd.fact 12 (f := .glo "is_integer") rfl), F⟩
  have D_is_number : Dfn K mg "is_number" (top 4) := by
    obtain ⟨fd, F⟩ := cd.def_ 13 (d := d_is_number) rfl
    exact ⟨_, fd, He.glo_ok X G (cd.fact 13 (f := .glo "is_number") rfl), F⟩
  have D_require_day : Dfn K mg "require_day" (top 28) := by
    obtain ⟨fd, F⟩ := cd.def_ 14 (d := d_require_day) rfl
    exact ⟨_, fd, He.glo_ok X G (cd.fact 14 (f := .glo "require_day") rfl), F⟩
  have D_place_on : Dfn K mg "place_on" (top 30) := by
    obtain ⟨fd, F⟩ := cd.def_ 15 (d := d_place_on) rfl
    exact ⟨_, fd, He.glo_ok X G (cd.fact 15 (f := .glo "place_on") rfl), F⟩
  have D_place_of : Dfn K mg "place_of" (top 32) := by
    obtain ⟨fd, F⟩ := cd.def_ 16 (d := d_place_of) rfl
    exact ⟨_, fd, He.glo_ok X G (cd.fact 16 (f := .glo "place_of") rfl), F⟩
  have D_machine_names : Dfn K mg "machine_names" (top 20) := by
    obtain ⟨fd, F⟩ := cd.def_ 17 (d := d_machine_names) rfl
    exact ⟨_, fd, He.glo_ok X G (cd.fact 17 (f := .glo "machine_names") rfl), F⟩
  have D_uses_of : Dfn K mg "uses_of" (top 24) := by
    obtain ⟨fd, F⟩ := cd.def_ 18 (d := d_uses_of) rfl
    exact ⟨_, fd, He.glo_ok X G (cd.fact 18 (f := .glo "uses_of") rfl), F⟩
  have D_use_on : Dfn K mg "use_on" (top 31) := by
    obtain ⟨fd, F⟩ := cd.def_ 19 (d := d_use_on) rfl
    exact ⟨_, fd, He.glo_ok X G (cd.fact 19 (f := .glo "use_on") rfl), F⟩
  have D_use_of : Dfn K mg "use_of" (top 33) := by
    obtain ⟨fd, F⟩ := cd.def_ 20 (d := d_use_of) rfl
    exact ⟨_, fd, He.glo_ok X G (cd.fact 20 (f := .glo "use_of") rfl), F⟩
  have D__law_second_site : Dfn K mg "_law_second_site" (top 45) := by
    obtain ⟨fd, F⟩ := cd.def_ 21 (d := d__law_second_site) rfl
    exact ⟨_, fd, He.glo_ok X G (cd.fact 21 (f := .glo "_law_second_site") rfl), F⟩
  have D_require_place : Dfn K mg "require_place" (top 29) := by
    obtain ⟨fd, F⟩ := cd.def_ 22 (d := d_require_place) rfl
    exact ⟨_, fd, He.glo_ok X G (cd.fact 22 (f := .glo "require_place") rfl), F⟩
  have D_parts_at : Dfn K mg "parts_at" (top 34) := by
    obtain ⟨fd, F⟩ := cd.def_ 23 (d := d_parts_at) rfl
    exact ⟨_, fd, He.glo_ok X G (cd.fact 23 (f := .glo "parts_at") rfl), F⟩
  have D_tasks_of : Dfn K mg "tasks_of" (top 35) := by
    obtain ⟨fd, F⟩ := cd.def_ 24 (d := d_tasks_of) rfl
    exact ⟨_, fd, He.glo_ok X G (cd.fact 24 (f := .glo "tasks_of") rfl), F⟩
  have D__law_hand_right : Dfn K mg "_law_hand_right" (top 53) := by
    obtain ⟨fd, F⟩ := cd.def_ 25 (d := d__law_hand_right) rfl
    exact ⟨_, fd, He.glo_ok X G (cd.fact 25 (f := .glo "_law_hand_right") rfl), F⟩
  have D__law_days_of : Dfn K mg "_law_days_of" (top 49) := by
    obtain ⟨fd, F⟩ := cd.def_ 26 (d := d__law_days_of) rfl
    exact ⟨_, fd, He.glo_ok X G (cd.fact 26 (f := .glo "_law_days_of") rfl), F⟩
  have D__law_place : Dfn K mg "_law_place" (top 47) := by
    obtain ⟨fd, F⟩ := cd.def_ 27 (d := d__law_place) rfl
    exact ⟨_, fd, He.glo_ok X G (cd.fact 27 (f := .glo "_law_place") rfl), F⟩
  have D__law_use : Dfn K mg "_law_use" (top 48) := by
    obtain ⟨fd, F⟩ := cd.def_ 28 (d := d__law_use) rfl
    exact ⟨_, fd, He.glo_ok X G (cd.fact 28 (f := .glo "_law_use") rfl), F⟩
  have D__law_days_right : Dfn K mg "_law_days_right" (top 50) := by
    obtain ⟨fd, F⟩ := cd.def_ 29 (d := d__law_days_right) rfl
    exact ⟨_, fd, He.glo_ok X G (cd.fact 29 (f := .glo "_law_days_right") rfl), F⟩
  have D__law_wide_right : Dfn K mg "_law_wide_right" (top 54) := by
    obtain ⟨fd, F⟩ := cd.def_ 30 (d := d__law_wide_right) rfl
    exact ⟨_, fd, He.glo_ok X G (cd.fact 30 (f := .glo "_law_wide_right") rfl), F⟩
  have D_task_names : Dfn K mg "task_names" (top 22) := by
    obtain ⟨fd, F⟩ := cd.def_ 31 (d := d_task_names) rfl
    exact ⟨_, fd, He.glo_ok X G (cd.fact 31 (f := .glo "task_names") rfl), F⟩
  have D_number_of : Dfn K mg "number_of" (top 26) := by
    obtain ⟨fd, F⟩ := cd.def_ 32 (d := d_number_of) rfl
    exact ⟨_, fd, He.glo_ok X G (cd.fact 32 (f := .glo "number_of") rfl), F⟩
  have D_task_of : Dfn K mg "task_of" (top 27) := by
    obtain ⟨fd, F⟩ := cd.def_ 33 (d := d_task_of) rfl
    exact ⟨_, fd, He.glo_ok X G (cd.fact 33 (f := .glo "task_of") rfl), F⟩
  have D_part_of : Dfn K mg "part_of" (top 36) := by
    obtain ⟨fd, F⟩ := cd.def_ 34 (d := d_part_of) rfl
    exact ⟨_, fd, He.glo_ok X G (cd.fact 34 (f := .glo "part_of") rfl), F⟩
  have D__law_names_right : Dfn K mg "_law_names_right" (top 51) := by
    obtain ⟨fd, F⟩ := cd.def_ 35 (d := d__law_names_right) rfl
    exact ⟨_, fd, He.glo_ok X G (cd.fact 35 (f := .glo "_law_names_right") rfl), F⟩
  have D__law_heard : Dfn K mg "_law_heard" (top 46) := by
    obtain ⟨fd, F⟩ := cd.def_ 36 (d := d__law_heard) rfl
    exact ⟨_, fd, He.glo_ok X G (cd.fact 36 (f := .glo "_law_heard") rfl), F⟩
  have D__law_strays_right : Dfn K mg "_law_strays_right" (top 52) := by
    obtain ⟨fd, F⟩ := cd.def_ 37 (d := d__law_strays_right) rfl
    exact ⟨_, fd, He.glo_ok X G (cd.fact 37 (f := .glo "_law_strays_right") rfl), F⟩
  have Hx__law_strays_right : mg "_law_strays_right" = some (.ref (He.ga K "_law_strays_right")) := He.glo_ok X G (cd.fact 37 (f := .glo "_law_strays_right") rfl)
  have D_law : Dfn K mg "law" (top 55) := by
    obtain ⟨fd, F⟩ := cd.def_ 38 (d := d_law) rfl
    exact ⟨_, fd, He.glo_ok X G (cd.fact 38 (f := .glo "law") rfl), F⟩
  obtain ⟨fd, F⟩ := cd.def_ 38 (d := d_law) rfl
  refine ⟨fd, F, He.glo_ok X G (cd.fact 38 (f := .glo "law") rfl), of_decide_eq_true end_, fun base SB TB => ?_⟩
  have TB__law_strays_right := TB "_law_strays_right" (by simp)
  have C__law_feed := c__law_feed (P := (PySem.Challenge.rw_whichfirst_k04_site_parts_told).prog) (w := w) (base := base) B D__law_feed 
  have C__law_first_site := c__law_first_site (P := (PySem.Challenge.rw_whichfirst_k04_site_parts_told).prog) (w := w) (base := base) B D__law_first_site 
  have C__law_draw := c__law_draw (P := (PySem.Challenge.rw_whichfirst_k04_site_parts_told).prog) (w := w) (base := base) B D__law_draw 
  have C__law_stays := c__law_stays (P := (PySem.Challenge.rw_whichfirst_k04_site_parts_told).prog) (w := w) (base := base) B D__law_stays C__law_draw
  have C__law_limit := c__law_limit (P := (PySem.Challenge.rw_whichfirst_k04_site_parts_told).prog) (w := w) (base := base) B D__law_limit C__law_draw 12
  have C__law_slack := c__law_slack (P := (PySem.Challenge.rw_whichfirst_k04_site_parts_told).prog) (w := w) (base := base) B D__law_slack C__law_draw
  have C__law_site := c__law_site (P := (PySem.Challenge.rw_whichfirst_k04_site_parts_told).prog) (w := w) (base := base) B D__law_site C__law_draw C__law_stays C__law_limit C__law_slack
  have C_require_usable := c_require_usable (P := (PySem.Challenge.rw_whichfirst_k04_site_parts_told).prog) (w := w) (base := base) B D_require_usable 
  have X_require_usable := cx_require_usable (P := (PySem.Challenge.rw_whichfirst_k04_site_parts_told).prog) (w := w) (base := base) B SB D_require_usable 
  have C_is_name := c_is_name (P := (PySem.Challenge.rw_whichfirst_k04_site_parts_told).prog) (w := w) (base := base) B D_is_name 
  have C_index_among := c_index_among (P := (PySem.Challenge.rw_whichfirst_k04_site_parts_told).prog) (w := w) (base := base) B D_index_among C_require_usable C_is_name
  have X_index_among := cx_index_among (P := (PySem.Challenge.rw_whichfirst_k04_site_parts_told).prog) (w := w) (base := base) B SB D_index_among C_is_name X_require_usable
  have C_part_names := c_part_names (P := (PySem.Challenge.rw_whichfirst_k04_site_parts_told).prog) (w := w) (base := base) B D_part_names 
  have C_stays_of := c_stays_of (P := (PySem.Challenge.rw_whichfirst_k04_site_parts_told).prog) (w := w) (base := base) B D_stays_of C_index_among C_part_names
  have X_stays_of := cx_stays_of (P := (PySem.Challenge.rw_whichfirst_k04_site_parts_told).prog) (w := w) (base := base) B SB D_stays_of C_part_names C_index_among X_index_among
  have C_is_integer := c_is_integer (P := (PySem.Challenge.rw_whichfirst_k04_site_parts_told).prog) (w := w) (base := base) B D_is_integer 
  have C_is_number := c_is_number (P := (PySem.Challenge.rw_whichfirst_k04_site_parts_told).prog) (w := w) (base := base) B D_is_number C_is_integer
  have C_require_day := c_require_day (P := (PySem.Challenge.rw_whichfirst_k04_site_parts_told).prog) (w := w) (base := base) B D_require_day C_require_usable C_is_number
  have X_require_day := cx_require_day (P := (PySem.Challenge.rw_whichfirst_k04_site_parts_told).prog) (w := w) (base := base) B SB D_require_day C_is_number X_require_usable
  have C_place_on := c_place_on (P := (PySem.Challenge.rw_whichfirst_k04_site_parts_told).prog) (w := w) (base := base) B D_place_on 
  have C_place_of := c_place_of (P := (PySem.Challenge.rw_whichfirst_k04_site_parts_told).prog) (w := w) (base := base) B D_place_of C_stays_of C_require_day C_place_on
  have X_place_of := cx_place_of (P := (PySem.Challenge.rw_whichfirst_k04_site_parts_told).prog) (w := w) (base := base) B SB D_place_of C_stays_of X_stays_of X_require_day
  have C_machine_names := c_machine_names (P := (PySem.Challenge.rw_whichfirst_k04_site_parts_told).prog) (w := w) (base := base) B D_machine_names 
  have C_uses_of := c_uses_of (P := (PySem.Challenge.rw_whichfirst_k04_site_parts_told).prog) (w := w) (base := base) B D_uses_of C_index_among C_machine_names
  have X_uses_of := cx_uses_of (P := (PySem.Challenge.rw_whichfirst_k04_site_parts_told).prog) (w := w) (base := base) B SB D_uses_of C_machine_names C_index_among X_index_among
  have C_use_on := c_use_on (P := (PySem.Challenge.rw_whichfirst_k04_site_parts_told).prog) (w := w) (base := base) B D_use_on 
  have C_use_of := c_use_of (P := (PySem.Challenge.rw_whichfirst_k04_site_parts_told).prog) (w := w) (base := base) B D_use_of C_uses_of C_require_day C_use_on
  have X_use_of := cx_use_of (P := (PySem.Challenge.rw_whichfirst_k04_site_parts_told).prog) (w := w) (base := base) B SB D_use_of C_uses_of X_uses_of X_require_day
  have C__law_second_site := c__law_second_site (P := (PySem.Challenge.rw_whichfirst_k04_site_parts_told).prog) (w := w) (base := base) B D__law_second_site 
  have C_require_place := c_require_place (P := (PySem.Challenge.rw_whichfirst_k04_site_parts_told).prog) (w := w) (base := base) B D_require_place C_require_usable C_is_name C_machine_names
  have X_require_place := cx_require_place (P := (PySem.Challenge.rw_whichfirst_k04_site_parts_told).prog) (w := w) (base := base) B SB D_require_place C_is_name C_machine_names X_require_usable
  have C_parts_at := c_parts_at (P := (PySem.Challenge.rw_whichfirst_k04_site_parts_told).prog) (w := w) (base := base) B D_parts_at C_require_place C_require_day C_place_on
  have X_parts_at := cx_parts_at (P := (PySem.Challenge.rw_whichfirst_k04_site_parts_told).prog) (w := w) (base := base) B SB D_parts_at C_require_place X_require_place X_require_day
  have C_tasks_of := c_tasks_of (P := (PySem.Challenge.rw_whichfirst_k04_site_parts_told).prog) (w := w) (base := base) B D_tasks_of C_index_among C_part_names
  have X_tasks_of := cx_tasks_of (P := (PySem.Challenge.rw_whichfirst_k04_site_parts_told).prog) (w := w) (base := base) B SB D_tasks_of C_part_names X_index_among
  have C__law_hand_right := c__law_hand_right (P := (PySem.Challenge.rw_whichfirst_k04_site_parts_told).prog) (w := w) (base := base) B D__law_hand_right C__law_second_site C_place_of C_use_of C_parts_at C_tasks_of
  have C__law_days_of := c__law_days_of (P := (PySem.Challenge.rw_whichfirst_k04_site_parts_told).prog) (w := w) (base := base) B D__law_days_of 
  have C__law_place := c__law_place (P := (PySem.Challenge.rw_whichfirst_k04_site_parts_told).prog) (w := w) (base := base) B D__law_place 
  have C__law_use := c__law_use (P := (PySem.Challenge.rw_whichfirst_k04_site_parts_told).prog) (w := w) (base := base) B D__law_use 
  have C__law_days_right := c__law_days_right (P := (PySem.Challenge.rw_whichfirst_k04_site_parts_told).prog) (w := w) (base := base) B D__law_days_right C__law_days_of C__law_place C_place_of C_use_of C__law_use C_parts_at
  have C__law_wide_right := c__law_wide_right (P := (PySem.Challenge.rw_whichfirst_k04_site_parts_told).prog) (w := w) (base := base) B D__law_wide_right C__law_days_right C_parts_at C_use_of C_place_of
  have C_task_names := c_task_names (P := (PySem.Challenge.rw_whichfirst_k04_site_parts_told).prog) (w := w) (base := base) B D_task_names 
  have C_number_of := c_number_of (P := (PySem.Challenge.rw_whichfirst_k04_site_parts_told).prog) (w := w) (base := base) B D_number_of C_index_among C_task_names
  have X_number_of := cx_number_of (P := (PySem.Challenge.rw_whichfirst_k04_site_parts_told).prog) (w := w) (base := base) B SB D_number_of C_task_names X_index_among
  have C_task_of := c_task_of (P := (PySem.Challenge.rw_whichfirst_k04_site_parts_told).prog) (w := w) (base := base) B D_task_of C_number_of
  have X_task_of := cx_task_of (P := (PySem.Challenge.rw_whichfirst_k04_site_parts_told).prog) (w := w) (base := base) B SB D_task_of X_number_of
  have C_part_of := c_part_of (P := (PySem.Challenge.rw_whichfirst_k04_site_parts_told).prog) (w := w) (base := base) B D_part_of C_task_of
  have X_part_of := cx_part_of (P := (PySem.Challenge.rw_whichfirst_k04_site_parts_told).prog) (w := w) (base := base) B SB D_part_of C_task_of X_task_of
  have C__law_names_right := c__law_names_right (P := (PySem.Challenge.rw_whichfirst_k04_site_parts_told).prog) (w := w) (base := base) B D__law_names_right C_tasks_of C_part_of C_number_of
  have K__law_heard := k__law_heard (P := (PySem.Challenge.rw_whichfirst_k04_site_parts_told).prog) (w := w) B D__law_heard
  have C__law_strays_right := c__law_strays_right (P := (PySem.Challenge.rw_whichfirst_k04_site_parts_told).prog) (w := w) (base := base) B D__law_strays_right Hx__law_strays_right C_place_of C_tasks_of C_use_of C_parts_at C_part_of C_number_of X_place_of X_tasks_of X_use_of X_parts_at X_part_of X_number_of K__law_heard TB__law_strays_right
  have C_law := c_law (P := (PySem.Challenge.rw_whichfirst_k04_site_parts_told).prog) (w := w) (base := base) B D_law C__law_feed C__law_site C__law_second_site C__law_first_site C__law_draw C__law_days_right C__law_names_right C__law_strays_right C_place_of C_use_of C_parts_at C_tasks_of C_part_of C_number_of C__law_hand_right C__law_wide_right
  exact C_law
end K04
open PySem PySem.W PySem.Calls PyProof.Rows
theorem PySem.Challenge.cw_whichfirst_k04_site_parts_told_holds : PySem.Challenge.rw_whichfirst_k04_site_parts_told.Holds := by
  w_on; o_law
  refine HandSHeadRun.head_any (r := OpenLaw.row PySem.Challenge.rw_whichfirst_k04_site_parts_told) (q := view (OpenLaw.row PySem.Challenge.rw_whichfirst_k04_site_parts_told).prog [55]) (H := K04.hhk) (ob := K04.hob) (M := 20000) (loose := K04.hnames) (d := HandSHeadRun.topDef (OpenLaw.row PySem.Challenge.rw_whichfirst_k04_site_parts_told).prog 55) (kwd := []) K04.hob_eq
    (by kernel_rfl) (fun s => by kernel_rfl) K04.hrun (by kernel_rfl) (by kernel_rfl) (by kernel_rfl) (by rfl) (by first | assumption | decide +kernel) (by decide +kernel) ⟨rfl, rfl, rfl, rfl, rfl, by decide +kernel⟩ ?hw ?hc
  case hw => w_witness2
  case hc =>
    refine DL.walk_DT (G := true) (l := PySem.Challenge.rw_whichfirst_k04_site_parts_told) (n := 63) (k := 15) (y := "_law_script") (g := WF.g_law_k04) (xs := (["_law_strays_right"] : List PySem.Str)) rfl (by decide) (by kernel_rfl) ⟨rfl, by decide, by decide⟩ ?F WF.law_k04_true
    intro w mg fa h Y G hmg0
    obtain ⟨⟨K, KX, c⟩, so⟩ := Y
    have hmg : mg ("law" : PySem.Str) = some (.ref fa) := by
      have e : (HandSHeadRun.topDef (OpenLaw.row PySem.Challenge.rw_whichfirst_k04_site_parts_told).prog 55).name = ("law" : PySem.Str) := by kernel_rfl
      rw [← e]
      exact hmg0
    obtain ⟨fd, F, hm, nd, C⟩ := K04.hfacts (w := w) KX G c
    have ef := hm.symm.trans hmg
    cases ef
    have b := L2.FunD.bindsA (ps := ["_law_script"]) F fun _ _ _ _ _ _ us hl => match us, hl with | [_], _ => rfl
    have ok : ∀ x ∈ ((["_law_strays_right"] : List PySem.Str) : List PySem.Str), (x, none) ∈ K04.htf := by intro x hx; simpa [K04.htf] using hx
    exact ⟨K, fd, KX, so, fun x hx => c.empty _ (ok x hx), fun x hx => c.out _ (ok x hx), fun x hx => c.hd _ (ok x hx), nd, fun s v => b s [v] rfl, fun base _ _ SB TB => (C base SB TB).fnD hm F⟩
