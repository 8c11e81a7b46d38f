import PyProof.Rows.All
import Wide.All
import OpenK.AllK
import Wide.FinOn
import PySem.Challenge.RW_pc0013_01
section
open PySem PySem.W PyProof.Rows
set_option Elab.async false
set_option maxRecDepth 100000
set_option maxHeartbeats 8000000
namespace Mine
open_top hd for PySem.Challenge.rw_pc0013_01
end Mine
end
section
open PySem PySem.W PySem.Calls PyProof.Rows
set_option Elab.async false
set_option maxRecDepth 100000
namespace Mine
/-! ## abstract data -/
inductive AD where
  | none | bool (b : Bool) | int (i : Int) | str (k : Nat) | tup (xs : List AD) | lst (xs : List AD)
inductive AV where
  | d (x : AD) | loc (l : Nat) | obj (l : Nat) | rng (n : Int) | tup (xs : List AV) | lst (xs : List AV)
inductive AO where
  | list (xs : List AD) | dict (fs : List AV)
noncomputable abbrev Store := List AO
noncomputable abbrev Vals := List (Option AV)
noncomputable def strTab : List Str := [Str.ofString "done", Str.ofString "blocked", Str.ofString "woken", Str.ofString "received", Str.ofString "sent", Str.ofString "panic",
  Str.ofString "send on closed channel", Str.ofString "close of closed channel", Str.ofString "send", Str.ofString "take", Str.ofString "a", Str.ofString "b", Str.ofString "try"]
noncomputable def fldTab : List Str := [Str.ofString "room", Str.ofString "buffer", Str.ofString "senders", Str.ofString "receivers", Str.ofString "closed"]
noncomputable abbrev rngOf (n : Int) (t u v : Tok) : Obj := { cls := .type "range", data := .fields #[.int 0 t, .int n u, .int 1 v] }
noncomputable abbrev tupOf (its : Array Value) (n : Nat) : Obj := { cls := .type "tuple", data := .seq its n }
/-- the addresses of the locs, in order; and those that are hidden: no value is told by them -/
structure Rho where
  locs : List Addr
  hid : List Addr
noncomputable def Rho.all (ρ : Rho) : List Addr := ρ.hid ++ ρ.locs
noncomputable def Rho.add (ρ : Rho) (a : Addr) : Rho := ⟨ρ.locs ++ [a], ρ.hid⟩
noncomputable def Rho.hide (ρ : Rho) (a : Addr) : Rho := ⟨ρ.locs, a :: ρ.hid⟩
theorem Rho.locs_all {ρ : Rho} {a : Addr} (h : a ∉ ρ.all) : a ∉ ρ.locs := fun m => h (List.mem_append_right _ m)
theorem Rho.at_all {ρ : Rho} {a : Addr} {l : Nat} (h : ρ.locs[l]? = some a) : a ∈ ρ.all := List.mem_append_right _ (List.mem_of_getElem? h)
mutual
inductive RepD (ρ : Rho) (h : Heap) : Value → AD → Prop
  | none : RepD ρ h .none .none
  | bool (b : Bool) : RepD ρ h (.bool b) (.bool b)
  | int (i : Int) (t : Tok) : RepD ρ h (.int i t) (.int i)
  | str {k : Nat} {x : Str} (t : Tok) : strTab[k]? = some x → RepD ρ h (.str x t) (.str k)
  | tup {a : Addr} {vs : List Value} {n : Nat} {ds : List AD} : h.get? a = some (tupOf vs.toArray n) → a ∉ ρ.all → RepDs ρ h vs ds → RepD ρ h (.ref a) (.tup ds)
  | lst {a : Addr} {vs : List Value} {n : Nat} {ds : List AD} : h.get? a = some (listOf vs.toArray n) → a ∉ ρ.all → RepDs ρ h vs ds → RepD ρ h (.ref a) (.lst ds)
inductive RepDs (ρ : Rho) (h : Heap) : List Value → List AD → Prop
  | nil : RepDs ρ h [] []
  | cons {v : Value} {vs : List Value} {d : AD} {ds : List AD} : RepD ρ h v d → RepDs ρ h vs ds → RepDs ρ h (v :: vs) (d :: ds)
end
mutual
inductive RepV (C : Addr) (ρ : Rho) (h : Heap) : Value → AV → Prop
  | d {v : Value} {x : AD} : RepD ρ h v x → RepV C ρ h v (.d x)
  | loc {a : Addr} {l : Nat} : ρ.locs[l]? = some a → RepV C ρ h (.ref a) (.loc l)
  | obj {a dx : Addr} {l : Nat} : h.get? a = some (instObj C dx) → a ∉ ρ.all → ρ.locs[l]? = some dx → RepV C ρ h (.ref a) (.obj l)
  | rng {a : Addr} {n : Int} {t u v : Tok} : h.get? a = some (rngOf n t u v) → a ∉ ρ.all → RepV C ρ h (.ref a) (.rng n)
  | tup {a : Addr} {vs : List Value} {n : Nat} {ds : List AV} : h.get? a = some (tupOf vs.toArray n) → a ∉ ρ.all → RepVs C ρ h vs ds → RepV C ρ h (.ref a) (.tup ds)
  | lst {a : Addr} {vs : List Value} {n : Nat} {ds : List AV} : h.get? a = some (listOf vs.toArray n) → a ∉ ρ.all → RepVs C ρ h vs ds → RepV C ρ h (.ref a) (.lst ds)
inductive RepVs (C : Addr) (ρ : Rho) (h : Heap) : List Value → List AV → Prop
  | nil : RepVs C ρ h [] []
  | cons {v : Value} {vs : List Value} {d : AV} {ds : List AV} : RepV C ρ h v d → RepVs C ρ h vs ds → RepVs C ρ h (v :: vs) (d :: ds)
end
/-! ## from heap to heap -/
structure Ext (X : List Addr) (ρ : Rho) (h : Heap) (ρ' : Rho) (h' : Heap) : Prop where
  pre : ρ.locs <+: ρ'.locs
  hid : ρ'.hid = ρ.hid
  keep : ∀ a o, h.get? a = some o → a ∉ ρ.locs → a ∉ X → h'.get? a = some o
  live : ∀ a o, h.get? a = some o → ∃ o', h'.get? a = some o'
  new : ∀ a, a ∈ ρ'.locs → a ∉ ρ.locs → h.get? a = none
theorem Ext.refl (X : List Addr) (ρ : Rho) (h : Heap) : Ext X ρ h ρ h := ⟨List.prefix_refl _, rfl, fun _ _ e _ _ => e, fun _ o e => ⟨o, e⟩, fun _ m n => absurd m n⟩
theorem Ext.notinL {X : List Addr} {ρ ρ' : Rho} {h h' : Heap} (x : Ext X ρ h ρ' h') {a : Addr} {o : Obj} (e : h.get? a = some o) (n : a ∉ ρ.locs) : a ∉ ρ'.locs := fun m => by
  rw [x.new a m n] at e; cases e
theorem Ext.notin {X : List Addr} {ρ ρ' : Rho} {h h' : Heap} (x : Ext X ρ h ρ' h') {a : Addr} {o : Obj} (e : h.get? a = some o) (n : a ∉ ρ.all) : a ∉ ρ'.all := fun m => by
  rcases List.mem_append.mp m with m | m
  · exact n (List.mem_append_left _ (x.hid ▸ m))
  · exact x.notinL e (Rho.locs_all n) m
theorem Ext.trans {X : List Addr} {ρ ρ' ρ'' : Rho} {h h' h'' : Heap} (x : Ext X ρ h ρ' h') (y : Ext X ρ' h' ρ'' h'') : Ext X ρ h ρ'' h'' := by
  refine ⟨x.pre.trans y.pre, y.hid.trans x.hid, fun a o e n nX => y.keep a o (x.keep a o e n nX) (x.notinL e n) nX, fun a o e => ?_, fun a m n => ?_⟩
  · obtain ⟨o', e'⟩ := x.live a o e
    exact y.live a o' e'
  · cases q : h.get? a with
    | none => rfl
    | some o =>
      obtain ⟨o', e'⟩ := x.live a o q
      exact absurd m (y.notinL e' (x.notinL q n))
theorem Ext.weaken {X Y : List Addr} {ρ ρ' : Rho} {h h' : Heap} (x : Ext X ρ h ρ' h') (s : ∀ a ∈ X, a ∈ Y) : Ext Y ρ h ρ' h' :=
  ⟨x.pre, x.hid, fun a o e n nY => x.keep a o e n fun m => nY (s a m), x.live, x.new⟩
theorem Ext.ofNil {Y : List Addr} {ρ ρ' : Rho} {h h' : Heap} (x : Ext [] ρ h ρ' h') : Ext Y ρ h ρ' h' := x.weaken fun _ m => nomatch m
/-- what data needs of it -/
structure Ext0 (X : List Addr) (ρ : Rho) (h : Heap) (ρ' : Rho) (h' : Heap) : Prop where
  pre : ρ.locs <+: ρ'.locs
  keep : ∀ a o, h.get? a = some o → a ∉ ρ.all → a ∉ X → h'.get? a = some o
  notin : ∀ a o, h.get? a = some o → a ∉ ρ.all → a ∉ ρ'.all
theorem Ext.to0 {X : List Addr} {ρ ρ' : Rho} {h h' : Heap} (x : Ext X ρ h ρ' h') : Ext0 X ρ h ρ' h' := ⟨x.pre, fun a o e n nX => x.keep a o e (Rho.locs_all n) nX, fun _ _ e n => x.notin e n⟩
/-- nothing that stands is changed -/
noncomputable def KeepAll (h h' : Heap) : Prop := ∀ b o, h.get? b = some o → h'.get? b = some o
theorem KeepAll.refl (h : Heap) : KeepAll h h := fun _ _ e => e
theorem KeepAll.trans {h h' h'' : Heap} (x : KeepAll h h') (y : KeepAll h' h'') : KeepAll h h'' := fun b o e => y b o (x b o e)
theorem KeepAll.push (h : Heap) (o : Obj) : KeepAll h (h.push o) := fun _ _ e => Heap.get?_push_of_some o e
theorem KeepAll.ext {h h' : Heap} (x : KeepAll h h') (X : List Addr) (ρ : Rho) : Ext X ρ h ρ h' := ⟨List.prefix_refl _, rfl, fun a o e _ _ => x a o e, fun a o e => ⟨o, x a o e⟩, fun _ m n => absurd m n⟩
/-- the addresses of X hold no data -/
noncomputable def XOk (X : List Addr) (h : Heap) : Prop := ∀ a ∈ X, ∀ o, h.get? a = some o → (∀ vs n, o.data ≠ .seq vs n) ∧ o.data ≠ .plain ∧ ∀ n t u v, o ≠ rngOf n t u v
theorem XOk.nil (h : Heap) : XOk [] h := fun _ m => nomatch m
mutual
theorem RepD.ext0 {X : List Addr} {ρ ρ' : Rho} {h h' : Heap} (x : Ext0 X ρ h ρ' h') (ok : XOk X h) : ∀ {v : Value} {d : AD}, RepD ρ h v d → RepD ρ' h' v d
  | _, _, .none => .none
  | _, _, .bool b => .bool b
  | _, _, .int i t => .int i t
  | _, _, .str t e => .str t e
  | _, _, .tup e n r => .tup (x.keep _ _ e n fun m => (ok _ m _ e).1 _ _ rfl) (x.notin _ _ e n) (RepDs.ext0 x ok r)
  | _, _, .lst e n r => .lst (x.keep _ _ e n fun m => (ok _ m _ e).1 _ _ rfl) (x.notin _ _ e n) (RepDs.ext0 x ok r)
theorem RepDs.ext0 {X : List Addr} {ρ ρ' : Rho} {h h' : Heap} (x : Ext0 X ρ h ρ' h') (ok : XOk X h) : ∀ {vs : List Value} {ds : List AD}, RepDs ρ h vs ds → RepDs ρ' h' vs ds
  | _, _, .nil => .nil
  | _, _, .cons a r => .cons (RepD.ext0 x ok a) (RepDs.ext0 x ok r)
end
theorem RepD.ext {X : List Addr} {ρ ρ' : Rho} {h h' : Heap} (x : Ext X ρ h ρ' h') (ok : XOk X h) {v : Value} {d : AD} (r : RepD ρ h v d) : RepD ρ' h' v d := r.ext0 x.to0 ok
theorem RepDs.ext {X : List Addr} {ρ ρ' : Rho} {h h' : Heap} (x : Ext X ρ h ρ' h') (ok : XOk X h) {v : List Value} {d : List AD} (r : RepDs ρ h v d) : RepDs ρ' h' v d := r.ext0 x.to0 ok
theorem pre_get {ρ ρ' : List Addr} (p : ρ <+: ρ') {l : Nat} {a : Addr} (e : ρ[l]? = some a) : ρ'[l]? = some a := by
  obtain ⟨t, rfl⟩ := p
  have : l < ρ.length := (List.getElem?_eq_some_iff.mp e).1
  rw [List.getElem?_append_left this]; exact e
mutual
theorem RepV.ext0 {C : Addr} {X : List Addr} {ρ ρ' : Rho} {h h' : Heap} (x : Ext0 X ρ h ρ' h') (ok : XOk X h) : ∀ {v : Value} {d : AV}, RepV C ρ h v d → RepV C ρ' h' v d
  | _, _, .d r => .d (r.ext0 x ok)
  | _, _, .loc e => .loc (pre_get x.pre e)
  | _, _, .obj e n p => .obj (x.keep _ _ e n fun m => (ok _ m _ e).2.1 rfl) (x.notin _ _ e n) (pre_get x.pre p)
  | _, _, .rng e n => .rng (x.keep _ _ e n fun m => (ok _ m _ e).2.2 _ _ _ _ rfl) (x.notin _ _ e n)
  | _, _, .tup e n r => .tup (x.keep _ _ e n fun m => (ok _ m _ e).1 _ _ rfl) (x.notin _ _ e n) (RepVs.ext0 x ok r)
  | _, _, .lst e n r => .lst (x.keep _ _ e n fun m => (ok _ m _ e).1 _ _ rfl) (x.notin _ _ e n) (RepVs.ext0 x ok r)
theorem RepVs.ext0 {C : Addr} {X : List Addr} {ρ ρ' : Rho} {h h' : Heap} (x : Ext0 X ρ h ρ' h') (ok : XOk X h) : ∀ {vs : List Value} {ds : List AV}, RepVs C ρ h vs ds → RepVs C ρ' h' vs ds
  | _, _, .nil => .nil
  | _, _, .cons a r => .cons (RepV.ext0 x ok a) (RepVs.ext0 x ok r)
end
theorem RepV.ext {C : Addr} {X : List Addr} {ρ ρ' : Rho} {h h' : Heap} (x : Ext X ρ h ρ' h') (ok : XOk X h) {v : Value} {d : AV} (r : RepV C ρ h v d) : RepV C ρ' h' v d := r.ext0 x.to0 ok
theorem RepVs.ext {C : Addr} {X : List Addr} {ρ ρ' : Rho} {h h' : Heap} (x : Ext X ρ h ρ' h') (ok : XOk X h) {v : List Value} {d : List AV} (r : RepVs C ρ h v d) : RepVs C ρ' h' v d := r.ext0 x.to0 ok
section
variable {C : Addr} {ρ : Rho} {h : Heap}
theorem RepDs.length {vs : List Value} {ds : List AD} (r : RepDs ρ h vs ds) : vs.length = ds.length := by
  induction vs generalizing ds with
  | nil => cases r; rfl
  | cons v vs ih => cases r with | cons _ r => simp [ih r]
theorem RepVs.length {vs : List Value} {ds : List AV} (r : RepVs C ρ h vs ds) : vs.length = ds.length := by
  induction vs generalizing ds with
  | nil => cases r; rfl
  | cons v vs ih => cases r with | cons _ r => simp [ih r]
theorem RepDs.append {vs ws : List Value} {ds es : List AD} (r : RepDs ρ h vs ds) (q : RepDs ρ h ws es) : RepDs ρ h (vs ++ ws) (ds ++ es) := by
  induction vs generalizing ds with
  | nil => cases r; exact q
  | cons v vs ih => cases r with | cons a r => exact .cons a (ih r)
theorem RepDs.get {vs : List Value} {ds : List AD} (r : RepDs ρ h vs ds) {i : Nat} {d : AD} (e : ds[i]? = some d) : ∃ v, vs[i]? = some v ∧ RepD ρ h v d := by
  induction vs generalizing ds i with
  | nil => cases r; cases e
  | cons v vs ih =>
    cases r with
    | cons a r =>
      cases i with
      | zero => cases e; exact ⟨v, rfl, a⟩
      | succ i => exact ih r (by simpa using e)
theorem RepVs.get {vs : List Value} {ds : List AV} (r : RepVs C ρ h vs ds) {i : Nat} {d : AV} (e : ds[i]? = some d) : ∃ v, vs[i]? = some v ∧ RepV C ρ h v d := by
  induction vs generalizing ds i with
  | nil => cases r; cases e
  | cons v vs ih =>
    cases r with
    | cons a r =>
      cases i with
      | zero => cases e; exact ⟨v, rfl, a⟩
      | succ i => exact ih r (by simpa using e)
theorem RepDs.take {vs : List Value} {ds : List AD} (r : RepDs ρ h vs ds) (n : Nat) : RepDs ρ h (vs.take n) (ds.take n) := by
  induction vs generalizing ds n with
  | nil => cases r; simp; exact .nil
  | cons v vs ih =>
    cases r with
    | cons a r =>
      cases n with
      | zero => exact .nil
      | succ n => exact .cons a (ih r n)
theorem RepDs.drop {vs : List Value} {ds : List AD} (r : RepDs ρ h vs ds) (n : Nat) : RepDs ρ h (vs.drop n) (ds.drop n) := by
  induction vs generalizing ds n with
  | nil => cases r; simp; exact .nil
  | cons v vs ih =>
    cases r with
    | cons a r =>
      cases n with
      | zero => exact .cons a r
      | succ n => exact ih r n
theorem RepDs.eraseIdx {vs : List Value} {ds : List AD} (r : RepDs ρ h vs ds) (n : Nat) : RepDs ρ h (vs.eraseIdx n) (ds.eraseIdx n) := by
  induction vs generalizing ds n with
  | nil => cases r; simp; exact .nil
  | cons v vs ih =>
    cases r with
    | cons a r =>
      cases n with
      | zero => exact r
      | succ n => exact .cons a (ih r n)
theorem RepDs.set {vs : List Value} {ds : List AD} (r : RepDs ρ h vs ds) (n : Nat) {v : Value} {d : AD} (q : RepD ρ h v d) : RepDs ρ h (vs.set n v) (ds.set n d) := by
  induction vs generalizing ds n with
  | nil => cases r; simp; exact .nil
  | cons v vs ih =>
    cases r with
    | cons a r =>
      cases n with
      | zero => exact .cons q r
      | succ n => exact .cons a (ih r n)
theorem RepVs.ofD : ∀ {vs : List Value} {ds : List AD}, RepDs ρ h vs ds → RepVs C ρ h vs (ds.map AV.d)
  | _, _, .nil => .nil
  | _, _, .cons a r => .cons (.d a) (RepVs.ofD r)
theorem RepVs.append {vs ws : List Value} {ds es : List AV} (r : RepVs C ρ h vs ds) (q : RepVs C ρ h ws es) : RepVs C ρ h (vs ++ ws) (ds ++ es) := by
  induction vs generalizing ds with
  | nil => cases r; exact q
  | cons v vs ih => cases r with | cons a r => exact .cons a (ih r)
end
/-! ## the store -/
inductive RepF (C : Addr) (ρ : Rho) (h : Heap) : List Str → List DictEntry → List AV → Prop
  | nil {ns : List Str} : RepF C ρ h ns [] []
  | cons {x : Str} {ns : List Str} {t : Tok} {hs : Int} {v : Value} {es : List DictEntry} {f : AV} {fs : List AV} : RepV C ρ h v f → RepF C ρ h ns es fs → RepF C ρ h (x :: ns) (⟨hs, .str x t, v⟩ :: es) (f :: fs)
theorem RepF.ext0 {C : Addr} {X : List Addr} {ρ ρ' : Rho} {h h' : Heap} (x : Ext0 X ρ h ρ' h') (ok : XOk X h) {ns : List Str} {es : List DictEntry} {fs : List AV} (r : RepF C ρ h ns es fs) : RepF C ρ' h' ns es fs := by
  induction r with
  | nil => exact .nil
  | cons a _ ih => exact .cons (a.ext0 x ok) ih
theorem RepF.ext {C : Addr} {X : List Addr} {ρ ρ' : Rho} {h h' : Heap} (x : Ext X ρ h ρ' h') (ok : XOk X h) {ns : List Str} {es : List DictEntry} {fs : List AV} (r : RepF C ρ h ns es fs) : RepF C ρ' h' ns es fs := r.ext0 x.to0 ok
inductive RepO (C : Addr) (ρ : Rho) (h : Heap) (a : Addr) : AO → Prop
  | list {vs : List Value} {n : Nat} {ds : List AD} : h.get? a = some (listOf vs.toArray n) → RepDs ρ h vs ds → RepO C ρ h a (.list ds)
  | dict {es : List DictEntry} {n : Nat} {fs : List AV} : h.get? a = some (dictOf es n) → RepF C ρ h fldTab es fs → RepO C ρ h a (.dict fs)
/-- an object that stays where it is -/
theorem RepO.ext0 {C : Addr} {X : List Addr} {ρ ρ' : Rho} {h h' : Heap} {a : Addr} {o : AO} (x : Ext0 X ρ h ρ' h') (ok : XOk X h) (e : ∀ o, h.get? a = some o → h'.get? a = some o) (r : RepO C ρ h a o) : RepO C ρ' h' a o := by
  cases r with
  | list p q => exact .list (e _ p) (q.ext0 x ok)
  | dict p q => exact .dict (e _ p) (q.ext0 x ok)
theorem RepO.ext {C : Addr} {X : List Addr} {ρ ρ' : Rho} {h h' : Heap} {a : Addr} {o : AO} (x : Ext X ρ h ρ' h') (ok : XOk X h) (e : ∀ o, h.get? a = some o → h'.get? a = some o) (r : RepO C ρ h a o) : RepO C ρ' h' a o := r.ext0 x.to0 ok e
theorem RepO.at {C : Addr} {ρ : Rho} {h : Heap} {a : Addr} {o : AO} (r : RepO C ρ h a o) : ∃ ob, h.get? a = some ob := by
  cases r with
  | list p q => exact ⟨_, p⟩
  | dict p q => exact ⟨_, p⟩
structure RepS (C : Addr) (H0 : Heap) (ρ : Rho) (σ : Store) (h : Heap) : Prop where
  stays : KeepAll H0 h
  len : ρ.locs.length = σ.length
  nodup : ρ.locs.Nodup
  fresh : ∀ a ∈ ρ.all, H0.get? a = none
  hidLive : ∀ a ∈ ρ.hid, ∃ o, h.get? a = some o
  objs : ∀ (l : Nat) o, σ[l]? = some o → ∃ a, ρ.locs[l]? = some a ∧ RepO C ρ h a o
section
variable {C : Addr} {H0 : Heap} {ρ : Rho} {σ : Store} {h h' : Heap}
theorem RepS.keepAll (S : RepS C H0 ρ σ h) (k : KeepAll h h') : RepS C H0 ρ σ h' :=
  ⟨S.stays.trans k, S.len, S.nodup, S.fresh, fun a m => let ⟨o, e⟩ := S.hidLive a m; ⟨o, k a o e⟩, fun l o e => by
    obtain ⟨a, ea, r⟩ := S.objs l o e
    exact ⟨a, ea, r.ext (k.ext [] ρ) (.nil h) fun o e => k a o e⟩⟩
theorem RepS.addr (S : RepS C H0 ρ σ h) {l : Nat} {a : Addr} (e : ρ.locs[l]? = some a) : ∃ o, σ[l]? = some o ∧ RepO C ρ h a o := by
  have hl : l < ρ.locs.length := (List.getElem?_eq_some_iff.mp e).1
  have hl' : l < σ.length := S.len ▸ hl
  obtain ⟨b, eb, r⟩ := S.objs l _ (List.getElem?_eq_getElem hl')
  rw [e] at eb; cases eb
  exact ⟨_, List.getElem?_eq_getElem hl', r⟩
theorem RepS.live (S : RepS C H0 ρ σ h) {a : Addr} (m : a ∈ ρ.all) : ∃ o, h.get? a = some o := by
  rcases List.mem_append.mp m with m | m
  · exact S.hidLive a m
  · obtain ⟨l, hl, rfl⟩ := List.getElem_of_mem m
    obtain ⟨o, _, r⟩ := S.addr (List.getElem?_eq_getElem hl)
    exact r.at
theorem new_none (h : Heap) : h.get? h.objs.size = none := by
  cases q : h.get? h.objs.size with
  | none => rfl
  | some o => exact absurd (Heap.lt_size q) (Nat.lt_irrefl _)
theorem not_in_new (S : RepS C H0 ρ σ h) : h.objs.size ∉ ρ.all := fun m => by
  obtain ⟨o, e⟩ := S.live m
  rw [new_none] at e; cases e
theorem fresh_of (S : RepS C H0 ρ σ h) {a : Addr} (hn : h.get? a = none) : H0.get? a = none := by
  cases q : H0.get? a with
  | none => rfl
  | some ob => have := S.stays _ _ q; rw [hn] at this; cases this
/-- a new loc -/
theorem alloc_keep {a : Addr} {ao : AO} (S : RepS C H0 ρ σ h) (hk : KeepAll h h') (hn : h.get? a = none) (r : Ext [] ρ h (ρ.add a) h' → RepO C (ρ.add a) h' a ao) :
    RepS C H0 (ρ.add a) (σ ++ [ao]) h' ∧ Ext [] ρ h (ρ.add a) h' ∧ (ρ.add a).locs[σ.length]? = some a := by
  have X : Ext [] ρ h (ρ.add a) h' := by
    refine ⟨List.prefix_append _ _, rfl, fun b ob e _ _ => hk b ob e, fun b ob e => ⟨ob, hk b ob e⟩, fun b m n => ?_⟩
    rcases List.mem_append.mp m with m | m
    · exact absurd m n
    · rw [List.mem_singleton.mp m]; exact hn
  refine ⟨⟨S.stays.trans hk, by simp [Rho.add, S.len], ?_, fun b m => ?_, fun b m => ?_, fun l ob e => ?_⟩, X, by rw [← S.len]; simp [Rho.add]⟩
  · refine List.nodup_append.mpr ⟨S.nodup, by simp, fun b m c mc e => ?_⟩
    rw [List.mem_singleton.mp mc] at e
    subst e
    obtain ⟨ob, q⟩ := S.live (List.mem_append_right _ m)
    rw [hn] at q; cases q
  · rcases List.mem_append.mp m with m | m
    · exact S.fresh b (List.mem_append_left _ m)
    · rcases List.mem_append.mp m with m | m
      · exact S.fresh b (List.mem_append_right _ m)
      · rw [List.mem_singleton.mp m]
        exact fresh_of S hn
  · obtain ⟨o, e⟩ := S.hidLive b m
    exact ⟨o, hk b o e⟩
  · by_cases hl : l < σ.length
    · rw [List.getElem?_append_left hl] at e
      obtain ⟨b, eb, rb⟩ := S.objs l ob e
      exact ⟨b, pre_get (List.prefix_append _ _) eb, rb.ext X (.nil h) fun o e => hk _ _ e⟩
    · have hl' : l = σ.length := by
        have := (List.getElem?_eq_some_iff.mp e).1
        simp at this; omega
      subst hl'
      simp at e
      subst e
      exact ⟨_, by rw [← S.len]; simp [Rho.add], r X⟩
/-- a loc that is stored into -/
theorem RepS.put (S : RepS C H0 ρ σ h) {l : Nat} {a : Addr} {ao : AO} (e : ρ.locs[l]? = some a) (hs : Heap.SameBut a h h') (hl : ∃ o, h'.get? a = some o) (r : Ext [] ρ h ρ h' → RepO C ρ h' a ao) :
    RepS C H0 ρ (σ.set l ao) h' ∧ Ext [] ρ h ρ h' := by
  have ma : a ∈ ρ.locs := List.mem_of_getElem? e
  have X : Ext [] ρ h ρ h' := by
    refine ⟨List.prefix_refl _, rfl, fun b o eb n _ => (hs.2 b fun q => n (q ▸ ma)).trans eb, fun b o eb => ?_, fun _ m n => absurd m n⟩
    by_cases q : b = a
    · subst q; exact hl
    · exact ⟨o, (hs.2 b q).trans eb⟩
  refine ⟨⟨fun b o eb => (hs.2 b fun q => ?_).trans (S.stays b o eb), by simp [S.len], S.nodup, S.fresh, fun b m => ?_, fun l' ob el => ?_⟩, X⟩
  · rw [q, S.fresh a (List.mem_append_right _ ma)] at eb; cases eb
  · obtain ⟨o, eo⟩ := S.hidLive b m
    exact X.live b o eo
  · by_cases q : l = l'
    · subst q
      rw [List.getElem?_set] at el
      simp only [if_true] at el
      split at el
      · cases el
        exact ⟨a, e, r X⟩
      · cases el
    · rw [List.getElem?_set_ne q] at el
      obtain ⟨b, eb, rb⟩ := S.objs l' ob el
      refine ⟨b, eb, rb.ext X (.nil h) fun o eo => (hs.2 b fun z => q ?_).trans eo⟩
      subst z
      have h1 := List.getElem?_eq_some_iff.mp e
      exact (List.getElem?_inj h1.1 S.nodup).mp (e.trans eb.symm)
end
end Mine
end
section
open PySem PySem.W PySem.Calls PyProof.Rows
set_option Elab.async false
set_option maxRecDepth 100000
namespace Mine
/-! ## data as PyData -/
mutual
noncomputable def toPy : AD → PyData
  | .none => .none
  | .bool b => .bool b
  | .int i => .int i
  | .str k => .str (strTab.getD k Str.empty)
  | .tup xs => .tuple (toPys xs)
  | .lst xs => .list (toPys xs)
noncomputable def toPys : List AD → List PyData
  | [] => []
  | x :: xs => toPy x :: toPys xs
end
mutual
noncomputable def AD.dep : AD → Nat
  | .none | .bool _ | .int _ | .str _ => 0
  | .tup xs | .lst xs => deps xs + 1
noncomputable def AD.deps : List AD → Nat
  | [] => 0
  | x :: xs => max x.dep (AD.deps xs)
end
mutual
noncomputable def AD.beq : AD → AD → Bool
  | .none, .none => true
  | .bool a, .bool b => a == b
  | .bool a, .int j => (if a then 1 else 0) == j
  | .int i, .bool b => i == (if b then 1 else 0)
  | .int i, .int j => i == j
  | .str x, .str y => x == y
  | .lst xs, .lst ys => AD.beqs xs ys
  | .tup xs, .tup ys => AD.beqs xs ys
  | _, _ => false
noncomputable def AD.beqs : List AD → List AD → Bool
  | [], [] => true
  | x :: xs, y :: ys => x.beq y && AD.beqs xs ys
  | _, _ => false
end
theorem strTab_ok : ∀ k, k < strTab.length → PyData.strOk (strTab.getD k Str.empty) = true := by decide +kernel
theorem strTab_inj : ∀ k, k < strTab.length → ∀ j, j < strTab.length → ((strTab.getD k Str.empty) == (strTab.getD j Str.empty)) = (k == j) := by decide +kernel
mutual
noncomputable def AD.wf : AD → Bool
  | .none | .bool _ | .int _ => true
  | .str k => decide (k < strTab.length)
  | .tup xs | .lst xs => AD.wfs xs
noncomputable def AD.wfs : List AD → Bool
  | [] => true
  | x :: xs => x.wf && AD.wfs xs
end
section
variable {C : Addr} {ρ : Rho} {h : Heap}
mutual
theorem RepD.wf : ∀ {v : Value} {d : AD}, RepD ρ h v d → d.wf = true
  | _, _, .none => rfl
  | _, _, .bool _ => rfl
  | _, _, .int _ _ => rfl
  | _, _, .str _ e => decide_eq_true (List.getElem?_eq_some_iff.mp e).1
  | _, _, .tup _ _ r => RepDs.wfs r
  | _, _, .lst _ _ r => RepDs.wfs r
theorem RepDs.wfs : ∀ {vs : List Value} {ds : List AD}, RepDs ρ h vs ds → AD.wfs ds = true
  | _, _, .nil => rfl
  | _, _, .cons a r => by rw [AD.wfs, RepD.wf a, RepDs.wfs r]; rfl
end
mutual
theorem RepD.reads : ∀ {v : Value} {d : AD}, RepD ρ h v d → ∃ as, Reads h v (toPy d) as
  | _, _, .none => ⟨_, .none⟩
  | _, _, .bool b => ⟨_, .bool b⟩
  | _, _, .int i t => ⟨_, .int i t⟩
  | _, _, .str (x := x) (k := k) t e => by
    have : strTab.getD k Str.empty = x := by rw [List.getD_eq_getElem?_getD, e]; rfl
    rw [toPy, this]; exact ⟨_, .str x t⟩
  | _, _, .tup e _ r => by
    obtain ⟨as, q⟩ := RepDs.reads r
    rw [toPy]; exact ⟨_, .tuple e rfl rfl q⟩
  | _, _, .lst e _ r => by
    obtain ⟨as, q⟩ := RepDs.reads r
    rw [toPy]; exact ⟨_, .list e rfl rfl q⟩
theorem RepDs.reads : ∀ {vs : List Value} {ds : List AD}, RepDs ρ h vs ds → ∃ as, ReadsAll h vs (toPys ds) as
  | _, _, .nil => ⟨_, .nil⟩
  | _, _, .cons a r => by
    obtain ⟨as, q⟩ := RepD.reads a
    obtain ⟨bs, p⟩ := RepDs.reads r
    rw [toPys]; exact ⟨_, .cons q p⟩
end
end
mutual
theorem AD.lay : ∀ {d : AD}, d.wf = true → (toPy d).canLay0 = true
  | .none, _ => rfl
  | .bool _, _ => rfl
  | .int _, _ => rfl
  | .str k, e => by rw [toPy, PyData.canLay0]; exact strTab_ok k (of_decide_eq_true e)
  | .tup xs, e => by rw [toPy, PyData.canLay0]; exact AD.lays e
  | .lst xs, e => by rw [toPy, PyData.canLay0]; exact AD.lays e
theorem AD.lays : ∀ {ds : List AD}, AD.wfs ds = true → PyData.canLayAll0 (toPys ds) = true
  | [], _ => rfl
  | x :: xs, e => by
    rw [AD.wfs, Bool.and_eq_true] at e
    rw [toPys, PyData.canLayAll0, AD.lay e.1, AD.lays e.2]; rfl
end
mutual
theorem AD.depth : ∀ d : AD, (toPy d).depth = d.dep
  | .none => rfl
  | .bool _ => rfl
  | .int _ => rfl
  | .str _ => rfl
  | .tup xs => by rw [toPy, PyData.depth, AD.dep, AD.depths]
  | .lst xs => by rw [toPy, PyData.depth, AD.dep, AD.depths]
theorem AD.depths : ∀ ds : List AD, PyData.depthAll (toPys ds) = AD.deps ds
  | [] => rfl
  | x :: xs => by rw [toPys, PyData.depthAll, AD.deps, AD.depth, AD.depths]
end
mutual
theorem AD.eqv_eq : ∀ (a b : AD), a.wf = true → b.wf = true → PyData.eqv (toPy a) (toPy b) = a.beq b
  | .str k, .str j, h, g => by
    rw [toPy, toPy, PyData.eqv, AD.beq]; exact strTab_inj k (of_decide_eq_true h) j (of_decide_eq_true g)
  | .tup xs, .tup ys, h, g => by rw [toPy, toPy, PyData.eqv, AD.beq]; exact AD.eqvs_eq xs ys h g
  | .lst xs, .lst ys, h, g => by rw [toPy, toPy, PyData.eqv, AD.beq]; exact AD.eqvs_eq xs ys h g
  | .none, b, _, _ => by cases b <;> simp only [toPy, PyData.eqv, AD.beq]
  | .bool x, b, _, _ => by cases b <;> simp only [toPy, PyData.eqv, AD.beq]
  | .int x, b, _, _ => by cases b <;> simp only [toPy, PyData.eqv, AD.beq]
  | .str x, .none, _, _ => by simp only [toPy, PyData.eqv, AD.beq]
  | .str x, .bool _, _, _ => by simp only [toPy, PyData.eqv, AD.beq]
  | .str x, .int _, _, _ => by simp only [toPy, PyData.eqv, AD.beq]
  | .str x, .tup _, _, _ => by simp only [toPy, PyData.eqv, AD.beq]
  | .str x, .lst _, _, _ => by simp only [toPy, PyData.eqv, AD.beq]
  | .tup x, .none, _, _ => by simp only [toPy, PyData.eqv, AD.beq]
  | .tup x, .bool _, _, _ => by simp only [toPy, PyData.eqv, AD.beq]
  | .tup x, .int _, _, _ => by simp only [toPy, PyData.eqv, AD.beq]
  | .tup x, .str _, _, _ => by simp only [toPy, PyData.eqv, AD.beq]
  | .tup x, .lst _, _, _ => by simp only [toPy, PyData.eqv, AD.beq]
  | .lst x, .none, _, _ => by simp only [toPy, PyData.eqv, AD.beq]
  | .lst x, .bool _, _, _ => by simp only [toPy, PyData.eqv, AD.beq]
  | .lst x, .int _, _, _ => by simp only [toPy, PyData.eqv, AD.beq]
  | .lst x, .str _, _, _ => by simp only [toPy, PyData.eqv, AD.beq]
  | .lst x, .tup _, _, _ => by simp only [toPy, PyData.eqv, AD.beq]
theorem AD.eqvs_eq : ∀ (xs ys : List AD), AD.wfs xs = true → AD.wfs ys = true → PyData.eqvAll (toPys xs) (toPys ys) = AD.beqs xs ys
  | [], [], _, _ => rfl
  | [], _ :: _, _, _ => rfl
  | _ :: _, [], _, _ => rfl
  | x :: xs, y :: ys, h, g => by
    rw [AD.wfs, Bool.and_eq_true] at h g
    rw [toPys, toPys, PyData.eqvAll, AD.beqs, AD.eqv_eq x y h.1 g.1, AD.eqvs_eq xs ys h.2 g.2]
end
/-! ## what a value holds, store and all -/
noncomputable def content (σ : Store) : AV → Option (List AD)
  | .d (.lst xs) => some xs
  | .loc l => match σ[l]? with
    | some (.list xs) => some xs
    | _ => none
  | _ => none
mutual
noncomputable def res (σ : Store) : AV → Option AD
  | .d x => some x
  | .loc l => match σ[l]? with
    | some (.list xs) => some (.lst xs)
    | _ => none
  | .obj _ => none
  | .rng _ => none
  | .tup xs => (ress σ xs).map .tup
  | .lst xs => (ress σ xs).map .lst
noncomputable def ress (σ : Store) : List AV → Option (List AD)
  | [] => some []
  | x :: xs => match res σ x, ress σ xs with
    | some d, some ds => some (d :: ds)
    | _, _ => none
end
section
variable {C : Addr} {H0 : Heap} {ρ : Rho} {σ : Store} {h : Heap}
theorem content_at (S : RepS C H0 ρ σ h) {v : Value} {av : AV} {xs : List AD} (r : RepV C ρ h v av) (e : content σ av = some xs) :
    ∃ a vs n, v = .ref a ∧ h.get? a = some (listOf vs.toArray n) ∧ RepDs ρ h vs xs := by
  cases r with
  | d r =>
    cases r with
    | lst p _ q => cases e; exact ⟨_, _, _, rfl, p, q⟩
    | _ => cases e
  | loc p =>
    obtain ⟨o, eo, ro⟩ := S.addr p
    simp only [content, eo] at e
    cases ro with
    | list p q => cases e; exact ⟨_, _, _, rfl, p, q⟩
    | dict p q => cases e
  | _ => cases e
mutual
theorem res_at (S : RepS C H0 ρ σ h) : ∀ {v : Value} {av : AV} {x : AD}, RepV C ρ h v av → res σ av = some x → (∃ as, Reads h v (toPy x) as) ∧ x.wf = true
  | _, _, _, .d r, e => by
    rw [res] at e; cases e; exact ⟨r.reads, r.wf⟩
  | _, _, _, .loc p, e => by
    obtain ⟨o, eo, ro⟩ := S.addr p
    simp only [res, eo] at e
    cases ro with
    | list p q =>
      cases e
      obtain ⟨as, z⟩ := q.reads
      rw [toPy]
      exact ⟨⟨_, .list p rfl rfl z⟩, q.wfs⟩
    | dict p q => cases e
  | _, _, _, .obj _ _ _, e => by rw [res] at e; cases e
  | _, _, _, .rng _ _, e => by rw [res] at e; cases e
  | _, _, _, .tup p _ r, e => by
    rw [res] at e
    obtain ⟨ds, e1, rfl⟩ := Option.map_eq_some_iff.mp e
    obtain ⟨⟨as, z⟩, w⟩ := ress_at S r e1
    rw [toPy]
    exact ⟨⟨_, .tuple p rfl rfl z⟩, w⟩
  | _, _, _, .lst p _ r, e => by
    rw [res] at e
    obtain ⟨ds, e1, rfl⟩ := Option.map_eq_some_iff.mp e
    obtain ⟨⟨as, z⟩, w⟩ := ress_at S r e1
    rw [toPy]
    exact ⟨⟨_, .list p rfl rfl z⟩, w⟩
theorem ress_at (S : RepS C H0 ρ σ h) : ∀ {vs : List Value} {avs : List AV} {xs : List AD}, RepVs C ρ h vs avs → ress σ avs = some xs → (∃ as, ReadsAll h vs (toPys xs) as) ∧ AD.wfs xs = true
  | _, _, _, .nil, e => by rw [ress] at e; cases e; exact ⟨⟨_, .nil⟩, rfl⟩
  | _, _, _, .cons a r, e => by
    rw [ress] at e
    split at e
    · rename_i d ds e1 e2
      cases e
      obtain ⟨⟨as, z⟩, w⟩ := res_at S a e1
      obtain ⟨⟨bs, y⟩, u⟩ := ress_at S r e2
      rw [toPys, AD.wfs, w, u]
      exact ⟨⟨_, .cons z y⟩, rfl⟩
    · cases e
end
end
end Mine
end
section
open PySem PySem.W PySem.Calls PyProof.Rows
set_option Elab.async false
set_option maxRecDepth 100000
namespace Mine
/-! ## the functions that the syntax stands for -/
noncomputable abbrev M (α : Type) := Store → Option (α × Store)
noncomputable def M.ret {α : Type} (a : α) : M α := fun σ => some (a, σ)
noncomputable def M.bind {α β : Type} (m : M α) (k : α → M β) : M β := fun σ => match m σ with
  | none => none
  | some (a, σ1) => k a σ1
theorem M.bind_some {α β : Type} {m : M α} {k : α → M β} {σ σ' : Store} {b : β} (e : M.bind m k σ = some (b, σ')) : ∃ a σ1, m σ = some (a, σ1) ∧ k a σ1 = some (b, σ') := by
  unfold M.bind at e
  split at e
  · cases e
  · rename_i a σ1 q; exact ⟨a, σ1, q, e⟩
noncomputable def M.opt {α : Type} (o : Store → Option α) : M α := fun σ => (o σ).map (·, σ)
theorem M.opt_some {α : Type} {o : Store → Option α} {σ σ' : Store} {a : α} (e : M.opt o σ = some (a, σ')) : σ' = σ ∧ o σ = some a := by
  obtain ⟨x, q, p⟩ := Option.map_eq_some_iff.mp e
  cases p; exact ⟨rfl, q⟩
structure GC where
  prog : Program
  w : World
  H0 : Heap
  K : Frag
  C : Addr
  mg : Str → Option Value
  mb : Str → Option Value
  p : Program
  loose : List Str
  X : K.In H0
  T : TopRead p loose mg mb H0
  hasDict : hasDictIn K C = true
  plain : plainGet K C Str.empty = true
  over : plainOver K C = true
  setattr : findIn K (.ref C) "__setattr__" = some (some (.builtin "object.__setattr__"))
  makes : makesIn K C = true
  fld : ∀ x ∈ fldTab, findIn K (.ref C) x = some none
structure OkA (k : Nat) (A : Around) : Prop where
  handled : A.handled = none
  depth : A.depth + k ≤ 900
  units : A.units + 20 * k ≤ 9000
theorem OkA.mono {j k : Nat} {A : Around} (o : OkA k A) (h : j ≤ k) : OkA j A := ⟨o.handled, by have := o.depth; omega, by have := o.units; omega⟩
/-! ## frames -/
noncomputable def VarIs (env : Env) (h : Heap) (m : Str → Option Value) (x : Str) (v : Value) : Prop :=
  (env.kindOf x = some .local ∧ m x = some v) ∨ ((env.kindOf x = some .cell ∨ env.kindOf x = some .free) ∧ ∃ c, env.cells.lookup x = some c ∧ h.IsCell c (some v))
structure Frm (G : GC) (sc : Scope) (ns : List Str) (env : Env) (ρ : Rho) (h : Heap) (vals : Vals) : Prop where
  esc : env.scope = sc
  kind : sc.kind = .function
  glob : env.globals = mainGlobals
  blt : env.builtins = builtinsNs
  len : vals.length = ns.length
  names : ∃ m, h.Ns env.locals m ∧ ∀ (i : Nat) x av, ns[i]? = some x → vals[i]? = some (some av) → ∃ v, VarIs env h m x v ∧ RepV G.C ρ h v av
  cells : ∀ x c, (x, c) ∈ env.cells → (∃ ov, h.IsCell c ov) ∧ c ∉ ρ.locs ∧ G.H0.get? c = none
  inj : ∀ x y c, env.cells.lookup x = some c → env.cells.lookup y = some c → x = y
  has : ∀ x, sc.names.lookup x = some .cell → ∃ c, env.cells.lookup x = some c
  Lρ : env.locals ∉ ρ.locs
  L0 : G.H0.get? env.locals = none
noncomputable def frX (env : Env) : List Addr := env.locals :: env.cells.map (·.2)
theorem lookup_mem {α β : Type} [BEq α] [LawfulBEq α] {l : List (α × β)} {a : α} {b : β} (e : l.lookup a = some b) : (a, b) ∈ l := by
  induction l with
  | nil => cases e
  | cons p r ih =>
    obtain ⟨x, y⟩ := p
    rw [List.lookup_cons] at e
    split at e
    · rename_i q
      cases e
      rw [eq_of_beq q]; exact .head _
    · exact .tail _ (ih e)
section
variable {G : GC} {sc : Scope} {ns : List Str} {env : Env} {ρ ρ' : Rho} {h h' : Heap} {vals : Vals}
theorem Frm.xok (F : Frm G sc ns env ρ h vals) : XOk (frX env) h := by
  intro a m o e
  rcases List.mem_cons.mp m with rfl | m
  · obtain ⟨mm, ⟨o', es, ep, ho, hd, _⟩, _⟩ := F.names
    rw [ho] at e; cases e
    exact ⟨fun vs n q => (by rw [hd] at q; cases q), fun q => (by rw [hd] at q; cases q), fun n t u v q => (by rw [q] at hd; cases hd)⟩
  · obtain ⟨⟨x, c⟩, hm, rfl⟩ := List.mem_map.mp m
    obtain ⟨⟨ov, o', ho, hd⟩, _⟩ := F.cells x c hm
    rw [ho] at e; cases e
    exact ⟨fun vs n q => (by rw [hd] at q; cases q), fun q => (by rw [hd] at q; cases q), fun n t u v q => (by rw [q] at hd; cases hd)⟩
theorem Frm.ext (F : Frm G sc ns env ρ h vals) (x : Ext [] ρ h ρ' h') : Frm G sc ns env ρ' h' vals := by
  obtain ⟨m, ⟨o, es, ep, ho, hd, hk, hf⟩, hv⟩ := F.names
  have hc : ∀ c ov, h.IsCell c ov → c ∉ ρ.locs → h'.IsCell c ov := fun c ov ⟨o, e, d⟩ n => ⟨o, x.keep c o e n (by simp), d⟩
  refine ⟨F.esc, F.kind, F.glob, F.blt, F.len, ⟨m, ⟨o, es, ep, x.keep _ _ ho F.Lρ (by simp), hd, hk, hf⟩, fun i y av e1 e2 => ?_⟩, fun y c hm => ?_, F.inj, F.has, x.notinL ho F.Lρ, F.L0⟩
  · obtain ⟨v, a, r⟩ := hv i y av e1 e2
    refine ⟨v, a.imp id fun ⟨k, c, l, z⟩ => ⟨k, c, l, hc c _ z (F.cells y c (lookup_mem l)).2.1⟩, r.ext x (.nil h)⟩
  · obtain ⟨⟨ov, z⟩, n, b⟩ := F.cells y c hm
    obtain ⟨o', e', _⟩ := z
    exact ⟨⟨ov, hc c ov ⟨o', e', by assumption⟩ n⟩, x.notinL e' n, b⟩
end
/-! ## what is to be shown of a tree -/
/-- the tree t, from state s, behaves as the outcome r; Rel says how its value is told -/
noncomputable def Tr (G : GC) {α β : Type} (A : Around) (t : Sem α) (s : Shared) (ρ : Rho) (Rel : Rho → Heap → α → β → Prop) (r : Option (β × Store)) : Prop :=
  ∀ b σ', r = some (b, σ') → ∀ (Q : α → Shared → Prop) (E : Value → Shared → Prop),
    (∀ a ρ' h' tk, RepS G.C G.H0 ρ' σ' h' → Ext [] ρ s.heap ρ' h' → Rel ρ' h' a b → Q a { s with heap := h', toks := tk }) → wpAny (model G.prog G.w) A t Q E s
noncomputable def RV (G : GC) : Rho → Heap → Value → AV → Prop := fun ρ h v av => RepV G.C ρ h v av
noncomputable def RVs (G : GC) : Rho → Heap → List Value → List AV → Prop := fun ρ h v av => RepVs G.C ρ h v av
noncomputable def RB : Rho → Heap → Bool → Bool → Prop := fun _ _ a b => a = b
/-- an expression -/
noncomputable def SE (G : GC) (k : Nat) (sc : Scope) (ns : List Str) (e : Expr) (f : Vals → M AV) : Prop :=
  ∀ A env s ρ σ vals, OkA k A → RepS G.C G.H0 ρ σ s.heap → Frm G sc ns env ρ s.heap vals → Tr G A (eval e env) s ρ (RV G) (f vals σ)
/-- a test -/
noncomputable def ST (G : GC) (k : Nat) (sc : Scope) (ns : List Str) (e : Expr) (f : Vals → M Bool) : Prop :=
  ∀ A env s ρ σ vals, OkA k A → RepS G.C G.H0 ρ σ s.heap → Frm G sc ns env ρ s.heap vals → Tr G A (isTrue e env (eval e env)) s ρ RB (f vals σ)
/-- several, as arguments -/
noncomputable def SEs (G : GC) (k : Nat) (sc : Scope) (ns : List Str) (es : List Expr) (f : Vals → M (List AV)) : Prop :=
  ∀ A env s ρ σ vals pos, OkA k A → RepS G.C G.H0 ρ σ s.heap → Frm G sc ns env ρ s.heap vals → Tr G A (spliced (backTo pos (starEach es env))) s ρ (RVs G) (f vals σ)
section
variable {G : GC} {k : Nat} {sc : Scope} {ns : List Str}
/-! ### names, constants -/
noncomputable def cVar (i : Nat) : Vals → M AV := fun vals => M.opt fun _ => match vals[i]? with
  | some (some av) => some av
  | _ => none
theorem SE_var {x : Str} {pos : Pos} {i : Nat} (hi : ns[i]? = some x) (hd : (x == ("__debug__" : Str)) = false) (hn : (x == ("__classdict__" : Str)) = false) : SE G k sc ns (.Name x pos) (cVar i) := by
  intro A env s ρ σ vals _ S F av σ' e Q E hQ
  obtain ⟨rfl, e'⟩ := M.opt_some e
  have hv : vals[i]? = some (some av) := by
    split at e'
    · cases e'; assumption
    · cases e'
  obtain ⟨m, hns, hm⟩ := F.names
  obtain ⟨v, a, r⟩ := hm i x av hi hv
  have hk : env.scope.kind = .function := F.esc ▸ F.kind
  have fin : Q v s := hQ v ρ s.heap s.toks S (.refl _ _ _) r
  refine wpAny_Name ?_ hd
  rcases a with ⟨hl, hmx⟩ | ⟨hl | hl, c, hc, hcell⟩
  · exact wpAny_loadName_local hk hl hns hmx fin
  · exact wpAny_loadName_cell hk hl hc hcell fin
  · exact wpAny_loadName_free hk hl hc hcell fin hn
noncomputable def cD (x : AD) : Vals → M AV := fun _ => M.ret (.d x)
theorem ret_some {α : Type} {a b : α} {σ σ' : Store} (e : M.ret a σ = some (b, σ')) : b = a ∧ σ' = σ := by cases e; exact ⟨rfl, rfl⟩
theorem SE_none {n : Nat} {pos : Pos} : SE G k sc ns (.Constant .none n pos) (cD .none) := by
  intro A env s ρ σ vals _ S F av σ' e Q E hQ
  obtain ⟨rfl, rfl⟩ := ret_some e
  exact wpAny_pure (hQ _ _ _ _ S (.refl _ _ _) (.d .none))
theorem SE_bool {n : Nat} {b : Bool} {pos : Pos} : SE G k sc ns (.Constant (.bool b) n pos) (cD (.bool b)) := by
  intro A env s ρ σ vals _ S F av σ' e Q E hQ
  obtain ⟨rfl, rfl⟩ := ret_some e
  exact wpAny_pure (hQ _ _ _ _ S (.refl _ _ _) (.d (.bool b)))
theorem SE_int {n : Nat} {i : Int} {pos : Pos} : SE G k sc ns (.Constant (.int i) n pos) (cD (.int i)) := by
  intro A env s ρ σ vals _ S F av σ' e Q E hQ
  obtain ⟨rfl, rfl⟩ := ret_some e
  exact wpAny_mkInt (hQ _ _ _ _ S (.refl _ _ _) (.d (.int i _)))
theorem SE_str {n : Nat} {x : Str} {pos : Pos} {j : Nat} (hj : strTab[j]? = some x) : SE G k sc ns (.Constant (.str x) n pos) (cD (.str j)) := by
  intro A env s ρ σ vals _ S F av σ' e Q E hQ
  obtain ⟨rfl, rfl⟩ := ret_some e
  exact wpAny_mkText (hQ _ _ _ _ S (.refl _ _ _) (.d (.str _ hj)))
/-- a str of the module's -/
theorem SE_gstr {x y : Str} {t : Tok} {pos : Pos} {j : Nat} (hx : sc.names.lookup x = some .globalImplicit) (hK : nsIn G.K mainGlobals x = some (some (.str y t))) (hj : strTab[j]? = some y) (hd : (x == ("__debug__" : Str)) = false) :
    SE G k sc ns (.Name x pos) (cD (.str j)) := by
  intro A env s ρ σ vals _ S F av σ' e Q E hQ
  obtain ⟨rfl, rfl⟩ := ret_some e
  have hk : env.scope.kind = .function := F.esc ▸ F.kind
  have hx' : env.kindOf x = some .globalImplicit := by unfold Env.kindOf; rw [F.esc]; exact hx
  refine Name_function_global hk hx' (loadGlobal_global (F.glob ▸ G.T.g.keeps S.stays) (mg_of G.X G.T.g hK) ?_) hd
  exact hQ _ _ _ _ S (.refl _ _ _) (.d (.str t hj))
/-! ### arithmetic -/
noncomputable def smallB (i : Int) : Bool := decide (-(2 ^ 64) < i) && decide (i < 2 ^ 64)
noncomputable def intOf : AV → Option Int
  | .d (.int i) => some i
  | _ => none
noncomputable def int2 (a b : AV) : Option (Int × Int) := (intOf a).bind fun i => (intOf b).map fun j => (i, j)
noncomputable def addL (a b : AV) (σ : Store) : Option AV := match content σ a, content σ b with
  | some xs, some ys => if decide (xs.length + ys.length ≤ 2 ^ 20) then some (.d (.lst (xs ++ ys))) else none
  | _, _ => none
noncomputable def mulL (a b : AV) (σ : Store) : Option AV := match content σ a, intOf b with
  | some xs, some j => if decide (-(2 ^ 63) ≤ j) && decide (j < 2 ^ 63) && decide (xs.length * j.toNat ≤ 2 ^ 20) then some (.d (.lst (List.replicate j.toNat xs).flatten)) else none
  | _, _ => none
noncomputable def intA (c : Int × Int → Bool) (f : Int × Int → Int) (q : Option (Int × Int)) : Option AV := match q with
  | some p => if c p then some (.d (.int (f p))) else none
  | none => none
noncomputable def binA (op : Operator) (a b : AV) (σ : Store) : Option AV := match op with
  | .Add => match int2 a b with
    | some p => some (.d (.int (p.1 + p.2)))
    | none => addL a b σ
  | .Sub => intA (fun _ => true) (fun p => p.1 - p.2) (int2 a b)
  | .Mult => match int2 a b with
    | some p => if smallB p.1 || smallB p.2 then some (.d (.int (p.1 * p.2))) else none
    | none => mulL a b σ
  | .FloorDiv => intA (fun p => smallB p.2 && p.2 != 0) (fun p => p.1.fdiv p.2) (int2 a b)
  | .Mod => intA (fun p => p.2 != 0) (fun p => p.1.fmod p.2) (int2 a b)
  | .Pow => intA (fun p => smallB p.1 && decide (0 ≤ p.2) && decide (p.2 ≤ 1000)) (fun p => p.1 ^ p.2.toNat) (int2 a b)
  | _ => none
theorem intOf_some {C : Addr} {ρ : Rho} {h : Heap} {v : Value} {a : AV} {i : Int} (ra : RepV C ρ h v a) (e : intOf a = some i) : ∃ t, v = .int i t := by
  unfold intOf at e
  split at e
  · cases e; cases ra; rename_i ra; cases ra; exact ⟨_, rfl⟩
  · cases e
theorem int2_some {C : Addr} {ρ : Rho} {h : Heap} {va vb : Value} {a b : AV} {p : Int × Int} (ra : RepV C ρ h va a) (rb : RepV C ρ h vb b) (e : int2 a b = some p) : ∃ t u, va = .int p.1 t ∧ vb = .int p.2 u := by
  obtain ⟨i, hi, e⟩ := Option.bind_eq_some_iff.mp e
  obtain ⟨j, hj, rfl⟩ := Option.map_eq_some_iff.mp e
  obtain ⟨t, rfl⟩ := intOf_some ra hi
  obtain ⟨u, rfl⟩ := intOf_some rb hj
  exact ⟨t, u, rfl, rfl⟩
theorem intA_some {c : Int × Int → Bool} {f : Int × Int → Int} {q : Option (Int × Int)} {r : AV} (e : intA c f q = some r) : ∃ p, q = some p ∧ c p = true ∧ r = .d (.int (f p)) := by
  unfold intA at e
  split at e
  · split at e
    · cases e; exact ⟨_, rfl, by assumption, rfl⟩
    · cases e
  · cases e
theorem addL_some {a b r : AV} {σ : Store} (e : addL a b σ = some r) : ∃ xs ys, content σ a = some xs ∧ content σ b = some ys ∧ xs.length + ys.length ≤ 2 ^ 20 ∧ r = .d (.lst (xs ++ ys)) := by
  unfold addL at e
  split at e
  · split at e
    · rename_i q
      cases e; exact ⟨_, _, by assumption, by assumption, of_decide_eq_true q, rfl⟩
    · cases e
  · cases e
theorem mulL_some {a b r : AV} {σ : Store} (e : mulL a b σ = some r) : ∃ xs j, content σ a = some xs ∧ intOf b = some j ∧ (-(2 ^ 63) ≤ j ∧ j < 2 ^ 63 ∧ xs.length * j.toNat ≤ 2 ^ 20) ∧ r = .d (.lst (List.replicate j.toNat xs).flatten) := by
  unfold mulL at e
  split at e
  · split at e
    · rename_i q
      simp only [Bool.and_eq_true, decide_eq_true_eq] at q
      cases e; exact ⟨_, _, by assumption, by assumption, ⟨q.1.1, q.1.2, q.2⟩, rfl⟩
    · cases e
  · cases e
theorem small_of {i : Int} (h : smallB i = true) : -(2 ^ 64) < i ∧ i < 2 ^ 64 := by
  unfold smallB at h; simpa using h
theorem abs_of {i : Int} (h : smallB i = true) : i.natAbs < 2 ^ 64 := by
  have := small_of h; omega
theorem replicate_flat {α : Type} (xs : Array α) (n : Nat) : (List.foldl (fun x1 x2 => x1 ++ x2) #[] (List.replicate (if xs.isEmpty = true then 0 else n) xs)) = (List.replicate n xs.toList).flatten.toArray := by
  have h : ∀ (l : List (Array α)) (a : Array α), List.foldl (fun x1 x2 => x1 ++ x2) a l = (a.toList ++ (l.map Array.toList).flatten).toArray := by
    intro l
    induction l with
    | nil => intro a; simp
    | cons x r ih => intro a; rw [List.foldl_cons, ih]; simp
  rw [h]
  by_cases q : xs.isEmpty = true
  · have : xs = #[] := by simpa using q
    subst this
    simp
  · rw [if_neg q]; simp
theorem RepDs.flat {ρ : Rho} {h : Heap} {vs : List Value} {ds : List AD} (r : RepDs ρ h vs ds) : ∀ n : Nat, RepDs ρ h (List.replicate n vs).flatten (List.replicate n ds).flatten
  | 0 => .nil
  | n + 1 => by
    rw [List.replicate_succ, List.replicate_succ, List.flatten_cons, List.flatten_cons]
    exact r.append (r.flat n)
/-- a list, new, that is only data -/
theorem push_lst {C : Addr} {H0 : Heap} {ρ : Rho} {σ : Store} {h : Heap} {vs : List Value} {xs : List AD} (S : RepS C H0 ρ σ h) (r : RepDs ρ h vs xs) :
    RepS C H0 ρ σ (h.push (listOf vs.toArray 0)) ∧ Ext [] ρ h ρ (h.push (listOf vs.toArray 0)) ∧ RepV C ρ (h.push (listOf vs.toArray 0)) (.ref h.objs.size) (.d (.lst xs)) := by
  have X := (KeepAll.push h (listOf vs.toArray 0)).ext [] ρ
  refine ⟨S.keepAll (KeepAll.push _ _), X, .d (.lst (Heap.get?_push_size _ rfl) (not_in_new S) (r.ext X (.nil _)))⟩
theorem mul_raw {prog : Program} {w : World} {A : Around} {E : Value → Shared → Prop} {s : Shared} {l : Addr} {items : Array Value} {n : Nat} {x : Int} {u : Tok} {Q : Value → Shared → Prop}
    (hl : s.heap.get? l = some (listOf items n)) (hlo : -(2 ^ 63 : Int) ≤ x) (hhi : x < 2 ^ 63) (hsz : items.size * x.toNat ≤ 2 ^ 20)
    (h : Q (.ref s.heap.objs.size) { s with heap := s.heap.push (listOf (List.replicate x.toNat items.toList).flatten.toArray 0) }) : wpAny (model prog w) A (binaryOp .Mult (.ref l) (.int x u)) Q E s := by
  have m := AutoListH.list___mul___list_int_3 l items n x u (by simp [Builtin.List.listFitsIndex]; omega) (by omega) (by simp [Builtin.List.listTooLong, sizeLine]; omega)
  rw [replicate_flat] at m
  exact wpAny_binaryOp_repeat_ref (T := "list") (U := "int") (by decide) ⟨_, hl, rfl⟩ (fun s' => typeIs_int s' x u) noFill_list_mul PySem.F.fills_int_mul PySem.F.slot_int_rmul repeat_list PySem.F.slot_int_index.lookup
    (call_meets PySem.F.slot_int_rmul (typeIs_int s x u) PySem.F.entry_int_rmul (PySem.F.args_int_rmul_2 _ _) (int___rmul___int_list x u l items n)
      ⟨hl, rfl, ⟨_, hl, rfl⟩, call_meets PySem.F.slot_list_mul ⟨_, hl, rfl⟩ PySem.F.entry_list_mul (PySem.F.args_list_mul_2 _ _) m ⟨hl, h⟩⟩)
theorem lst_len {vs : List Value} {xs : List AD} {ρ : Rho} {h : Heap} (r : RepDs ρ h vs xs) : vs.toArray.size = xs.length := by rw [List.size_toArray]; exact r.length
theorem add_sound {A : Around} {s : Shared} {ρ : Rho} {σ : Store} {a b r : AV} {va vb : Value} {Q : Value → Shared → Prop} {E : Value → Shared → Prop}
    (S : RepS G.C G.H0 ρ σ s.heap) (ra : RepV G.C ρ s.heap va a) (rb : RepV G.C ρ s.heap vb b) (e : addL a b σ = some r)
    (hQ : ∀ v h' tk, RepS G.C G.H0 ρ σ h' → Ext [] ρ s.heap ρ h' → RepV G.C ρ h' v r → Q v { s with heap := h', toks := tk }) : wpAny (model G.prog G.w) A (binaryOp .Add va vb) Q E s := by
  obtain ⟨xs, ys, hx, hy, q, rfl⟩ := addL_some e
  obtain ⟨l, vs, n, rfl, hl, rs⟩ := content_at S ra hx
  obtain ⟨l2, vs2, n2, rfl, hl2, rs2⟩ := content_at S rb hy
  obtain ⟨S', X, R⟩ := push_lst S (rs.append rs2)
  refine PySem.P.add_list hl hl2 ?_ ?_
  · rw [show vs.toArray ++ vs2.toArray = (vs ++ vs2).toArray by simp]
    exact hQ _ _ _ S' X R
  · rw [lst_len rs, lst_len rs2, sizeLine_eq]
    omega
theorem binA_sound {A : Around} {s : Shared} {ρ : Rho} {σ : Store} {op : Operator} {a b r : AV} {va vb : Value} {Q : Value → Shared → Prop} {E : Value → Shared → Prop}
    (S : RepS G.C G.H0 ρ σ s.heap) (ra : RepV G.C ρ s.heap va a) (rb : RepV G.C ρ s.heap vb b) (e : binA op a b σ = some r)
    (hQ : ∀ v h' tk, RepS G.C G.H0 ρ σ h' → Ext [] ρ s.heap ρ h' → RepV G.C ρ h' v r → Q v { s with heap := h', toks := tk }) : wpAny (model G.prog G.w) A (binaryOp op va vb) Q E s := by
  have fin : ∀ (i : Int) t tk, r = .d (.int i) → Q (.int i t) { s with toks := tk } := fun i t tk q => by subst q; exact hQ _ _ _ S (.refl _ _ _) (.d (.int i t))
  cases op <;> try (cases e; done)
  case Add =>
    dsimp only [binA] at e
    cases hp : int2 a b with
    | some p =>
      rw [hp] at e
      obtain ⟨t, u, rfl, rfl⟩ := int2_some ra rb hp
      cases e
      exact PySem.P.add_int (fin _ _ _ rfl)
    | none =>
      rw [hp] at e
      exact add_sound S ra rb e hQ
  case Sub =>
    obtain ⟨p, hp, q, rfl⟩ := intA_some e
    obtain ⟨t, u, rfl, rfl⟩ := int2_some ra rb hp
    exact PySem.P.sub_int (fin _ _ _ rfl)
  case Mult =>
    dsimp only [binA] at e
    cases hp : int2 a b with
    | some p =>
      rw [hp] at e
      obtain ⟨t, u, rfl, rfl⟩ := int2_some ra rb hp
      dsimp only at e
      split at e
      · rename_i q
        cases e
        refine PySem.P.mul_int (fin _ _ _ rfl) ?_
        rcases Bool.or_eq_true_iff.mp q with q | q
        · exact .of_left (intBits_le_64 (small_of q).1 (small_of q).2)
        · exact .of_right (intBits_le_64 (small_of q).1 (small_of q).2)
      · cases e
    | none =>
      rw [hp] at e
      obtain ⟨xs, j, hx, hj, q, rfl⟩ := mulL_some e
      obtain ⟨u, rfl⟩ := intOf_some rb hj
      obtain ⟨l, vs, n, rfl, hl, rs⟩ := content_at S ra hx
      obtain ⟨S', X, R⟩ := push_lst S (rs.flat _)
      exact mul_raw hl q.1 q.2.1 (by rw [lst_len rs]; exact q.2.2) (hQ _ _ _ S' X R)
  case FloorDiv =>
    obtain ⟨p, hp, q, rfl⟩ := intA_some e
    obtain ⟨t, u, rfl, rfl⟩ := int2_some ra rb hp
    obtain ⟨q1, q2⟩ := Bool.and_eq_true_iff.mp q
    refine floordiv_int (by simpa using q2) (fin _ _ _ rfl) (.inl (PyProof.noPylong_of_log2 ?_))
    have := abs_of q1
    have q3 := bne_iff_ne.mp q2
    exact Nat.lt_trans ((Nat.log2_lt (by omega)).mpr this) (by decide)
  case Mod =>
    obtain ⟨p, hp, q, rfl⟩ := intA_some e
    obtain ⟨t, u, rfl, rfl⟩ := int2_some ra rb hp
    exact mod_int' (by simpa using q) (fin _ _ _ rfl)
  case Pow =>
    obtain ⟨p, hp, q, rfl⟩ := intA_some e
    obtain ⟨t, u, rfl, rfl⟩ := int2_some ra rb hp
    simp only [Bool.and_eq_true, decide_eq_true_eq] at q
    exact pow_int_small q.1.2 (by omega) (abs_of q.1.1) (fin _ _ _ rfl)
noncomputable def cBin (op : Operator) (f g : Vals → M AV) : Vals → M AV := fun vals => (f vals).bind fun a => (g vals).bind fun b => M.opt (binA op a b)
theorem SE_bin {l r : Expr} {op : Operator} {pos : Pos} {f g : Vals → M AV} (hf : SE G k sc ns l f) (hg : SE G k sc ns r g) : SE G k sc ns (.BinOp l op r pos) (cBin op f g) := by
  intro A env s ρ σ vals o S F av σ' e Q E hQ
  obtain ⟨a, σ1, e1, e⟩ := M.bind_some e
  obtain ⟨b, σ2, e2, e⟩ := M.bind_some e
  obtain ⟨rfl, e3⟩ := M.opt_some e
  refine wpAny_BinOp (hf A env s ρ σ vals o S F _ _ e1 _ _ fun v1 ρ1 h1 t1 S1 X1 R1 => hg A env _ ρ1 σ1 vals o S1 (F.ext X1) _ _ e2 _ _ fun v2 ρ2 h2 t2 S2 X2 R2 => ?_)
  exact binA_sound (s := { s with heap := h2, toks := t2 }) S2 (R1.ext X2 (.nil _)) R2 e3 fun v h' tk S' X' R' => hQ v ρ2 h' tk S' ((X1.trans X2).trans X') R'
end
end Mine
end
section
open PySem PySem.W PySem.Calls PyProof.Rows
set_option Elab.async false
set_option maxRecDepth 100000
namespace Mine
section
variable {G : GC} {k : Nat} {sc : Scope} {ns : List Str}
/-! ### comparisons -/
noncomputable def isN : AV → Bool
  | .d .none => true
  | _ => false
noncomputable def eqL (a b : AV) (σ : Store) : Option Bool := match res σ a, res σ b with
  | some x, some y => if decide (x.dep ≤ 60) && decide (y.dep ≤ 60) then some (x.beq y) else none
  | _, _ => none
noncomputable def inL (a b : AV) (σ : Store) : Option Bool := match res σ a, content σ b with
  | some x, some ys => if decide (x.dep ≤ 60) then some (!ys.any fun y => y.beq x) else none
  | _, _ => none
noncomputable def cmpA (op : CmpOp) (a b : AV) (σ : Store) : Option Bool := match op with
  | .Lt => (int2 a b).map fun p => decide (p.1 < p.2)
  | .Gt => (int2 a b).map fun p => decide (p.2 < p.1)
  | .GtE => (int2 a b).map fun p => decide (p.2 ≤ p.1)
  | .Is => if isN b then some (isN a) else none
  | .Eq => eqL a b σ
  | .NotEq => (eqL a b σ).map not
  | .NotIn => inL a b σ
  | _ => none
theorem eqL_some {a b : AV} {σ : Store} {r : Bool} (e : eqL a b σ = some r) : ∃ x y, res σ a = some x ∧ res σ b = some y ∧ x.dep ≤ 60 ∧ y.dep ≤ 60 ∧ r = x.beq y := by
  unfold eqL at e
  split at e
  · split at e
    · rename_i q
      simp only [Bool.and_eq_true, decide_eq_true_eq] at q
      cases e; exact ⟨_, _, by assumption, by assumption, q.1, q.2, rfl⟩
    · cases e
  · cases e
theorem inL_some {a b : AV} {σ : Store} {r : Bool} (e : inL a b σ = some r) : ∃ x ys, res σ a = some x ∧ content σ b = some ys ∧ x.dep ≤ 60 ∧ r = !ys.any fun y => y.beq x := by
  unfold inL at e
  split at e
  · split at e
    · rename_i q
      cases e; exact ⟨_, _, by assumption, by assumption, of_decide_eq_true q, rfl⟩
    · cases e
  · cases e
theorem wf_any {x : AD} (hx : x.wf = true) : ∀ {ys : List AD}, AD.wfs ys = true → ((toPys ys).any fun y => PyData.eqv y (toPy x)) = ys.any fun y => y.beq x
  | [], _ => rfl
  | y :: ys, e => by
    rw [AD.wfs, Bool.and_eq_true] at e
    rw [toPys, List.any_cons, List.any_cons, wf_any hx e.2, AD.eqv_eq y x e.1 hx]
theorem cmpA_sound {A : Around} {s : Shared} {ρ : Rho} {σ : Store} {op : CmpOp} {a b : AV} {r : Bool} {va vb : Value} {Q : Value → Shared → Prop} {E : Value → Shared → Prop}
    (o : OkA k A) (S : RepS G.C G.H0 ρ σ s.heap) (ra : RepV G.C ρ s.heap va a) (rb : RepV G.C ρ s.heap vb b) (e : cmpA op a b σ = some r) (hQ : Q (.bool r) s) : wpAny (model G.prog G.w) A (compareOp op va vb) Q E s := by
  have hu : A.units + 64 < cLine := by
    have := o.units
    have : cLine = 9900 := rfl
    omega
  have sh : ∀ {x : AD}, x.wf = true → x.dep ≤ 60 → SeqAt.shaped (toPy x) = true := fun {x} w d => by
    unfold SeqAt.shaped
    rw [AD.lay w, AD.depth, Bool.true_and]
    exact decide_eq_true (by omega)
  cases op <;> try (cases e; done)
  case Eq =>
    obtain ⟨x, y, hx, hy, q1, q2, rfl⟩ := eqL_some e
    obtain ⟨⟨as, rx⟩, wx⟩ := res_at S ra hx
    obtain ⟨⟨bs, ry⟩, wy⟩ := res_at S rb hy
    exact eq_dataH rx ry (sh wx q1) (sh wy q2) hu (by rw [AD.eqv_eq x y wx wy]; exact hQ)
  case NotEq =>
    obtain ⟨r, e2, rfl⟩ := Option.map_eq_some_iff.mp e
    obtain ⟨x, y, hx, hy, q1, q2, rfl⟩ := eqL_some e2
    obtain ⟨⟨as, rx⟩, wx⟩ := res_at S ra hx
    obtain ⟨⟨bs, ry⟩, wy⟩ := res_at S rb hy
    exact ne_dataH rx ry (sh wx q1) (sh wy q2) hu (by rw [AD.eqv_eq x y wx wy]; exact hQ)
  case Lt =>
    obtain ⟨p, hp, rfl⟩ := Option.map_eq_some_iff.mp e
    obtain ⟨t, u, rfl, rfl⟩ := int2_some ra rb hp
    exact lt_int hQ
  case Gt =>
    obtain ⟨p, hp, rfl⟩ := Option.map_eq_some_iff.mp e
    obtain ⟨t, u, rfl, rfl⟩ := int2_some ra rb hp
    exact PyProof.Rows.gt_int hQ
  case GtE =>
    obtain ⟨p, hp, rfl⟩ := Option.map_eq_some_iff.mp e
    obtain ⟨t, u, rfl, rfl⟩ := int2_some ra rb hp
    exact PyProof.Rows.ge_int hQ
  case Is =>
    dsimp only [cmpA] at e
    split at e
    · rename_i q
      unfold isN at q
      split at q
      · cases rb; rename_i rb; cases rb
        cases e
        refine is_none_gen ?_
        cases ra with
        | d ra => cases ra <;> exact hQ
        | _ => exact hQ
      · cases q
    · cases e
  case NotIn =>
    obtain ⟨x, ys, hx, hy, q, rfl⟩ := inL_some e
    obtain ⟨⟨as, rx⟩, wx⟩ := res_at S ra hx
    obtain ⟨l, vs, n, rfl, hl, rs⟩ := content_at S rb hy
    obtain ⟨bs, ry⟩ := rs.reads
    refine SeqAt.notIn_list_reads (.list hl rfl rfl ry) rx (AD.lays rs.wfs) (AD.lay wx) ?_ (by rw [wf_any wx rs.wfs]; exact hQ)
    have := Nat.min_le_right (PyData.depthAll (toPys ys)) (toPy x).depth
    rw [AD.depth] at *
    omega
noncomputable def cCmpB (op : CmpOp) (f g : Vals → M AV) : Vals → M Bool := fun vals => (f vals).bind fun a => (g vals).bind fun b => M.opt (cmpA op a b)
noncomputable def cB (f : Vals → M Bool) : Vals → M AV := fun vals => (f vals).bind fun b => M.ret (.d (.bool b))
theorem cmp_go {l r : Expr} {op : CmpOp} {f g : Vals → M AV} (hf : SE G k sc ns l f) (hg : SE G k sc ns r g) {A : Around} {env : Env} {s : Shared} {ρ : Rho} {σ : Store} {vals : Vals} (o : OkA k A) (S : RepS G.C G.H0 ρ σ s.heap) (F : Frm G sc ns env ρ s.heap vals)
    {b : Bool} {σ' : Store} (e : cCmpB op f g vals σ = some (b, σ')) {Q : Value → Shared → Prop} {E : Value → Shared → Prop}
    (hQ : ∀ ρ' h' tk, RepS G.C G.H0 ρ' σ' h' → Ext [] ρ s.heap ρ' h' → Q (.bool b) { s with heap := h', toks := tk }) :
    wpAny (model G.prog G.w) A (eval l env) (fun a s₁ => wpAny (model G.prog G.w) A (eval r env) (fun b s₂ => wpAny (model G.prog G.w) A (compareOp op a b) Q E s₂) E s₁) E s := by
  obtain ⟨a, σ1, e1, e⟩ := M.bind_some e
  obtain ⟨c, σ2, e2, e⟩ := M.bind_some e
  obtain ⟨rfl, e3⟩ := M.opt_some e
  refine hf A env s ρ σ vals o S F _ _ e1 _ _ fun v1 ρ1 h1 t1 S1 X1 R1 => hg A env _ ρ1 σ1 vals o S1 (F.ext X1) _ _ e2 _ _ fun v2 ρ2 h2 t2 S2 X2 R2 => ?_
  exact cmpA_sound (s := { s with heap := h2, toks := t2 }) o S2 (R1.ext X2 (.nil _)) R2 e3 (hQ _ _ _ S2 (X1.trans X2))
theorem SE_cmp {l r : Expr} {op : CmpOp} {pos : Pos} {f g : Vals → M AV} (hf : SE G k sc ns l f) (hg : SE G k sc ns r g) (hm : behindInMarks op r = false) : SE G k sc ns (.Compare l [op] [r] pos) (cB (cCmpB op f g)) := by
  intro A env s ρ σ vals o S F av σ' e Q E hQ
  obtain ⟨b, σ1, e1, e⟩ := M.bind_some e
  obtain ⟨rfl, rfl⟩ := ret_some e
  exact wpAny_Compare1 (cmp_go hf hg o S F e1 fun ρ' h' tk S' X' => hQ _ _ _ _ S' X' (.d (.bool b))) hm
theorem ST_cmp {l r : Expr} {op : CmpOp} {pos : Pos} {f g : Vals → M AV} (hf : SE G k sc ns l f) (hg : SE G k sc ns r g) (hm : behindInMarks op r = false) : ST G k sc ns (.Compare l [op] [r] pos) (cCmpB op f g) := by
  intro A env s ρ σ vals o S F b σ' e Q E hQ
  exact wpAny_isTrue_Compare1 (cmp_go hf hg o S F e fun ρ' h' tk S' X' => wpAny_truthy_bool (hQ _ _ _ _ S' X' rfl)) hm
/-! ### truth -/
noncomputable def boolOf : AV → Option Bool
  | .d (.bool b) => some b
  | _ => none
noncomputable def cTr (f : Vals → M AV) : Vals → M Bool := fun vals => (f vals).bind fun a => M.opt fun _ => boolOf a
theorem boolOf_some {ρ : Rho} {h : Heap} {v : Value} {a : AV} {b : Bool} (r : RepV G.C ρ h v a) (e : boolOf a = some b) : v = .bool b := by
  unfold boolOf at e
  split at e
  · cases e; cases r; rename_i r; cases r; rfl
  · cases e
theorem ST_val {e : Expr} {f : Vals → M AV} (hf : SE G k sc ns e f) (he : ∀ env whole, isTrue e env whole = (do let v ← whole; standAt e.pos; holding [v] (truthy v))) : ST G k sc ns e (cTr f) := by
  intro A env s ρ σ vals o S F b σ' e Q E hQ
  obtain ⟨a, σ1, e1, e⟩ := M.bind_some e
  obtain ⟨rfl, e2⟩ := M.opt_some e
  refine wpAny_isTrue_value (hf A env s ρ σ vals o S F _ _ e1 _ _ fun v1 ρ1 h1 t1 S1 X1 R1 => ?_) (he _ _)
  rw [boolOf_some R1 e2]
  exact wpAny_truthy_bool (hQ _ _ _ _ S1 X1 rfl)
noncomputable def cNotB (f : Vals → M Bool) : Vals → M Bool := fun vals => (f vals).bind fun b => M.ret (!b)
theorem ST_not {x : Expr} {pos : Pos} {f : Vals → M Bool} (hf : ST G k sc ns x f) : ST G k sc ns (.UnaryOp .Not x pos) (cNotB f) := by
  intro A env s ρ σ vals o S F b σ' e Q E hQ
  obtain ⟨a, σ1, e1, e⟩ := M.bind_some e
  obtain ⟨rfl, rfl⟩ := ret_some e
  exact wpAny_isTrue_Not (hf A env s ρ σ vals o S F _ _ e1 _ _ fun v1 ρ1 h1 t1 S1 X1 R1 => hQ _ _ _ _ S1 X1 (by rw [show v1 = a from R1]; rfl))
theorem SE_not {x : Expr} {pos : Pos} {f : Vals → M AV} (hf : SE G k sc ns x f) : SE G k sc ns (.UnaryOp .Not x pos) (cB (cNotB (cTr f))) := by
  intro A env s ρ σ vals o S F b σ' e Q E hQ
  obtain ⟨a, σ1, e1, e⟩ := M.bind_some e
  obtain ⟨rfl, rfl⟩ := ret_some e
  obtain ⟨a', σ1, e1, e⟩ := M.bind_some e1
  obtain ⟨rfl, rfl⟩ := ret_some e
  obtain ⟨c, σ1, e1, e⟩ := M.bind_some e1
  obtain ⟨rfl, e2⟩ := M.opt_some e
  refine wpAny_UnaryOp (hf A env s ρ σ vals o S F _ _ e1 _ _ fun v1 ρ1 h1 t1 S1 X1 R1 => not_of ?_)
  rw [boolOf_some R1 e2]
  exact wpAny_truthy_bool (hQ _ _ _ _ S1 X1 (.d (.bool _)))
theorem SE_neg {x : Expr} {pos : Pos} {f : Vals → M AV} (hf : SE G k sc ns x f) : SE G k sc ns (.UnaryOp .USub x pos) (fun vals => (f vals).bind fun a => M.opt fun _ => match a with | .d (.int i) => some (.d (.int (-i))) | _ => none) := by
  intro A env s ρ σ vals o S F b σ' e Q E hQ
  obtain ⟨c, σ1, e1, e⟩ := M.bind_some e
  obtain ⟨rfl, e2⟩ := M.opt_some e
  refine wpAny_UnaryOp (hf A env s ρ σ vals o S F _ _ e1 _ _ fun v1 ρ1 h1 t1 S1 X1 R1 => ?_)
  split at e2
  · cases e2
    cases R1; rename_i R1; cases R1
    exact PySem.P.neg_int (hQ _ _ _ _ S1 X1 (.d (.int _ _)))
  · cases e2
/-! ### and, or -/
/-- a chain of tests -/
noncomputable def STs (G : GC) (k : Nat) (sc : Scope) (ns : List Str) (op : BoolOp) (es : List Expr) (f : Vals → M Bool) : Prop :=
  ∀ A env s ρ σ vals, OkA k A → RepS G.C G.H0 ρ σ s.heap → Frm G sc ns env ρ s.heap vals → Tr G A (allTrue op es env) s ρ RB (f vals σ)
theorem STs_nil {op : BoolOp} : STs G k sc ns op [] (fun _ => M.ret (op == .And)) := by
  intro A env s ρ σ vals o S F b σ' e Q E hQ
  obtain ⟨rfl, rfl⟩ := ret_some e
  exact wpAny_pure (hQ _ _ _ _ S (.refl _ _ _) rfl)
noncomputable def cAndB (f g : Vals → M Bool) : Vals → M Bool := fun vals => (f vals).bind fun b => if b then g vals else M.ret false
noncomputable def cOrB (f g : Vals → M Bool) : Vals → M Bool := fun vals => (f vals).bind fun b => if b then M.ret true else g vals
theorem STs_and {e : Expr} {es : List Expr} {f g : Vals → M Bool} (hf : ST G k sc ns e f) (hg : STs G k sc ns .And es g) : STs G k sc ns .And (e :: es) (cAndB f g) := by
  intro A env s ρ σ vals o S F b σ' e Q E hQ
  obtain ⟨a, σ1, e1, e⟩ := M.bind_some e
  refine wpAny_bind (hf A env s ρ σ vals o S F _ _ e1 _ _ fun v1 ρ1 h1 t1 S1 X1 R1 => ?_)
  cases (R1 : v1 = a)
  cases a with
  | false =>
    obtain ⟨rfl, rfl⟩ := ret_some e
    exact wpAny_pure (hQ _ _ _ _ S1 X1 rfl)
  | true => exact hg A env _ ρ1 σ1 vals o S1 (F.ext X1) _ _ e _ _ fun v2 ρ2 h2 t2 S2 X2 R2 => hQ _ _ _ _ S2 (X1.trans X2) R2
theorem STs_or {e : Expr} {es : List Expr} {f g : Vals → M Bool} (hf : ST G k sc ns e f) (hg : STs G k sc ns .Or es g) : STs G k sc ns .Or (e :: es) (cOrB f g) := by
  intro A env s ρ σ vals o S F b σ' e Q E hQ
  obtain ⟨a, σ1, e1, e⟩ := M.bind_some e
  refine wpAny_bind (hf A env s ρ σ vals o S F _ _ e1 _ _ fun v1 ρ1 h1 t1 S1 X1 R1 => ?_)
  cases (R1 : v1 = a)
  cases a with
  | true =>
    obtain ⟨rfl, rfl⟩ := ret_some e
    exact wpAny_pure (hQ _ _ _ _ S1 X1 rfl)
  | false => exact hg A env _ ρ1 σ1 vals o S1 (F.ext X1) _ _ e _ _ fun v2 ρ2 h2 t2 S2 X2 R2 => hQ _ _ _ _ S2 (X1.trans X2) R2
theorem ST_bool {op : BoolOp} {es : List Expr} {pos : Pos} {f : Vals → M Bool} (hf : STs G k sc ns op es f) : ST G k sc ns (.BoolOp op es pos) f := by
  intro A env s ρ σ vals o S F b σ' e Q E hQ
  exact wpAny_isTrue_BoolOp (hf A env s ρ σ vals o S F _ _ e _ _ hQ)
/-- a chain of values -/
noncomputable def SBs (G : GC) (k : Nat) (sc : Scope) (ns : List Str) (op : BoolOp) (es : List Expr) (f : Vals → M AV) : Prop :=
  ∀ A env s ρ σ vals pos, OkA k A → RepS G.C G.H0 ρ σ s.heap → Frm G sc ns env ρ s.heap vals → Tr G A (boolOp pos op (evalEach es env)) s ρ (RV G) (f vals σ)
theorem SBs_one {op : BoolOp} {e : Expr} {f : Vals → M AV} (hf : SE G k sc ns e f) : SBs G k sc ns op [e] f := fun A env s ρ σ vals _ o S F => hf A env s ρ σ vals o S F
noncomputable def cAnd (f g : Vals → M AV) : Vals → M AV := fun vals => (cTr f vals).bind fun b => if b then g vals else M.ret (.d (.bool false))
noncomputable def cOr (f g : Vals → M AV) : Vals → M AV := fun vals => (cTr f vals).bind fun b => if b then M.ret (.d (.bool true)) else g vals
theorem SBs_and {e e2 : Expr} {es : List Expr} {f g : Vals → M AV} (hf : SE G k sc ns e f) (hg : SBs G k sc ns .And (e2 :: es) g) : SBs G k sc ns .And (e :: e2 :: es) (cAnd f g) := by
  intro A env s ρ σ vals pos o S F b σ' e Q E hQ
  obtain ⟨c, σ1, e1, e⟩ := M.bind_some e
  obtain ⟨a, σ1, e1, e'⟩ := M.bind_some e1
  obtain ⟨rfl, e2⟩ := M.opt_some e'
  refine wpAny_bind (hf A env s ρ σ vals o S F _ _ e1 _ _ fun v1 ρ1 h1 t1 S1 X1 R1 => ?_)
  cases boolOf_some R1 e2
  refine wpAny_bind (wpAny_standAt (wpAny_bind (wpAny_holding (wpAny_truthy_bool ?_))))
  cases c with
  | false =>
    obtain ⟨rfl, rfl⟩ := ret_some e
    exact wpAny_pure (hQ _ _ _ _ S1 X1 (.d (.bool _)))
  | true => exact hg A env _ ρ1 _ vals pos o S1 (F.ext X1) _ _ e _ _ fun v2 ρ2 h2 t2 S2 X2 R2 => hQ _ _ _ _ S2 (X1.trans X2) R2
theorem SE_boolop {op : BoolOp} {es : List Expr} {pos : Pos} {f : Vals → M AV} (hf : SBs G k sc ns op es f) : SE G k sc ns (.BoolOp op es pos) f := fun A env s ρ σ vals o S F => hf A env s ρ σ vals pos o S F
noncomputable def cIte (t : Vals → M Bool) (f g : Vals → M AV) : Vals → M AV := fun vals => (t vals).bind fun b => if b then f vals else g vals
theorem SE_ifexp {t a b : Expr} {pos : Pos} {ft : Vals → M Bool} {f g : Vals → M AV} (ht : ST G k sc ns t ft) (hf : SE G k sc ns a f) (hg : SE G k sc ns b g) : SE G k sc ns (.IfExp t a b pos) (cIte ft f g) := by
  intro A env s ρ σ vals o S F b σ' e Q E hQ
  obtain ⟨a, σ1, e1, e⟩ := M.bind_some e
  refine wpAny_IfExp (ht A env s ρ σ vals o S F _ _ e1 _ _ fun v1 ρ1 h1 t1 S1 X1 R1 => ?_)
  cases (R1 : v1 = a)
  cases a with
  | true => exact hf A env _ ρ1 σ1 vals o S1 (F.ext X1) _ _ e _ _ fun v2 ρ2 h2 t2 S2 X2 R2 => hQ _ _ _ _ S2 (X1.trans X2) R2
  | false => exact hg A env _ ρ1 σ1 vals o S1 (F.ext X1) _ _ e _ _ fun v2 ρ2 h2 t2 S2 X2 R2 => hQ _ _ _ _ S2 (X1.trans X2) R2
end
end Mine
end
section
open PySem PySem.W PySem.Calls PyProof.Rows
set_option Elab.async false
set_option maxRecDepth 100000
namespace Mine
section
variable {G : GC} {k : Nat} {sc : Scope} {ns : List Str}
/-! ### several values -/
noncomputable def cNil : Vals → M (List AV) := fun _ => M.ret []
noncomputable def cCons (f : Vals → M AV) (g : Vals → M (List AV)) : Vals → M (List AV) := fun vals => (f vals).bind fun a => (g vals).bind fun l => M.ret (a :: l)
theorem SEs_nil : SEs G k sc ns [] cNil := by
  intro A env s ρ σ vals pos o S F b σ' e Q E hQ
  obtain ⟨rfl, rfl⟩ := ret_some e
  exact Calls.spliced_nil (hQ _ _ _ _ S (.refl _ _ _) .nil)
theorem SEs_cons {e : Expr} {es : List Expr} {f : Vals → M AV} {g : Vals → M (List AV)} (hf : SE G k sc ns e f) (hg : SEs G k sc ns es g) (he : ∀ env, starEach (e :: es) env = (false, eval e env) :: starEach es env) : SEs G k sc ns (e :: es) (cCons f g) := by
  intro A env s ρ σ vals pos o S F b σ' e Q E hQ
  obtain ⟨a, σ1, e1, e⟩ := M.bind_some e
  obtain ⟨l, σ2, e2, e⟩ := M.bind_some e
  obtain ⟨rfl, rfl⟩ := ret_some e
  rw [he]
  refine Calls.spliced_cons (hf A env s ρ σ vals o S F _ _ e1 _ _ fun v1 ρ1 h1 t1 S1 X1 R1 => hg A env _ ρ1 σ1 vals pos o S1 (F.ext X1) _ _ e2 _ _ fun v2 ρ2 h2 t2 S2 X2 R2 => ?_)
  exact hQ _ _ _ _ S2 (X1.trans X2) (.cons (RepV.ext X2 (.nil _) R1) R2)
noncomputable def allD : List AV → Option (List AD)
  | [] => some []
  | .d x :: r => (allD r).map (x :: ·)
  | _ :: _ => none
theorem allD_reps {ρ : Rho} {h : Heap} {vs : List Value} {avs : List AV} {ds : List AD} (r : RepVs G.C ρ h vs avs) (e : allD avs = some ds) : RepDs ρ h vs ds := by
  induction avs generalizing vs ds with
  | nil => cases r; cases e; exact .nil
  | cons a avs ih =>
    cases r with
    | cons a r =>
      cases a <;> try (cases e; done)
      obtain ⟨ds, q, rfl⟩ := Option.map_eq_some_iff.mp e
      exact .cons (by assumption) (ih r q)
noncomputable def room (n : Nat) : Bool := decide (n ≤ 1000)
theorem room_of {n : Nat} (h : room n = true) : n ≤ sizeLine := by rw [sizeLine_eq]; have := of_decide_eq_true h; omega
noncomputable def mkTup (avs : List AV) : AV := match allD avs with
  | some ds => .d (.tup ds)
  | none => .tup avs
noncomputable def mkLst (avs : List AV) : AV := match allD avs with
  | some ds => .d (.lst ds)
  | none => .lst avs
noncomputable def cTup (g : Vals → M (List AV)) : Vals → M AV := fun vals => (g vals).bind fun l => M.opt fun _ => if room l.length then some (mkTup l) else none
noncomputable def cLst (g : Vals → M (List AV)) : Vals → M AV := fun vals => (g vals).bind fun l => M.opt fun _ => if room l.length then some (mkLst l) else none
/-- a list that will be stored into: a new loc -/
noncomputable def mAlloc (l : List AV) : M AV := fun σ => match allD l with
  | some ds => if room ds.length then some (.loc σ.length, σ ++ [.list ds]) else none
  | none => none
noncomputable def cLstM (g : Vals → M (List AV)) : Vals → M AV := fun vals => (g vals).bind mAlloc
theorem push_any {H0 : Heap} {ρ : Rho} {σ : Store} {h : Heap} {C : Addr} (S : RepS C H0 ρ σ h) (o : Obj) : RepS C H0 ρ σ (h.push o) ∧ Ext [] ρ h ρ (h.push o) :=
  ⟨S.keepAll (KeepAll.push _ _), (KeepAll.push h o).ext [] ρ⟩
theorem SE_tup {es : List Expr} {n : Nat} {pos : Pos} {g : Vals → M (List AV)} (hg : SEs G k sc ns es g) : SE G k sc ns (.Tuple es n pos) (cTup g) := by
  intro A env s ρ σ vals o S F b σ' e Q E hQ
  obtain ⟨l, σ1, e1, e⟩ := M.bind_some e
  obtain ⟨rfl, e⟩ := M.opt_some e
  split at e
  · rename_i q
    cases e
    refine Tuple_ (hg A env s ρ σ vals pos o S F _ _ e1 _ _ fun vs ρ1 h1 t1 S1 X1 R1 => wpAny_newTuple ?_ (by rw [RepVs.length R1]; exact room_of q))
    obtain ⟨S2, X2⟩ := push_any S1 (tupOf vs.toArray 0)
    refine hQ _ _ _ _ S2 (X1.trans X2) ?_
    show RepV _ _ _ _ (mkTup l)
    unfold mkTup
    split
    · rename_i ds hd
      exact .d (.tup (Heap.get?_push_size _ rfl) (not_in_new S1) ((allD_reps R1 hd).ext X2 (.nil _)))
    · exact .tup (Heap.get?_push_size _ rfl) (not_in_new S1) (RepVs.ext X2 (.nil _) R1)
  · cases e
theorem SE_lst {es : List Expr} {pos : Pos} {g : Vals → M (List AV)} (hg : SEs G k sc ns es g) : SE G k sc ns (.List es pos) (cLst g) := by
  intro A env s ρ σ vals o S F b σ' e Q E hQ
  obtain ⟨l, σ1, e1, e⟩ := M.bind_some e
  obtain ⟨rfl, e⟩ := M.opt_some e
  split at e
  · rename_i q
    cases e
    refine List_ (hg A env s ρ σ vals pos o S F _ _ e1 _ _ fun vs ρ1 h1 t1 S1 X1 R1 => wpAny_newList ?_ (by rw [RepVs.length R1]; exact room_of q))
    obtain ⟨S2, X2⟩ := push_any S1 (listOf vs.toArray 0)
    refine hQ _ _ _ _ S2 (X1.trans X2) ?_
    show RepV _ _ _ _ (mkLst l)
    unfold mkLst
    split
    · rename_i ds hd
      exact .d (.lst (Heap.get?_push_size _ rfl) (not_in_new S1) ((allD_reps R1 hd).ext X2 (.nil _)))
    · exact .lst (Heap.get?_push_size _ rfl) (not_in_new S1) (RepVs.ext X2 (.nil _) R1)
  · cases e
theorem alloc_at {H0 : Heap} {ρ : Rho} {σ : Store} {h : Heap} {C : Addr} {vs : List Value} {ds : List AD} (S : RepS C H0 ρ σ h) (r : RepDs ρ h vs ds) :
    RepS C H0 (ρ.add h.objs.size) (σ ++ [.list ds]) (h.push (listOf vs.toArray 0)) ∧ Ext [] ρ h (ρ.add h.objs.size) (h.push (listOf vs.toArray 0)) ∧ (ρ.add h.objs.size).locs[σ.length]? = some h.objs.size :=
  alloc_keep S (KeepAll.push _ _) (new_none h) fun X => .list (Heap.get?_push_size _ rfl) (r.ext X (.nil _))
theorem SE_lstM {es : List Expr} {pos : Pos} {g : Vals → M (List AV)} (hg : SEs G k sc ns es g) : SE G k sc ns (.List es pos) (cLstM g) := by
  intro A env s ρ σ vals o S F b σ' e Q E hQ
  obtain ⟨l, σ1, e1, e⟩ := M.bind_some e
  unfold mAlloc at e
  split at e
  · rename_i ds hd
    split at e
    · rename_i q
      cases e
      refine List_ (hg A env s ρ σ vals pos o S F _ _ e1 _ _ fun vs ρ1 h1 t1 S1 X1 R1 => ?_)
      have rs := allD_reps R1 hd
      refine wpAny_newList ?_ (by rw [rs.length]; exact room_of q)
      obtain ⟨S2, X2, e2⟩ := alloc_at S1 rs
      exact hQ _ _ _ _ S2 (X1.trans X2) (.loc e2)
    · cases e
  · cases e
/-! ### an item -/
noncomputable def itemAt (σ : Store) (a : AV) (i : Nat) : Option AV := match a with
  | .d (.tup xs) => (xs[i]?).map .d
  | .tup xs => xs[i]?
  | .lst xs => xs[i]?
  | a => match content σ a with
    | some xs => (xs[i]?).map .d
    | none => none
noncomputable def idxA (a b : AV) (σ : Store) : Option AV := match b with
  | .d (.int i) => if decide (0 ≤ i) && decide (i < 2 ^ 63) then itemAt σ a i.toNat else none
  | _ => none
inductive ItemIs (C : Addr) (ρ : Rho) (h : Heap) (v : Value) (i : Nat) (x : AV) : Prop
  | tup {a : Addr} {vs : List Value} {n : Nat} {u : Value} : v = .ref a → h.get? a = some (tupOf vs.toArray n) → vs[i]? = some u → RepV C ρ h u x → ItemIs C ρ h v i x
  | lst {a : Addr} {vs : List Value} {n : Nat} {u : Value} : v = .ref a → h.get? a = some (listOf vs.toArray n) → vs[i]? = some u → RepV C ρ h u x → ItemIs C ρ h v i x
theorem itemAt_at {H0 : Heap} {ρ : Rho} {σ : Store} {h : Heap} {v : Value} {a x : AV} {i : Nat} (S : RepS G.C H0 ρ σ h) (r : RepV G.C ρ h v a) (e : itemAt σ a i = some x) : ItemIs G.C ρ h v i x := by
  have lst : ∀ {xs : List AD}, content σ a = some xs → (xs[i]?).map .d = some x → ItemIs G.C ρ h v i x := fun {xs} hc hx => by
    obtain ⟨l, vs, n, rfl, hl, rs⟩ := content_at S r hc
    obtain ⟨d, hd, rfl⟩ := Option.map_eq_some_iff.mp hx
    obtain ⟨u, hu, ru⟩ := rs.get hd
    exact .lst rfl hl hu (.d ru)
  unfold itemAt at e
  split at e
  · obtain ⟨d, hd, rfl⟩ := Option.map_eq_some_iff.mp e
    cases r; rename_i r
    cases r; rename_i p _ q
    obtain ⟨u, hu, ru⟩ := q.get hd
    exact .tup rfl p hu (.d ru)
  · cases r; rename_i p _ q
    obtain ⟨u, hu, ru⟩ := RepVs.get q e
    exact .tup rfl p hu ru
  · cases r; rename_i p _ q
    obtain ⟨u, hu, ru⟩ := RepVs.get q e
    exact .lst rfl p hu ru
  · split at e
    · rename_i xs hx
      exact lst hx e
    · cases e
noncomputable def cIdx (f g : Vals → M AV) : Vals → M AV := fun vals => (f vals).bind fun a => (g vals).bind fun b => M.opt (idxA a b)
theorem SE_idx {value slice : Expr} {pos : Pos} {f g : Vals → M AV} (hf : SE G k sc ns value f) (hg : SE G k sc ns slice g) (hs : ∀ o i, subscripted slice false o i = operate [o, i] (getItem o i)) : SE G k sc ns (.Subscript value slice pos) (cIdx f g) := by
  intro A env s ρ σ vals o S F b σ' e Q E hQ
  obtain ⟨a, σ1, e1, e⟩ := M.bind_some e
  obtain ⟨c, σ2, e2, e⟩ := M.bind_some e
  obtain ⟨rfl, e3⟩ := M.opt_some e
  refine Subscript_ (hf A env s ρ σ vals o S F _ _ e1 _ _ fun v1 ρ1 h1 t1 S1 X1 R1 => hg A env _ ρ1 σ1 vals o S1 (F.ext X1) _ _ e2 _ _ fun v2 ρ2 h2 t2 S2 X2 R2 => ?_)
  unfold idxA at e3
  split at e3
  · rename_i i
    split at e3
    · rename_i q
      simp only [Bool.and_eq_true, decide_eq_true_eq] at q
      cases R2; rename_i R2; cases R2
      have sq := itemAt_at S2 (RepV.ext X2 (.nil _) R1) e3
      cases sq with
      | tup ev hl hu ru =>
        subst ev
        rename_i l vs n u
        have hlen : i.toNat < vs.length := (List.getElem?_eq_some_iff.mp hu).1
        exact item_tupleT (s := { s with heap := h2, toks := t2 }) (j := i.toNat) ⟨_, hl, rfl, _, rfl⟩ (by omega) q.2 (by
          unfold seqIndex?
          have : i + (vs.toArray.size : Int) = i + (vs.length : Int) := by simp
          simp
          omega) (by simpa using hu) (hQ _ _ _ _ S2 (X1.trans X2) ru) (hs _ _)
      | lst ev hl hu ru =>
        subst ev
        rename_i l vs n u
        have hL : h2.IsList l vs.toArray := ⟨_, hl, rfl, _, rfl⟩
        exact tail_any (s := { s with heap := h2, toks := t2 }) (Heap.IsList.typeIs (s := { s with heap := h2, toks := t2 }) hL) slot_list_getitem.lookup (wpAny_getItem_list (s := { s with heap := h2, toks := t2 }) hL q.1 q.2 (by simpa using hu) (hQ _ _ _ _ S2 (X1.trans X2) ru)) (hs _ _)
    · cases e3
  · cases e3
end
end Mine
end
section
open PySem PySem.W PySem.Calls PyProof.Rows
set_option Elab.async false
set_option maxRecDepth 100000
namespace Mine
section
variable {G : GC} {k : Nat} {sc : Scope} {ns : List Str}
/-! ### slices -/
noncomputable def toA (a b : AV) (σ : Store) : Option AV := match content σ a, b with
  | some xs, .d (.int i) => if decide (0 ≤ i) && decide (xs.length ≤ 2 ^ 20) then some (.d (.lst (xs.take i.toNat))) else none
  | _, _ => none
noncomputable def fromA (a b : AV) (σ : Store) : Option AV := match content σ a, b with
  | some xs, .d (.int i) => if decide (0 ≤ i) && decide (xs.length ≤ 2 ^ 20) then some (.d (.lst (xs.drop i.toNat))) else none
  | _, _ => none
theorem push_two {H0 : Heap} {ρ : Rho} {σ : Store} {h : Heap} {C : Addr} {vs : List Value} {xs : List AD} (S : RepS C H0 ρ σ h) (o : Obj) (r : RepDs ρ h vs xs) :
    RepS C H0 ρ σ ((h.push o).push (listOf vs.toArray 0)) ∧ Ext [] ρ h ρ ((h.push o).push (listOf vs.toArray 0)) ∧ RepV C ρ ((h.push o).push (listOf vs.toArray 0)) (.ref (h.objs.size + 1)) (.d (.lst xs)) := by
  obtain ⟨S1, X1⟩ := push_any S o
  obtain ⟨S2, X2, R⟩ := push_lst S1 (r.ext X1 (.nil _))
  rw [Heap.size_push] at R
  exact ⟨S2, X1.trans X2, R⟩
noncomputable def cTo (f g : Vals → M AV) : Vals → M AV := fun vals => (f vals).bind fun a => (g vals).bind fun b => M.opt (toA a b)
noncomputable def cFrom (f g : Vals → M AV) : Vals → M AV := fun vals => (f vals).bind fun a => (g vals).bind fun b => M.opt (fromA a b)
theorem SE_to {value u : Expr} {p pos : Pos} {f g : Vals → M AV} (hf : SE G k sc ns value f) (hg : SE G k sc ns u g) (ht : ∀ o r, letTemporaryGo value o r = pure ()) : SE G k sc ns (.Subscript value (.Slice none (some u) none p) pos) (cTo f g) := by
  intro A env s ρ σ vals o S F b σ' e Q E hQ
  obtain ⟨a, σ1, e1, e⟩ := M.bind_some e
  obtain ⟨c, σ2, e2, e⟩ := M.bind_some e
  obtain ⟨rfl, e3⟩ := M.opt_some e
  refine wpAny_Subscript_list_slice (hf A env s ρ σ vals o S F _ _ e1 _ _ fun v1 ρ1 h1 t1 S1 X1 R1 => wpAny_pure (hg A env _ ρ1 σ1 vals o S1 (F.ext X1) _ _ e2 _ _ fun v2 ρ2 h2 t2 S2 X2 R2 => ?_)) ht
  unfold toA at e3
  split at e3
  · rename_i xs i hx
    split at e3
    · rename_i q
      cases e3
      simp only [Bool.and_eq_true, decide_eq_true_eq] at q
      obtain ⟨l, vs, n, rfl, hl, rs⟩ := content_at S2 (RepV.ext X2 (.nil _) R1) hx
      cases R2; rename_i R2; cases R2
      refine ⟨l, vs.toArray, none, some i, rfl, ⟨_, hl, rfl, _, rfl⟩, by rw [lst_len rs, sizeLine_eq]; omega, .none, .int _ _, ?_⟩
      obtain ⟨S3, X3, R3⟩ := push_two S2 { cls := .type "slice", data := .fields #[.none, .int i _, .none] } (rs.take i.toNat)
      have ei : slicePick vs.toArray none (some i) none = (vs.take i.toNat).toArray := by
        have h := slicePick_upto' vs.toArray i.toNat
        rwa [show ((i.toNat : Nat) : Int) = i by omega] at h
      rw [ei]
      exact hQ _ _ _ _ S3 ((X1.trans X2).trans X3) R3
    · cases e3
  · cases e3
theorem SE_from {value u : Expr} {p pos : Pos} {f g : Vals → M AV} (hf : SE G k sc ns value f) (hg : SE G k sc ns u g) (ht : ∀ o r, letTemporaryGo value o r = pure ()) : SE G k sc ns (.Subscript value (.Slice (some u) none none p) pos) (cFrom f g) := by
  intro A env s ρ σ vals o S F b σ' e Q E hQ
  obtain ⟨a, σ1, e1, e⟩ := M.bind_some e
  obtain ⟨c, σ2, e2, e⟩ := M.bind_some e
  obtain ⟨rfl, e3⟩ := M.opt_some e
  refine wpAny_Subscript_list_slice (hf A env s ρ σ vals o S F _ _ e1 _ _ fun v1 ρ1 h1 t1 S1 X1 R1 => hg A env _ ρ1 σ1 vals o S1 (F.ext X1) _ _ e2 _ _ fun v2 ρ2 h2 t2 S2 X2 R2 => wpAny_pure ?_) ht
  unfold fromA at e3
  split at e3
  · rename_i xs i hx
    split at e3
    · rename_i q
      cases e3
      simp only [Bool.and_eq_true, decide_eq_true_eq] at q
      obtain ⟨l, vs, n, rfl, hl, rs⟩ := content_at S2 (RepV.ext X2 (.nil _) R1) hx
      cases R2; rename_i R2; cases R2
      refine ⟨l, vs.toArray, some i, none, rfl, ⟨_, hl, rfl, _, rfl⟩, by rw [lst_len rs, sizeLine_eq]; omega, .int _ _, .none, ?_⟩
      obtain ⟨S3, X3, R3⟩ := push_two S2 { cls := .type "slice", data := .fields #[.int i _, .none, .none] } (rs.drop i.toNat)
      have ei : slicePick vs.toArray (some i) none none = (vs.drop i.toNat).toArray := by
        have h := slicePick_from' vs.toArray i.toNat
        rwa [show ((i.toNat : Nat) : Int) = i by omega] at h
      rw [ei]
      exact hQ _ _ _ _ S3 ((X1.trans X2).trans X3) R3
    · cases e3
  · cases e3
/-! ### an object's attribute -/
theorem isStr_of_ne {x y : Str} {t : Tok} (h : x ≠ y) : (Value.str x t).isStr y = false := by
  show (x == y) = false
  exact beq_eq_false_iff_ne.mpr h
theorem isStr_self {x : Str} {t : Tok} : (Value.str x t).isStr x = true := by
  show (x == x) = true
  exact beq_self_eq_true x
theorem RepF.get {C : Addr} {ρ : Rho} {h : Heap} {ns : List Str} {es : List DictEntry} {fs : List AV} (r : RepF C ρ h ns es fs) (nd : ns.Nodup) {i : Nat} {x : Str} {f : AV} (hx : ns[i]? = some x) (hf : fs[i]? = some f) :
    ∃ v, getL x es = some (some v) ∧ RepV C ρ h v f := by
  induction r generalizing i with
  | nil => cases hf
  | @cons y ns t hs v es g fs a r ih =>
    cases i with
    | zero =>
      cases hx; cases hf
      exact ⟨v, by unfold getL; rw [List.find?_cons, isStr_self], a⟩
    | succ i =>
      obtain ⟨u, e, ru⟩ := ih (List.nodup_cons.mp nd).2 hx hf
      refine ⟨u, ?_, ru⟩
      have hne : y ≠ x := fun q => (List.nodup_cons.mp nd).1 (q ▸ List.mem_of_getElem? hx)
      unfold getL at e ⊢
      rw [List.find?_cons, isStr_of_ne hne]
      split at e
      · rename_i en he; rw [he]; exact e
      · split at e <;> cases e
theorem RepF.miss {C : Addr} {ρ : Rho} {h : Heap} {ns : List Str} {es : List DictEntry} {fs : List AV} (r : RepF C ρ h ns es fs) {x : Str} (hx : x ∉ ns) : getL x es = some none := by
  have h1 : es.find? (·.key.isStr x) = none := by
    induction r with
    | nil => rfl
    | @cons y ns t hs v es g fs a r ih =>
      rw [List.find?_cons, isStr_of_ne fun q => hx (List.mem_cons.mpr (.inl q.symm))]
      exact ih fun m => hx (.tail _ m)
  have h2 : es.any (·.refKey) = false := by
    clear h1
    induction r with
    | nil => rfl
    | @cons y ns t hs v es g fs a r ih =>
      rw [List.any_cons, ih fun m => hx (.tail _ m)]; rfl
  unfold getL
  rw [h1]
  simp only [h2]
  rfl
theorem fld_nodup : fldTab.Nodup := by decide +kernel
noncomputable def getA (i : Nat) (a : AV) (σ : Store) : Option AV := match a with
  | .obj l => match σ[l]? with
    | some (.dict fs) => fs[i]?
    | _ => none
  | _ => none
structure ObjAt (G : GC) (ρ : Rho) (h : Heap) (a : Addr) (l : Nat) (es : List DictEntry) (n : Nat) (fs : List AV) (dx : Addr) : Prop where
  at_ : h.get? a = some (instObj G.C dx)
  na : a ∉ ρ.all
  dl : ρ.locs[l]? = some dx
  dict : h.get? dx = some (dictOf es n)
  rep : RepF G.C ρ h fldTab es fs
theorem ObjAt.inst {ρ : Rho} {h : Heap} {a dx : Addr} {l : Nat} {es : List DictEntry} {n : Nat} {fs : List AV} (x : ObjAt G ρ h a l es n fs dx) : InstAt h a (instObj G.C dx) G.C (some (dictOf es n)) := ⟨x.at_, rfl, rfl, x.dict⟩
theorem obj_at {ρ : Rho} {σ : Store} {h : Heap} {v : Value} {l : Nat} {fs : List AV} (S : RepS G.C G.H0 ρ σ h) (r : RepV G.C ρ h v (.obj l)) (e : σ[l]? = some (.dict fs)) :
    ∃ a dx es n, v = .ref a ∧ ObjAt G ρ h a l es n fs dx := by
  cases r
  rename_i a dx p na q
  obtain ⟨o, eo, ro⟩ := S.addr q
  rw [e] at eo; cases eo
  cases ro with
  | dict d f => exact ⟨a, dx, _, _, rfl, p, na, q, d, f⟩
theorem handed_rep {ρ : Rho} {h : Heap} {v : Value} {a : AV} (r : RepV G.C ρ h v a) : handedIn v = true := by
  cases r with
  | d r => cases r <;> rfl
  | _ => rfl
theorem getA_sound {A : Around} {s : Shared} {ρ : Rho} {σ : Store} {a r : AV} {va : Value} {i : Nat} {name : Str} {expr : Bool} {Q : Value → Shared → Prop} {E : Value → Shared → Prop}
    (S : RepS G.C G.H0 ρ σ s.heap) (ra : RepV G.C ρ s.heap va a) (hi : fldTab[i]? = some name) (e : getA i a σ = some r)
    (hQ : ∀ v tk, RepV G.C ρ s.heap v r → Q v { s with toks := tk }) : wpAny (model G.prog G.w) A (getAttr va name expr) Q E s := by
  unfold getA at e
  split at e
  · split at e
    · rename_i l fs hl
      obtain ⟨x, dx, es, n, rfl, O⟩ := obj_at S ra hl
      obtain ⟨v, hv, rv⟩ := O.rep.get fld_nodup hi e
      have X := G.X.keeps S.stays
      exact get_value X O.inst (plainGet_of (name := name) G.plain).1 (findObj_own G.hasDict (G.fld name (List.mem_of_getElem? hi)) rfl hv) (handed_rep rv) (hQ v _ rv)
    · cases e
  · cases e
noncomputable def cAttr (f : Vals → M AV) (i : Nat) : Vals → M AV := fun vals => (f vals).bind fun a => M.opt (getA i a)
theorem SE_attr {value : Expr} {attr : Str} {pos : Pos} {f : Vals → M AV} {i : Nat} (hf : SE G k sc ns value f) (hi : fldTab[i]? = some attr)
    (he : ∀ env, eval (.Attribute value attr pos) env = (do
      let o ← eval value env
      standAt pos.atName
      let r ← holding [o] (getAttr o attr true)
      letTemporaryGo value o r
      pure r)) : SE G k sc ns (.Attribute value attr pos) (cAttr f i) := by
  intro A env s ρ σ vals o S F b σ' e Q E hQ
  obtain ⟨a, σ1, e1, e⟩ := M.bind_some e
  obtain ⟨rfl, e3⟩ := M.opt_some e
  refine Attribute_any_ (hf A env s ρ σ vals o S F _ _ e1 _ _ fun v1 ρ1 h1 t1 S1 X1 R1 => ?_) (he env)
  exact getA_sound (s := { s with heap := h1, toks := t1 }) S1 R1 hi e3 fun v tk r => hQ _ _ _ _ S1 X1 r
/-! ### calls -/
/-- what a call of the value does -/
noncomputable def SF (G : GC) (k : Nat) (fv : Value) (f : List AV → M AV) : Prop :=
  ∀ A s ρ σ vs avs, OkA k A → RepS G.C G.H0 ρ σ s.heap → RepVs G.C ρ s.heap vs avs → Tr G A (call fv vs) s ρ (RV G) (f avs σ)
noncomputable def keepsAny (K : Frag) (fv : Value) : Bool := match fv with
  | .ref a => keepIn K (.ref a)
  | _ => true
theorem args_go {es : List Expr} {env : Env} {pos : Pos} {f : Value} {A : Around} {s : Shared} {Q : Args → Shared → Prop} {E : Value → Shared → Prop} (hst : (backTo pos (starEach es env)).any (·.1) = false)
    (h : wpAny (model G.prog G.w) A (spliced (backTo pos (starEach es env))) (fun vs s' => Q ⟨vs, []⟩ s') E s) : wpAny (model G.prog G.w) A (evalArgs f true (backTo pos (starEach es env)) []) Q E s := by
  cases q : backTo pos (starEach es env) with
  | nil =>
    rw [q] at h
    intro Γ p hΓ
    exact evalArgs_nil3 (show Q ⟨[], []⟩ s from h Γ p hΓ) Γ p hΓ
  | cons x r =>
    obtain ⟨b, t⟩ := x
    rw [q] at h hst
    rw [List.any_cons, Bool.or_eq_false_iff] at hst
    have hb : b = false := hst.1
    subst hb
    exact evalArgs_plain h
theorem callWith_any {fv : Value} {first : List Value} {es : List Expr} {env : Env} {pos : Pos} {A : Around} {s : Shared} {Q : Value → Shared → Prop} {E : Value → Shared → Prop}
    (hk : keepsAny G.K fv = true) (hst : (backTo pos (starEach es env)).any (·.1) = false)
    (h : wpAny (model G.prog G.w) A (spliced (backTo pos (starEach es env))) (fun vs s' => G.K.In s'.heap ∧ wpAny (model G.prog G.w) A (call fv (first ++ vs)) Q E s') E s) :
    wpAny (model G.prog G.w) A (callWith pos fv first (backTo pos (starEach es env)) []) Q E s := by
  refine callWith_of (P := G.K.In) (by rw [hst]; rfl) (fun h' X' => ?_) (args_go hst h)
  unfold keepsAny at hk
  split at hk
  · exact keeps_K hk h' X'
  · rename_i hn
    refine ⟨.machine, .inr (.inl rfl), .of_pure ?_⟩
    cases fv <;> first | rfl | exact absurd rfl (hn _)
/-- the name stands for the value, at the top or among the built-ins -/
noncomputable def NameIs (G : GC) (x : Str) (fv : Value) : Prop := nsIn G.K mainGlobals x = some (some fv) ∨ (nsIn G.K mainGlobals x = some none ∧ bootBuiltins x = some fv ∧ x ≠ "__name__")
theorem name_go {x : Str} {fv : Value} {pos : Pos} {A : Around} {env : Env} {s : Shared} {ρ : Rho} {σ : Store} {vals : Vals} {Q : Value → Shared → Prop} {E : Value → Shared → Prop}
    (hn : NameIs G x fv) (hx : sc.names.lookup x = some .globalImplicit) (hd : (x == ("__debug__" : Str)) = false) (S : RepS G.C G.H0 ρ σ s.heap) (F : Frm G sc ns env ρ s.heap vals) (h : Q fv s) :
    wpAny (model G.prog G.w) A (eval (.Name x pos) env) Q E s := by
  have hk : env.scope.kind = .function := F.esc ▸ F.kind
  have hx' : env.kindOf x = some .globalImplicit := by unfold Env.kindOf; rw [F.esc]; exact hx
  rcases hn with hK | ⟨hK, hb, hne⟩
  · exact Name_function_global hk hx' (loadGlobal_global (F.glob ▸ G.T.g.keeps S.stays) (mg_of G.X G.T.g hK) h) hd
  · exact Name_function_global hk hx' (loadGlobal_builtin (F.glob ▸ G.T.g.keeps S.stays) (mg_none_of G.X G.T.g hK) (F.blt ▸ G.T.b.keeps S.stays) ((G.T.builtins x hne).trans hb) h) hd
noncomputable def cCall (f : List AV → M AV) (g : Vals → M (List AV)) : Vals → M AV := fun vals => (g vals).bind f
theorem SE_call {j : Nat} {x : Str} {fv : Value} {p pos : Pos} {es : List Expr} {f : List AV → M AV} {g : Vals → M (List AV)} (hf : SF G j fv f) (hj : j ≤ k) (hg : SEs G k sc ns es g)
    (hn : NameIs G x fv) (hk : keepsAny G.K fv = true) (hx : sc.names.lookup x = some .globalImplicit) (hd : (x == ("__debug__" : Str)) = false)
    (hst : ∀ env, (backTo pos (starEach es env)).any (·.1) = false) : SE G k sc ns (.Call (.Name x p) es [] pos) (cCall f g) := by
  intro A env s ρ σ vals o S F b σ' e Q E hQ
  obtain ⟨l, σ1, e1, e⟩ := M.bind_some e
  show wpAny _ _ (eval (.Name x p) env >>= fun fv => callWith pos fv [] (backTo pos (starEach es env)) []) _ _ _
  refine wpAny_bind (name_go hn hx hd S F (callWith_any hk (hst env) ?_))
  refine hg A env s ρ σ vals pos o S F _ _ e1 _ _ fun vs ρ1 h1 t1 S1 X1 R1 => ⟨G.X.keeps S1.stays, ?_⟩
  exact hf A { s with heap := h1, toks := t1 } ρ1 σ1 vs l (o.mono hj) S1 R1 _ _ e _ _ fun v ρ2 h2 t2 S2 X2 R2 => hQ _ _ _ _ S2 (X1.trans X2) R2
/-! ### methods of the text's class -/
noncomputable def isObj (a : AV) : M Unit := M.opt fun σ => match a with
  | .obj n => match σ[n]? with
    | some (.dict _) => some ()
    | _ => none
  | _ => none
theorem isObj_some {a : AV} {σ σ' : Store} {u : Unit} (e : isObj a σ = some (u, σ')) : σ' = σ ∧ ∃ n fs, a = .obj n ∧ σ[n]? = some (.dict fs) := by
  obtain ⟨rfl, e⟩ := M.opt_some e
  refine ⟨rfl, ?_⟩
  split at e
  · split at e
    · exact ⟨_, _, rfl, by assumption⟩
    · cases e
  · cases e
noncomputable def cMeth (o : Vals → M AV) (f : List AV → M AV) (g : Vals → M (List AV)) : Vals → M AV := fun vals => (o vals).bind fun a => (isObj a).bind fun _ => (g vals).bind fun l => f (a :: l)
/-- at first only the object is seen; its class says the method -/
theorem meth_go {x : Str} {f : Addr} {A : Around} {s : Shared} {ρ : Rho} {σ : Store} {v : Value} {l : Nat} {pl : Sem Bool} {Q : Value × List Value → Shared → Prop} {E : Value → Shared → Prop}
    (S : RepS G.C G.H0 ρ σ s.heap) (r : RepV G.C ρ s.heap v (.obj l)) (hd : ∃ fs, σ[l]? = some (.dict fs)) (hf : findIn G.K (.ref G.C) x = some (some (.ref f))) (ht : isFn G.K (.ref f) = true) (hx : x ∉ fldTab) (h : Q (.ref f, [v]) s) :
    wpAny (model G.prog G.w) A (getMethod v x pl) Q E s := by
  obtain ⟨fs, e⟩ := hd
  obtain ⟨a, dx, es, n, rfl, O⟩ := obj_at S r e
  have g := plainGet_of (name := x) G.plain
  exact method_fn (G.X.keeps S.stays) O.inst g.1 g.2 hf (beq_iff_eq.mp ht) (by show (lookIn x (dictOf es n)).map _ = _; rw [lookIn_dict, O.rep.miss hx]; rfl) h
theorem SE_meth {j : Nat} {x : Str} {fa : Addr} {ob : Expr} {apos pos : Pos} {es : List Expr} {fo : Vals → M AV} {f : List AV → M AV} {g : Vals → M (List AV)} (hf : SF G j (.ref fa) f) (hj : j ≤ k) (ho : SE G k sc ns ob fo) (hg : SEs G k sc ns es g)
    (hm : findIn G.K (.ref G.C) x = some (some (.ref fa))) (ht : isFn G.K (.ref fa) = true) (hx : x ∉ fldTab) (hk : keepIn G.K (.ref fa) = true)
    (hst : ∀ env, (backTo pos (starEach es env)).any (·.1) = false)
    (he : ∀ env, ∃ pl, eval (.Call (.Attribute ob x apos) es [] pos) env = (do
      let ov ← eval ob env
      standAt apos.atName
      let (f, first) ← holding [ov] (getMethod ov x pl)
      callWith pos f first (backTo pos (starEach es env)) [])) : SE G k sc ns (.Call (.Attribute ob x apos) es [] pos) (cMeth fo f g) := by
  intro A env s ρ σ vals o S F b σ' e Q E hQ
  obtain ⟨a, σ1, e1, e⟩ := M.bind_some e
  obtain ⟨u, σ1', e2, e4⟩ := M.bind_some e
  obtain ⟨rfl, n, fs, rfl, hn⟩ := isObj_some e2
  obtain ⟨l, σ2, e3, e5⟩ := M.bind_some e4
  obtain ⟨pl, he⟩ := he env
  refine MethodCall_ (ho A env s ρ σ vals o S F _ _ e1 _ _ fun v ρ1 h1 t1 S1 X1 R1 => ?_) he
  refine meth_go (s := { s with heap := h1, toks := t1 }) S1 R1 ⟨_, hn⟩ hm ht hx (callWith_any hk (hst env) ?_)
  refine hg A env { s with heap := h1, toks := t1 } ρ1 _ vals pos o S1 (F.ext X1) _ _ e3 _ _ fun vs ρ2 h2 t2 S2 X2 R2 => ⟨G.X.keeps S2.stays, ?_⟩
  exact hf A { s with heap := h2, toks := t2 } ρ2 σ2 (v :: vs) (_ :: l) (o.mono hj) S2 (.cons (RepV.ext X2 (.nil _) R1) R2) _ _ e5 _ _ fun v3 ρ3 h3 t3 S3 X3 R3 => hQ _ _ _ _ S3 ((X1.trans X2).trans X3) R3
/-! ### methods of lists -/
noncomputable def isLoc (a : AV) : M Unit := M.opt fun σ => match a with
  | .loc n => match σ[n]? with
    | some (.list _) => some ()
    | _ => none
  | _ => none
theorem isLoc_some {a : AV} {σ σ' : Store} {u : Unit} (e : isLoc a σ = some (u, σ')) : σ' = σ ∧ ∃ n xs, a = .loc n ∧ σ[n]? = some (.list xs) := by
  obtain ⟨rfl, e⟩ := M.opt_some e
  refine ⟨rfl, ?_⟩
  split at e
  · split at e
    · exact ⟨_, _, rfl, by assumption⟩
    · cases e
  · cases e
/-- what a method of list's does with the list and one argument -/
noncomputable def SL (G : GC) (k : Nat) (id : String) (m : AV → AV → M AV) : Prop :=
  ∀ A s ρ σ v w a x, OkA k A → RepS G.C G.H0 ρ σ s.heap → RepV G.C ρ s.heap v a → RepV G.C ρ s.heap w x → Tr G A (call (.builtin id) [v, w]) s ρ (RV G) (m a x σ)
noncomputable def cLM (m : AV → AV → M AV) (fo g : Vals → M AV) : Vals → M AV := fun vals => (fo vals).bind fun a => (isLoc a).bind fun _ => (g vals).bind fun x => m a x
theorem SE_lmeth {x : Str} {id : String} {ob e : Expr} {apos pos : Pos} {fo g : Vals → M AV} {m : AV → AV → M AV} (hm : SL G k id m) (ho : SE G k sc ns ob fo) (hg : SE G k sc ns e g)
    (slot : Slot "list" x id) (hty : typeOf (.builtin id) = pure (.type "method_descriptor")) (hst : ∀ env, backTo pos (starEach [e] env) = [(false, eval e env)])
    (he : ∀ env, ∃ pl, eval (.Call (.Attribute ob x apos) [e] [] pos) env = (do
      let ov ← eval ob env
      standAt apos.atName
      let (f, first) ← holding [ov] (getMethod ov x pl)
      callWith pos f first (backTo pos (starEach [e] env)) [])) : SE G k sc ns (.Call (.Attribute ob x apos) [e] [] pos) (cLM m fo g) := by
  intro A env s ρ σ vals o S F b σ' e Q E hQ
  obtain ⟨a, σ1, e1, e⟩ := M.bind_some e
  obtain ⟨u, σ1', e2, e4⟩ := M.bind_some e
  obtain ⟨rfl, n, xs, rfl, hn⟩ := isLoc_some e2
  obtain ⟨y, σ2, e3, e5⟩ := M.bind_some e4
  obtain ⟨pl, he⟩ := he env
  refine MethodCall_ (ho A env s ρ σ vals o S F _ _ e1 _ _ fun v ρ1 h1 t1 S1 X1 R1 => ?_) he
  obtain ⟨D, vs, c, rfl, hl, rs⟩ := content_at S1 R1 (show content _ _ = some xs by simp [content, hn])
  refine getMethod_builtin (s := { s with heap := h1, toks := t1 }) ⟨_, hl, rfl⟩ PySem.F.plainAttrs_list slot hty (fun a e => by cases e; exact ⟨_, hl, rfl⟩) ?_
  refine callWith_any (G := G) rfl (by rw [hst]; rfl) ?_
  rw [hst]
  refine Calls.spliced_cons (hg A env { s with heap := h1, toks := t1 } ρ1 _ vals o S1 (F.ext X1) _ _ e3 _ _ fun v2 ρ2 h2 t2 S2 X2 R2 => Calls.spliced_nil ⟨G.X.keeps S2.stays, ?_⟩)
  exact hm A { s with heap := h2, toks := t2 } ρ2 σ2 _ v2 _ y o S2 (RepV.ext X2 (.nil _) R1) R2 _ _ e5 _ _ fun v3 ρ3 h3 t3 S3 X3 R3 => hQ _ _ _ _ S3 ((X1.trans X2).trans X3) R3
theorem loc_at {ρ : Rho} {σ : Store} {h : Heap} {v : Value} {n : Nat} {xs : List AD} (S : RepS G.C G.H0 ρ σ h) (r : RepV G.C ρ h v (.loc n)) (e : σ[n]? = some (.list xs)) :
    ∃ a vs c, v = .ref a ∧ ρ.locs[n]? = some a ∧ h.get? a = some (listOf vs.toArray c) ∧ RepDs ρ h vs xs := by
  cases r
  rename_i a q
  obtain ⟨o, eo, ro⟩ := S.addr q
  rw [e] at eo; cases eo
  cases ro with
  | list p r => exact ⟨a, _, _, rfl, q, p, r⟩
/-- the list is stored into -/
theorem put_list {ρ : Rho} {σ : Store} {h h' : Heap} {n : Nat} {a : Addr} {vs : List Value} {c : Nat} {ds : List AD} (S : RepS G.C G.H0 ρ σ h) (e : ρ.locs[n]? = some a) (hs : Heap.SameBut a h h') (hl : h'.get? a = some (listOf vs.toArray c)) (r : RepDs ρ h vs ds) :
    RepS G.C G.H0 ρ (σ.set n (.list ds)) h' ∧ Ext [] ρ h ρ h' := S.put e hs ⟨_, hl⟩ fun X => .list hl (r.ext X (.nil _))
noncomputable def mAppend (a x : AV) : M AV := fun σ => match a, x with
  | .loc n, .d d => match σ[n]? with
    | some (.list xs) => if room xs.length then some (.d .none, σ.set n (.list (xs ++ [d]))) else none
    | _ => none
  | _, _ => none
theorem SL_append : SL G k "list.append" mAppend := by
  intro A s ρ σ v w a x o S ra rx b σ' e Q E hQ
  unfold mAppend at e
  split at e
  · rename_i n d
    split at e
    · rename_i xs hn
      split at e
      · rename_i q
        cases e
        obtain ⟨D, vs, c, rfl, hp, hl, rs⟩ := loc_at S ra hn
        cases rx; rename_i rx
        refine append_at hl (fun h' hs hl' => ?_) (by rw [lst_len rs]; exact room_of q)
        have hl'' : h'.get? D = some (listOf (vs ++ [w]).toArray (c + 1)) := by rw [hl']; simp [W.listOf]
        obtain ⟨S', X'⟩ := put_list S hp hs hl'' (rs.append (.cons rx .nil))
        exact hQ .none ρ h' s.toks S' X' (.d .none)
      · cases e
    · cases e
  · cases e
noncomputable def mPop (a i : AV) : M AV := fun σ => match a, i with
  | .loc n, .d (.int i) => match σ[n]? with
    | some (.list xs) => if decide (0 ≤ i) && room xs.length then match xs[i.toNat]? with
      | some x => some (.d x, σ.set n (.list (xs.eraseIdx i.toNat)))
      | none => none else none
    | _ => none
  | _, _ => none
theorem SL_pop : SL G k "list.pop" mPop := by
  intro A s ρ σ v w a x o S ra rx b σ' e Q E hQ
  unfold mPop at e
  split at e
  · rename_i n i
    split at e
    · rename_i xs hn
      split at e
      · rename_i q
        split at e
        · rename_i x hx
          cases e
          obtain ⟨D, vs, c, rfl, hp, hl, rs⟩ := loc_at S ra hn
          cases rx; rename_i rx; cases rx; rename_i t
          simp only [Bool.and_eq_true, decide_eq_true_eq] at q
          obtain ⟨u, hu, ru⟩ := rs.get hx
          have hlt : i.toNat < xs.length := (List.getElem?_eq_some_iff.mp hx).1
          have hz := room_of q.2
          have hr := of_decide_eq_true q.2
          refine call_meets PySem.F.slot_list_pop ⟨_, hl, rfl⟩ PySem.F.entry_list_pop (PySem.F.args_list_pop_2 _ _)
            (MeetsSeq.list_pop_at D vs.toArray c i t i.toNat u (by simp [Builtin.List.listFitsIndex]; omega) (by
              have hv := rs.length
              unfold seqIndex?
              simp
              omega) (by simpa using hu) (by rw [lst_len rs]; exact hz)) ⟨hl, ?_⟩
          have hl' : (s.heap.update D (Obj.mapSeq fun xs => xs.eraseIdxIfInBounds i.toNat)).get? D = some (listOf (vs.eraseIdx i.toNat).toArray (c + 1)) := by
            rw [Heap.get?_update_self _ hl rfl]
            have h1 : vs.toArray.eraseIdxIfInBounds i.toNat = (vs.eraseIdx i.toNat).toArray := by
              apply Array.toList_inj.mp
              simp [Array.toList_eraseIdxIfInBounds]
            have h2 : ((vs.eraseIdx i.toNat).toArray.size == vs.toArray.size) = false := by
              rw [List.size_toArray, List.size_toArray, List.length_eraseIdx_of_lt (by rw [rs.length]; exact hlt)]
              have := rs.length
              rw [beq_eq_false_iff_ne]; omega
            show some (Obj.mapSeq _ (listOf vs.toArray c)) = _
            simp only [Obj.mapSeq, W.listOf, h1, h2]
            simp
          obtain ⟨S', X'⟩ := put_list S hp (Heap.SameBut.update ..) hl' (rs.eraseIdx i.toNat)
          exact hQ _ ρ _ s.toks S' X' (.d (ru.ext X' (.nil _)))
        · cases e
      · cases e
    · cases e
  · cases e
noncomputable def mExtend (a b : AV) : M AV := fun σ => match a with
  | .loc n => match σ[n]?, content σ b with
    | some (.list xs), some ys => if room (xs.length + ys.length) then some (.d .none, σ.set n (.list (xs ++ ys))) else none
    | _, _ => none
  | _ => none
end
end Mine
end
section
open PySem PySem.W PySem.Calls PyProof.Rows
set_option Elab.async false
set_option maxRecDepth 100000
namespace Mine
open PySem.MeetsSeq in
theorem remove_first (l : Addr) (items : Array Value) (n : Nat) (x y : Value) (hy : items[0]? = some y) (hs : items.size ≤ sizeLine) :
    Meets (Builtin.«list.remove» ⟨[.ref l, x], []⟩)
      (fun A R s => s.heap.get? l = some (listOf items n) ∧ (∀ prog w (A' : Around) (E : Value → Shared → Prop) (Q : Bool → Shared → Prop), A'.units ≤ A.units + 4 → Q true s → wpAny (model prog w) A' (eqBool y x) Q E s) ∧
        R (.ok (.ret .none)) { s with heap := s.heap.update l (Obj.mapSeq fun xs => xs.eraseIdxIfInBounds 0) }) := by
  intro prog w A R s h
  obtain ⟨hp, g, d, tk, os⟩ := s; obtain ⟨hl, he, h⟩ := h
  wp_walk using wpAny_loadPart' hl
  refine ⟨plainId_quiet plain_remove_loop _, codeAny_builtin entry_remove_loop ?_⟩
  rw [Around.under_plainId plain_remove_loop _]
  wp_walk using wpAny_loadPart' hl
  have hi : items[(0 : Int).toNat]? = some y := hy
  rw [hi]
  refine wpAny_bind (he prog w _ _ _ (by simp only [Around.in1]; omega) ?_)
  have hz' : (items.eraseIdxIfInBounds 0).size ≤ sizeLine + 1 := Nat.le_trans (size_erased items _) (Nat.le_succ_of_le hs)
  wp_walk using (wpAny_updateSeq hl rfl (hz := hs) (_hz' := hz')), wpAny_loadPart' hl
  simpa using h
section
variable {G : GC} {k : Nat}
noncomputable def mRemove (a x : AV) : M AV := fun σ => match a, x with
  | .loc n, .d d => match σ[n]? with
    | some (.list (y :: r)) => if room (r.length + 1) && decide (y.dep ≤ 60) && y.beq d then some (.d .none, σ.set n (.list r)) else none
    | _ => none
  | _, _ => none
theorem SL_remove : SL G k "list.remove" mRemove := by
  intro A s ρ σ v w a x o S ra rx b σ' e Q E hQ
  unfold mRemove at e
  split at e
  · rename_i n d
    split at e
    · rename_i y r hn
      split at e
      · rename_i q
        cases e
        simp only [Bool.and_eq_true, decide_eq_true_eq] at q
        obtain ⟨D, vs, c, rfl, hp, hl, rs⟩ := loc_at S ra hn
        cases rx; rename_i rx
        cases rs; rename_i y' vs ry rs
        have hr := of_decide_eq_true q.1.1
        have hlen := rs.length
        obtain ⟨as, Ry⟩ := ry.reads
        obtain ⟨bs, Rx⟩ := rx.reads
        refine call_meets PySem.F.slot_list_remove ⟨_, hl, rfl⟩ PySem.F.entry_list_remove (PySem.F.args_list_remove_2 _ _)
          (remove_first D (y' :: vs).toArray c w y' (by simp) (by rw [List.size_toArray, List.length_cons, sizeLine_eq]; omega)) ⟨hl, fun prog w' A' E' Q' hu hq => ?_, ?_⟩
        · have hu' := o.units
          have hc : cLine = 9900 := rfl
          refine PySem.SeqAt.eqBoolOverData prog w' A' E' s _ _ _ _ _ _ Q' Ry Rx (AD.lay ry.wf) (AD.lay rx.wf) ?_ (by rw [AD.eqv_eq _ _ ry.wf rx.wf, q.2]; exact hq)
          have := Nat.min_le_left (toPy y).depth (toPy d).depth
          rw [AD.depth] at this
          rw [AD.depth]
          omega
        · have hl' : (s.heap.update D (Obj.mapSeq fun xs => xs.eraseIdxIfInBounds 0)).get? D = some (listOf vs.toArray (c + 1)) := by
            rw [Heap.get?_update_self _ hl rfl]
            have h1 : (y' :: vs).toArray.eraseIdxIfInBounds 0 = vs.toArray := by
              apply Array.toList_inj.mp
              simp
            have h2 : (vs.toArray.size == (y' :: vs).toArray.size) = false := by
              rw [List.size_toArray, List.size_toArray, List.length_cons, beq_eq_false_iff_ne]; omega
            show some (Obj.mapSeq _ (listOf (y' :: vs).toArray c)) = _
            simp only [Obj.mapSeq, W.listOf, h1, h2]
            simp
          obtain ⟨S', X'⟩ := put_list S hp (Heap.SameBut.update ..) hl' rs
          exact hQ .none ρ _ s.toks S' X' (.d .none)
      · cases e
    · cases e
  · cases e
end
end Mine
end
section
open PySem PySem.W PySem.Calls PyProof.Rows
set_option Elab.async false
set_option maxRecDepth 100000
namespace Mine
section
variable {G : GC} {k : Nat}
/-! ### built-in functions -/
noncomputable def lenA (a : AV) (σ : Store) : Option Nat := match a with
  | .d (.tup xs) => some xs.length
  | a => (content σ a).map List.length
noncomputable def one (f : AV → M AV) : List AV → M AV
  | [a] => f a
  | _ => fun _ => none
noncomputable def two (f : AV → AV → M AV) : List AV → M AV
  | [a, b] => f a b
  | _ => fun _ => none
theorem SF_one {fv : Value} {f : AV → M AV} (h : ∀ A s ρ σ v a, OkA k A → RepS G.C G.H0 ρ σ s.heap → RepV G.C ρ s.heap v a → Tr G A (call fv [v]) s ρ (RV G) (f a σ)) : SF G k fv (one f) := by
  intro A s ρ σ vs avs o S R
  unfold one
  split
  · cases R with | cons r q => cases q; exact h A s ρ σ _ _ o S r
  · intro b σ' e; cases e
theorem SF_two {fv : Value} {f : AV → AV → M AV} (h : ∀ A s ρ σ v w a b, OkA k A → RepS G.C G.H0 ρ σ s.heap → RepV G.C ρ s.heap v a → RepV G.C ρ s.heap w b → Tr G A (call fv [v, w]) s ρ (RV G) (f a b σ)) : SF G k fv (two f) := by
  intro A s ρ σ vs avs o S R
  unfold two
  split
  · cases R with | cons r q => cases q with | cons r2 q => cases q; exact h A s ρ σ _ _ _ _ o S r r2
  · intro b σ' e; cases e
noncomputable def fLen (a : AV) : M AV := M.opt fun σ => match lenA a σ with
  | some n => if decide (n ≤ 2 ^ 20) then some (.d (.int n)) else none
  | none => none
theorem SF_len : SF G k (.builtin "len") (one fLen) := SF_one fun A s ρ σ v a o S r => by
  intro b σ' e Q E hQ
  obtain ⟨rfl, e2⟩ := M.opt_some e
  replace e := e2
  clear e2
  split at e
  · rename_i n hn
    split at e
    · rename_i q
      cases e
      have q := of_decide_eq_true q
      unfold lenA at hn
      split at hn
      · cases hn
        cases r; rename_i r; cases r; rename_i p _ rs
        have := rs.length
        refine PyProof.Rows.len_tuple ⟨_, p, rfl, _, rfl⟩ (by rw [List.size_toArray]; omega) (hQ _ _ _ _ S (.refl _ _ _) (.d ?_))
        rw [lst_len rs]
        exact .int _ _
      · obtain ⟨xs, hx, rfl⟩ := Option.map_eq_some_iff.mp hn
        obtain ⟨l, vs, c, rfl, hl, rs⟩ := content_at S r hx
        have := rs.length
        refine Calls.call_len_list ⟨_, hl, rfl, _, rfl⟩ (by rw [List.size_toArray]; omega) (hQ _ _ _ _ S (.refl _ _ _) (.d ?_))
        rw [lst_len rs]
        exact .int _ _
    · cases e
  · cases e
noncomputable def fInt (a : AV) : M AV := M.opt fun _ => match a with
  | .d (.int i) => some (.d (.int i))
  | .d (.bool b) => some (.d (.int (if b then 1 else 0)))
  | _ => none
theorem SF_int : SF G k (.type "int") (one fInt) := SF_one fun A s ρ σ v a o S r => by
  intro b σ' e Q E hQ
  obtain ⟨rfl, e2⟩ := M.opt_some e
  replace e := e2
  clear e2
  split at e
  · cases e
    cases r; rename_i r; cases r
    exact call_int_int (hQ _ _ _ _ S (.refl _ _ _) (.d (.int _ _)))
  · cases e
    cases r; rename_i r; cases r
    exact call_int_bool (hQ _ _ _ _ S (.refl _ _ _) (.d (.int _ _)))
  · cases e
noncomputable def fMax (a b : AV) : M AV := M.opt fun _ => match a, b with
  | .d (.int i), .d (.int j) => some (.d (.int (if j > i then j else i)))
  | _, _ => none
noncomputable def fMin (a b : AV) : M AV := M.opt fun _ => match a, b with
  | .d (.int i), .d (.int j) => some (.d (.int (if j < i then j else i)))
  | _, _ => none
theorem SF_max : SF G k (.builtin "max") (two fMax) := SF_two fun A s ρ σ v w a b o S r r2 => by
  intro c σ' e Q E hQ
  obtain ⟨rfl, e2⟩ := M.opt_some e
  replace e := e2
  clear e2
  split at e
  · cases e
    cases r; rename_i r; cases r
    cases r2; rename_i r2; cases r2
    refine max_two_ints o.handled fun h' tk hk => hQ _ _ _ _ (S.keepAll hk) (KeepAll.ext hk _ _) (.d ?_)
    split
    · exact .int _ _
    · exact .int _ _
  · cases e
noncomputable def fRange (a : AV) : M AV := M.opt fun _ => match a with
  | .d (.int i) => if decide (0 ≤ i) && decide (i ≤ 1000) then some (.rng i) else none
  | _ => none
theorem SF_range : SF G k (.type "range") (one fRange) := SF_one fun A s ρ σ v a o S r => by
  intro b σ' e Q E hQ
  obtain ⟨rfl, e2⟩ := M.opt_some e
  replace e := e2
  clear e2
  split at e
  · split at e
    · cases e
      cases r; rename_i r; cases r
      obtain ⟨S1, X1⟩ := push_any S (rngOf _ s.toks _ (s.toks + 1))
      exact call_range_1 (hQ _ _ _ _ S1 X1 (.rng (Heap.get?_push_size _ rfl) (not_in_new S)))
    · cases e
  · cases e
/-- list(x), as data -/
noncomputable def fList (a : AV) : M AV := M.opt fun σ => match content σ a with
  | some xs => if room xs.length then some (.d (.lst xs)) else none
  | none => none
/-- list(x), to be stored into -/
noncomputable def fListM (a : AV) : M AV := fun σ => match content σ a with
  | some xs => if room xs.length then some (.loc σ.length, σ ++ [.list xs]) else none
  | none => none
end
end Mine
end
section
open PySem PySem.W PySem.Calls PyProof.Rows
set_option Elab.async false
set_option maxRecDepth 100000
namespace Mine
/-! ### statements -/
inductive AF where
  | next | brk | ret (v : AV)
inductive RepFl (G : GC) (ρ : Rho) (h : Heap) : Flow → AF → Prop
  | next : RepFl G ρ h .next .next
  | brk : RepFl G ρ h .brk .brk
  | ret {v : Value} {a : AV} : RepV G.C ρ h v a → RepFl G ρ h (.ret v) (.ret a)
/-- the places that may turn: the frame's own names, and its cells -/
noncomputable abbrev frB (b : Bool) (env : Env) : List Addr := cond b (frX env) [env.locals]
theorem frB_sub {b : Bool} {env : Env} {a : Addr} (m : a ∈ frB b env) : a ∈ frX env := by
  cases b with
  | true => exact m
  | false => exact (List.mem_singleton.mp m) ▸ .head _
theorem frB_loc {b : Bool} {env : Env} : env.locals ∈ frB b env := by cases b <;> exact .head _
theorem XOk.sub {X Y : List Addr} {h : Heap} (x : XOk Y h) (s : ∀ a ∈ X, a ∈ Y) : XOk X h := fun a m => x a (s a m)
/-- a tree that runs in the frame and may store into it -/
noncomputable def TrX (G : GC) {α β : Type} (tb : Bool) (sc : Scope) (ns : List Str) (env : Env) (A : Around) (t : Sem α) (s : Shared) (ρ : Rho) (Rel : Rho → Heap → α → β → Prop) (r : Option ((β × Vals) × Store)) : Prop :=
  ∀ b vals' σ', r = some ((b, vals'), σ') → ∀ (Q : α → Shared → Prop) (E : Value → Shared → Prop),
    (∀ a ρ' h' tk, RepS G.C G.H0 ρ' σ' h' → Ext (frB tb env) ρ s.heap ρ' h' → Frm G sc ns env ρ' h' vals' → Rel ρ' h' a b → Q a { s with heap := h', toks := tk }) → wpAny (model G.prog G.w) A t Q E s
noncomputable abbrev XM := Vals → M (AF × Vals)
noncomputable def SX (G : GC) (k : Nat) (sc : Scope) (ns : List Str) (st : Stmt) (f : XM) : Prop :=
  ∀ A env s ρ σ vals, OkA k A → RepS G.C G.H0 ρ σ s.heap → Frm G sc ns env ρ s.heap vals → TrX G true sc ns env A (exec st env) s ρ (RepFl G) (f vals σ)
noncomputable def SXs (G : GC) (k : Nat) (sc : Scope) (ns : List Str) (st : List Stmt) (f : XM) : Prop :=
  ∀ A env s ρ σ vals, OkA k A → RepS G.C G.H0 ρ σ s.heap → Frm G sc ns env ρ s.heap vals → TrX G true sc ns env A (execs st env) s ρ (RepFl G) (f vals σ)
noncomputable def unitR (r : Option (Vals × Store)) : Option ((Unit × Vals) × Store) := r.map fun p => (((), p.1), p.2)
/-- a target -/
noncomputable def SA (G : GC) (tb : Bool) (k : Nat) (sc : Scope) (ns : List Str) (t : Expr) (g : AV → Vals → M Vals) : Prop :=
  ∀ A env s ρ σ vals v av, OkA k A → RepS G.C G.H0 ρ σ s.heap → Frm G sc ns env ρ s.heap vals → RepV G.C ρ s.heap v av →
    TrX G tb sc ns env A (assign t env v) s ρ (fun _ _ _ (_ : Unit) => True) (unitR (g av vals σ))
section
variable {G : GC} {k : Nat} {sc : Scope} {ns : List Str}
noncomputable def xRet (f : Vals → M AV) : XM := fun vals => (f vals).bind fun a => M.ret (.ret a, vals)
theorem SX_ret {e : Expr} {pos : Pos} {f : Vals → M AV} (hf : SE G k sc ns e f) : SX G k sc ns (.Return (some e) pos) (xRet f) := by
  intro A env s ρ σ vals o S F fl vals' σ' e Q E hQ
  obtain ⟨a, σ1, e1, e2⟩ := M.bind_some e
  obtain ⟨e3, rfl⟩ := ret_some e2
  cases e3
  exact wpAny_Return_some (hf A env s ρ σ vals o S F _ _ e1 _ _ fun v1 ρ1 h1 t1 S1 X1 R1 => hQ _ _ _ _ S1 X1.ofNil (F.ext X1) (.ret R1))
noncomputable def xBrk : XM := fun vals => M.ret (.brk, vals)
theorem SX_brk {pos : Pos} : SX G k sc ns (.Break pos) xBrk := by
  intro A env s ρ σ vals o S F fl vals' σ' e Q E hQ
  obtain ⟨e3, rfl⟩ := ret_some e
  cases e3
  exact wpAny_Break (hQ _ _ _ _ S (.refl _ _ _) F .brk)
noncomputable def xExpr (f : Vals → M AV) : XM := fun vals => (f vals).bind fun _ => M.ret (.next, vals)
theorem SX_expr {e : Expr} {pos : Pos} {f : Vals → M AV} (hf : SE G k sc ns e f) (hs : ∀ env : Env, env.scope = sc → swapsWith e none pos.line env = pure false) : SX G k sc ns (.Expr e pos) (xExpr f) := by
  intro A env s ρ σ vals o S F fl vals' σ' e Q E hQ
  obtain ⟨a, σ1, e1, e2⟩ := M.bind_some e
  obtain ⟨e3, rfl⟩ := ret_some e2
  cases e3
  refine wpAny_Expr_any (hf A env s ρ σ vals o S F _ _ e1 _ _ fun v1 ρ1 h1 t1 S1 X1 R1 => hQ _ _ _ _ S1 X1.ofNil (F.ext X1) .next) ?_ (hs env F.esc)
  unfold interactive
  rw [F.esc, F.kind]
  rfl
noncomputable def xIf (t : Vals → M Bool) (f g : XM) : XM := fun vals => (t vals).bind fun b => if b then f vals else g vals
theorem SX_if {t : Expr} {a b : List Stmt} {pos : Pos} {ft : Vals → M Bool} {f g : XM} (ht : ST G k sc ns t ft) (hf : SXs G k sc ns a f) (hg : SXs G k sc ns b g) : SX G k sc ns (.If t a b pos) (xIf ft f g) := by
  intro A env s ρ σ vals o S F fl vals' σ' e Q E hQ
  obtain ⟨c, σ1, e1, e2⟩ := M.bind_some e
  refine wpAny_If (ht A env s ρ σ vals o S F _ _ e1 _ _ fun v1 ρ1 h1 t1 S1 X1 R1 => ?_)
  cases (R1 : v1 = c)
  cases c with
  | true => exact hf A env _ ρ1 σ1 vals o S1 (F.ext X1) _ _ _ e2 _ _ fun v2 ρ2 h2 t2 S2 X2 F2 R2 => hQ _ _ _ _ S2 (X1.ofNil.trans X2) F2 R2
  | false => exact hg A env _ ρ1 σ1 vals o S1 (F.ext X1) _ _ _ e2 _ _ fun v2 ρ2 h2 t2 S2 X2 F2 R2 => hQ _ _ _ _ S2 (X1.ofNil.trans X2) F2 R2
noncomputable def xNil : XM := fun vals => M.ret (.next, vals)
noncomputable def xSeq (f g : XM) : XM := fun vals => (f vals).bind fun p => match p with
  | (.next, vals') => g vals'
  | (fl, vals') => M.ret (fl, vals')
theorem SXs_nil : SXs G k sc ns [] xNil := by
  intro A env s ρ σ vals o S F fl vals' σ' e Q E hQ
  obtain ⟨e3, rfl⟩ := ret_some e
  cases e3
  exact wpAny_execs_nil (hQ _ _ _ _ S (.refl _ _ _) F .next)
theorem SXs_cons {st : Stmt} {rest : List Stmt} {f g : XM} (hf : SX G k sc ns st f) (hg : SXs G k sc ns rest g) : SXs G k sc ns (st :: rest) (xSeq f g) := by
  intro A env s ρ σ vals o S F fl vals' σ' e Q E hQ
  obtain ⟨⟨a, vals1⟩, σ1, e1, e2⟩ := M.bind_some e
  refine wpAny_execs_cons (hf A env s ρ σ vals o S F _ _ _ e1 _ _ fun v1 ρ1 h1 t1 S1 X1 F1 R1 => ?_)
  cases R1 with
  | next => exact hg A env _ ρ1 σ1 vals1 o S1 F1 _ _ _ e2 _ _ fun v2 ρ2 h2 t2 S2 X2 F2 R2 => hQ _ _ _ _ S2 (X1.trans X2) F2 R2
  | brk =>
    obtain ⟨e3, rfl⟩ := ret_some e2
    cases e3
    exact hQ _ _ _ _ S1 X1 F1 .brk
  | ret r =>
    obtain ⟨e3, rfl⟩ := ret_some e2
    cases e3
    exact hQ _ _ _ _ S1 X1 F1 (.ret r)
/-! ### targets -/
theorem TrX_of {tb : Bool} {env : Env} {A : Around} {t : Sem Unit} {s : Shared} {ρ : Rho} {r : Option (Vals × Store)}
    (h : ∀ vals' σ', r = some (vals', σ') → ∀ (Q : Unit → Shared → Prop) (E : Value → Shared → Prop), (∀ ρ' h' tk, RepS G.C G.H0 ρ' σ' h' → Ext (frB tb env) ρ s.heap ρ' h' → Frm G sc ns env ρ' h' vals' → Q () { s with heap := h', toks := tk }) → wpAny (model G.prog G.w) A t Q E s) :
    TrX G tb sc ns env A t s ρ (fun _ _ _ (_ : Unit) => True) (unitR r) := by
  intro b vals' σ' e Q E hQ
  obtain ⟨⟨v1, s1⟩, e1, e2⟩ := Option.map_eq_some_iff.mp e
  cases e2
  exact h _ _ e1 Q E fun ρ' h' tk S X F => hQ () ρ' h' tk S X F trivial
theorem TrX_use {tb : Bool} {env : Env} {A : Around} {t : Sem Unit} {s : Shared} {ρ : Rho} {r : Option (Vals × Store)}
    (h : TrX G tb sc ns env A t s ρ (fun _ _ _ (_ : Unit) => True) (unitR r)) {vals' : Vals} {σ' : Store} (e : r = some (vals', σ')) {Q : Unit → Shared → Prop} {E : Value → Shared → Prop}
    (hQ : ∀ ρ' h' tk, RepS G.C G.H0 ρ' σ' h' → Ext (frB tb env) ρ s.heap ρ' h' → Frm G sc ns env ρ' h' vals' → Q () { s with heap := h', toks := tk }) : wpAny (model G.prog G.w) A t Q E s := by
  subst e
  exact h () _ _ rfl Q E fun _ ρ' h' tk S X F _ => hQ ρ' h' tk S X F
theorem Frm.notX {env : Env} {ρ : Rho} {h : Heap} {vals : Vals} (F : Frm G sc ns env ρ h vals) {a : Addr} (m : a ∈ ρ.locs) : a ∉ frX env := fun q => by
  rcases List.mem_cons.mp q with rfl | q
  · exact F.Lρ m
  · obtain ⟨⟨x, c⟩, hm, rfl⟩ := List.mem_map.mp q
    exact (F.cells x c hm).2.1 m
/-- a store that leaves all but some of the frame's own places -/
theorem own_ext {tb : Bool} {env : Env} {ρ : Rho} {σ : Store} {h h' : Heap} {vals : Vals} {a : Addr} (S : RepS G.C G.H0 ρ σ h) (F : Frm G sc ns env ρ h vals) (ma : a ∈ frB tb env) (hs : Heap.SameBut a h h') (hl : ∃ o, h'.get? a = some o) (hb : G.H0.get? a = none) :
    RepS G.C G.H0 ρ σ h' ∧ Ext (frB tb env) ρ h ρ h' := by
  have X : Ext (frB tb env) ρ h ρ h' := ⟨List.prefix_refl _, rfl, fun b o e n nX => (hs.2 b fun q => nX (q ▸ ma)).trans e, fun b o e => by
    by_cases q : b = a
    · subst q; exact hl
    · exact ⟨o, (hs.2 b q).trans e⟩, fun _ m n => absurd m n⟩
  refine ⟨⟨fun b o e => (hs.2 b fun q => ?_).trans (S.stays b o e), S.len, S.nodup, S.fresh, fun b m => let ⟨o, e⟩ := S.hidLive b m; X.live b o e, fun l o e => ?_⟩, X⟩
  · rw [q, hb] at e; cases e
  · obtain ⟨b, eb, r⟩ := S.objs l o e
    refine ⟨b, eb, r.ext X (F.xok.sub fun _ => frB_sub) fun o e => (hs.2 b fun q => ?_).trans e⟩
    exact F.notX (List.mem_of_getElem? eb) (q ▸ frB_sub ma)
noncomputable def aVar (i : Nat) (a : AV) (vals : Vals) : M Vals := M.ret (vals.set i (some a))
theorem names_ne {ns : List Str} (nd : ns.Nodup) {i j : Nat} {x y : Str} (hi : ns[i]? = some x) (hj : ns[j]? = some y) (h : i ≠ j) : x ≠ y := fun q => by
  subst q
  exact h ((List.getElem?_inj (List.getElem?_eq_some_iff.mp hi).1 nd).mp (hi.trans hj.symm))
theorem store_name {tb : Bool} {i : Nat} {x : Str} {A : Around} {env : Env} {s : Shared} {ρ : Rho} {σ : Store} {vals : Vals} {v : Value} {av : AV} {Q : Unit → Shared → Prop} {E : Value → Shared → Prop} (hi : ns[i]? = some x) (nd : ns.Nodup)
    (hx : sc.names.lookup x = some .local ∨ (sc.names.lookup x = some .cell ∧ tb = true))
    (S : RepS G.C G.H0 ρ σ s.heap) (F : Frm G sc ns env ρ s.heap vals) (R : RepV G.C ρ s.heap v av)
    (hQ : ∀ h' tk, RepS G.C G.H0 ρ σ h' → Ext (frB tb env) ρ s.heap ρ h' → Frm G sc ns env ρ h' (vals.set i (some av)) → Q () { s with heap := h', toks := tk }) :
    wpAny (model G.prog G.w) A (storeName env x v) Q E s := by
  obtain ⟨m, hns, hv⟩ := F.names
  have hk : env.scope.kind = .function := F.esc ▸ F.kind
  have hkind : env.kindOf x = sc.names.lookup x := by unfold Env.kindOf; rw [F.esc]
  have hilt : i < vals.length := by rw [F.len]; exact (List.getElem?_eq_some_iff.mp hi).1
  rcases hx with hx | ⟨hx, rfl⟩
  · rw [← hkind] at hx
    refine wpAny_storeName_local hx hns (fun h' hns' hs => ?_) (by rw [hk]; rfl)
    obtain ⟨S', X'⟩ := own_ext (tb := tb) S F frB_loc hs (let ⟨o, _, _, e, _⟩ := hns'; ⟨o, e⟩) F.L0
    have hcell : ∀ c ov, s.heap.IsCell c ov → h'.IsCell c ov := fun c ov ⟨o, e, d⟩ => ⟨o, (hs.2 c fun q => by
      obtain ⟨o', _, _, e', d', _⟩ := hns
      rw [q, e'] at e; cases e; rw [d] at d'; cases d').trans e, d⟩
    refine hQ h' _ S' X' ⟨F.esc, F.kind, F.glob, F.blt, by simp [F.len], ⟨_, hns', fun j y a e1 e2 => ?_⟩, fun y c hm => ?_, F.inj, F.has, F.Lρ, F.L0⟩
    · by_cases q : i = j
      · subst q
        rw [hi] at e1; cases e1
        rw [List.getElem?_set_self hilt] at e2
        cases e2
        exact ⟨v, .inl ⟨hx, by simp⟩, R.ext X' (F.xok.sub fun _ => frB_sub)⟩
      · rw [List.getElem?_set_ne q] at e2
        obtain ⟨u, hu, ru⟩ := hv j y a e1 e2
        refine ⟨u, hu.imp (fun ⟨k1, k2⟩ => ⟨k1, ?_⟩) fun ⟨k1, c, k2, k3⟩ => ⟨k1, c, k2, hcell c _ k3⟩, ru.ext X' (F.xok.sub fun _ => frB_sub)⟩
        show (if y = x then some v else m y) = some u
        rw [if_neg fun z => names_ne nd hi e1 q z.symm]; exact k2
    · obtain ⟨⟨ov, z⟩, n, b⟩ := F.cells y c hm
      exact ⟨⟨ov, hcell c ov z⟩, n, b⟩
  · obtain ⟨c, hc⟩ := F.has x hx
    rw [← hkind] at hx
    have hm := lookup_mem hc
    obtain ⟨⟨ov, z⟩, n, b⟩ := F.cells x c hm
    refine wpAny_storeName_cell hk hx hc z fun h' hc' hs => ?_
    obtain ⟨S', X'⟩ := own_ext (tb := true) S F (.tail _ (List.mem_map.mpr ⟨_, hm, rfl⟩)) hs (let ⟨o, e, _⟩ := hc'; ⟨o, e⟩) b
    have hcell : ∀ d ov, d ≠ c → s.heap.IsCell d ov → h'.IsCell d ov := fun d ov q ⟨o, e, dd⟩ => ⟨o, (hs.2 d q).trans e, dd⟩
    have hL : env.locals ≠ c := fun q => by
      obtain ⟨o', _, _, e', d', _⟩ := hns
      obtain ⟨o, e, d⟩ := z
      rw [← q, e'] at e; cases e; rw [d] at d'; cases d'
    refine hQ h' _ S' X' ⟨F.esc, F.kind, F.glob, F.blt, by simp [F.len], ⟨m, ?_, fun j y a e1 e2 => ?_⟩, fun y d hm' => ?_, F.inj, F.has, F.Lρ, F.L0⟩
    · obtain ⟨o, es, ep, e, r⟩ := hns
      exact ⟨o, es, ep, (hs.2 _ hL).trans e, r⟩
    · by_cases q : i = j
      · subst q
        rw [hi] at e1; cases e1
        rw [List.getElem?_set_self hilt] at e2
        cases e2
        exact ⟨v, .inr ⟨.inl hx, c, hc, hc'⟩, R.ext X' (F.xok.sub fun _ => frB_sub)⟩
      · rw [List.getElem?_set_ne q] at e2
        obtain ⟨u, hu, ru⟩ := hv j y a e1 e2
        refine ⟨u, hu.imp id fun ⟨k1, d, k2, k3⟩ => ⟨k1, d, k2, hcell d _ (fun z => ?_) k3⟩, ru.ext X' (F.xok.sub fun _ => frB_sub)⟩
        subst z
        exact names_ne nd hi e1 q (F.inj _ _ _ hc k2)
    · obtain ⟨⟨ov', z'⟩, n', b'⟩ := F.cells y d hm'
      by_cases q : d = c
      · subst q; exact ⟨⟨_, hc'⟩, n', b'⟩
      · exact ⟨⟨ov', hcell d ov' q z'⟩, n', b'⟩
end
end Mine
end
section
open PySem PySem.W PySem.Calls PyProof.Rows
set_option Elab.async false
set_option maxRecDepth 100000
namespace Mine
section
variable {G : GC} {k : Nat} {sc : Scope} {ns : List Str}
theorem SA_var {tb : Bool} {i : Nat} {x : Str} {pos : Pos} (hi : ns[i]? = some x) (nd : ns.Nodup) (hx : sc.names.lookup x = some .local ∨ (sc.names.lookup x = some .cell ∧ tb = true)) : SA G tb k sc ns (.Name x pos) (aVar i) := by
  intro A env s ρ σ vals v av o S F R
  refine TrX_of fun vals' σ' e Q E hQ => ?_
  cases e
  exact wpAny_assign_Name (store_name hi nd hx S F R fun h' tk S' X' F' => hQ _ _ _ S' X' F')
/-! an attribute -/
theorem RepF.len {C : Addr} {ρ : Rho} {h : Heap} {ns : List Str} {es : List DictEntry} {fs : List AV} (r : RepF C ρ h ns es fs) : es.length = fs.length ∧ fs.length ≤ ns.length := by
  induction r with
  | nil => exact ⟨rfl, Nat.zero_le _⟩
  | cons _ _ ih => exact ⟨by simp [ih.1], by simp [ih.2]⟩
theorem RepF.noRef {C : Addr} {ρ : Rho} {h : Heap} {ns : List Str} {es : List DictEntry} {fs : List AV} (r : RepF C ρ h ns es fs) (x : Str) : (getL x es).isSome = true := by
  have h2 : es.any (·.refKey) = false := by
    induction r with
    | nil => rfl
    | cons _ _ ih => rw [List.any_cons, ih]; rfl
  unfold getL
  split
  · rfl
  · rw [h2]; rfl
noncomputable def putF (i : Nat) (f : AV) (fs : List AV) : Option (List AV) := if i < fs.length then some (fs.set i f) else if i = fs.length then some (fs ++ [f]) else none
theorem RepF.put {C : Addr} {ρ : Rho} {h : Heap} {v : Value} {f : AV} (rv : RepV C ρ h v f) {hs : Int} {t : Tok} {ns : List Str} {es : List DictEntry} {fs gs : List AV} {i : Nat} {x : Str} (r : RepF C ρ h ns es fs) (nd : ns.Nodup) (hx : ns[i]? = some x) (e : putF i f fs = some gs) :
    RepF C ρ h ns (putL x hs (.str x t) v es) gs := by
  induction r generalizing i gs with
  | @nil ns =>
    cases ns with
    | nil => cases hx
    | cons y ns =>
      unfold putF at e
      split at e
      · rename_i q; exact absurd q (Nat.not_lt_zero _)
      · split at e
        · rename_i q; cases q
          cases e; cases hx
          exact .cons rv .nil
        · cases e
  | @cons y ns t' hs' v' es f' fs a r ih =>
    cases i with
    | zero =>
      cases hx
      unfold putF at e
      rw [if_pos (by simp)] at e
      cases e
      unfold putL
      rw [isStr_self]
      exact .cons rv r
    | succ i =>
      have hne : y ≠ x := fun q => (List.nodup_cons.mp nd).1 (q ▸ List.mem_of_getElem? hx)
      unfold putL
      rw [isStr_of_ne hne]
      have e' : ∃ gs', putF i f fs = some gs' ∧ gs = f' :: gs' := by
        unfold putF at e ⊢
        by_cases q : i < fs.length
        · rw [if_pos (by simp; omega)] at e
          rw [if_pos q]
          cases e; exact ⟨_, rfl, rfl⟩
        · rw [if_neg (by simp; omega)] at e
          rw [if_neg q]
          by_cases q2 : i = fs.length
          · rw [if_pos (by simp; omega)] at e
            rw [if_pos q2]
            cases e; exact ⟨_, rfl, rfl⟩
          · rw [if_neg (by simp; omega)] at e
            cases e
      obtain ⟨gs', e1, rfl⟩ := e'
      exact .cons a (ih (List.nodup_cons.mp nd).2 hx e1)
/-- all that stands, but for three places -/
noncomputable def allBut (h : Heap) (L dx : Addr) : List (Addr × Obj) := (List.range h.objs.size).filterMap fun a => if a = L ∨ a = dx then none else (h.get? a).map (a, ·)
theorem mem_allBut {h : Heap} {L dx : Addr} {p : Addr × Obj} : p ∈ allBut h L dx ↔ (p.1 ≠ L ∧ p.1 ≠ dx ∧ h.get? p.1 = some p.2) := by
  unfold allBut
  rw [List.mem_filterMap]
  constructor
  · rintro ⟨a, _, e⟩
    split at e
    · cases e
    · rename_i q
      obtain ⟨o, ho, rfl⟩ := Option.map_eq_some_iff.mp e
      simp only [not_or] at q
      exact ⟨q.1, q.2, ho⟩
  · rintro ⟨h1, h2, h4⟩
    refine ⟨p.1, List.mem_range.mpr (Heap.lt_size h4), ?_⟩
    rw [if_neg (by simp [h1, h2]), h4]
    rfl
noncomputable def mSetAttr (i : Nat) (a x : AV) : M Unit := fun σ => match a with
  | .obj l => match σ[l]? with
    | some (.dict fs) => match putF i x fs with
      | some gs => some ((), σ.set l (.dict gs))
      | none => none
    | _ => none
  | _ => none
theorem taker_none {x : Str} (h : findIn G.K (.ref G.C) x = some none) : takerIn G.K G.C x = some none := by
  unfold takerIn
  rw [h]; rfl
theorem set_attr {i : Nat} {name : Str} {A : Around} {env : Env} {s : Shared} {ρ : Rho} {σ σ' : Store} {vals : Vals} {va vx : Value} {a x : AV} {u : Unit} {Q : Unit → Shared → Prop} {E : Value → Shared → Prop}
    (S : RepS G.C G.H0 ρ σ s.heap) (F : Frm G sc ns env ρ s.heap vals) (ra : RepV G.C ρ s.heap va a) (rx : RepV G.C ρ s.heap vx x) (hi : fldTab[i]? = some name) (e : mSetAttr i a x σ = some (u, σ'))
    (hQ : ∀ h' tk, RepS G.C G.H0 ρ σ' h' → Ext (frX env) ρ s.heap ρ h' → Frm G sc ns env ρ h' vals → Q () { s with heap := h', toks := tk }) :
    wpAny (model G.prog G.w) A (setAttr va name vx) Q E s := by
  unfold mSetAttr at e
  split at e
  · rename_i l
    split at e
    · rename_i fs hl
      split at e
      · rename_i gs hg
        cases e
        obtain ⟨y, dx, es, n, rfl, O⟩ := obj_at S ra hl
        have X := G.X.keeps S.stays
        obtain ⟨m, hns, hv⟩ := F.names
        have FF : Fr {} env.locals s.heap m := ⟨hns, fun b o q => (by have := Heap.lt_size q; exact absurd this (Nat.not_lt_zero _)), Nat.zero_le _⟩
        have none0 : ∀ a, ({} : Heap).get? a = none := fun a => by
          cases q : ({} : Heap).get? a with
          | none => rfl
          | some o => exact absurd (Heap.lt_size q) (Nat.not_lt_zero _)
        have hdxL : dx ≠ env.locals := fun q => F.Lρ (q ▸ List.mem_of_getElem? O.dl)
        have hdx0 : G.H0.get? dx = none := S.fresh dx (Rho.at_all O.dl)
        have N : News {} env.locals s.heap (allBut s.heap env.locals dx ++ (dx, dictOf es n) :: []) := by
          intro p hp
          rcases List.mem_append.mp hp with hp | hp
          · obtain ⟨h1, h2, h4⟩ := mem_allBut.mp hp
            exact ⟨h4, h1, none0 _⟩
          · rw [List.mem_singleton.mp hp]
            exact ⟨O.dict, hdxL, none0 _⟩
        have hlen := O.rep.len
        have hput := RepF.put rx (hs := PyData.keyHash G.w.params name) (t := s.toks + 1) O.rep fld_nodup hi hg
        have hlen' := hput.len
        have hf5 : fldTab.length = 5 := rfl
        refine set_plain X O.inst G.setattr (osa_dict (s := { s with toks := s.toks + 1 }) (od := dictOf es n) (od' := dictOf (putL name (PyData.keyHash G.w.params name) (.str name (s.toks + 1)) vx es) (putN name es n))
          FF N X O.inst rfl G.over (taker_none (G.fld name (List.mem_of_getElem? hi))) G.hasDict (by rw [lookIn_dict]; exact O.rep.noRef name) (fun p hp => (mem_allBut.mp hp).2.1) (fun _ h => nomatch h) (putName_dict ..) rfl (by omega) fun h' F' N' => ?_)
        have hdx' : h'.get? dx = some (dictOf (putL name (PyData.keyHash G.w.params name) (.str name (s.toks + 1)) vx es) (putN name es n)) := (N' (dx, _) (List.mem_append_right _ (.head _))).1
        have same : ∀ b o, s.heap.get? b = some o → b ≠ env.locals → b ≠ dx → h'.get? b = some o := fun b o eb n1 n2 =>
          (N' (b, o) (List.mem_append_left _ (mem_allBut.mpr ⟨n1, n2, eb⟩))).1
        have mdx := List.mem_of_getElem? O.dl
        have X' : Ext (frX env) ρ s.heap ρ h' := by
          refine ⟨List.prefix_refl _, rfl, fun b o eb nb nX => same b o eb (fun q => nX (q ▸ .head _)) fun q => nb (q ▸ mdx), fun b o eb => ?_, fun _ m n => absurd m n⟩
          by_cases q1 : b = env.locals
          · subst q1
            obtain ⟨o', _, _, e', _⟩ := F'.ns
            exact ⟨o', e'⟩
          · by_cases q2 : b = dx
            · subst q2; exact ⟨_, hdx'⟩
            · exact ⟨o, same b o eb q1 q2⟩
        have hcell : ∀ x c, (x, c) ∈ env.cells → ∀ ov, s.heap.IsCell c ov → h'.IsCell c ov := fun x c hm ov ⟨o, ec, dc⟩ => by
          refine ⟨o, same c o ec (fun q => ?_) (fun q => (F.cells x c hm).2.1 (q ▸ mdx)), dc⟩
          obtain ⟨o', _, _, e', d', _⟩ := hns
          rw [q, e'] at ec; cases ec; rw [dc] at d'; cases d'
        refine hQ h' _ ⟨fun b o q => same b o (S.stays b o q) (fun z => by rw [z, F.L0] at q; cases q) (fun z => by rw [z, hdx0] at q; cases q), by simp [S.len], S.nodup, S.fresh, fun b m => let ⟨o, e⟩ := S.hidLive b m; X'.live b o e, fun l' o el => ?_⟩ X' ⟨F.esc, F.kind, F.glob, F.blt, F.len, ⟨m, F'.ns, fun j y a e1 e2 => ?_⟩, fun y c hm => ?_, F.inj, F.has, F.Lρ, F.L0⟩
        · by_cases q : l = l'
          · subst q
            rw [List.getElem?_set] at el
            simp only [if_true] at el
            split at el
            · cases el
              exact ⟨dx, O.dl, .dict hdx' (hput.ext X' F.xok)⟩
            · cases el
          · rw [List.getElem?_set_ne q] at el
            obtain ⟨b, eb, rb⟩ := S.objs l' o el
            refine ⟨b, eb, rb.ext X' F.xok fun o eo => same b o eo (fun z => F.Lρ (z ▸ List.mem_of_getElem? eb)) fun z => q ?_⟩
            subst z
            exact (List.getElem?_inj (List.getElem?_eq_some_iff.mp O.dl).1 S.nodup).mp (O.dl.trans eb.symm)
        · obtain ⟨u, hu, ru⟩ := hv j y a e1 e2
          exact ⟨u, hu.imp id fun ⟨k1, c, k2, k3⟩ => ⟨k1, c, k2, hcell y c (lookup_mem k2) _ k3⟩, ru.ext X' F.xok⟩
        · obtain ⟨⟨ov, z⟩, n1, b1⟩ := F.cells y c hm
          exact ⟨⟨ov, hcell y c hm ov z⟩, n1, b1⟩
      · cases e
    · cases e
  · cases e
noncomputable def aAttr (f : Vals → M AV) (i : Nat) (x : AV) (vals : Vals) : M Vals := (f vals).bind fun a => (mSetAttr i a x).bind fun _ => M.ret vals
end
end Mine
end
section
open PySem PySem.W PySem.Calls PyProof.Rows
set_option Elab.async false
set_option maxRecDepth 100000
namespace Mine
section
variable {G : GC} {k : Nat} {sc : Scope} {ns : List Str}
/-! ### unpacking -/
noncomputable def seqA (a : AV) (σ : Store) : Option (List AV) := match a with
  | .d (.tup xs) => some (xs.map .d)
  | .tup xs => some xs
  | .lst xs => some xs
  | a => (content σ a).map (List.map .d)
theorem keep_of {h h' : Heap} (e : Heap.ExtBut h.objs.size h h') : KeepAll h h' := fun b o q => e b o (Nat.ne_of_lt (Heap.lt_size q)) q
theorem unpack_at {A : Around} {s : Shared} {ρ : Rho} {σ : Store} {v : Value} {a : AV} {items : List AV} {Q : List Value → Shared → Prop} {E : Value → Shared → Prop} (o : OkA k A)
    (S : RepS G.C G.H0 ρ σ s.heap) (R : RepV G.C ρ s.heap v a) (e : seqA a σ = some items)
    (hQ : ∀ vs h', KeepAll s.heap h' → RepVs G.C ρ s.heap vs items → Q vs { s with heap := h' }) : wpAny (model G.prog G.w) A (unpackItems v items.length none) Q E s := by
  have tup : ∀ {l : Addr} {vs : List Value} {n : Nat}, s.heap.get? l = some (tupOf vs.toArray n) → RepVs G.C ρ s.heap vs items → v = .ref l → wpAny (model G.prog G.w) A (unpackItems v items.length none) Q E s := by
    intro l vs n hl rs ev
    subst ev
    have := wpAny_unpackItems_tuple (prog := G.prog) (w := G.w) (A := A) (E := E) (Q := Q) (s := s) o.handled (t := l) (items := vs.toArray) ⟨_, hl, rfl, _, rfl⟩ fun h' he => hQ vs h' (keep_of he) rs
    rwa [List.size_toArray, RepVs.length rs] at this
  have lst : ∀ {l : Addr} {vs : List Value} {n : Nat}, s.heap.get? l = some (listOf vs.toArray n) → RepVs G.C ρ s.heap vs items → v = .ref l → wpAny (model G.prog G.w) A (unpackItems v items.length none) Q E s := by
    intro l vs n hl rs ev
    subst ev
    have := kun_itemsOf (prog := G.prog) (w := G.w) (A := A) (E := E) (Q := Q) (s := s) o.handled (l := l) (items := vs.toArray) ⟨_, hl, rfl, _, rfl⟩ fun h' he => hQ vs h' (keep_of he) rs
    rwa [List.size_toArray, RepVs.length rs] at this
  unfold seqA at e
  split at e
  · cases e
    cases R; rename_i r; cases r; rename_i p _ q
    exact tup p (RepVs.ofD q) rfl
  · cases e
    cases R; rename_i p _ q
    exact tup p q rfl
  · cases e
    cases R; rename_i p _ q
    exact lst p q rfl
  · obtain ⟨xs, hx, rfl⟩ := Option.map_eq_some_iff.mp e
    obtain ⟨l, vs, n, rfl, hl, rs⟩ := content_at S R hx
    exact lst hl (RepVs.ofD rs) rfl
noncomputable def SAs (G : GC) (tb : Bool) (k : Nat) (sc : Scope) (ns : List Str) (ts : List Expr) (g : List AV → Vals → M Vals) : Prop :=
  ∀ A env s ρ σ vals vs avs, OkA k A → RepS G.C G.H0 ρ σ s.heap → Frm G sc ns env ρ s.heap vals → RepVs G.C ρ s.heap vs avs →
    TrX G tb sc ns env A (assignInOrder ((assignEach ts env).map (·.2)) vs) s ρ (fun _ _ _ (_ : Unit) => True) (unitR (g avs vals σ))
noncomputable def asNil (l : List AV) (vals : Vals) : M Vals := match l with
  | [] => M.ret vals
  | _ => fun _ => none
noncomputable def asCons (g : AV → Vals → M Vals) (r : List AV → Vals → M Vals) (l : List AV) (vals : Vals) : M Vals := match l with
  | a :: l => (g a vals).bind fun vals' => r l vals'
  | [] => fun _ => none
theorem SAs_nil {tb : Bool} : SAs G tb k sc ns [] asNil := by
  intro A env s ρ σ vals vs avs o S F R
  refine TrX_of fun vals' σ' e Q E hQ => ?_
  unfold asNil at e
  split at e
  · obtain ⟨e1, rfl⟩ := ret_some e
    subst e1
    cases R
    exact wpAny_assignInOrder_none (hQ _ _ _ S (.refl _ _ _) F)
  · cases e
theorem SAs_cons {tb : Bool} {t : Expr} {ts : List Expr} {g : AV → Vals → M Vals} {r : List AV → Vals → M Vals} (hg : SA G tb k sc ns t g) (hr : SAs G tb k sc ns ts r) (he : ∀ env, assignEach (t :: ts) env = (false, assign t env) :: assignEach ts env) : SAs G tb k sc ns (t :: ts) (asCons g r) := by
  intro A env s ρ σ vals vs avs o S F R
  refine TrX_of fun vals' σ' e Q E hQ => ?_
  unfold asCons at e
  split at e
  · obtain ⟨vals1, σ1, e1, e2⟩ := M.bind_some e
    cases R; rename_i rv rs
    rw [he]
    refine wpAny_assignInOrder_more (TrX_use (hg A env s ρ σ vals _ _ o S F rv) e1 fun ρ1 h1 t1 S1 X1 F1 => ?_)
    exact TrX_use (hr A env { s with heap := h1, toks := t1 } ρ1 σ1 vals1 _ _ o S1 F1 (RepVs.ext X1 (F.xok.sub fun _ => frB_sub) rs)) e2 fun ρ2 h2 t2 S2 X2 F2 => hQ _ _ _ S2 (X1.trans X2) F2
  · cases e
noncomputable def aTup (n : Nat) (g : List AV → Vals → M Vals) (a : AV) (vals : Vals) : M Vals := fun σ => match seqA a σ with
  | some l => if l.length = n then g l vals σ else none
  | none => none
theorem SA_tup {tb : Bool} {ts : List Expr} {j : Nat} {pos : Pos} {g : List AV → Vals → M Vals} (hg : SAs G tb k sc ns ts g) {n : Nat} (hn : ∀ env, (assignEach ts env).length = n) (hstar : ∀ env, (assignEach ts env).findIdx? (·.1) = none) : SA G tb k sc ns (.Tuple ts j pos) (aTup n g) := by
  intro A env s ρ σ vals v av o S F R
  refine TrX_of fun vals' σ' e Q E hQ => ?_
  unfold aTup at e
  split at e
  · rename_i l hl
    split at e
    · rename_i q
      show wpAny _ _ (do standAt pos; unpack v (assignEach ts env)) _ _ _
      refine wpAny_bind (wpAny_standAt ?_)
      unfold unpack
      rw [hn, hstar, ← q]
      refine wpAny_bind (wpAny_holding (unpack_at o S R hl fun vs h' hk rs => ?_))
      have X := KeepAll.ext hk [] ρ
      exact TrX_use (hg A env { s with heap := h' } ρ σ vals vs l o (S.keepAll hk) (F.ext X) (RepVs.ext X (.nil _) rs)) e fun ρ2 h2 t2 S2 X2 F2 => hQ _ _ _ S2 (X.ofNil.trans X2) F2
    · cases e
  · cases e
/-! ### assignments -/
noncomputable def xAsg (f : Vals → M AV) (g : AV → Vals → M Vals) : XM := fun vals => (f vals).bind fun a => (g a vals).bind fun vals' => M.ret (.next, vals')
theorem asg_go {A : Around} {env : Env} {s : Shared} {ρ : Rho} {σ σ' : Store} {vals vals' : Vals} {value t : Expr} {f : Vals → M AV} {g : AV → Vals → M Vals} {fl : AF} (hf : SE G k sc ns value f) (hg : SA G true k sc ns t g) (o : OkA k A)
    (S : RepS G.C G.H0 ρ σ s.heap) (F : Frm G sc ns env ρ s.heap vals) (e : xAsg f g vals σ = some ((fl, vals'), σ')) {Q : Flow → Shared → Prop} {E : Value → Shared → Prop}
    (hQ : ∀ a ρ' h' tk, RepS G.C G.H0 ρ' σ' h' → Ext (frX env) ρ s.heap ρ' h' → Frm G sc ns env ρ' h' vals' → RepFl G ρ' h' a fl → Q a { s with heap := h', toks := tk }) :
    wpAny (model G.prog G.w) A (eval value env) (fun v s₁ => wpAny (model G.prog G.w) A (assign t env v) (fun _ => Q .next) E s₁) E s := by
  obtain ⟨a, σ1, e1, e2⟩ := M.bind_some e
  obtain ⟨vals1, σ2, e3, e4⟩ := M.bind_some e2
  obtain ⟨e5, rfl⟩ := ret_some e4
  cases e5
  refine hf A env s ρ σ vals o S F _ _ e1 _ _ fun v1 ρ1 h1 t1 S1 X1 R1 => ?_
  exact TrX_use (hg A env { s with heap := h1, toks := t1 } ρ1 σ1 vals v1 a o S1 (F.ext X1) R1) e3 fun ρ2 h2 t2 S2 X2 F2 => hQ _ _ _ _ S2 (X1.ofNil.trans X2) F2 .next
theorem SX_asg_tup {ts : List Expr} {j : Nat} {tp pos : Pos} {value : Expr} {f : Vals → M AV} {g : AV → Vals → M Vals} (hf : SE G k sc ns value f) (hg : SA G true k sc ns (.Tuple ts j tp) g)
    (hs : ∀ env : Env, env.scope = sc → swapsWithSole [.Tuple ts j tp] value pos.line env = pure false) (hw : ∀ env : Env, env.scope = sc → swappedStores [.Tuple ts j tp] value env = pure none) : SX G k sc ns (.Assign [.Tuple ts j tp] value pos) (xAsg f g) := by
  intro A env s ρ σ vals o S F fl vals' σ' e Q E hQ
  exact Assign_Tuple (asg_go hf hg o S F e hQ) (hs env F.esc) (hw env F.esc)
theorem SX_asg_name {x : Str} {xp pos : Pos} {value : Expr} {i : Nat} {f : Vals → M AV} (hf : SE G k sc ns value f) (hi : ns[i]? = some x) (nd : ns.Nodup) (hx : sc.names.lookup x = some .local ∨ (sc.names.lookup x = some .cell ∧ true = true))
    (hs : ∀ env : Env, env.scope = sc → swapsWith value (some (.Name x xp)) pos.line env = pure false) : SX G k sc ns (.Assign [.Name x xp] value pos) (xAsg f (aVar i)) := by
  intro A env s ρ σ vals o S F fl vals' σ' e Q E hQ
  obtain ⟨a, σ1, e1, e2⟩ := M.bind_some e
  obtain ⟨vals1, σ2, e3, e4⟩ := M.bind_some e2
  obtain ⟨e5, rfl⟩ := ret_some e4
  obtain ⟨e6, rfl⟩ := ret_some e3
  cases e5; cases e6
  refine wpAny_Assign_Name (hf A env s ρ σ vals o S F _ _ e1 _ _ fun v1 ρ1 h1 t1 S1 X1 R1 => ?_) (hs env F.esc)
  exact store_name (s := { s with heap := h1, toks := t1 }) hi nd hx S1 (F.ext X1) R1 fun h' tk S' X' F' => hQ _ _ _ _ S' (X1.ofNil.trans X') F' .next
theorem SX_asg_attr {ob value : Expr} {attr : Str} {ap pos : Pos} {f g : Vals → M AV} {i : Nat} (hf : SE G k sc ns value f) (hg : SE G k sc ns ob g) (hi : fldTab[i]? = some attr) (hs : ∀ env : Env, env.scope = sc → swapsWith value (some (.Attribute ob attr ap)) pos.line env = pure false) :
    SX G k sc ns (.Assign [.Attribute ob attr ap] value pos) (xAsg f (aAttr g i)) := by
  intro A env s ρ σ vals o S F fl vals' σ' e Q E hQ
  obtain ⟨a, σ1, e1, e2⟩ := M.bind_some e
  obtain ⟨vals1, σ2, e3, e4⟩ := M.bind_some e2
  obtain ⟨e5, rfl⟩ := ret_some e4
  cases e5
  obtain ⟨b, σ3, e6, e7⟩ := M.bind_some e3
  obtain ⟨u, σ4, e8, e9⟩ := M.bind_some e7
  obtain ⟨e10, rfl⟩ := ret_some e9
  cases e10
  refine plainObj_wpAny_Assign_Attribute (hf A env s ρ σ _ o S F _ _ e1 _ _ fun v1 ρ1 h1 t1 S1 X1 R1 => hg A env { s with heap := h1, toks := t1 } ρ1 σ1 _ o S1 (F.ext X1) _ _ e6 _ _ fun v2 ρ2 h2 t2 S2 X2 R2 => ?_) (hs env F.esc)
  exact set_attr (s := { s with heap := h2, toks := t2 }) S2 ((F.ext X1).ext X2) R2 (RepV.ext X2 (.nil _) R1) hi e8 fun h' tk S' X' F' => hQ _ _ _ _ S' ((X1.trans X2).ofNil.trans X') F' .next
/-- source[i] = x -/
noncomputable def mSetItem (a i x : AV) : M Unit := fun σ => match a, i, x with
  | .loc n, .d (.int i), .d d => match σ[n]? with
    | some (.list xs) => if decide (0 ≤ i) && decide (i < xs.length) && room xs.length then some ((), σ.set n (.list (xs.set i.toNat d))) else none
    | _ => none
  | _, _, _ => none
noncomputable def aSub (f g : Vals → M AV) (x : AV) (vals : Vals) : M Vals := (f vals).bind fun a => (g vals).bind fun i => (mSetItem a i x).bind fun _ => M.ret vals
theorem SX_asg_sub {ob ix value : Expr} {ap pos : Pos} {f g h : Vals → M AV} (hf : SE G k sc ns value f) (hg : SE G k sc ns ob g) (hh : SE G k sc ns ix h) (hs : ∀ env : Env, env.scope = sc → swapsWith value (some (.Subscript ob ix ap)) pos.line env = pure false) :
    SX G k sc ns (.Assign [.Subscript ob ix ap] value pos) (xAsg f (aSub g h)) := by
  intro A env s ρ σ vals o S F fl vals' σ' e Q E hQ
  obtain ⟨a, σ1, e1, e2⟩ := M.bind_some e
  obtain ⟨vals1, σ2, e3, e4⟩ := M.bind_some e2
  obtain ⟨e5, rfl⟩ := ret_some e4
  cases e5
  obtain ⟨b, σ3, e6, e7⟩ := M.bind_some e3
  obtain ⟨c, σ4, e8, e9⟩ := M.bind_some e7
  obtain ⟨u, σ5, e10, e11⟩ := M.bind_some e9
  obtain ⟨e12, rfl⟩ := ret_some e11
  cases e12
  refine wpAny_Assign_Subscript (hf A env s ρ σ _ o S F _ _ e1 _ _ fun v1 ρ1 h1 t1 S1 X1 R1 => hg A env { s with heap := h1, toks := t1 } ρ1 σ1 _ o S1 (F.ext X1) _ _ e6 _ _ fun v2 ρ2 h2 t2 S2 X2 R2 =>
    hh A env { s with heap := h2, toks := t2 } ρ2 σ3 _ o S2 ((F.ext X1).ext X2) _ _ e8 _ _ fun v3 ρ3 h3 t3 S3 X3 R3 => ?_) (hs env F.esc)
  have F3 := ((F.ext X1).ext X2).ext X3
  have R2' := RepV.ext X3 (.nil _) R2
  have R1' := RepV.ext X3 (.nil _) (RepV.ext X2 (.nil _) R1)
  unfold mSetItem at e10
  split at e10
  · rename_i n i d
    split at e10
    · rename_i xs hn
      split at e10
      · rename_i q
        cases e10
        simp only [Bool.and_eq_true, decide_eq_true_eq] at q
        obtain ⟨D, vs, cc, rfl, hp, hl, rs⟩ := loc_at S3 R2' hn
        cases R3; rename_i R3; cases R3; rename_i t
        cases R1'; rename_i R1'
        have hv := rs.length
        have hr := of_decide_eq_true q.2
        refine ki_setAt (s := { s with heap := h3, toks := t3 }) hl q.1.1 (by omega) (by rw [List.size_toArray]; omega) ?_
        have hl' : (h3.update D (Obj.mapSeq (·.setIfInBounds i.toNat v1))).get? D = some (listOf (vs.set i.toNat v1).toArray cc) := by
          rw [Heap.get?_update_self _ hl rfl]
          have h1 : vs.toArray.setIfInBounds i.toNat v1 = (vs.set i.toNat v1).toArray := by
            apply Array.toList_inj.mp
            simp
          show some (Obj.mapSeq _ (listOf vs.toArray cc)) = _
          simp only [Obj.mapSeq, W.listOf, h1]
          simp
        obtain ⟨S', X'⟩ := put_list S3 hp (Heap.SameBut.update ..) hl' (rs.set i.toNat R1')
        exact hQ .next ρ3 _ t3 S' (((X1.trans X2).trans X3).trans X').ofNil (F3.ext X') .next
      · cases e10
    · cases e10
  · cases e10
/-- two or three names at once from a written tuple -/
noncomputable def xSwap (n : Nat) (f : Vals → M AV) (g : List AV → Vals → M Vals) : XM := fun vals => (f vals).bind fun a => (aTup n g a vals).bind fun vals' => M.ret (.next, vals')
noncomputable def asRev (is : List Nat) (l : List AV) (vals : Vals) : M Vals := match is, l with
  | [], [] => M.ret vals
  | i :: is, a :: l => (aVar i a vals).bind fun vals' => asRev is l vals'
  | _, _ => fun _ => none
theorem RepVs.rev {C : Addr} {ρ : Rho} {h : Heap} : ∀ {vs : List Value} {ds : List AV}, RepVs C ρ h vs ds → RepVs C ρ h vs.reverse ds.reverse
  | _, _, .nil => .nil
  | _, _, .cons a r => by rw [List.reverse_cons, List.reverse_cons]; exact (RepVs.rev r).append (.cons a .nil)
theorem rev_go {env : Env} {A : Around} (nd : ns.Nodup) : ∀ {is : List Nat} {xs : List Str} {vs : List Value} {avs : List AV} {s : Shared} {ρ : Rho} {σ σ' : Store} {vals vals' : Vals} {Q : Unit → Shared → Prop} {E : Value → Shared → Prop},
    is.map (ns[·]?) = xs.map some → (∀ x ∈ xs, sc.names.lookup x = some .local) → RepS G.C G.H0 ρ σ s.heap → Frm G sc ns env ρ s.heap vals → RepVs G.C ρ s.heap vs avs → asRev is avs vals σ = some (vals', σ') →
    (∀ h' tk, RepS G.C G.H0 ρ σ' h' → Ext (frX env) ρ s.heap ρ h' → Frm G sc ns env ρ h' vals' → Q () { s with heap := h', toks := tk }) →
    wpAny (model G.prog G.w) A (assignInOrder (xs.map fun n => bindName env n) vs) Q E s
  | [], [], vs, avs, s, ρ, σ, σ', vals, vals', Q, E, _, _, S, F, R, e, hQ => by
    cases R with
    | nil =>
      obtain ⟨e1, rfl⟩ := ret_some e
      cases e1
      exact wpAny_assignInOrder_none (hQ _ _ S (.refl _ _ _) F)
    | cons _ _ => cases e
  | i :: is, x :: xs, vs, avs, s, ρ, σ, σ', vals, vals', Q, E, hi, hx, S, F, R, e, hQ => by
    cases R with
    | nil => cases e
    | cons r R =>
      obtain ⟨vals1, σ1, e1, e2⟩ := M.bind_some e
      obtain ⟨e3, rfl⟩ := ret_some e1
      cases e3
      rw [List.map_cons, List.map_cons, List.cons.injEq] at hi
      refine wpAny_assignInOrder_more (wpAny_bindName (store_name (tb := true) hi.1 nd (.inl (hx x (.head _))) S F r fun h' tk S' X' F' => ?_))
      exact rev_go (s := { s with heap := h', toks := tk }) nd hi.2 (fun y hy => hx y (.tail _ hy)) S' F' (RepVs.ext X' F.xok R) e2 fun h2 t2 S2 X2 F2 => hQ _ _ S2 (X'.trans X2) F2
  | [], _ :: _, _, _, _, _, _, _, _, _, _, _, hi, _, _, _, _, _, _ => by cases hi
  | _ :: _, [], _, _, _, _, _, _, _, _, _, _, hi, _, _, _, _, _, _ => by cases hi
theorem SX_asg_swap {ts : List Expr} {j : Nat} {tp pos : Pos} {value : Expr} {f : Vals → M AV} {is : List Nat} {xs : List Str} (hf : SE G k sc ns value f) (nd : ns.Nodup) (hi : is.map (ns[·]?) = xs.reverse.map some) (hx : ∀ x ∈ xs, sc.names.lookup x = some .local)
    (hs : ∀ env : Env, env.scope = sc → swapsWithSole [.Tuple ts j tp] value pos.line env = pure false) (hw : ∀ env : Env, env.scope = sc → swappedStores [.Tuple ts j tp] value env = pure (some xs)) :
    SX G k sc ns (.Assign [.Tuple ts j tp] value pos) (xSwap xs.length f fun l => asRev is l.reverse) := by
  intro A env s ρ σ vals o S F fl vals' σ' e Q E hQ
  obtain ⟨a, σ1, e1, e2⟩ := M.bind_some e
  obtain ⟨vals1, σ2, e3, e4⟩ := M.bind_some e2
  obtain ⟨e5, rfl⟩ := ret_some e4
  cases e5
  unfold aTup at e3
  split at e3
  · rename_i l hl
    split at e3
    · rename_i q
      refine Assign_Tuple_swapped (names := xs) (hf A env s ρ σ _ o S F _ _ e1 _ _ fun v1 ρ1 h1 t1 S1 X1 R1 => ?_) (hs env F.esc) (hw env F.esc)
      rw [← q]
      refine unpack_at (s := { s with heap := h1, toks := t1 }) o S1 R1 hl fun vs h' hk rs => ?_
      have X := KeepAll.ext hk [] ρ1
      refine rev_go (s := { s with heap := h', toks := t1 }) nd hi (fun y hy => hx y (List.mem_reverse.mp hy)) (S1.keepAll hk) ((F.ext X1).ext X) (RepVs.rev (RepVs.ext X (.nil _) rs)) e3 fun h2 t2 S2 X2 F2 => ?_
      exact hQ _ _ _ _ S2 ((X1.trans X).ofNil.trans X2) F2 .next
    · cases e3
  · cases e3
end
end Mine
end
section
open PySem PySem.W PySem.Calls PyProof.Rows
set_option Elab.async false
set_option maxRecDepth 100000
namespace Mine
section
variable {G : GC} {k : Nat}
/-! ### the text's own functions -/
noncomputable def fEnd : AF × Vals → M AV
  | (.ret v, _) => M.ret v
  | (.next, _) => M.ret (.d .none)
  | (.brk, _) => fun _ => none
noncomputable def fnM (n m : Nat) (fb : XM) (args : List AV) : M AV := if args.length = n then (fb (args.map some ++ List.replicate m none)).bind fEnd else fun _ => none
theorem zip_lookup {vs : List Value} : ∀ {ps : List Str} {i : Nat} {x : Str} {v : Value}, ps.Nodup → ps[i]? = some x → vs[i]? = some v → (ps.zip vs).reverse.lookup x = some v := by
  have app : ∀ (l r : List (Str × Value)) (x : Str), (l ++ r).lookup x = (l.lookup x).or (r.lookup x) := by
    intro l r x
    induction l with
    | nil => simp
    | cons p l ih =>
      obtain ⟨y, w⟩ := p
      rw [List.cons_append, List.lookup_cons, List.lookup_cons]
      split
      · rfl
      · exact ih
  induction vs with
  | nil => intro ps i x v _ _ h; cases h
  | cons u vs ih =>
    intro ps i x v nd hx hv
    cases ps with
    | nil => cases hx
    | cons y ps =>
      rw [List.zip_cons_cons, List.reverse_cons, app]
      cases i with
      | zero =>
        cases hx; cases hv
        have : (ps.zip vs).reverse.lookup x = none := by
          rw [List.lookup_eq_none_iff]
          intro p hp
          have hp' := List.mem_reverse.mp hp
          have := List.of_mem_zip hp'
          exact bne_iff_ne.mpr fun q => (List.nodup_cons.mp nd).1 (by rw [q]; exact this.1)
        rw [this]
        simp
      | succ i =>
        rw [ih (List.nodup_cons.mp nd).2 hx hv]
        rfl
/-- the same, of the code -/
noncomputable def SC (G : GC) (k : Nat) (fv : Value) (f : List AV → M AV) : Prop :=
  ∀ A s ρ σ vs avs, OkA k A → RepS G.C G.H0 ρ σ s.heap → RepVs G.C ρ s.heap vs avs → ∀ b σ', f avs σ = some (b, σ') → ∀ R : Result → Shared → Prop,
    (∀ v ρ' h' tk, RepS G.C G.H0 ρ' σ' h' → Ext [] ρ s.heap ρ' h' → RepV G.C ρ' h' v b → R (.ok (.ret v)) { s with heap := h', toks := tk }) → codeAny (model G.prog G.w) A (.call fv ⟨vs, []⟩) R s
theorem SC.sf {fv : Value} {f : List AV → M AV} (h : SC G k fv f) : SF G k fv f := fun A s ρ σ vs avs o S R b σ' e _ _ hQ =>
  wpAny_call (h A s ρ σ vs avs o S R b σ' e _ fun v ρ' h' tk S' X' R' => hQ v ρ' h' tk S' X' R')
theorem SC_fn {f : Addr} {name qual : Str} {params : Arguments} {body : List Stmt} {scope : Scope} {dV kV doc pm cdv ct oc : Value} {an od : Option Addr} {osl : Array (Option Value)} {ps others : List Str} {fb : XM}
    (hb : SXs G k scope (ps ++ others) body fb) (ho : G.K.lookup f = some ⟨oc, od, .func (fnOf name qual params body scope dV kV doc pm an cdv ct), osl⟩) (hcd : codeIn G.K cdv qual = true)
    (nd : (ps ++ others).Nodup) (hbind : ∀ vs : List Value, vs.length = ps.length → bindArgs (fnOf name qual params body scope dV kV doc pm an cdv ct) ⟨vs, []⟩ = pure (ps.zip vs))
    (hloc : ∀ x ∈ ps, scope.names.lookup x = some .local) (hcell : ∀ x ∈ scope.names, x.2 ≠ .cell) (hco : scope.isCoroutine = false) (hgen : scope.isGenerator = false) (hk : scope.kind = .function) :
    SC G (k + 1) (.ref f) (fnM ps.length others.length fb) := by
  intro A s ρ σ vs avs o S R b σ' e Q hQ
  unfold fnM at e
  split at e
  · rename_i q
    obtain ⟨⟨fl, vals'⟩, σ1, e1, e2⟩ := M.bind_some e
    have hlen : vs.length = ps.length := by rw [RepVs.length R]; exact q
    have X0 := G.X.keeps S.stays
    have od := o.depth
    have ou := o.units
    refine codeAny_call_def (fd := fnOf name qual params body scope dV kV doc pm an cdv ct) (body := body) (binds := ps.zip vs) (show A.depth < 1000 by omega) (X0 _ _ ho) rfl (G.T.nolimit.keeps S.stays) (codeRec_of X0 hcd) rfl
      (.of_eq (hbind vs hlen)) hcell (fun p hp => hloc _ (List.of_mem_zip hp).1) (fun h₀ hns hk₀ => ?_) hco hgen hk
    have S1 := S.keepAll hk₀
    have X1 := KeepAll.ext hk₀ [] ρ
    have ndp : ps.Nodup := (List.nodup_append.mp nd).1
    have F1 : Frm G scope (ps ++ others) (callEnv (fnOf name qual params body scope dV kV doc pm an cdv ct) s.heap.objs.size f) ρ h₀ (avs.map some ++ List.replicate others.length none) := by
      refine ⟨rfl, hk, rfl, rfl, by simp [q], ⟨_, hns, fun i x av hx hv => ?_⟩, fun x c hm => (nomatch hm), fun x y c hm => (nomatch hm), fun x hx => absurd rfl (hcell _ (lookup_mem hx)), Rho.locs_all (not_in_new S), ?_⟩
      · by_cases hi : i < avs.length
        · rw [List.getElem?_append_left (by simpa using hi), List.getElem?_map] at hv
          obtain ⟨a, ha, hv⟩ := Option.map_eq_some_iff.mp hv
          cases hv
          rw [List.getElem?_append_left (by omega)] at hx
          obtain ⟨v, hv, rv⟩ := R.get ha
          exact ⟨v, .inl ⟨hloc x (List.mem_of_getElem? hx), zip_lookup ndp hx hv⟩, rv.ext X1 (.nil _)⟩
        · rw [List.getElem?_append_right (by simpa using Nat.le_of_not_lt hi)] at hv
          have := List.mem_of_getElem? hv
          have := List.eq_of_mem_replicate this
          cases this
      · cases z : G.H0.get? s.heap.objs.size with
        | none => exact z
        | some ob =>
          have h1 := S.stays _ _ z
          rw [new_none] at h1; cases h1
    refine hb (A.deeper (callEnv (fnOf name qual params body scope dV kV doc pm an cdv ct) s.heap.objs.size f)) _ { s with heap := h₀, toks := s.toks + (ps.zip vs).length } ρ σ _ ⟨o.handled, by show A.depth + 1 + k ≤ 900; omega, by show A.units + 3 + 20 * k ≤ 9000; omega⟩ S1 F1 _ _ _ e1 _ _ fun v2 ρ2 h2 t2 S2 X2 F2 R2 => ?_
    have XX : Ext [] ρ s.heap ρ2 h2 := by
      refine ⟨X1.pre.trans X2.pre, X2.hid.trans X1.hid, fun a ob ea na _ => X2.keep a ob (X1.keep a ob ea na (by simp)) na fun m => ?_, fun a ob ea => ?_, fun a m n => ?_⟩
      · have : a = s.heap.objs.size := by
          rcases List.mem_cons.mp m with m | m
          · exact m
          · cases m
        rw [this, new_none] at ea; cases ea
      · obtain ⟨o', e'⟩ := X1.live a ob ea
        exact X2.live a o' e'
      · have := X2.new a m n
        cases z : s.heap.get? a with
        | none => rfl
        | some ob => rw [hk₀ _ _ z] at this; cases this
    cases R2 with
    | next =>
      obtain ⟨rfl, rfl⟩ := ret_some e2
      exact hQ _ _ _ _ S2 XX (.d .none)
    | brk => cases e2
    | ret r =>
      obtain ⟨rfl, rfl⟩ := ret_some e2
      exact hQ _ _ _ _ S2 XX r
  · cases e
/-! ### an object of the text's class -/
noncomputable def fNew (fi : List AV → M AV) (args : List AV) : M AV := fun σ => match fi (.obj σ.length :: args) (σ ++ [.dict []]) with
  | some (.d .none, σ') => some (.obj σ.length, σ')
  | _ => none
theorem SF_new {fI : Addr} {j : Nat} {fi : List AV → M AV} (hf : SC G j (.ref fI) fi) (hi : findIn G.K (.ref G.C) "__init__" = some (some (.ref fI))) (ht : typeIn G.K (.ref fI) = some (.type "function")) : SF G (j + 1) (.ref G.C) (fNew fi) := by
  intro A s ρ σ vs avs o S R b σ' e Q E hQ
  unfold fNew at e
  split at e
  · rename_i σ1 e1
    cases e
    have X := G.X.keeps S.stays
    obtain ⟨hh, gg, dd, tt, os⟩ := s
    refine wpAny_call (make_core (makes_of (M := model G.prog G.w) X G.makes) (looks_findIn X hi) (fun self => bind_fn X self ht) (.inl (by simp)) ?_)
    obtain ⟨S1, X1, e2⟩ := alloc_keep (ao := .dict []) S (KeepAll.push hh emptyDict) (new_none _) fun _ => .dict (es := []) (n := 0) (Heap.get?_push_size _ rfl) .nil
    obtain ⟨S2, X2⟩ := push_any S1 (instObj G.C hh.objs.size)
    have hsz : (hh.push emptyDict).objs.size = hh.objs.size + 1 := Heap.size_push _ _
    have R2 : RepV G.C (ρ.add hh.objs.size) ((hh.push emptyDict).push (instObj G.C hh.objs.size)) (.ref (hh.objs.size + 1)) (.obj σ.length) := by
      refine .obj (dx := hh.objs.size) ?_ ?_ e2
      · rw [← hsz]; exact Heap.get?_push_size _ rfl
      · rw [← hsz]; exact not_in_new S1
    have R3 := RepVs.cons R2 (RepVs.ext (X1.trans X2) (.nil _) R)
    have oA : OkA j (A.under (.builtin "type.__call__" ⟨.ref G.C :: vs, []⟩)) := by
      have od := o.depth
      have ou := o.units
      refine ⟨o.handled, ?_, ?_⟩
      · rw [depth_under_make]; omega
      · show A.units + Code.cUnits (.builtin "type.__call__" ⟨.ref G.C :: vs, []⟩) + 20 * j ≤ 9000
        have : Code.cUnits (.builtin "type.__call__" ⟨.ref G.C :: vs, []⟩) ≤ 20 := Nat.le_of_ble_eq_true rfl
        omega
    refine hf (A.under (.builtin "type.__call__" ⟨.ref G.C :: vs, []⟩)) ⟨(hh.push emptyDict).push (instObj G.C hh.objs.size), gg, dd, tt, os⟩ _ _ _ _ oA S2 R3 _ _ e1 _ fun v ρ' h' tk S' X' R' => ?_
    cases R'; rename_i R'; cases R'
    exact ⟨rfl, hQ _ ρ' h' tk S' ((X1.trans X2).trans X') (RepV.ext X' (.nil _) R2)⟩
  · cases e
end
end Mine
end
section
open PySem PySem.W PySem.Calls PyProof.Rows
set_option Elab.async false
set_option maxRecDepth 100000
namespace Mine
section
variable {G : GC} {k : Nat} {sc : Scope} {ns : List Str}
/-! ### what is gone through -/
noncomputable def nextA (σ : Store) (a : AV) (i : Nat) : Option (Option AV) := match a with
  | .rng n => some (if (i : Int) < n then some (.d (.int i)) else none)
  | a => (content σ a).map fun xs => (xs[i]?).map .d
noncomputable def srcOk (tn : Bool) (a : AV) : M Unit := M.opt fun σ => match a with
  | .rng n => if tn && (decide (0 ≤ n) && decide (n ≤ 1000)) then some () else none
  | a => (content σ a).map fun _ => ()
inductive IterAt (C : Addr) (ρ : Rho) (h : Heap) (I : Addr) : AV → Nat → Prop
  | rng {n : Int} {i : Nat} : IsRangeIter h I (i : Int) (n - i) 1 → IterAt C ρ h I (.rng n) i
  | seq {ax : Addr} {a : AV} {i : Nat} : (∀ n, a ≠ .rng n) → h.IsListIter I ax i → RepV C ρ h (.ref ax) a → IterAt C ρ h I a i
theorem IterAt.xok {C : Addr} {ρ : Rho} {h : Heap} {I : Addr} {a : AV} {i : Nat} (t : IterAt C ρ h I a i) : XOk [I] h := by
  intro b m o e
  rw [List.mem_singleton.mp m] at e
  cases t with
  | rng t =>
    rw [t] at e; cases e
    exact ⟨fun _ _ q => (by cases q), fun q => (by cases q), fun n t u v q => (by have h : Value.type "range_iterator" = Value.type "range" := congrArg Obj.cls q; exact absurd h (by decide))⟩
  | seq _ t _ =>
    obtain ⟨o', e', hc, hd⟩ := t
    rw [e'] at e; cases e
    exact ⟨fun _ _ q => (by rw [hd] at q; cases q), fun q => (by rw [hd] at q; cases q), fun n t u v q => (by rw [q] at hc; have h : Value.type "range" = Value.type "list_iterator" := hc; exact absurd h (by decide))⟩
theorem IterAt.notX {env : Env} {ρ : Rho} {h : Heap} {I : Addr} {a : AV} {i : Nat} {vals : Vals} (t : IterAt G.C ρ h I a i) (F : Frm G sc ns env ρ h vals) : I ∉ frX env := by
  have hd : ∃ o vs, h.get? I = some o ∧ o.data = .fields vs := by
    cases t with
    | rng t => exact ⟨_, _, t, rfl⟩
    | seq _ t _ => obtain ⟨o, e, _, d⟩ := t; exact ⟨o, _, e, d⟩
  obtain ⟨o, vs, e, d⟩ := hd
  intro m
  rcases List.mem_cons.mp m with m | m
  · obtain ⟨_, ⟨o', _, _, e', d', _⟩, _⟩ := F.names
    rw [m, e'] at e; cases e; rw [d] at d'; cases d'
  · obtain ⟨⟨x, c⟩, hm, q⟩ := List.mem_map.mp m
    obtain ⟨⟨ov, o', e', d'⟩, _⟩ := F.cells x c hm
    have q : c = I := q
    rw [q, e] at e'; cases e'; rw [d] at d'; cases d'
theorem IterAt.ext {C : Addr} {X : List Addr} {ρ ρ' : Rho} {h h' : Heap} {I : Addr} {a : AV} {i : Nat} (t : IterAt C ρ h I a i) (x : Ext X ρ h ρ' h') (ok : XOk X h) (n1 : I ∉ ρ.locs) (n2 : I ∉ X) : IterAt C ρ' h' I a i := by
  cases t with
  | rng t => exact .rng (x.keep _ _ t n1 n2)
  | seq hn t r => obtain ⟨o, e, q⟩ := t; exact .seq hn ⟨o, x.keep _ _ e n1 n2, q⟩ (r.ext x ok)
theorem pyIter_at {A : Around} {s : Shared} {ρ : Rho} {σ σ' : Store} {v : Value} {a : AV} {u : Unit} {Q : Value → Shared → Prop} {E : Value → Shared → Prop} (S : RepS G.C G.H0 ρ σ s.heap) (R : RepV G.C ρ s.heap v a) {tn : Bool} (e : srcOk tn a σ = some (u, σ'))
    (hQ : ∀ ob, IterAt G.C ρ (s.heap.push ob) s.heap.objs.size a 0 → Q (.ref s.heap.objs.size) { s with heap := s.heap.push ob }) : wpAny (model G.prog G.w) A (pyIter v) Q E s := by
  obtain ⟨_, e2⟩ := M.opt_some e
  replace e := e2
  clear e2
  split at e
  · rename_i n
    split at e
    · rename_i q
      simp only [Bool.and_eq_true, decide_eq_true_eq] at q
      replace q := q.2
      obtain ⟨l, t, u, w, rfl, p⟩ : ∃ l t u w, v = .ref l ∧ s.heap.get? l = some (rngOf n t u w) := by
        cases R with | rng p _ => exact ⟨_, _, _, _, rfl, p⟩
      refine wpAny_pyIter_range p ?_ ?_
      · have : Builtin.Range.rangeSize 0 n 1 = n := by rw [rangeSize_one]; split <;> omega
        unfold Builtin.Range.small
        rw [this]
        simp [Builtin.Range.rangeFitsLong]
        omega
      · have : Builtin.Range.rangeSize 0 n 1 = n := by rw [rangeSize_one]; split <;> omega
        rw [this]
        refine hQ _ (.rng ?_)
        rw [show n - ((0 : Nat) : Int) = n by omega]
        exact Heap.get?_push_size _ rfl
    · cases e
  · rename_i hn
    obtain ⟨xs, hx, _⟩ := Option.map_eq_some_iff.mp e
    obtain ⟨l, vs, c, rfl, hl, rs⟩ := content_at S R hx
    refine wpAny_pyIter_list ⟨_, hl, rfl, _, rfl⟩ (hQ _ (.seq hn ⟨_, Heap.get?_push_size _ rfl, rfl, rfl⟩ ?_))
    exact RepV.ext (KeepAll.ext (KeepAll.push _ _) [] ρ) (.nil _) R
theorem pyNext_at {A : Around} {s : Shared} {ρ : Rho} {σ : Store} {I : Addr} {a : AV} {i : Nat} {r : Option AV} {Q : Option Value → Shared → Prop} {E : Value → Shared → Prop} (o : OkA k A) (S : RepS G.C G.H0 ρ σ s.heap) (t : IterAt G.C ρ s.heap I a i) (nI : I ∉ ρ.locs) (e : nextA σ a i = some r)
    (h1 : ∀ x, r = some x → ∀ v h' tk, Heap.SameBut I s.heap h' → IterAt G.C ρ h' I a (i + 1) → RepV G.C ρ s.heap v x → Q (some v) { s with heap := h', toks := tk })
    (h2 : r = none → ∀ h', Heap.ExtBut I s.heap h' → Q none { s with heap := h' }) : wpAny (model G.prog G.w) A (pyNext (.ref I)) Q E s := by
  have it := t.xok
  have t' := t
  cases t with
  | @rng n _ t =>
    have e : some (if (i : Int) < n then some (AV.d (.int i)) else none) = some r := e
    cases e
    by_cases q : (i : Int) < n
    · refine wpAny_pyNext_range_item t (by omega) fun h' t' hs => ?_
      refine h1 _ (if_pos q) _ _ _ hs (.rng ?_) (.d (.int _ _))
      have e1 : ((i + 1 : Nat) : Int) = (i : Int) + 1 := by omega
      rw [e1, show n - ((i : Int) + 1) = n - i - 1 by omega]
      exact t'
    · exact wpAny_pyNext_range_end o.handled t (by omega) fun h' hs => h2 (if_neg q) h' hs
  | @seq ax _ _ hn t R =>
    have e : (content σ a).map (fun xs => (xs[i]?).map AV.d) = some r := by
      unfold nextA at e
      split at e
      · exact absurd rfl (hn _)
      · exact e
    obtain ⟨xs, hx, rfl⟩ := Option.map_eq_some_iff.mp e
    obtain ⟨l, vs, c, el, hl, rs⟩ := content_at S R hx
    cases el
    cases q : xs[i]? with
    | some x =>
      obtain ⟨u, hu, ru⟩ := rs.get q
      refine wpAny_pyNext_list_item (items := vs.toArray) t ⟨_, hl, rfl, _, rfl⟩ (by simpa using hu) fun h' t'' hs => ?_
      refine h1 _ (by rw [q]; rfl) _ _ _ hs (.seq hn t'' ?_) (.d ru)
      have X : Ext [I] ρ s.heap ρ h' := ⟨List.prefix_refl _, rfl, fun b ob e _ nb => (hs.2 b fun z => nb (z ▸ .head _)).trans e, fun b ob e => by
        by_cases z : b = I
        · subst z; obtain ⟨o', e', _⟩ := t''; exact ⟨o', e'⟩
        · exact ⟨ob, (hs.2 b z).trans e⟩, fun _ m n => absurd m n⟩
      exact R.ext X it
    | none =>
      refine wpAny_pyNext_list_end (items := vs.toArray) o.handled t ⟨_, hl, rfl, _, rfl⟩ ?_ fun h' hs => h2 (by rw [q]; rfl) h' hs
      have := List.getElem?_eq_none_iff.mp q
      have := rs.length
      simp
      omega
/-- only the iterator has moved -/
theorem RepS.but {ρ : Rho} {σ : Store} {h h' : Heap} {I : Addr} (S : RepS G.C G.H0 ρ σ h) (hs : Heap.ExtBut I h h') (nI : I ∉ ρ.all) (n0 : G.H0.get? I = none) (ok : XOk [I] h) : RepS G.C G.H0 ρ σ h' := by
  have X : Ext0 [I] ρ h ρ h' := ⟨List.prefix_refl _, fun b ob e _ nb => hs b ob (fun z => nb (z ▸ .head _)) e, fun _ _ _ n => n⟩
  refine ⟨fun b o e => hs b o (fun z => by rw [z, n0] at e; cases e) (S.stays b o e), S.len, S.nodup, S.fresh, fun b m => let ⟨o, e⟩ := S.hidLive b m; ⟨o, hs b o (fun z => nI (z ▸ List.mem_append_left _ m)) e⟩, fun l o e => ?_⟩
  obtain ⟨b, eb, r⟩ := S.objs l o e
  exact ⟨b, eb, r.ext0 X ok fun o e => hs b o (fun z => nI (z ▸ Rho.at_all eb)) e⟩
theorem Frm.but {env : Env} {ρ : Rho} {h h' : Heap} {vals : Vals} {I : Addr} (F : Frm G sc ns env ρ h vals) (hs : Heap.ExtBut I h h') (ok : XOk [I] h) (nX : I ∉ frX env) : Frm G sc ns env ρ h' vals := by
  have X : Ext0 [I] ρ h ρ h' := ⟨List.prefix_refl _, fun b ob e _ nb => hs b ob (fun z => nb (z ▸ .head _)) e, fun _ _ _ n => n⟩
  obtain ⟨m, ⟨o, es, ep, ho, hd, hk, hf⟩, hv⟩ := F.names
  have hc : ∀ x c, (x, c) ∈ env.cells → ∀ ov, h.IsCell c ov → h'.IsCell c ov := fun x c hm ov ⟨o, e, d⟩ => ⟨o, hs c o (fun z => nX (.tail _ (z ▸ List.mem_map.mpr ⟨_, hm, rfl⟩))) e, d⟩
  refine ⟨F.esc, F.kind, F.glob, F.blt, F.len, ⟨m, ⟨o, es, ep, hs _ _ (fun z => nX (z ▸ .head _)) ho, hd, hk, hf⟩, fun i y av e1 e2 => ?_⟩, fun y c hm => ?_, F.inj, F.has, F.Lρ, F.L0⟩
  · obtain ⟨v, a, r⟩ := hv i y av e1 e2
    exact ⟨v, a.imp id fun ⟨k, c, l, z⟩ => ⟨k, c, l, hc y c (lookup_mem l) _ z⟩, r.ext0 X ok⟩
  · obtain ⟨⟨ov, z⟩, n, b⟩ := F.cells y c hm
    exact ⟨⟨ov, hc y c hm ov z⟩, n, b⟩
/-! ### for -/
noncomputable def xForLoop (a : AV) (g : AV → Vals → M Vals) (body : XM) : Nat → Nat → XM
  | 0, _ => fun _ _ => none
  | n + 1, i => fun vals σ => match nextA σ a i with
    | none => none
    | some none => some ((.next, vals), σ)
    | some (some x) => match g x vals σ with
      | none => none
      | some (vals1, σ1) => match body vals1 σ1 with
        | none => none
        | some ((.next, vals2), σ2) => xForLoop a g body n (i + 1) vals2 σ2
        | some ((.brk, vals2), σ2) => some ((.next, vals2), σ2)
        | some ((.ret v, vals2), σ2) => some ((.ret v, vals2), σ2)
noncomputable def xFor (N : Nat) (tn : Bool) (f : Vals → M AV) (g : AV → Vals → M Vals) (body : XM) : XM := fun vals => (f vals).bind fun a => (srcOk tn a).bind fun _ => xForLoop a g body N 0 vals
theorem letGo_at {target : Expr} {A : Around} {s : Shared} {ρ : Rho} {σ σ' : Store} {I : Addr} {a : AV} {i : Nat} {v : Value} {tn : Bool} {u : Unit} {Q : Unit → Shared → Prop} {E : Value → Shared → Prop} (t : IterAt G.C ρ s.heap I a i) (e : srcOk tn a σ = some (u, σ'))
    (ht : tn = true → letOwnedTupleGo target (.ref I) v = pure ()) (h : Q () s) : wpAny (model G.prog G.w) A (letOwnedTupleGo target (.ref I) v) Q E s := by
  cases t with
  | rng t =>
    obtain ⟨_, e⟩ := M.opt_some e
    dsimp only at e
    split at e
    · rename_i q
      rw [ht (Bool.and_eq_true_iff.mp q).1]; exact wpAny_pure h
    · cases e
  | seq _ t _ => exact letGo_listiter t h
/-- from the loop's inside to its outside: the iterator was not there before -/
theorem Ext.drop {X : List Addr} {ρ ρ' : Rho} {h h' h'' : Heap} {I : Addr} (x : Ext X ρ h ρ' h') (hI : h.get? I = none) (hs : Heap.ExtBut I h' h'') : Ext X ρ h ρ' h'' :=
  ⟨x.pre, x.hid, fun a o e n nX => hs a o (fun z => by rw [z, hI] at e; cases e) (x.keep a o e n nX), fun a o e => by
    obtain ⟨o', e'⟩ := x.live a o e
    exact ⟨o', hs a o' (fun z => by rw [z, hI] at e; cases e) e'⟩, x.new⟩
inductive XflAft (a : AV) (g : AV → Vals → M Vals) (body : XM) (n i : Nat) (r : Option ((AF × Vals) × Store)) : AF → Vals → Store → Prop
  | next {vals : Vals} {σ : Store} : xForLoop a g body n i vals σ = r → XflAft a g body n i r .next vals σ
  | brk {vals : Vals} {σ : Store} : r = some ((.next, vals), σ) → XflAft a g body n i r .brk vals σ
  | ret {v : AV} {vals : Vals} {σ : Store} : r = some ((.ret v, vals), σ) → XflAft a g body n i r (.ret v) vals σ
inductive XflInv (a : AV) (g : AV → Vals → M Vals) (body : XM) (n i : Nat) (vals : Vals) (σ : Store) (r : Option ((AF × Vals) × Store)) : Prop
  | fin : nextA σ a i = some none → r = some ((.next, vals), σ) → XflInv a g body n i vals σ r
  | go {x : AV} {vals3 vals5 : Vals} {σ3 σ5 : Store} {fl : AF} : nextA σ a i = some (some x) → g x vals σ = some (vals3, σ3) → body vals3 σ3 = some ((fl, vals5), σ5) → XflAft a g body n (i + 1) r fl vals5 σ5 → XflInv a g body n i vals σ r
theorem xfl_inv {a : AV} {g : AV → Vals → M Vals} {body : XM} {n i : Nat} {vals : Vals} {σ : Store} {r : (AF × Vals) × Store} (e : xForLoop a g body (n + 1) i vals σ = some r) : XflInv a g body n i vals σ (some r) := by
  unfold xForLoop at e
  cases hx : nextA σ a i with
  | none => rw [hx] at e; cases e
  | some q =>
    rw [hx] at e
    cases q with
    | none => exact .fin hx e.symm
    | some x =>
      dsimp only at e
      cases hg : g x vals σ with
      | none => rw [hg] at e; cases e
      | some p =>
        rw [hg] at e
        dsimp only at e
        cases hb : body p.1 p.2 with
        | none => rw [hb] at e; cases e
        | some q =>
          rw [hb] at e
          obtain ⟨⟨f, v⟩, s⟩ := q
          refine .go hx hg hb ?_
          cases f with
          | next => exact .next e
          | brk => exact .brk e.symm
          | ret r => exact .ret e.symm
structure ForAt (G : GC) (sc : Scope) (ns : List Str) (env : Env) (ρ1 : Rho) (h1 : Heap) (a : AV) (I : Addr) (i : Nat) (ρ : Rho) (σ : Store) (h : Heap) (vals : Vals) : Prop where
  S : RepS G.C G.H0 ρ σ h
  X : Ext (frX env) ρ1 h1 ρ h
  F : Frm G sc ns env ρ h vals
  it : IterAt G.C ρ h I a i
  nI : I ∉ ρ.all
inductive ForI (G : GC) (sc : Scope) (ns : List Str) (env : Env) (s : Shared) (ρ1 : Rho) (h1 : Heap) (a : AV) (I : Addr) (g : AV → Vals → M Vals) (fb : XM) (r : (AF × Vals) × Store) (n : Nat) : Shared → Prop
  | mk {i : Nat} {ρ : Rho} {σ : Store} {h : Heap} {tk : Nat} {vals : Vals} : ForAt G sc ns env ρ1 h1 a I i ρ σ h vals → xForLoop a g fb n i vals σ = some r → ForI G sc ns env s ρ1 h1 a I g fb r n { s with heap := h, toks := tk }
section
variable {env : Env} {ρ1 ρ ρ' : Rho} {h1 h h' : Heap} {a : AV} {I : Addr} {i : Nat} {σ σ' : Store} {vals vals' : Vals}
theorem ForAt.but (T : ForAt G sc ns env ρ1 h1 a I i ρ σ h vals) (hI : h1.get? I = none) (I0 : G.H0.get? I = none) (hs : Heap.ExtBut I h h') : RepS G.C G.H0 ρ σ h' ∧ Ext (frX env) ρ1 h1 ρ h' ∧ Frm G sc ns env ρ h' vals :=
  ⟨T.S.but hs T.nI I0 T.it.xok, T.X.drop hI hs, T.F.but hs T.it.xok (T.it.notX T.F)⟩
theorem IterAt.some {C : Addr} (t : IterAt C ρ h I a i) : ∃ o, h.get? I = some o := by
  cases t with
  | rng t => exact ⟨_, t⟩
  | seq _ t _ => obtain ⟨o, e, _⟩ := t; exact ⟨o, e⟩
theorem ext_itOne (hs : Heap.SameBut I h h') (hl : ∃ o, h'.get? I = some o) : Ext [I] ρ h ρ h' :=
  ⟨List.prefix_refl _, rfl, fun b ob e _ nb => (hs.2 b fun z => nb (z ▸ .head _)).trans e, fun b ob e => by
    by_cases z : b = I
    · subst z; exact hl
    · exact ⟨ob, (hs.2 b z).trans e⟩, fun _ m n => absurd m n⟩
theorem ForAt.step (T : ForAt G sc ns env ρ1 h1 a I i ρ σ h vals) (S' : RepS G.C G.H0 ρ' σ' h') (x : Ext (frX env) ρ h ρ' h') (F' : Frm G sc ns env ρ' h' vals') : ForAt G sc ns env ρ1 h1 a I i ρ' σ' h' vals' :=
  ⟨S', T.X.trans x, F', T.it.ext x T.F.xok (Rho.locs_all T.nI) (T.it.notX T.F), by
    obtain ⟨o, e⟩ := T.it.some
    exact x.notin e T.nI⟩
theorem for_loop {target : Expr} {body : List Stmt} {A : Around} {s s' : Shared} {g : AV → Vals → M Vals} {fb : XM} {N : Nat} {tn : Bool} {u : Unit} {σ0 σ1 : Store} {r : (AF × Vals) × Store} {R : Result → Shared → Prop} (hg : SA G true k sc ns target g) (hb : SXs G k sc ns body fb)
    (hr : tn = true → ∀ I v, letOwnedTupleGo target (.ref I) v = pure ()) (o : OkA k A) (hI : h1.get? I = none) (I0 : G.H0.get? I = none) (e3 : srcOk tn a σ0 = some (u, σ1)) (T0 : ForI G sc ns env s ρ1 h1 a I g fb r N s')
    (hR : ∀ flv ρ' h' tk, RepS G.C G.H0 ρ' r.2 h' → Ext (frX env) ρ1 h1 ρ' h' → Frm G sc ns env ρ' h' r.1.2 → RepFl G ρ' h' flv r.1.1 → R (.ok flv) { s with heap := h', toks := tk }) :
    codeAny (model G.prog G.w) A (.forLoop target (.ref I) body [] env) R s' := by
  refine codeAny_forLoop_any (ForI G sc ns env s ρ1 h1 a I g fb r) (fun n s' T1 => ?_) N T0
  cases T1 with
  | @mk i ρ σ h tk vals T e =>
  cases n with
  | zero => cases e
  | succ n =>
    cases xfl_inv e with
    | fin en q =>
      cases q
      refine pyNext_at (s := { s with heap := h, toks := tk }) o T.S T.it (Rho.locs_all T.nI) en (fun x q => by cases q) fun _ h3 hs3 => wpAny_execs_nil ?_
      obtain ⟨S3, X3, F3⟩ := T.but hI I0 hs3
      exact hR .next ρ h3 tk S3 X3 F3 .next
    | @go x vals3 vals5 σ3 σ5 fl en eg eb e7 =>
      refine pyNext_at (s := { s with heap := h, toks := tk }) o T.S T.it (Rho.locs_all T.nI) en (fun x' q v h3 tk3 hs3 it3 rv => ?_) fun q => by cases q
      cases q
      obtain ⟨S3, X3, F3⟩ := T.but hI I0 hs3.extBut
      refine letGo_at (s := { s with heap := h3, toks := tk3 }) it3 e3 (fun q => hr q _ _) ?_
      refine TrX_use (hg A env { s with heap := h3, toks := tk3 } ρ σ vals v x o S3 F3 (RepV.ext (ext_itOne hs3 it3.some) T.it.xok rv)) eg fun ρ4 h4 tk4 S4 X4 F4 => ?_
      refine hb A env { s with heap := h4, toks := tk4 } ρ4 σ3 vals3 o S4 F4 _ _ _ eb _ _ fun fl5 ρ5 h5 tk5 S5 X5 F5 R5 => ?_
      have T5 := ((ForAt.mk (i := i + 1) S3 X3 F3 it3 T.nI).step S4 X4 F4).step S5 X5 F5
      cases e7 with
      | next e7 => cases R5; exact ⟨n, Nat.lt_succ_self _, .mk T5 e7⟩
      | brk q => cases q; cases R5; exact hR .next ρ5 h5 tk5 S5 T5.X F5 .next
      | ret q => cases q; cases R5; exact hR _ ρ5 h5 tk5 S5 T5.X F5 (.ret (by assumption))
end
theorem SX_for {target iter : Expr} {body : List Stmt} {pos : Pos} {f : Vals → M AV} {g : AV → Vals → M Vals} {fb : XM} {N : Nat} {tn : Bool} (hf : SE G k sc ns iter f) (hg : SA G true k sc ns target g) (hb : SXs G k sc ns body fb)
    (hs : ∀ env x, foldedSetIterable iter env x = pure x) (hr : tn = true → ∀ I v, letOwnedTupleGo target (.ref I) v = pure ()) : SX G k sc ns (.For target iter body [] pos) (xFor N tn f g fb) := by
  intro A env s ρ σ vals o S F fl vals' σ' e Q E hQ
  obtain ⟨a, σ1, e1, e2⟩ := M.bind_some e
  obtain ⟨u, σ2, e3, e4⟩ := M.bind_some e2
  have e5 := e3
  obtain ⟨rfl, _⟩ := M.opt_some e5
  refine wpAny_For (hf A env s ρ σ vals o S F _ _ e1 _ _ fun v1 ρ1 h1 t1 S1 X1 R1 => ?_) (hs env)
  refine pyIter_at (s := { s with heap := h1, toks := t1 }) S1 R1 e3 fun ob it => ?_
  have hI : h1.get? h1.objs.size = none := new_none _
  have nI1 : h1.objs.size ∉ ρ1.all := not_in_new S1
  have k1 := KeepAll.push h1 ob
  have I0 : G.H0.get? h1.objs.size = none := by
    cases q : G.H0.get? h1.objs.size with
    | none => rfl
    | some o => have := S1.stays _ _ q; rw [hI] at this; cases this
  exact for_loop (s := s) hg hb hr o hI I0 e3 (.mk ⟨S1.keepAll k1, k1.ext _ _, (F.ext X1).ext (k1.ext _ _), it, nI1⟩ e4) fun flv ρ' h' tk S' X' F' R' => hQ flv ρ' h' tk S' (X1.ofNil.trans X') F' R'
end
end Mine
end
section
open PySem PySem.W PySem.Calls PyProof.Rows
set_option Elab.async false
set_option maxRecDepth 100000
namespace Mine
section
variable {G : GC} {k : Nat} {sc : Scope} {ns : List Str}
/-! ### comprehensions -/
noncomputable def compLoop (a : AV) (g : AV → Vals → M Vals) (t : Vals → M Bool) (fe : Vals → M AV) : Nat → Nat → Vals → List AD → M (List AD)
  | 0, _, _, _ => fun _ => none
  | n + 1, i, vals, acc => fun σ => match nextA σ a i with
    | none => none
    | some none => some (acc, σ)
    | some (some x) => match g x vals σ with
      | none => none
      | some (vals1, σ1) => match t vals1 σ1 with
        | none => none
        | some (false, σ2) => compLoop a g t fe n (i + 1) vals1 acc σ2
        | some (true, σ2) => match fe vals1 σ2 with
          | some (.d x, σ3) => if room acc.length then compLoop a g t fe n (i + 1) vals1 (acc ++ [x]) σ3 else none
          | _ => none
theorem hide_ext0 {ρ : Rho} {h : Heap} {D : Addr} {h' : Heap} (hn : h.get? D = none) (hk : KeepAll h h') : Ext0 [] ρ h (ρ.hide D) h' :=
  ⟨List.prefix_refl _, fun a o e _ _ => hk a o e, fun a o e n m => by
    rcases List.mem_append.mp m with m | m
    · rcases List.mem_cons.mp m with m | m
      · rw [m, hn] at e; cases e
      · exact n (List.mem_append_left _ m)
    · exact n (List.mem_append_right _ m)⟩
noncomputable def Rho.show (ρ : Rho) (hs : List Addr) : Rho := ⟨ρ.locs, hs⟩
theorem show_ext0 {ρ : Rho} {h : Heap} {D : Addr} {hs : List Addr} (hh : ρ.hid = D :: hs) : Ext0 [] ρ h (ρ.show hs) h :=
  ⟨List.prefix_refl _, fun a o e _ _ => e, fun a _ _ n m => by
    rcases List.mem_append.mp m with m | m
    · exact n (List.mem_append_left _ (hh ▸ .tail _ m))
    · exact n (List.mem_append_right _ m)⟩
theorem RepS.hide {ρ : Rho} {σ : Store} {h h' : Heap} {D : Addr} (S : RepS G.C G.H0 ρ σ h) (hn : h.get? D = none) (hk : KeepAll h h') (hl : ∃ o, h'.get? D = some o) : RepS G.C G.H0 (ρ.hide D) σ h' := by
  refine ⟨S.stays.trans hk, S.len, S.nodup, fun a m => ?_, fun a m => ?_, fun l o e => ?_⟩
  · rcases List.mem_append.mp m with m | m
    · rcases List.mem_cons.mp m with m | m
      · rw [m]; exact fresh_of S hn
      · exact S.fresh a (List.mem_append_left _ m)
    · exact S.fresh a (List.mem_append_right _ m)
  · rcases List.mem_cons.mp m with m | m
    · rw [m]; exact hl
    · obtain ⟨o, e⟩ := S.hidLive a m
      exact ⟨o, hk a o e⟩
  · obtain ⟨a, ea, r⟩ := S.objs l o e
    exact ⟨a, ea, r.ext0 (hide_ext0 hn hk) (.nil _) fun o e => hk a o e⟩
theorem RepS.show {ρ : Rho} {σ : Store} {h : Heap} {D : Addr} {hs : List Addr} (S : RepS G.C G.H0 ρ σ h) (hh : ρ.hid = D :: hs) : RepS G.C G.H0 (ρ.show hs) σ h := by
  refine ⟨S.stays, S.len, S.nodup, fun a m => ?_, fun a m => S.hidLive a (hh ▸ .tail _ m), fun l o e => ?_⟩
  · rcases List.mem_append.mp m with m | m
    · exact S.fresh a (List.mem_append_left _ (hh ▸ .tail _ m))
    · exact S.fresh a (List.mem_append_right _ m)
  · obtain ⟨a, ea, r⟩ := S.objs l o e
    exact ⟨a, ea, r.ext0 (show_ext0 hh) (.nil _) fun o e => e⟩
/-- the hidden list is stored into -/
theorem Ext0.hidden {ρ : Rho} {h h' : Heap} {D : Addr} (hD : D ∈ ρ.hid) (hs : Heap.SameBut D h h') : Ext0 [] ρ h ρ h' :=
  ⟨List.prefix_refl _, fun a o e n _ => (hs.2 a fun z => n (z ▸ List.mem_append_left _ hD)).trans e, fun _ _ _ n => n⟩
theorem RepS.hidden {ρ : Rho} {σ : Store} {h h' : Heap} {D : Addr} (S : RepS G.C G.H0 ρ σ h) (hD : D ∈ ρ.hid) (nD : D ∉ ρ.locs) (hs : Heap.SameBut D h h') (hl : ∃ o, h'.get? D = some o) : RepS G.C G.H0 ρ σ h' := by
  refine ⟨fun b o e => (hs.2 b fun z => ?_).trans (S.stays b o e), S.len, S.nodup, S.fresh, fun a m => ?_, fun l o e => ?_⟩
  · rw [z, S.fresh D (List.mem_append_left _ hD)] at e; cases e
  · by_cases z : a = D
    · rw [z]; exact hl
    · obtain ⟨o, e⟩ := S.hidLive a m
      exact ⟨o, (hs.2 a z).trans e⟩
  · obtain ⟨a, ea, r⟩ := S.objs l o e
    exact ⟨a, ea, r.ext0 (Ext0.hidden hD hs) (.nil _) fun o e => (hs.2 a fun z => nD (z ▸ List.mem_of_getElem? ea)).trans e⟩
theorem Frm.ext0 {env : Env} {ρ ρ' : Rho} {h h' : Heap} {vals : Vals} (F : Frm G sc ns env ρ h vals) (x : Ext0 [] ρ h ρ' h') (hl : ρ'.locs = ρ.locs) (hL : ∀ a o, h.get? a = some o → (∀ vs n, o.data ≠ .seq vs n) → h'.get? a = some o) : Frm G sc ns env ρ' h' vals := by
  obtain ⟨m, ⟨o, es, ep, ho, hd, hk, hf⟩, hv⟩ := F.names
  have hc : ∀ c ov, h.IsCell c ov → h'.IsCell c ov := fun c ov ⟨o, e, d⟩ => ⟨o, hL c o e fun vs n q => (by rw [d] at q; cases q), d⟩
  refine ⟨F.esc, F.kind, F.glob, F.blt, F.len, ⟨m, ⟨o, es, ep, hL _ _ ho fun vs n q => (by rw [hd] at q; cases q), hd, hk, hf⟩, fun i y av e1 e2 => ?_⟩, fun y c hm => ?_, F.inj, F.has, hl ▸ F.Lρ, F.L0⟩
  · obtain ⟨v, a, r⟩ := hv i y av e1 e2
    exact ⟨v, a.imp id fun ⟨k, c, l, z⟩ => ⟨k, c, l, hc c _ z⟩, r.ext0 x (.nil h)⟩
  · obtain ⟨⟨ov, z⟩, n, b⟩ := F.cells y c hm
    exact ⟨⟨ov, hc c ov z⟩, hl ▸ n, b⟩
/-- the tests of a comprehension -/
noncomputable def SIf (G : GC) (k : Nat) (sc : Scope) (ns : List Str) (ifs : List Expr) (f : Vals → M Bool) : Prop :=
  ∀ A env s ρ σ vals, OkA k A → RepS G.C G.H0 ρ σ s.heap → Frm G sc ns env ρ s.heap vals →
    Tr G A (forIn ifs true fun c r => if r = true then do let ok ← isTrue c env (eval c env); pure (ForInStep.yield ok) else pure (ForInStep.yield r)) s ρ RB (f vals σ)
theorem SIf_nil : SIf G k sc ns [] (fun _ => M.ret true) := by
  intro A env s ρ σ vals o S F b σ' e Q E hQ
  obtain ⟨rfl, rfl⟩ := ret_some e
  rw [List.forIn_nil]
  exact wpAny_pure (hQ _ _ _ _ S (.refl _ _ _) rfl)
theorem SIf_one {c : Expr} {f : Vals → M Bool} (hf : ST G k sc ns c f) : SIf G k sc ns [c] f := by
  intro A env s ρ σ vals o S F b σ' e Q E hQ
  rw [List.forIn_cons]
  refine wpAny_bind ?_
  rw [if_pos rfl]
  refine wpAny_bind (hf A env s ρ σ vals o S F _ _ e _ _ fun v ρ1 h1 t1 S1 X1 R1 => wpAny_pure ?_)
  dsimp only
  rw [List.forIn_nil]
  exact wpAny_pure (hQ _ _ _ _ S1 X1 R1)
/-- the comprehension's state between two turns -/
structure CompAt (G : GC) (sc' : Scope) (ns' : List Str) (cenv : Env) (s : Shared) (ρ1 : Rho) (h1 : Heap) (a : AV) (I D : Addr) (i : Nat) (ρ : Rho) (σ : Store) (vals : Vals) (acc : List AD) (s' : Shared) : Prop where
  same : ∃ h tk, s' = { s with heap := h, toks := tk }
  S : RepS G.C G.H0 ρ σ s'.heap
  F : Frm G sc' ns' cenv ρ s'.heap vals
  X : Ext [] ρ1 h1 (ρ.show ρ1.hid) s'.heap
  hid : ρ.hid = D :: ρ1.hid
  nD : D ∉ ρ.locs
  it : IterAt G.C ρ s'.heap I a i
  nI : I ∉ ρ.all
  acc : ∃ ys c, s'.heap.get? D = some (listOf ys.toArray c) ∧ RepDs ρ s'.heap ys acc
theorem Ext.showIn {X : List Addr} {ρ ρ' : Rho} {h h' : Heap} (x : Ext X ρ h ρ' h') (hs : List Addr) : Ext X (ρ.show hs) h (ρ'.show hs) h' := ⟨x.pre, rfl, x.keep, x.live, x.new⟩
/-- what a turn asks of the state, and what it leaves -/
theorem CompAt.step {sc' : Scope} {ns' : List Str} {cenv : Env} {s s' : Shared} {ρ1 ρ ρ' : Rho} {h1 h' : Heap} {a : AV} {I D : Addr} {i : Nat} {σ σ' : Store} {vals vals' : Vals} {acc : List AD} {tk : Nat}
    (T : CompAt G sc' ns' cenv s ρ1 h1 a I D i ρ σ vals acc s') (hC : h1.get? cenv.locals = none) (S' : RepS G.C G.H0 ρ' σ' h') (x : Ext [cenv.locals] ρ s'.heap ρ' h') (F' : Frm G sc' ns' cenv ρ' h' vals') :
    CompAt G sc' ns' cenv s ρ1 h1 a I D i ρ' σ' vals' acc { s' with heap := h', toks := tk } := by
  obtain ⟨h, tk0, rfl⟩ := T.same
  obtain ⟨ys, c, hD, ra⟩ := T.acc
  have ok : XOk [cenv.locals] h := T.F.xok.sub fun b m => frB_sub (b := false) m
  have nL : D ≠ cenv.locals := fun z => by
    obtain ⟨_, ⟨o', _, _, e', d', _⟩, _⟩ := T.F.names
    have e' : h.get? cenv.locals = some o' := e'
    have hD : h.get? D = some (listOf ys.toArray c) := hD
    rw [← z, hD] at e'; cases e'; cases d'
  have hD' := x.keep D _ hD T.nD (by simpa using nL)
  have hlI : ∃ o, h.get? I = some o := by
    cases T.it with
    | rng t => exact ⟨_, t⟩
    | seq _ t _ => obtain ⟨o, e, _⟩ := t; exact ⟨o, e⟩
  obtain ⟨oI, eI⟩ := hlI
  have XX : Ext [] ρ1 h1 (ρ'.show ρ1.hid) h' := by
    have X1 := T.X
    have X2 := x.showIn ρ1.hid
    refine ⟨X1.pre.trans X2.pre, rfl, fun b o e n _ => X2.keep b o (X1.keep b o e n (by simp)) (X1.notinL e n) fun m => ?_, fun b o e => ?_, fun b m n => ?_⟩
    · rw [List.mem_singleton.mp m, hC] at e; cases e
    · obtain ⟨o', e'⟩ := X1.live b o e
      exact X2.live b o' e'
    · cases q : h1.get? b with
      | none => rfl
      | some o =>
        obtain ⟨o', e'⟩ := X1.live b o q
        exact absurd m (X2.notinL e' (X1.notinL q n))
  exact ⟨⟨h', tk, rfl⟩, S', F', XX, x.hid.trans T.hid, x.notinL hD T.nD, T.it.ext x ok (Rho.locs_all T.nI) (fun m => (T.it.notX T.F) (frB_sub (b := false) m)), x.notin eI T.nI, ys, c, hD', ra.ext x ok⟩
/-- the iterator moves -/
theorem CompAt.move {sc' : Scope} {ns' : List Str} {cenv : Env} {s s' : Shared} {ρ1 ρ : Rho} {h1 h' : Heap} {a : AV} {I D : Addr} {i : Nat} {σ : Store} {vals : Vals} {acc : List AD}
    (T : CompAt G sc' ns' cenv s ρ1 h1 a I D i ρ σ vals acc s') (hI : h1.get? I = none) (I0 : G.H0.get? I = none) (hs : Heap.ExtBut I s'.heap h') :
    RepS G.C G.H0 ρ σ h' ∧ Frm G sc' ns' cenv ρ h' vals ∧ Ext [] ρ1 h1 (ρ.show ρ1.hid) h' ∧ ∃ ys c, h'.get? D = some (listOf ys.toArray c) ∧ RepDs ρ h' ys acc := by
  have ok := T.it.xok
  have X0 : Ext0 [I] ρ s'.heap ρ h' := ⟨List.prefix_refl _, fun b ob e _ nb => hs b ob (fun z => nb (z ▸ .head _)) e, fun _ _ _ n => n⟩
  obtain ⟨ys, c, hD, ra⟩ := T.acc
  refine ⟨T.S.but hs T.nI I0 ok, T.F.but hs ok (T.it.notX T.F), T.X.drop hI hs, ys, c, hs D _ (fun z => T.nI ?_) hD, ra.ext0 X0 ok⟩
  exact List.mem_append_left _ (by rw [T.hid, z]; exact .head _)
/-- one more item -/
theorem CompAt.push {sc' : Scope} {ns' : List Str} {cenv : Env} {s s' : Shared} {ρ1 ρ : Rho} {h1 : Heap} {a : AV} {I D : Addr} {i : Nat} {σ : Store} {vals : Vals} {acc : List AD} {v : Value} {x : AD} {A : Around} {Q : Value → Shared → Prop} {E : Value → Shared → Prop}
    (T : CompAt G sc' ns' cenv s ρ1 h1 a I D i ρ σ vals acc s') (hD1 : h1.get? D = none) (rv : RepV G.C ρ s'.heap v (.d x)) (hr : room acc.length = true)
    (h : ∀ s'', CompAt G sc' ns' cenv s ρ1 h1 a I D i ρ σ vals (acc ++ [x]) s'' → Q .none s'') : wpAny (model G.prog G.w) A (call (.builtin "list.append") [.ref D, v]) Q E s' := by
  obtain ⟨hp, tk0, rfl⟩ := T.same
  obtain ⟨ys, c, hD, ra⟩ := T.acc
  have mD : D ∈ ρ.hid := by rw [T.hid]; exact .head _
  refine append_at (s := { s with heap := hp, toks := tk0 }) hD (fun h' hs hl' => ?_) (by rw [lst_len ra]; exact room_of hr)
  have hl'' : h'.get? D = some (listOf (ys ++ [v]).toArray (c + 1)) := by rw [hl']; simp [W.listOf]
  have X0 := Ext0.hidden mD hs
  have hlI : ∃ o, hp.get? I = some o ∧ ∃ vs, o.data = .fields vs := by
    cases T.it with
    | rng t => exact ⟨_, t, _, rfl⟩
    | seq _ t _ => obtain ⟨o, e, _, d⟩ := t; exact ⟨o, e, _, d⟩
  obtain ⟨oI, eI, vI, dI⟩ := hlI
  have hID : I ≠ D := fun z => by
    have hD : hp.get? D = some (listOf ys.toArray c) := hD
    rw [z, hD] at eI; cases eI; cases dI
  cases rv; rename_i rv
  refine h _ ⟨⟨h', _, rfl⟩, T.S.hidden mD T.nD hs ⟨_, hl''⟩, ?_, T.X.drop hD1 hs.extBut, T.hid, T.nD, ?_, T.nI, ys ++ [v], c + 1, hl'', (ra.ext0 X0 (.nil _)).append (.cons (rv.ext0 X0 (.nil _)) .nil)⟩
  · refine T.F.ext0 X0 rfl fun b o e hd => (hs.2 b fun z => ?_).trans e
    have hD : hp.get? D = some (listOf ys.toArray c) := hD
    rw [z, hD] at e; cases e
    exact hd _ _ rfl
  · cases T.it with
    | rng t => exact .rng ((hs.2 I hID).trans t)
    | seq hn t R =>
      obtain ⟨o, e, q⟩ := t
      exact .seq hn ⟨o, (hs.2 I hID).trans e, q⟩ (R.ext0 X0 (.nil _))
/-- the comprehension's state at its end -/
structure CompEnd (G : GC) (sc' : Scope) (ns' : List Str) (cenv : Env) (ρ1 : Rho) (h1 : Heap) (D : Addr) (ρ : Rho) (σ : Store) (acc : List AD) (h : Heap) : Prop where
  S : RepS G.C G.H0 ρ σ h
  F : ∃ vals, Frm G sc' ns' cenv ρ h vals
  X : Ext [] ρ1 h1 (ρ.show ρ1.hid) h
  hid : ρ.hid = D :: ρ1.hid
  nD : D ∉ ρ.locs
  acc : ∃ ys c, h.get? D = some (listOf ys.toArray c) ∧ RepDs ρ h ys acc
theorem comp_next {sc' : Scope} {ns' : List Str} {cenv : Env} {s s' : Shared} {ρ1 ρ : Rho} {h1 : Heap} {a : AV} {I D : Addr} {i n : Nat} {σ σ' : Store} {vals : Vals} {acc res : List AD} {A : Around} {g : AV → Vals → M Vals} {t : Vals → M Bool} {fe : Vals → M AV}
    {Q : Option Value → Shared → Prop} {E : Value → Shared → Prop} (o : OkA k A) (T : CompAt G sc' ns' cenv s ρ1 h1 a I D i ρ σ vals acc s') (hI : h1.get? I = none) (I0 : G.H0.get? I = none)
    (e : compLoop a g t fe (n + 1) i vals acc σ = some (res, σ'))
    (hend : ∀ h tk, CompEnd G sc' ns' cenv ρ1 h1 D ρ σ' res h → Q none { s with heap := h, toks := tk })
    (hgo : ∀ x v vals1 σ1 h tk, RepS G.C G.H0 ρ σ h → Frm G sc' ns' cenv ρ h vals → RepV G.C ρ h v x → CompAt G sc' ns' cenv s ρ1 h1 a I D (i + 1) ρ σ vals acc { s with heap := h, toks := tk } → g x vals σ = some (vals1, σ1) →
      (match t vals1 σ1 with
        | none => none
        | some (false, σ2) => compLoop a g t fe n (i + 1) vals1 acc σ2
        | some (true, σ2) => match fe vals1 σ2 with
          | some (.d x, σ3) => if room acc.length then compLoop a g t fe n (i + 1) vals1 (acc ++ [x]) σ3 else none
          | _ => none) = some (res, σ') → Q (some v) { s with heap := h, toks := tk }) : wpAny (model G.prog G.w) A (pyNext (.ref I)) Q E s' := by
  obtain ⟨hp, tk0, rfl⟩ := T.same
  unfold compLoop at e
  split at e
  · cases e
  · rename_i en
    cases e
    refine pyNext_at (s := { s with heap := hp, toks := tk0 }) o T.S T.it (Rho.locs_all T.nI) en (fun x q => by cases q) fun _ h3 hs3 => ?_
    obtain ⟨S3, F3, X3, ac⟩ := CompAt.move T hI I0 hs3
    exact hend h3 _ ⟨S3, ⟨_, F3⟩, X3, T.hid, T.nD, ac⟩
  · rename_i x en
    split at e
    · cases e
    · rename_i vals1 σ1 eg
      refine pyNext_at (s := { s with heap := hp, toks := tk0 }) o T.S T.it (Rho.locs_all T.nI) en (fun x' q v h3 tk3 hs3 it3 rv => ?_) fun q => by cases q
      cases q
      obtain ⟨S3, F3, X3, ac⟩ := CompAt.move T hI I0 hs3.extBut
      have X0 : Ext0 [I] ρ hp ρ h3 := ⟨List.prefix_refl _, fun b ob e _ nb => (hs3.2 b (fun z => nb (z ▸ .head _))).trans e, fun _ _ _ n => n⟩
      exact hgo x v vals1 σ1 h3 tk3 S3 F3 (rv.ext0 X0 T.it.xok) ⟨⟨h3, tk3, rfl⟩, S3, F3, X3, T.hid, T.nD, it3, T.nI, ac⟩ eg e
theorem comp_loop {sc' : Scope} {ns' : List Str} {cenv : Env} {s s' : Shared} {ρ1 ρ : Rho} {h1 : Heap} {a : AV} {I D : Addr} {i n : Nat} {σ σ' : Store} {vals : Vals} {acc res : List AD} {A : Around} {g : AV → Vals → M Vals} {t : Vals → M Bool} {fe : Vals → M AV} {R : Result → Shared → Prop}
    {target iter elt : Expr} {ifs : List Expr} {scope : Scope} {pos : Pos} (hg : SA G false k sc' ns' target g) (ht : SIf G k sc' ns' ifs t) (hf : SE G k sc' ns' elt fe) (o : OkA k A)
    (T : CompAt G sc' ns' cenv s ρ1 h1 a I D i ρ σ vals acc s') (hI : h1.get? I = none) (I0 : G.H0.get? I = none) (hC : h1.get? cenv.locals = none) (hD : h1.get? D = none)
    (e : compLoop a g t fe n i vals acc σ = some (res, σ')) (hlet : ∀ v, letOwnedTupleGo target (.ref I) v = pure ())
    (hR : ∀ ρ' h tk, CompEnd G sc' ns' cenv ρ1 h1 D ρ' σ' res h → R (.ok .next) { s with heap := h, toks := tk }) :
    codeAny (model G.prog G.w) A (.compLoop (.ListComp elt [⟨target, iter, ifs, 0⟩] scope pos) 0 (.ref I) (.ref D) cenv) R s' := by
  refine codeAny_compLoop_tests (fun n s' => ∃ i ρ σ vals acc, CompAt G sc' ns' cenv s ρ1 h1 a I D i ρ σ vals acc s' ∧ compLoop a g t fe n i vals acc σ = some (res, σ')) (fun n s' hI' => ?_) n ⟨i, ρ, σ, vals, acc, T, e⟩ hlet
  obtain ⟨i, ρ, σ, vals, acc, T, e⟩ := hI'
  cases n with
  | zero => cases e
  | succ n =>
    refine comp_next o T hI I0 e (fun h tk H => hR _ _ _ H) fun x v vals1 σ1 h tk S3 F3 rv T3 eg e => ?_
    refine TrX_use (hg A cenv { s with heap := h, toks := tk } ρ σ vals v x o S3 F3 rv) eg fun ρ4 h4 tk4 S4 X4 F4 => ?_
    have T4 := T3.step (tk := tk4) hC S4 X4 F4
    split at e
    · cases e
    · rename_i σ2 et
      refine ht A cenv { s with heap := h4, toks := tk4 } ρ4 σ1 vals1 o S4 F4 _ _ et _ _ fun b ρ5 h5 tk5 S5 X5 R5 => ?_
      cases (R5 : b = false)
      rw [if_neg (by decide)]
      exact ⟨n, Nat.lt_succ_self _, _, _, _, _, _, T4.step hC S5 X5.ofNil (F4.ext X5), e⟩
    · rename_i σ2 et
      refine ht A cenv { s with heap := h4, toks := tk4 } ρ4 σ1 vals1 o S4 F4 _ _ et _ _ fun b ρ5 h5 tk5 S5 X5 R5 => ?_
      cases (R5 : b = true)
      rw [if_pos rfl]
      have T5 := T4.step (tk := tk5) hC S5 X5.ofNil (F4.ext X5)
      split at e
      · rename_i y σ3 ef
        split at e
        · rename_i q
          refine hf A cenv { s with heap := h5, toks := tk5 } ρ5 σ2 vals1 o S5 (F4.ext X5) _ _ ef _ _ fun u ρ6 h6 tk6 S6 X6 R6 => ?_
          have T6 := T5.step (tk := tk6) hC S6 X6.ofNil ((F4.ext X5).ext X6)
          exact T6.push hD R6 q fun s'' T7 => ⟨n, Nat.lt_succ_self _, _, _, _, _, _, T7, e⟩
        · cases e
      · cases e
end
end Mine
end
section
open PySem PySem.W PySem.Calls PyProof.Rows
set_option Elab.async false
set_option maxRecDepth 100000
namespace Mine
section
variable {G : GC} {k : Nat} {sc : Scope} {ns : List Str}
noncomputable def relabS (scope sc : Scope) : Scope :=
  { scope with names := scope.names.map fun (n, k) => if (k == .free && sc.kind == .function && sc.names.lookup n == some .cell) then (n, .cell) else (n, k) }
theorem relabel_eq {scope : Scope} {env : Env} (h : env.scope = sc) : relabel scope env = relabS scope sc := by subst h; rfl
/-- what a comprehension captures -/
noncomputable def Clos (sc scope : Scope) (cap : List Str) : Prop := ∀ env : Env, env.scope = sc → (∀ x, sc.names.lookup x = some .cell → ∃ c, env.cells.lookup x = some c) →
  ∃ cl, closureFor scope env = pure cl ∧ (∀ p ∈ cl, p ∈ env.cells) ∧ (∀ x, (cl.lookup x).isSome = true → x ∈ cap) ∧ ∀ x ∈ cap, cl.lookup x = env.cells.lookup x
theorem Clos_none {scope : Scope} (h : ∀ env, closureFor scope env = pure []) : Clos sc scope [] := fun env _ _ => ⟨[], h env, fun _ m => absurd m List.not_mem_nil, fun _ m => (by cases m), fun _ m => absurd m List.not_mem_nil⟩
theorem Clos_one {scope : Scope} {y : Str} (hy : sc.names.lookup y = some .cell) (h : ∀ env c, env.cells.lookup y = some c → closureFor scope env = pure [(y, c)]) : Clos sc scope [y] := fun env _ hc => by
  obtain ⟨c, hc⟩ := hc y hy
  refine ⟨[(y, c)], h env c hc, fun p m => ?_, fun x m => ?_, fun x m => ?_⟩
  · rw [List.mem_singleton.mp m]; exact lookup_mem hc
  · rw [List.lookup_cons] at m
    split at m
    · rename_i q; exact List.mem_singleton.mpr (eq_of_beq q)
    · cases m
  · rw [List.mem_singleton.mp m, hc]; simp [List.lookup_cons]
noncomputable def LoopOk (G : GC) (tn : Bool) (k : Nat) (sc' : Scope) (ns' : List Str) (e : Expr) (g : AV → Vals → M Vals) (t : Vals → M Bool) (fe : Vals → M AV) : Prop :=
  ∀ {cenv : Env} {s s' : Shared} {ρ1 ρ : Rho} {h1 : Heap} {a : AV} {I D : Addr} {i n : Nat} {σ σ' : Store} {vals : Vals} {acc res : List AD} {A : Around} {R : Result → Shared → Prop},
    (tn = false → ∀ m, a ≠ .rng m) → OkA k A → CompAt G sc' ns' cenv s ρ1 h1 a I D i ρ σ vals acc s' → h1.get? I = none → G.H0.get? I = none → h1.get? cenv.locals = none → h1.get? D = none →
    compLoop a g t fe n i vals acc σ = some (res, σ') → (∀ ρ' h tk, CompEnd G sc' ns' cenv ρ1 h1 D ρ' σ' res h → R (.ok .next) { s with heap := h, toks := tk }) →
    codeAny (model G.prog G.w) A (.compLoop e 0 (.ref I) (.ref D) cenv) R s'
theorem LoopOk_any {tn : Bool} {sc' : Scope} {ns' : List Str} {target iter elt : Expr} {ifs : List Expr} {scope : Scope} {pos : Pos} {g : AV → Vals → M Vals} {t : Vals → M Bool} {fe : Vals → M AV}
    (hg : SA G false k sc' ns' target g) (ht : SIf G k sc' ns' ifs t) (hf : SE G k sc' ns' elt fe) (hlet : ∀ I v, letOwnedTupleGo target (.ref I) v = pure ()) :
    LoopOk G tn k sc' ns' (.ListComp elt [⟨target, iter, ifs, 0⟩] scope pos) g t fe := fun _ o T hI I0 hC hD e hR => comp_loop hg ht hf o T hI I0 hC hD e (hlet _) hR
noncomputable def compIn (m : Nat) (cp : List Nat) (vals : Vals) : Vals := List.replicate m none ++ cp.map fun i => (vals[i]?).join
noncomputable def mComp (N : Nat) (tn : Bool) (m : Nat) (cp : List Nat) (f : Vals → M AV) (g : AV → Vals → M Vals) (t : Vals → M Bool) (fe : Vals → M AV) : Vals → M (List AD) :=
  fun vals => (f vals).bind fun a => (srcOk tn a).bind fun _ => compLoop a g t fe N 0 (compIn m cp vals) []
theorem dead {C : Addr} {H0 : Heap} {ρ : Rho} {σ : Store} {h : Heap} (S : RepS C H0 ρ σ h) {a : Addr} (e : h.get? a = none) : a ∉ ρ.all := fun m => by
  obtain ⟨o, q⟩ := S.live m
  rw [e] at q; cases q
theorem comp_frame {env : Env} {ρ : Rho} {σ : Store} {h : Heap} {vals : Vals} {scope : Scope} {ts cap : List Str} {cp : List Nat} {cl : List (Str × Addr)} {C : Addr} {qual : Str}
    (S : RepS G.C G.H0 ρ σ h) (F : Frm G sc ns env ρ h vals) (hk : scope.kind = .function) (hcp : cp.map (ns[·]?) = cap.map some) (hcap : ∀ x ∈ cap, sc.names.lookup x = some .cell ∧ (relabS scope sc).names.lookup x = some .cell)
    (hcapD : ∀ p ∈ (relabS scope sc).names, p.2 = .cell → p.1 ∈ cap)
    (c1 : ∀ p ∈ cl, p ∈ env.cells) (c2 : ∀ x, (cl.lookup x).isSome = true → x ∈ cap) (c3 : ∀ x ∈ cap, cl.lookup x = env.cells.lookup x) (hC : h.Ns C (fun x => ([] : List (Str × Value)).reverse.lookup x)) (nC : C ∉ ρ.locs) (C0 : G.H0.get? C = none) :
    Frm G (relabS scope sc) (ts ++ cap) { newEnv scope C env.globals cl qual none .none (some env) builtinsNs with scope := relabel scope env } ρ h (compIn ts.length cp vals) := by
  have hcl : ∀ x, x ∈ cap → ∀ c, cl.lookup x = some c → (x, c) ∈ env.cells := fun x hx c e => lookup_mem ((c3 x hx).symm.trans e)
  have hlen : cp.length = cap.length := by have := congrArg List.length hcp; simpa using this
  refine ⟨relabel_eq F.esc, hk, F.glob, F.blt, by simp [compIn, hlen], ⟨_, hC, fun i y av e1 e2 => ?_⟩, fun y c hm => F.cells y c (c1 _ hm), fun y z c ey ez => ?_, fun y ey => ?_, nC, C0⟩
  · unfold compIn at e2
    by_cases hi : i < ts.length
    · rw [List.getElem?_append_left (by simpa using hi)] at e2
      have := List.eq_of_mem_replicate (List.mem_of_getElem? e2)
      cases this
    · rw [List.getElem?_append_right (by simpa using Nat.le_of_not_lt hi)] at e2
      rw [List.getElem?_append_right (Nat.le_of_not_lt hi)] at e1
      rw [List.getElem?_map, List.length_replicate] at e2
      obtain ⟨j, hj, e3⟩ := Option.map_eq_some_iff.mp e2
      have e4 : vals[j]? = some (some av) := by
        cases q : vals[j]? with
        | none => rw [q] at e3; cases e3
        | some z => rw [q] at e3; exact congrArg some e3
      have e5 : ns[j]? = some y := by
        have := congrArg (·[i - ts.length]?) hcp
        simp only [List.getElem?_map, hj, e1, Option.map_some, Option.some.injEq] at this
        exact this
      have hy := List.mem_of_getElem? e1
      obtain ⟨m, _, hv⟩ := F.names
      obtain ⟨v, hvar, rv⟩ := hv j y av e5 e4
      refine ⟨v, .inr ⟨.inl ?_, ?_⟩, rv⟩
      · show (relabel scope env).names.lookup y = _
        rw [relabel_eq F.esc]; exact (hcap y hy).2
      · rcases hvar with ⟨kl, _⟩ | ⟨_, c, hc, hcell⟩
        · unfold Env.kindOf at kl
          rw [F.esc, (hcap y hy).1] at kl; cases kl
        · exact ⟨c, (c3 y hy).trans hc, hcell⟩
  · have hy := c2 y (by rw [show cl.lookup y = some c from ey]; rfl)
    have hz := c2 z (by rw [show cl.lookup z = some c from ez]; rfl)
    exact F.inj y z c ((c3 y hy).symm.trans ey) ((c3 z hz).symm.trans ez)
  · have hy := hcapD (y, .cell) (lookup_mem ey) rfl
    obtain ⟨c, hc⟩ := F.has y (hcap y hy).1
    exact ⟨c, (c3 y hy).trans hc⟩
/-- the state when the comprehension has ended, seen from outside -/
structure CompOut (G : GC) (ρ1 : Rho) (h1 : Heap) (D C : Addr) (ρ : Rho) (σ : Store) (zs : List AD) (h : Heap) : Prop where
  S : RepS G.C G.H0 ρ σ h
  X : Ext [] ρ1 h1 ρ h
  nD : D ∉ ρ.all
  acc : ∃ ys c, h.get? D = some (listOf ys.toArray c) ∧ RepDs ρ h ys zs
  ns : ∃ m, h.Ns C m
  nC : C ∉ ρ.all
  newC : h1.get? C = none
  newD : h1.get? D = none
  C0 : G.H0.get? C = none
  ne : D ≠ C
  adopt : RepS G.C G.H0 (ρ.add D) (σ ++ [.list zs]) h ∧ Ext [] ρ1 h1 (ρ.add D) h ∧ (ρ.add D).locs[σ.length]? = some D
theorem adopt_of {ρ1 ρ : Rho} {h1 h : Heap} {D : Addr} {σ : Store} {acc : List AD} (S : RepS G.C G.H0 ρ σ h) (X : Ext [] ρ1 h1 (ρ.show ρ1.hid) h) (hid : ρ.hid = D :: ρ1.hid) (nD : D ∉ ρ.locs) (hD : h1.get? D = none)
    (hl : ∃ ys c, h.get? D = some (listOf ys.toArray c) ∧ RepDs ρ h ys acc) :
    RepS G.C G.H0 ((ρ.show ρ1.hid).add D) (σ ++ [.list acc]) h ∧ Ext [] ρ1 h1 ((ρ.show ρ1.hid).add D) h ∧ ((ρ.show ρ1.hid).add D).locs[σ.length]? = some D := by
  have mem : ∀ a, a ∈ ((ρ.show ρ1.hid).add D).all → a ∈ ρ.all := fun a m => by
    rcases List.mem_append.mp m with m | m
    · exact List.mem_append_left _ (by rw [hid]; exact .tail _ m)
    · rcases List.mem_append.mp m with m | m
      · exact List.mem_append_right _ m
      · rw [List.mem_singleton.mp m]; exact List.mem_append_left _ (by rw [hid]; exact .head _)
  have X0 : Ext0 [] ρ h ((ρ.show ρ1.hid).add D) h := ⟨List.prefix_append _ _, fun a o e _ _ => e, fun a _ _ n m => n (mem a m)⟩
  have e2 : ((ρ.show ρ1.hid).add D).locs[σ.length]? = some D := by rw [← S.len]; simp [Rho.add, Rho.show]
  refine ⟨⟨S.stays, by simp [Rho.add, Rho.show, S.len], ?_, fun a m => S.fresh a (mem a m), fun a m => S.hidLive a (hid ▸ .tail _ m), fun l ob e => ?_⟩, ⟨?_, rfl, fun b o e n _ => X.keep b o e n (by simp), X.live, fun b m n => ?_⟩, e2⟩
  · refine List.nodup_append.mpr ⟨S.nodup, by simp, fun b m c mc e => ?_⟩
    rw [List.mem_singleton.mp mc] at e
    exact nD (e ▸ m)
  · by_cases hl' : l < σ.length
    · rw [List.getElem?_append_left hl'] at e
      obtain ⟨b, eb, rb⟩ := S.objs l ob e
      exact ⟨b, pre_get (List.prefix_append _ _) eb, rb.ext0 X0 (.nil h) fun o e => e⟩
    · have hl2 : l = σ.length := by
        have := (List.getElem?_eq_some_iff.mp e).1
        simp at this; omega
      subst hl2
      simp at e
      subst e
      obtain ⟨ys, c, q1, q2⟩ := hl
      exact ⟨D, e2, .list q1 (q2.ext0 X0 (.nil _))⟩
  · exact X.pre.trans (List.prefix_append _ _)
  · rcases List.mem_append.mp m with m | m
    · exact X.new b m n
    · rw [List.mem_singleton.mp m]; exact hD
theorem comp_any {A : Around} {env : Env} {s : Shared} {ρ : Rho} {σ σ' : Store} {vals : Vals} {e target iter elt : Expr} {ifs : List Expr} {scope : Scope} {pos pos' : Pos} {xs : List AD} {f : Vals → M AV} {g : AV → Vals → M Vals} {t : Vals → M Bool} {fe : Vals → M AV}
    {ts cap : List Str} {cp : List Nat} {N : Nat} {tn : Bool} {use : Option (Value → Sem Unit)} {Q : Value → Shared → Prop} {E : Value → Shared → Prop}
    (hf : SE G k sc ns iter f) (he : e = .ListComp elt [⟨target, iter, ifs, 0⟩] scope pos) (hl : LoopOk G tn k (relabS scope sc) (ts ++ cap) e g t fe)
    (hs : ∀ env x, foldedSetIterable iter env x = pure x) (hcl : Clos sc scope cap) (hk : scope.kind = .function) (hnames : ∀ x ∈ scope.names, x.2 = .local → scope.names.lookup x.1 = some .local) (hcell : ∀ x ∈ scope.names, x.2 ≠ .cell)
    (hcp : cp.map (ns[·]?) = cap.map some) (hcap : ∀ x ∈ cap, sc.names.lookup x = some .cell ∧ (relabS scope sc).names.lookup x = some .cell) (hcapD : ∀ p ∈ (relabS scope sc).names, p.2 = .cell → p.1 ∈ cap)
    (o : OkA k A) (S : RepS G.C G.H0 ρ σ s.heap) (F : Frm G sc ns env ρ s.heap vals) (ee : mComp N tn ts.length cp f g t fe vals σ = some (xs, σ'))
    (hQ : ∀ ρ1 h1 D C ρ' h tk, Ext [] ρ s.heap ρ1 h1 → CompOut G ρ1 h1 D C ρ' σ' xs h → compPost (model G.prog G.w) A E use Q (.ref D) C (.ok .next) { s with heap := h, toks := tk }) :
    wpAny (model G.prog G.w) A (comprehension e scope env pos' (newList []) false (eval iter env) use) Q E s := by
  subst he
  obtain ⟨a, σ1, e1, e2⟩ := M.bind_some ee
  obtain ⟨u, σ2, e3, e4⟩ := M.bind_some e2
  have e5 := e3
  obtain ⟨rfl, e6⟩ := M.opt_some e5
  obtain ⟨cl, hclo, c1, c2, c3⟩ := hcl env F.esc F.has
  have hsrc : tn = false → ∀ m, a ≠ .rng m := by
    rintro rfl m rfl
    dsimp only at e6
    rw [if_neg (by simp)] at e6
    cases e6
  refine wpAny_comprehension_free (use := use) rfl (hs env) hclo hk hnames (hf A env s ρ σ vals o S F _ _ e1 _ _ fun v1 ρ1 h1 t1 S1 X1 R1 => ?_)
  refine pyIter_at (s := { s with heap := h1, toks := t1 }) S1 R1 e3 fun ob it => wpAny_newObj_type (wpAny_newFunctionEnv hcell (fun y hy => nomatch hy) (fun h₁ hns₁ hsb₁ => ?_) hk)
  dsimp only at hns₁ hsb₁ it ⊢
  have hI : h1.get? h1.objs.size = none := new_none _
  have kI := KeepAll.push h1 ob
  generalize hH2 : h1.push ob = H2 at kI it hns₁ hsb₁ ⊢
  have hsz2 : H2.objs.size = h1.objs.size + 1 := by rw [← hH2, Heap.size_push]
  have hD2 : H2.get? H2.objs.size = none := new_none _
  have kD := KeepAll.push H2 (listOf #[] 0)
  have gD : (H2.push (listOf #[] 0)).get? H2.objs.size = some (listOf #[] 0) := Heap.get?_push_size _ rfl
  have hsb₁ : Heap.SameBut (H2.push (listOf #[] 0)).objs.size ((H2.push (listOf #[] 0)).push { cls := .type "dict", data := .dict #[] }) h₁ := hsb₁
  have hns₁ : h₁.Ns (H2.push (listOf #[] 0)).objs.size (fun x => ([] : List (Str × Value)).reverse.lookup x) := hns₁
  show codeAny _ _ (.compStart _ 0 _ (.ref H2.objs.size) { newEnv scope (H2.push (listOf #[] 0)).objs.size env.globals cl env.qual none .none (some env) builtinsNs with scope := relabel scope env }) _ { s with heap := h₁, toks := t1 + 0 }
  show codeAny _ _ _ (compPost _ _ _ use Q (.ref H2.objs.size) (H2.push (listOf #[] 0)).objs.size) { s with heap := h₁, toks := t1 + 0 }
  have hsz3 : (H2.push (listOf #[] 0)).objs.size = H2.objs.size + 1 := Heap.size_push _ _
  have hC3 : (H2.push (listOf #[] 0)).get? (H2.push (listOf #[] 0)).objs.size = none := new_none _
  generalize hH3 : H2.push (listOf #[] 0) = H3 at kD gD hns₁ hsb₁ hsz3 hC3 ⊢
  have kC : KeepAll H3 h₁ := fun b o e => (hsb₁.2 b fun z => by rw [z, hC3] at e; cases e).trans (KeepAll.push H3 _ b o e)
  have hC2 : H2.get? H3.objs.size = none := by
    cases q : H2.get? H3.objs.size with
    | none => rfl
    | some o => have := kD _ _ q; rw [hC3] at this; cases this
  have down : ∀ b, H2.get? b = none → h1.get? b = none := fun b e => by
    cases q : h1.get? b with
    | none => rfl
    | some o => have := kI _ _ q; rw [e] at this; cases this
  have kk : KeepAll h1 h₁ := (kI.trans kD).trans kC
  have hD1 := down _ hD2
  have hC1 := down _ hC2
  have hDC : H2.objs.size ≠ H3.objs.size := fun q => by rw [q, hC3] at gD; cases gD
  have hID : h1.objs.size ≠ H2.objs.size := by omega
  have eD : h₁.get? H2.objs.size = some (listOf #[] 0) := kC _ _ gD
  have S4 := S1.hide hD1 kk ⟨_, eD⟩
  have I0 := fresh_of S1 hI
  have T0 : CompAt G (relabS scope sc) (ts ++ cap) { newEnv scope H3.objs.size env.globals cl env.qual none .none (some env) builtinsNs with scope := relabel scope env } { s with heap := h₁, toks := t1 + 0 } ρ1 h1 a h1.objs.size H2.objs.size 0
      (ρ1.hide H2.objs.size) σ2 (compIn ts.length cp vals) [] { s with heap := h₁, toks := t1 + 0 } := by
    refine ⟨⟨_, _, rfl⟩, S4, ?_, KeepAll.ext kk [] ρ1, rfl, fun m => Rho.locs_all (dead S1 hD1) m, ?_, ?_, [], 0, eD, .nil⟩
    · exact comp_frame S4 ((F.ext X1).ext0 (hide_ext0 hD1 kk) rfl fun _ _ e _ => kk _ _ e) hk hcp hcap hcapD c1 c2 c3 hns₁ (fun m => Rho.locs_all (dead S1 hC1) m) (fresh_of S1 hC1)
    · cases it with
      | rng t => exact .rng (kC _ _ (kD _ _ t))
      | seq hn t r => obtain ⟨o', e', q⟩ := t; exact .seq hn ⟨o', kC _ _ (kD _ _ e'), q⟩ (r.ext0 (hide_ext0 hD2 (kD.trans kC)) (.nil _))
    · intro m
      rcases List.mem_append.mp m with m | m
      · rcases List.mem_cons.mp m with m | m
        · exact hID m
        · exact dead S1 hI (List.mem_append_left _ m)
      · exact dead S1 hI (List.mem_append_right _ m)
  have go : codeAny (model G.prog G.w) A (.compLoop (.ListComp elt [⟨target, iter, ifs, 0⟩] scope pos) 0 (.ref h1.objs.size) (.ref H2.objs.size) { newEnv scope H3.objs.size env.globals cl env.qual none .none (some env) builtinsNs with scope := relabel scope env })
      (compPost (model G.prog G.w) A E use Q (.ref H2.objs.size) H3.objs.size) { s with heap := h₁, toks := t1 + 0 } := by
    refine hl hsrc o T0 hI I0 hC1 hD1 e4 fun ρ' h tk H => ?_
    refine hQ ρ1 h1 H2.objs.size H3.objs.size (ρ'.show ρ1.hid) h tk X1 ?_
    obtain ⟨vals', F'⟩ := H.F
    have nC' : H3.objs.size ∉ (ρ'.show ρ1.hid).all := fun m => by
      rcases List.mem_append.mp m with m | m
      · exact dead S1 hC1 (List.mem_append_left _ m)
      · exact F'.Lρ m
    have nD' : H2.objs.size ∉ (ρ'.show ρ1.hid).all := fun m => by
      rcases List.mem_append.mp m with m | m
      · exact dead S1 hD1 (List.mem_append_left _ m)
      · exact H.nD m
    obtain ⟨ys, c, q1, q2⟩ := H.acc
    obtain ⟨m, hm, _⟩ := F'.names
    exact ⟨H.S.show H.hid, H.X, nD', ⟨ys, c, q1, q2.ext0 (show_ext0 H.hid) (.nil _)⟩, ⟨m, hm⟩, nC', hC1, hD1, fresh_of S1 hC1, hDC, adopt_of H.S H.X H.hid H.nD hD1 H.acc⟩
  refine codeAny_compStart_list go ?_
  cases T0.it with
  | rng t => exact wpAny_pyIter_rangeiter (s := { s with heap := h₁, toks := t1 + 0 }) t go
  | seq hn t r => exact wpAny_pyIter_listiter (s := { s with heap := h₁, toks := t1 + 0 }) t go
/-- when the names let go -/
theorem CompOut.away {ρ1 ρ : Rho} {h1 h h' : Heap} {D C : Addr} {σ : Store} {acc : List AD} (H : CompOut G ρ1 h1 D C ρ σ acc h) (hs : Heap.SameBut C h h') :
    RepS G.C G.H0 ρ σ h' ∧ Ext [] ρ1 h1 ρ h' ∧ ∃ ys c, h'.get? D = some (listOf ys.toArray c) ∧ RepDs ρ h' ys acc := by
  obtain ⟨m, o, es, ep, hC, hd, _⟩ := H.ns
  have ok : XOk [C] h := fun a ma o' e => by
    rw [List.mem_singleton.mp ma, hC] at e; cases e
    exact ⟨fun vs n q => (by rw [hd] at q; cases q), fun q => (by rw [hd] at q; cases q), fun n t u v q => (by rw [q] at hd; cases hd)⟩
  have X0 : Ext0 [C] ρ h ρ h' := ⟨List.prefix_refl _, fun b ob e _ nb => (hs.2 b (fun z => nb (z ▸ .head _))).trans e, fun _ _ _ n => n⟩
  obtain ⟨ys, c, q1, q2⟩ := H.acc
  exact ⟨H.S.but hs.extBut H.nC H.C0 ok, H.X.drop H.newC hs.extBut, ys, c, (hs.2 D H.ne).trans q1, q2.ext0 X0 ok⟩
noncomputable def cComp (N : Nat) (tn : Bool) (m : Nat) (cp : List Nat) (f : Vals → M AV) (g : AV → Vals → M Vals) (t : Vals → M Bool) (fe : Vals → M AV) : Vals → M AV :=
  fun vals => (mComp N tn m cp f g t fe vals).bind fun xs => M.ret (.d (.lst xs))
theorem SE_comp {target iter elt : Expr} {ifs : List Expr} {scope : Scope} {pos : Pos} {f : Vals → M AV} {g : AV → Vals → M Vals} {t : Vals → M Bool} {fe : Vals → M AV}
    {ts cap : List Str} {cp : List Nat} {N : Nat} {tn : Bool}
    (hf : SE G k sc ns iter f) (hl : LoopOk G tn k (relabS scope sc) (ts ++ cap) (.ListComp elt [⟨target, iter, ifs, 0⟩] scope pos) g t fe)
    (hs : ∀ env x, foldedSetIterable iter env x = pure x) (hcl : Clos sc scope cap) (hk : scope.kind = .function) (hnames : ∀ x ∈ scope.names, x.2 = .local → scope.names.lookup x.1 = some .local) (hcell : ∀ x ∈ scope.names, x.2 ≠ .cell)
    (hcp : cp.map (ns[·]?) = cap.map some) (hcap : ∀ x ∈ cap, sc.names.lookup x = some .cell ∧ (relabS scope sc).names.lookup x = some .cell) (hcapD : ∀ p ∈ (relabS scope sc).names, p.2 = .cell → p.1 ∈ cap) :
    SE G k sc ns (.ListComp elt [⟨target, iter, ifs, 0⟩] scope pos) (cComp N tn ts.length cp f g t fe) := by
  intro A env s ρ σ vals o S F av σ' e Q E hQ
  obtain ⟨xs, σ1, e1, e2⟩ := M.bind_some e
  obtain ⟨rfl, rfl⟩ := ret_some e2
  rw [eval_ListComp]
  refine comp_any (use := none) hf rfl hl hs hcl hk hnames hcell hcp hcap hcapD o S F e1 fun ρ1 h1 D C ρ' h tk X H => ?_
  obtain ⟨m, hm⟩ := H.ns
  refine ⟨m, hm, fun h' hs' => ?_⟩
  obtain ⟨S', X', ys, c, q1, q2⟩ := H.away hs'
  exact hQ _ ρ' h' tk S' (X.trans X') (.d (.lst q1 H.nD q2))
theorem away {ρ : Rho} {h h' : Heap} {C : Addr} {σ : Store} (S : RepS G.C G.H0 ρ σ h) (hns : ∃ m, h.Ns C m) (nC : C ∉ ρ.all) (C0 : G.H0.get? C = none) (hs : Heap.SameBut C h h') : RepS G.C G.H0 ρ σ h' ∧ XOk [C] h := by
  obtain ⟨m, o, es, ep, hC, hd, _⟩ := hns
  have ok : XOk [C] h := fun a ma o' e => by
    rw [List.mem_singleton.mp ma, hC] at e; cases e
    exact ⟨fun vs n q => (by rw [hd] at q; cases q), fun q => (by rw [hd] at q; cases q), fun n t u v q => (by rw [q] at hd; cases hd)⟩
  exact ⟨S.but hs.extBut nC C0 ok, ok⟩
/-- the comprehension's list is bound while its names stand -/
theorem comp_store {i : Nat} {y : Str} {py : Pos} {env : Env} {A : Around} {s : Shared} {ρ ρ1 ρ2 : Rho} {h0 h1 h : Heap} {tk : Nat} {C D : Addr} {σ2 : Store} {vals : Vals} {av : AV} {Q : Value → Shared → Prop} {E : Value → Shared → Prop}
    (hi : ns[i]? = some y) (nd : ns.Nodup) (hy : sc.names.lookup y = some .local)
    (S2 : RepS G.C G.H0 ρ2 σ2 h) (F : Frm G sc ns env ρ h0 vals) (X : Ext [] ρ h0 ρ1 h1) (X2 : Ext [] ρ1 h1 ρ2 h) (R : RepV G.C ρ2 h (.ref D) av) (hns : ∃ m, h.Ns C m) (nC : C ∉ ρ2.all) (C0 : G.H0.get? C = none) (newC : h1.get? C = none)
    (hQ : ∀ h' tk, RepS G.C G.H0 ρ2 σ2 h' → Ext (frX env) ρ h0 ρ2 h' → Frm G sc ns env ρ2 h' (vals.set i (some av)) → Q .none { s with heap := h', toks := tk }) :
    compPost (model G.prog G.w) A E (some (assign (.Name y py) env)) Q (.ref D) C (.ok .next) { s with heap := h, toks := tk } := by
  have F1 := F.ext X
  have F2 := F1.ext X2
  have CX : C ∉ frX env := fun m => by
    rcases List.mem_cons.mp m with m | m
    · obtain ⟨_, ⟨o, _, _, e, _⟩, _⟩ := F1.names
      rw [← m, newC] at e; cases e
    · obtain ⟨⟨x, c⟩, hm, rfl⟩ := List.mem_map.mp m
      obtain ⟨⟨ov, o, e, _⟩, _⟩ := F1.cells x c hm
      have newC : h1.get? c = none := newC
      rw [newC] at e; cases e
  show wpAny _ A (assign (.Name y py) env (.ref D)) _ _ _
  refine wpAny_assign_Name (store_name (s := { s with heap := h, toks := tk }) (tb := true) hi nd (.inl hy) S2 F2 R fun h' tk' S' X' F' => ?_)
  obtain ⟨m, o, es, ep, hC, hd, hr⟩ := hns
  have hns' : h'.Ns C m := ⟨o, es, ep, X'.keep C o hC (Rho.locs_all nC) CX, hd, hr⟩
  refine ⟨m, hns', fun h'' hs'' => ?_⟩
  obtain ⟨S'', ok⟩ := away S' ⟨m, hns'⟩ nC C0 hs''
  refine hQ h'' tk' S'' ?_ (F'.but hs''.extBut ok CX)
  exact (X.ofNil.trans (X2.ofNil.trans X')).drop (by
    cases q : h0.get? C with
    | none => rfl
    | some o =>
      obtain ⟨o', e'⟩ := X.live C o q
      rw [newC] at e'; cases e') hs''.extBut
noncomputable def xCompA (c : Vals → M (List AD)) (i : Nat) : XM := fun vals => (c vals).bind fun xs => M.ret (.next, vals.set i (some (.d (.lst xs))))
noncomputable def xCompM (c : Vals → M (List AD)) (i : Nat) : XM := fun vals => (c vals).bind fun xs => fun σ => some ((.next, vals.set i (some (.loc σ.length))), σ ++ [.list xs])
section
variable {target iter elt : Expr} {ifs : List Expr} {scope : Scope} {pos spos py : Pos} {f : Vals → M AV} {g : AV → Vals → M Vals} {t : Vals → M Bool} {fe : Vals → M AV} {ts cap : List Str} {cp : List Nat} {N i : Nat} {tn : Bool} {y : Str}
theorem SX_compA
    (hf : SE G k sc ns iter f) (hl : LoopOk G tn k (relabS scope sc) (ts ++ cap) (.ListComp elt [⟨target, iter, ifs, 0⟩] scope pos) g t fe)
    (hs : ∀ env x, foldedSetIterable iter env x = pure x) (hcl : Clos sc scope cap) (hk : scope.kind = .function) (hnames : ∀ x ∈ scope.names, x.2 = .local → scope.names.lookup x.1 = some .local) (hcell : ∀ x ∈ scope.names, x.2 ≠ .cell)
    (hcp : cp.map (ns[·]?) = cap.map some) (hcap : ∀ x ∈ cap, sc.names.lookup x = some .cell ∧ (relabS scope sc).names.lookup x = some .cell) (hcapD : ∀ p ∈ (relabS scope sc).names, p.2 = .cell → p.1 ∈ cap)
    (hi : ns[i]? = some y) (nd : ns.Nodup) (hy : sc.names.lookup y = some .local) (hsw : ∀ env : Env, env.scope = sc → swapsWith (.ListComp elt [⟨target, iter, ifs, 0⟩] scope pos) (some (.Name y py)) spos.line env = pure true) :
    SX G k sc ns (.Assign [.Name y py] (.ListComp elt [⟨target, iter, ifs, 0⟩] scope pos) spos) (xCompA (mComp N tn ts.length cp f g t fe) i) := by
  intro A env s ρ σ vals o S F fl vals' σ' e Q E hQ
  obtain ⟨xs, σ1, e1, e2⟩ := M.bind_some e
  obtain ⟨e3, rfl⟩ := ret_some e2
  cases e3
  rw [exec_Assign_Name_used _ _ _ _ (hsw env F.esc)]
  refine wpAny_bind (wpAny_standAt (wpAny_bind ?_))
  show wpAny _ A (do let _ ← comprehension (.ListComp elt [⟨target, iter, ifs, 0⟩] scope pos) scope env _ (newList []) false (eval iter env) (some (assign (.Name y py) env))) _ _ s
  refine wpAny_bind (wpAny_mono (comp_any (use := some (assign (.Name y py) env)) (Q := fun _ s' => Q .next s') hf rfl hl hs hcl hk hnames hcell hcp hcap hcapD o S F e1 fun ρ1 h1 D C ρ' h tk X H => ?_) (fun _ s' hq => wpAny_pure (wpAny_pure hq)) fun _ _ e => e)
  obtain ⟨ys, c, q1, q2⟩ := H.acc
  exact comp_store hi nd hy H.S F X H.X (.d (.lst q1 H.nD q2)) H.ns H.nC H.C0 H.newC fun h' tk' S' X' F' => hQ _ _ _ _ S' X' F' .next
end
end
end Mine
end
section
open PySem PySem.W PySem.Calls PyProof.Rows
set_option Elab.async false
set_option maxRecDepth 100000
namespace Mine
theorem rw_K {G : GC} {K : Frag} (hK : G.K = K) {α : Type} {f : Frag → α} {r : α} (e : f K = r) : f G.K = r := by rw [hK]; exact e
noncomputable def cNeg (f : Vals → M AV) : Vals → M AV := fun vals => (f vals).bind fun a => M.opt fun _ => match a with | .d (.int i) => some (.d (.int (-i))) | _ => none
noncomputable def fnBody : List Stmt → Str → List Stmt
  | [], _ => []
  | .FunctionDef name _ body _ _ _ _ _ _ _ :: r, n => if name == n then body else fnBody r n
  | _ :: r, n => fnBody r n
noncomputable def fnScope : List Stmt → Str → Scope
  | [], _ => { kind := .function, names := [], isGenerator := false, isCoroutine := false }
  | .FunctionDef name _ _ _ _ _ scope _ _ _ :: r, n => if name == n then scope else fnScope r n
  | _ :: r, n => fnScope r n
theorem cellOf_eq {env : Env} {y : Str} {c : Addr} (h : env.cells.lookup y = some c) : cellOf env y = pure c := by unfold cellOf; rw [h]
noncomputable def cfGo (env : Env) : List (Str × NameKind) → List (Str × Addr) → Sem (List (Str × Addr))
  | [], cs => pure cs
  | x :: r, cs => (if x.2 == .free then cellOf env x.1 >>= fun c => pure ((x.1, c) :: cs) else pure cs) >>= fun cs => cfGo env r cs
theorem cf_go (scope : Scope) (env : Env) : closureFor scope env = cfGo env scope.names [] := by
  unfold closureFor
  simp only [bind_pure]
  generalize scope.names = l
  generalize ([] : List (Str × Addr)) = cs
  induction l generalizing cs with
  | nil => rfl
  | cons x r ih =>
    rw [List.forIn_cons]
    unfold cfGo
    obtain ⟨n, k⟩ := x
    dsimp only
    by_cases q : (k == NameKind.free) = true
    · simp only [q, if_true, bind_assoc, pure_bind, ih]
    · simp only [q, ih]; rfl
theorem cf_free (env : Env) : ∀ (l : List (Str × NameKind)) (cs : List (Str × Addr)), cfGo env l cs = cfGo env (l.filter fun x => x.2 == .free) cs
  | [], _ => rfl
  | x :: r, cs => by
    by_cases q : (x.2 == NameKind.free) = true
    · rw [List.filter_cons, if_pos q]
      unfold cfGo
      rw [if_pos q]
      congr 1
      funext cs
      exact cf_free env r cs
    · rw [List.filter_cons, if_neg q, ← cf_free env r cs]
      conv => lhs; unfold cfGo
      rw [if_neg q]; rfl
theorem clos_one {scope : Scope} {env : Env} {y : Str} {c : Addr} (h : env.cells.lookup y = some c) (hn : (scope.names.filter fun x => x.2 == .free) = [(y, .free)]) : closureFor scope env = pure [(y, c)] := by
  rw [cf_go, cf_free, hn]
  show ((cellOf env y >>= fun c => pure [(y, c)]) >>= fun cs => cfGo env [] cs) = _
  rw [cellOf_eq h]; rfl
theorem len0 {α : Type} {vs : List α} (h : vs.length = 0) : vs = [] := List.length_eq_zero_iff.mp h
theorem len1 {α : Type} {vs : List α} (h : vs.length = 1) : ∃ a, vs = [a] := List.length_eq_one_iff.mp h
theorem len2 {α : Type} {vs : List α} (h : vs.length = 2) : ∃ a0 a1, vs = [a0, a1] := by
  cases vs with
  | nil => cases h
  | cons a r =>
    obtain ⟨a1, q⟩ := len1 (Nat.succ.inj h)
    exact ⟨a, a1, by rw [q]⟩
theorem len3 {α : Type} {vs : List α} (h : vs.length = 3) : ∃ a0 a1 a2, vs = [a0, a1, a2] := by
  cases vs with
  | nil => cases h
  | cons a r =>
    obtain ⟨a1, a2, q⟩ := len2 (Nat.succ.inj h)
    exact ⟨a, a1, a2, by rw [q]⟩
theorem len4 {α : Type} {vs : List α} (h : vs.length = 4) : ∃ a0 a1 a2 a3, vs = [a0, a1, a2, a3] := by
  cases vs with
  | nil => cases h
  | cons a r =>
    obtain ⟨a1, a2, a3, q⟩ := len3 (Nat.succ.inj h)
    exact ⟨a, a1, a2, a3, by rw [q]⟩
end Mine
end
section
open PySem PySem.W PySem.Calls PyProof.Rows
set_option Elab.async false
set_option maxRecDepth 100000
namespace Mine
/-! ### the same rules, their side conditions checked by computation -/
noncomputable def plainE : Expr → Bool
  | .Starred _ _ => false
  | _ => true
noncomputable def plains : List Expr → Bool
  | [] => true
  | e :: es => plainE e && plains es
theorem star_plain {e : Expr} {es : List Expr} {env : Env} (h : plainE e = true) : starEach (e :: es) env = (false, eval e env) :: starEach es env := by
  cases e <;> first | rfl | cases h
theorem star_any {pos : Pos} {env : Env} : ∀ {es : List Expr}, plains es = true → (backTo pos (starEach es env)).any (·.1) = false
  | [], _ => rfl
  | e :: es, h => by
    rw [plains, Bool.and_eq_true] at h
    have := star_any (pos := pos) (env := env) h.2
    rw [star_plain h.1]
    unfold backTo at this ⊢
    rw [List.map_cons, List.any_cons, this]
    rfl
noncomputable def noSuper : Expr → Bool
  | .Call (.Name _ _) [] [] _ => false
  | _ => true
theorem base_plain {o : Expr} {attr : Str} {env : Env} {w : Sem Value} (h : noSuper o = true) : attributeBase o attr env w = w := by
  cases o with
  | Call f as ks pos =>
    cases f with
    | Name x q =>
      cases as with
      | nil =>
        cases ks with
        | nil => cases h
        | cons _ _ => rfl
      | cons _ _ => rfl
    | _ => rfl
  | _ => rfl
section
variable {G : GC} {k : Nat} {sc : Scope} {ns : List Str}
theorem SE_attr2 {value : Expr} {attr : Str} {pos : Pos} {f : Vals → M AV} {i : Nat} (hf : SE G k sc ns value f) (hi : fldTab[i]? = some attr) (hs : noSuper value = true) : SE G k sc ns (.Attribute value attr pos) (cAttr f i) :=
  SE_attr hf hi fun env => by
    show (attributeBase value attr env (eval value env) >>= _) = _
    rw [base_plain hs]
theorem SE_call2 {j : Nat} {x : Str} {fv : Value} {p pos : Pos} {es : List Expr} {f : List AV → M AV} {g : Vals → M (List AV)} (hf : SF G j fv f) (hj : j ≤ k) (hg : SEs G k sc ns es g)
    (hn : NameIs G x fv) (hk : keepsAny G.K fv = true) (hx : sc.names.lookup x = some .globalImplicit) (hd : (x == ("__debug__" : Str)) = false)
    (hst : plains es = true) : SE G k sc ns (.Call (.Name x p) es [] pos) (cCall f g) := SE_call hf hj hg hn hk hx hd fun _ => star_any hst
theorem meth_eval {ob : Expr} {x : Str} {apos pos : Pos} {es : List Expr} {env : Env} (h1 : plains es = true) (h2 : Nat.blt es.length 30 = true) (h3 : noSuper ob = true) (h4 : (apos.endLine == pos.line) = true) :
    ∃ pl, eval (.Call (.Attribute ob x apos) es [] pos) env = (do
      let ov ← eval ob env
      standAt apos.atName
      let (f, first) ← holding [ov] (getMethod ov x pl)
      callWith pos f first (backTo pos (starEach es env)) []) := by
  refine ⟨do return (← importBound ob env).getD true, ?_⟩
  have hall : (backTo pos (starEach es env)).all (!·.1) = true := by
    have := star_any (pos := pos) (env := env) h1
    rw [List.all_eq_true]
    intro p hp
    rw [List.any_eq_false] at this
    have := this p hp
    simpa using this
  have form : methodCallForm (es.length + 0) (backTo pos (starEach es env)) (backToKw pos (keywordEach [] env)) = true := by
    unfold methodCallForm
    rw [hall]
    show (true && true && decide (es.length + 0 + 0 < 30)) = true
    have : es.length < 30 := Nat.le_of_ble_eq_true h2
    simpa using this
  show (attributeBase ob x env (eval ob env) >>= fun ov => standAt apos.atName >>= fun _ => methodCall ob x apos pos env ov (es.length + 0) (backTo pos (starEach es env)) (backToKw pos (keywordEach [] env))) = _
  rw [base_plain h3]
  congr 1
  funext ov
  congr 1
  funext _
  unfold methodCall methodCallPos calleeOf
  rw [form, h4]
  rfl
theorem SE_meth2 {j : Nat} {x : Str} {fa : Addr} {ob : Expr} {apos pos : Pos} {es : List Expr} {fo : Vals → M AV} {f : List AV → M AV} {g : Vals → M (List AV)} (hf : SF G j (.ref fa) f) (hj : j ≤ k) (ho : SE G k sc ns ob fo) (hg : SEs G k sc ns es g)
    (hm : findIn G.K (.ref G.C) x = some (some (.ref fa))) (ht : isFn G.K (.ref fa) = true) (hx : x ∉ fldTab) (hk : keepIn G.K (.ref fa) = true)
    (h1 : plains es = true) (h2 : Nat.blt es.length 30 = true) (h3 : noSuper ob = true) (h4 : (apos.endLine == pos.line) = true) : SE G k sc ns (.Call (.Attribute ob x apos) es [] pos) (cMeth fo f g) :=
  SE_meth hf hj ho hg hm ht hx hk (fun _ => star_any h1) fun _ => meth_eval h1 h2 h3 h4
theorem SE_lmeth2 {x : Str} {id : String} {ob e : Expr} {apos pos : Pos} {fo g : Vals → M AV} {m : AV → AV → M AV} (hm : SL G k id m) (ho : SE G k sc ns ob fo) (hg : SE G k sc ns e g)
    (slot : Slot "list" x id) (hty : typeOf (.builtin id) = pure (.type "method_descriptor")) (h1 : plainE e = true) (h3 : noSuper ob = true) (h4 : (apos.endLine == pos.line) = true) : SE G k sc ns (.Call (.Attribute ob x apos) [e] [] pos) (cLM m fo g) :=
  SE_lmeth hm ho hg slot hty (fun env => by rw [star_plain h1]; rfl) fun _ => meth_eval (by rw [plains, h1]; rfl) rfl h3 h4
theorem SEs_cons2 {e : Expr} {es : List Expr} {f : Vals → M AV} {g : Vals → M (List AV)} (hf : SE G k sc ns e f) (hg : SEs G k sc ns es g) (he : plainE e = true) : SEs G k sc ns (e :: es) (cCons f g) := SEs_cons hf hg fun _ => star_plain he
end
end Mine
end
section
open PySem PySem.W PySem.Calls PyProof.Rows
set_option Elab.async false
set_option maxRecDepth 100000
namespace Mine
/-! ### from the claim to the law's own frame -/
theorem ofPys_ints : ∀ {vs : List Value} {ns : List Int} {P : Params} {h : Heap} {ρ : Rho}, WellAll P h vs (ofPys (ns.map PyData.int)) → RepDs ρ h vs (ns.map AD.int)
  | _, [], _, _, _, w => by cases w; exact .nil
  | _, n :: ns, _, _, _, w => by
    rw [List.map_cons, ofPys, ofPy] at w
    cases w with
    | cons a r => cases a; exact .cons (.int _ _) (ofPys_ints r)
theorem script_rep {P : Params} {h : Heap} {v : Value} {ns : List Int} (w : Well P h v (ofPy (PyData.list (ns.map PyData.int)))) : RepD ⟨[], []⟩ h v (.lst (ns.map AD.int)) := by
  rw [ofPy] at w
  cases w with
  | list e r => exact .lst (n := 0) e (fun m => (nomatch m)) (ofPys_ints r)
theorem fld6 {K : Frag} {C : Addr} {x : Str} (m : x ∈ fldTab) (h0 : findIn K (.ref C) "room" = some none) (h1 : findIn K (.ref C) "buffer" = some none) (h2 : findIn K (.ref C) "senders" = some none) (h3 : findIn K (.ref C) "receivers" = some none) (h4 : findIn K (.ref C) "closed" = some none) :
    findIn K (.ref C) x = some none := by
  unfold fldTab at m
  simp only [List.mem_cons, List.not_mem_nil, or_false] at m
  rcases m with rfl | rfl | rfl | rfl | rfl <;> assumption
theorem law_enterC {prog p : Program} {loose : List Str} {mean : ExcName → Option Value} {mg mb : Str → Option Value} {w : World} {s₁ : Shared} {K : Frag} {C : Addr} {h₁ : Heap} {a fa : Addr} {P : Params} {ns : List Int} {x name n1 n2 : Str} {others : List Str}
    {scope : Scope} {body : List Stmt} {f : XM} {cdv : Value} {k t : Nat} {Q : Flow → Shared → Prop} {E : Value → Shared → Prop} {vals' : Vals} {σ' : Store} {m : Str → Option Value} {o1 o2 : Obj} {v1 v2 : Option Value}
    (T : Top p loose mean mg mb s₁.heap) (KX : K.In s₁.heap) (h1 : hasDictIn K C = true) (h2 : plainGet K C Str.empty = true) (h3 : plainOver K C = true) (h4 : findIn K (.ref C) "__setattr__" = some (some (.builtin "object.__setattr__")))
    (h5 : makesIn K C = true) (h6 : ∀ x ∈ fldTab, findIn K (.ref C) x = some none)
    (hx : ∀ G : GC, G.K = K → G.C = C → SXs G k scope (x :: others) body f) (hk : Nat.ble k 100 = true) (hkind : scope.kind = .function) (hloc : scope.names.lookup x = some .local)
    (hcells : ∀ L, cellsFrom (L + 1) scope.names [] = [(n2, L + 1 + 1), (n1, L + 1)]) (hne : n2 ≠ n1) (hcell : ∀ q ∈ scope.names, q.2 = .cell → q.1 = n1 ∨ q.1 = n2)
    (W : Well P s₁.heap (.ref a) (ofPy (PyData.list (ns.map PyData.int)))) (F : Fr s₁.heap s₁.heap.objs.size h₁ m) (hm : m x = some (.ref a)) (N : News s₁.heap s₁.heap.objs.size h₁ [(s₁.heap.objs.size + 1 + 1, o2), (s₁.heap.objs.size + 1, o1)]) (d1 : o1.data = .cell v1) (d2 : o2.data = .cell v2)
    (hf : f (some (.d (.lst (ns.map .int))) :: List.replicate others.length none) [] = some ((.ret (.d (.bool true)), vals'), σ'))
    (hQ : ∀ h tk, KeepAll s₁.heap h → Q (.ret (.bool true)) { s₁ with heap := h, toks := tk }) :
    wpAny (model prog w) (callerA.deeper (envOfC name scope s₁.heap.objs.size fa cdv)) (execs body (envOfC name scope s₁.heap.objs.size fa cdv)) Q E { s₁ with heap := h₁, toks := t } := by
  have hk := Nat.le_of_ble_eq_true hk
  let G : GC := ⟨prog, w, s₁.heap, K, C, mg, mb, p, loose, KX, topRead_of T, h1, h2, h3, h4, h5, h6⟩
  have hk₀ : KeepAll s₁.heap h₁ := F.keep
  have S : RepS G.C G.H0 ⟨[], []⟩ [] h₁ := ⟨hk₀, rfl, List.nodup_nil, fun _ m => (nomatch m), fun _ m => (nomatch m), fun l o e => (by cases e)⟩
  have X : Ext [] ⟨[], []⟩ s₁.heap ⟨[], []⟩ h₁ := hk₀.ext _ _
  have ec : (envOfC name scope s₁.heap.objs.size fa cdv).cells = [(n2, s₁.heap.objs.size + 1 + 1), (n1, s₁.heap.objs.size + 1)] := hcells _
  have F1 : Frm G scope (x :: others) (envOfC name scope s₁.heap.objs.size fa cdv) ⟨[], []⟩ h₁ (some (.d (.lst (ns.map .int))) :: List.replicate others.length none) := by
    refine ⟨rfl, hkind, rfl, rfl, by simp, ⟨_, F.ns, fun i y av hy hv => ?_⟩, fun y c hm => ?_, fun y z c hy hz => ?_, fun y hy => ?_, fun m => (nomatch m), new_none _⟩
    · cases i with
      | zero =>
        cases hy; cases hv
        exact ⟨.ref a, .inl ⟨hloc, hm⟩, .d ((script_rep W).ext X (.nil _))⟩
      | succ i =>
        have := List.eq_of_mem_replicate (List.mem_of_getElem? (show (List.replicate others.length (none : Option AV))[i]? = some (some av) from hv))
        cases this
    · rw [ec] at hm
      simp only [List.mem_cons, Prod.mk.injEq, List.not_mem_nil, or_false] at hm
      rcases hm with ⟨rfl, rfl⟩ | ⟨rfl, rfl⟩
      · obtain ⟨q1, q2, q3⟩ := N (_, o2) (.head _)
        exact ⟨⟨v2, o2, q1, d2⟩, fun m => (nomatch m), q3⟩
      · obtain ⟨q1, q2, q3⟩ := N (_, o1) (.tail _ (.head _))
        exact ⟨⟨v1, o1, q1, d1⟩, fun m => (nomatch m), q3⟩
    · rw [ec] at hy hz
      have hy := lookup_mem hy
      have hz := lookup_mem hz
      simp only [List.mem_cons, Prod.mk.injEq, List.not_mem_nil, or_false] at hy hz
      rcases hy with ⟨rfl, rfl⟩ | ⟨rfl, rfl⟩ <;> rcases hz with ⟨rfl, e⟩ | ⟨rfl, e⟩
      · rfl
      · exact absurd (show (s₁.heap.objs.size + 1 + 1 : Nat) = s₁.heap.objs.size + 1 from e) (by omega)
      · exact absurd (show (s₁.heap.objs.size + 1 : Nat) = s₁.heap.objs.size + 1 + 1 from e) (by omega)
      · rfl
    · rw [ec]
      rcases hcell _ (lookup_mem hy) rfl with e | e
      · have e : y = n1 := e
        subst e
        have : (y == n2) = false := beq_eq_false_iff_ne.mpr hne.symm
        exact ⟨_, by rw [List.lookup_cons, this, List.lookup_cons, beq_self_eq_true]⟩
      · have e : y = n2 := e
        subst e
        exact ⟨_, by rw [List.lookup_cons, beq_self_eq_true]⟩
  have od : (callerA.deeper (envOfC name scope s₁.heap.objs.size fa cdv)).depth = 1 + claimMargin + 1 := rfl
  have ou : (callerA.deeper (envOfC name scope s₁.heap.objs.size fa cdv)).units = 4 + 3 := rfl
  have cm : claimMargin = 300 := rfl
  refine hx G rfl rfl (callerA.deeper (envOfC name scope s₁.heap.objs.size fa cdv)) _ { s₁ with heap := h₁, toks := t } _ _ _ ⟨rfl, by rw [od]; omega, by rw [ou]; omega⟩ S F1 _ _ _ hf _ _ fun fl ρ2 h2 t2 S2 X2 F2 R2 => ?_
  cases R2; rename_i R2; cases R2; rename_i R2; cases R2
  exact hQ h2 t2 S2.stays
theorem good_true {c : ClaimW} {cl : Str → Option Addr} {mean : ExcName → Option Value} {args : List WData} {s₁ : Shared} {h : Heap} {tk : Nat} (hr : ∀ cls, c.raises args cls = false) (hp : c.post args (.bool true) args = true) (hg : s₁.gens = #[]) (hk : KeepAll s₁.heap h) :
    GoodW c cl mean args s₁ (.ok (.ret (.bool true))) { s₁ with heap := h, toks := tk } :=
  ⟨.inl ⟨.bool true, .bool true, [], rfl, hr, .bool true, hp, fun _ => ⟨.nil, fun _ m => nomatch m⟩⟩, hk, rfl, hg⟩
end Mine
end
section
open PySem PySem.W PySem.Calls PyProof.Rows
set_option Elab.async false
set_option maxRecDepth 100000
namespace Mine
/-- a judgement in a box -/
structure Bx (p : Prop) : Prop where
  out : p
section
variable {G : GC} {k : Nat} {sc : Scope} {ns : List Str}
theorem bSE_var {x : Str} {pos : Pos} {i : Nat} (hi : ns[i]? = some x) (hd : (x == ("__debug__" : Str)) = false) (hn : (x == ("__classdict__" : Str)) = false) : Bx (SE G k sc ns (.Name x pos) (cVar i)) := ⟨SE_var hi hd hn⟩
theorem bSE_gstr {x y : Str} {t : Tok} {pos : Pos} {j : Nat} (hx : sc.names.lookup x = some .globalImplicit) (hK : nsIn G.K mainGlobals x = some (some (.str y t))) (hj : strTab[j]? = some y) (hd : (x == ("__debug__" : Str)) = false) : Bx (SE G k sc ns (.Name x pos) (cD (.str j))) := ⟨SE_gstr hx hK hj hd⟩
theorem bSE_none {n : Nat} {pos : Pos} : Bx (SE G k sc ns (.Constant .none n pos) (cD .none)) := ⟨SE_none ⟩
theorem bSE_bool {n : Nat} {b : Bool} {pos : Pos} : Bx (SE G k sc ns (.Constant (.bool b) n pos) (cD (.bool b))) := ⟨SE_bool ⟩
theorem bSE_int {n : Nat} {i : Int} {pos : Pos} : Bx (SE G k sc ns (.Constant (.int i) n pos) (cD (.int i))) := ⟨SE_int ⟩
theorem bSE_str {n : Nat} {x : Str} {pos : Pos} {j : Nat} (hj : strTab[j]? = some x) : Bx (SE G k sc ns (.Constant (.str x) n pos) (cD (.str j))) := ⟨SE_str hj⟩
theorem bSE_bin {l r : Expr} {op : Operator} {pos : Pos} {f g : Vals → M AV} (hf : Bx (SE G k sc ns l f)) (hg : Bx (SE G k sc ns r g)) : Bx (SE G k sc ns (.BinOp l op r pos) (cBin op f g)) := ⟨SE_bin hf.out hg.out⟩
theorem bSE_neg {x : Expr} {pos : Pos} {f : Vals → M AV} (hf : Bx (SE G k sc ns x f)) : Bx (SE G k sc ns (.UnaryOp .USub x pos) (fun vals => (f vals).bind fun a => M.opt fun _ => match a with | .d (.int i) => some (.d (.int (-i))) | _ => none)) := ⟨SE_neg hf.out⟩
theorem bSE_not {x : Expr} {pos : Pos} {f : Vals → M AV} (hf : Bx (SE G k sc ns x f)) : Bx (SE G k sc ns (.UnaryOp .Not x pos) (cB (cNotB (cTr f)))) := ⟨SE_not hf.out⟩
theorem bSE_cmp {l r : Expr} {op : CmpOp} {pos : Pos} {f g : Vals → M AV} (hf : Bx (SE G k sc ns l f)) (hg : Bx (SE G k sc ns r g)) (hm : behindInMarks op r = false) : Bx (SE G k sc ns (.Compare l [op] [r] pos) (cB (cCmpB op f g))) := ⟨SE_cmp hf.out hg.out hm⟩
theorem bSBs_one {op : BoolOp} {e : Expr} {f : Vals → M AV} (hf : Bx (SE G k sc ns e f)) : Bx (SBs G k sc ns op [e] f) := ⟨SBs_one hf.out⟩
theorem bSBs_and {e e2 : Expr} {es : List Expr} {f g : Vals → M AV} (hf : Bx (SE G k sc ns e f)) (hg : Bx (SBs G k sc ns .And (e2 :: es) g)) : Bx (SBs G k sc ns .And (e :: e2 :: es) (cAnd f g)) := ⟨SBs_and hf.out hg.out⟩
theorem bSE_boolop {op : BoolOp} {es : List Expr} {pos : Pos} {f : Vals → M AV} (hf : Bx (SBs G k sc ns op es f)) : Bx (SE G k sc ns (.BoolOp op es pos) f) := ⟨SE_boolop hf.out⟩
theorem bSE_ifexp {t a b : Expr} {pos : Pos} {ft : Vals → M Bool} {f g : Vals → M AV} (ht : Bx (ST G k sc ns t ft)) (hf : Bx (SE G k sc ns a f)) (hg : Bx (SE G k sc ns b g)) : Bx (SE G k sc ns (.IfExp t a b pos) (cIte ft f g)) := ⟨SE_ifexp ht.out hf.out hg.out⟩
theorem bSE_tup {es : List Expr} {n : Nat} {pos : Pos} {g : Vals → M (List AV)} (hg : Bx (SEs G k sc ns es g)) : Bx (SE G k sc ns (.Tuple es n pos) (cTup g)) := ⟨SE_tup hg.out⟩
theorem bSE_lst {es : List Expr} {pos : Pos} {g : Vals → M (List AV)} (hg : Bx (SEs G k sc ns es g)) : Bx (SE G k sc ns (.List es pos) (cLst g)) := ⟨SE_lst hg.out⟩
theorem bSE_lstM {es : List Expr} {pos : Pos} {g : Vals → M (List AV)} (hg : Bx (SEs G k sc ns es g)) : Bx (SE G k sc ns (.List es pos) (cLstM g)) := ⟨SE_lstM hg.out⟩
theorem bSE_to {value u : Expr} {p pos : Pos} {f g : Vals → M AV} (hf : Bx (SE G k sc ns value f)) (hg : Bx (SE G k sc ns u g)) (ht : ∀ o r, letTemporaryGo value o r = pure ()) : Bx (SE G k sc ns (.Subscript value (.Slice none (some u) none p) pos) (cTo f g)) := ⟨SE_to hf.out hg.out ht⟩
theorem bSE_from {value u : Expr} {p pos : Pos} {f g : Vals → M AV} (hf : Bx (SE G k sc ns value f)) (hg : Bx (SE G k sc ns u g)) (ht : ∀ o r, letTemporaryGo value o r = pure ()) : Bx (SE G k sc ns (.Subscript value (.Slice (some u) none none p) pos) (cFrom f g)) := ⟨SE_from hf.out hg.out ht⟩
theorem bSE_idx {value slice : Expr} {pos : Pos} {f g : Vals → M AV} (hf : Bx (SE G k sc ns value f)) (hg : Bx (SE G k sc ns slice g)) (hs : ∀ o i, subscripted slice false o i = operate [o, i] (getItem o i)) : Bx (SE G k sc ns (.Subscript value slice pos) (cIdx f g)) := ⟨SE_idx hf.out hg.out hs⟩
theorem bSE_attr2 {value : Expr} {attr : Str} {pos : Pos} {f : Vals → M AV} {i : Nat} (hf : Bx (SE G k sc ns value f)) (hi : fldTab[i]? = some attr) (hs : noSuper value = true) : Bx (SE G k sc ns (.Attribute value attr pos) (cAttr f i)) := ⟨SE_attr2 hf.out hi hs⟩
theorem bSE_call2 {j : Nat} {x : Str} {fv : Value} {p pos : Pos} {es : List Expr} {f : List AV → M AV} {g : Vals → M (List AV)} (hf : SF G j fv f) (hj : j ≤ k) (hg : Bx (SEs G k sc ns es g)) (hn : NameIs G x fv) (hk : keepsAny G.K fv = true) (hx : sc.names.lookup x = some .globalImplicit) (hd : (x == ("__debug__" : Str)) = false) (hst : plains es = true) : Bx (SE G k sc ns (.Call (.Name x p) es [] pos) (cCall f g)) := ⟨SE_call2 hf hj hg.out hn hk hx hd hst⟩
theorem bSE_lmeth2 {x : Str} {id : String} {ob e : Expr} {apos pos : Pos} {fo g : Vals → M AV} {m : AV → AV → M AV} (hm : SL G k id m) (ho : Bx (SE G k sc ns ob fo)) (hg : Bx (SE G k sc ns e g)) (slot : Slot "list" x id) (hty : typeOf (.builtin id) = pure (.type "method_descriptor")) (h1 : plainE e = true) (h3 : noSuper ob = true) (h4 : (apos.endLine == pos.line) = true) : Bx (SE G k sc ns (.Call (.Attribute ob x apos) [e] [] pos) (cLM m fo g)) := ⟨SE_lmeth2 hm ho.out hg.out slot hty h1 h3 h4⟩
theorem bSE_meth2 {j : Nat} {x : Str} {fa : Addr} {ob : Expr} {apos pos : Pos} {es : List Expr} {fo : Vals → M AV} {f : List AV → M AV} {g : Vals → M (List AV)} (hf : SF G j (.ref fa) f) (hj : j ≤ k) (ho : Bx (SE G k sc ns ob fo)) (hg : Bx (SEs G k sc ns es g)) (hm : findIn G.K (.ref G.C) x = some (some (.ref fa))) (ht : isFn G.K (.ref fa) = true) (hx : x ∉ fldTab) (hk : keepIn G.K (.ref fa) = true) (h1 : plains es = true) (h2 : Nat.blt es.length 30 = true) (h3 : noSuper ob = true) (h4 : (apos.endLine == pos.line) = true) : Bx (SE G k sc ns (.Call (.Attribute ob x apos) es [] pos) (cMeth fo f g)) := ⟨SE_meth2 hf hj ho.out hg.out hm ht hx hk h1 h2 h3 h4⟩
theorem bSE_comp {target iter elt : Expr} {ifs : List Expr} {scope : Scope} {pos : Pos} {f : Vals → M AV} {g : AV → Vals → M Vals} {t : Vals → M Bool} {fe : Vals → M AV} {ts cap : List Str} {cp : List Nat} {N : Nat} {tn : Bool} (hf : Bx (SE G k sc ns iter f)) (hl : Bx (LoopOk G tn k (relabS scope sc) (ts ++ cap) (.ListComp elt [⟨target, iter, ifs, 0⟩] scope pos) g t fe)) (hs : ∀ env x, foldedSetIterable iter env x = pure x) (hcl : Clos sc scope cap) (hk : scope.kind = .function) (hnames : ∀ x ∈ scope.names, x.2 = .local → scope.names.lookup x.1 = some .local) (hcell : ∀ x ∈ scope.names, x.2 ≠ .cell) (hcp : cp.map (ns[·]?) = cap.map some) (hcap : ∀ x ∈ cap, sc.names.lookup x = some .cell ∧ (relabS scope sc).names.lookup x = some .cell) (hcapD : ∀ p ∈ (relabS scope sc).names, p.2 = .cell → p.1 ∈ cap) : Bx (SE G k sc ns (.ListComp elt [⟨target, iter, ifs, 0⟩] scope pos) (cComp N tn ts.length cp f g t fe)) := ⟨SE_comp hf.out hl.out hs hcl hk hnames hcell hcp hcap hcapD⟩
theorem bST_cmp {l r : Expr} {op : CmpOp} {pos : Pos} {f g : Vals → M AV} (hf : Bx (SE G k sc ns l f)) (hg : Bx (SE G k sc ns r g)) (hm : behindInMarks op r = false) : Bx (ST G k sc ns (.Compare l [op] [r] pos) (cCmpB op f g)) := ⟨ST_cmp hf.out hg.out hm⟩
theorem bST_not {x : Expr} {pos : Pos} {f : Vals → M Bool} (hf : Bx (ST G k sc ns x f)) : Bx (ST G k sc ns (.UnaryOp .Not x pos) (cNotB f)) := ⟨ST_not hf.out⟩
theorem bSTs_nil {op : BoolOp} : Bx (STs G k sc ns op [] (fun _ => M.ret (op == .And))) := ⟨STs_nil ⟩
theorem bSTs_and {e : Expr} {es : List Expr} {f g : Vals → M Bool} (hf : Bx (ST G k sc ns e f)) (hg : Bx (STs G k sc ns .And es g)) : Bx (STs G k sc ns .And (e :: es) (cAndB f g)) := ⟨STs_and hf.out hg.out⟩
theorem bSTs_or {e : Expr} {es : List Expr} {f g : Vals → M Bool} (hf : Bx (ST G k sc ns e f)) (hg : Bx (STs G k sc ns .Or es g)) : Bx (STs G k sc ns .Or (e :: es) (cOrB f g)) := ⟨STs_or hf.out hg.out⟩
theorem bST_bool {op : BoolOp} {es : List Expr} {pos : Pos} {f : Vals → M Bool} (hf : Bx (STs G k sc ns op es f)) : Bx (ST G k sc ns (.BoolOp op es pos) f) := ⟨ST_bool hf.out⟩
theorem bST_val {e : Expr} {f : Vals → M AV} (hf : Bx (SE G k sc ns e f)) (he : ∀ env whole, isTrue e env whole = (do let v ← whole; standAt e.pos; holding [v] (truthy v))) : Bx (ST G k sc ns e (cTr f)) := ⟨ST_val hf.out he⟩
theorem bSEs_nil  : Bx (SEs G k sc ns [] cNil) := ⟨SEs_nil ⟩
theorem bSEs_cons2 {e : Expr} {es : List Expr} {f : Vals → M AV} {g : Vals → M (List AV)} (hf : Bx (SE G k sc ns e f)) (hg : Bx (SEs G k sc ns es g)) (he : plainE e = true) : Bx (SEs G k sc ns (e :: es) (cCons f g)) := ⟨SEs_cons2 hf.out hg.out he⟩
theorem bSIf_one {c : Expr} {f : Vals → M Bool} (hf : Bx (ST G k sc ns c f)) : Bx (SIf G k sc ns [c] f) := ⟨SIf_one hf.out⟩
theorem bSIf_nil  : Bx (SIf G k sc ns [] (fun _ => M.ret true)) := ⟨SIf_nil ⟩
theorem bLoopOk_any {tn : Bool} {sc' : Scope} {ns' : List Str} {target iter elt : Expr} {ifs : List Expr} {scope : Scope} {pos : Pos} {g : AV → Vals → M Vals} {t : Vals → M Bool} {fe : Vals → M AV} (hg : Bx (SA G false k sc' ns' target g)) (ht : Bx (SIf G k sc' ns' ifs t)) (hf : Bx (SE G k sc' ns' elt fe)) (hlet : ∀ I v, letOwnedTupleGo target (.ref I) v = pure ()) : Bx (LoopOk G tn k sc' ns' (.ListComp elt [⟨target, iter, ifs, 0⟩] scope pos) g t fe) := ⟨LoopOk_any hg.out ht.out hf.out hlet⟩
theorem bSA_var {tb : Bool} {i : Nat} {x : Str} {pos : Pos} (hi : ns[i]? = some x) (nd : ns.Nodup) (hx : sc.names.lookup x = some .local ∨ (sc.names.lookup x = some .cell ∧ tb = true)) : Bx (SA G tb k sc ns (.Name x pos) (aVar i)) := ⟨SA_var hi nd hx⟩
theorem bSAs_nil {tb : Bool} : Bx (SAs G tb k sc ns [] asNil) := ⟨SAs_nil ⟩
theorem bSAs_cons {tb : Bool} {t : Expr} {ts : List Expr} {g : AV → Vals → M Vals} {r : List AV → Vals → M Vals} (hg : Bx (SA G tb k sc ns t g)) (hr : Bx (SAs G tb k sc ns ts r)) (he : ∀ env, assignEach (t :: ts) env = (false, assign t env) :: assignEach ts env) : Bx (SAs G tb k sc ns (t :: ts) (asCons g r)) := ⟨SAs_cons hg.out hr.out he⟩
theorem bSA_tup {tb : Bool} {ts : List Expr} {j : Nat} {pos : Pos} {g : List AV → Vals → M Vals} (hg : Bx (SAs G tb k sc ns ts g)) {n : Nat} (hn : ∀ env, (assignEach ts env).length = n) (hstar : ∀ env, (assignEach ts env).findIdx? (·.1) = none) : Bx (SA G tb k sc ns (.Tuple ts j pos) (aTup n g)) := ⟨SA_tup hg.out hn hstar⟩
theorem bSX_ret {e : Expr} {pos : Pos} {f : Vals → M AV} (hf : Bx (SE G k sc ns e f)) : Bx (SX G k sc ns (.Return (some e) pos) (xRet f)) := ⟨SX_ret hf.out⟩
theorem bSX_brk {pos : Pos} : Bx (SX G k sc ns (.Break pos) xBrk) := ⟨SX_brk ⟩
theorem bSX_expr {e : Expr} {pos : Pos} {f : Vals → M AV} (hf : Bx (SE G k sc ns e f)) (hs : ∀ env : Env, env.scope = sc → swapsWith e none pos.line env = pure false) : Bx (SX G k sc ns (.Expr e pos) (xExpr f)) := ⟨SX_expr hf.out hs⟩
theorem bSX_if {t : Expr} {a b : List Stmt} {pos : Pos} {ft : Vals → M Bool} {f g : XM} (ht : Bx (ST G k sc ns t ft)) (hf : Bx (SXs G k sc ns a f)) (hg : Bx (SXs G k sc ns b g)) : Bx (SX G k sc ns (.If t a b pos) (xIf ft f g)) := ⟨SX_if ht.out hf.out hg.out⟩
theorem bSX_for {target iter : Expr} {body : List Stmt} {pos : Pos} {f : Vals → M AV} {g : AV → Vals → M Vals} {fb : XM} {N : Nat} {tn : Bool} (hf : Bx (SE G k sc ns iter f)) (hg : Bx (SA G true k sc ns target g)) (hb : Bx (SXs G k sc ns body fb)) (hs : ∀ env x, foldedSetIterable iter env x = pure x) (hr : tn = true → ∀ I v, letOwnedTupleGo target (.ref I) v = pure ()) : Bx (SX G k sc ns (.For target iter body [] pos) (xFor N tn f g fb)) := ⟨SX_for hf.out hg.out hb.out hs hr⟩
theorem bSX_compA {target iter elt : Expr} {ifs : List Expr} {scope : Scope} {pos spos py : Pos} {f : Vals → M AV} {g : AV → Vals → M Vals} {t : Vals → M Bool} {fe : Vals → M AV} {ts cap : List Str} {cp : List Nat} {N i : Nat} {tn : Bool} {y : Str} (hf : Bx (SE G k sc ns iter f)) (hl : Bx (LoopOk G tn k (relabS scope sc) (ts ++ cap) (.ListComp elt [⟨target, iter, ifs, 0⟩] scope pos) g t fe)) (hs : ∀ env x, foldedSetIterable iter env x = pure x) (hcl : Clos sc scope cap) (hk : scope.kind = .function) (hnames : ∀ x ∈ scope.names, x.2 = .local → scope.names.lookup x.1 = some .local) (hcell : ∀ x ∈ scope.names, x.2 ≠ .cell) (hcp : cp.map (ns[·]?) = cap.map some) (hcap : ∀ x ∈ cap, sc.names.lookup x = some .cell ∧ (relabS scope sc).names.lookup x = some .cell) (hcapD : ∀ p ∈ (relabS scope sc).names, p.2 = .cell → p.1 ∈ cap) (hi : ns[i]? = some y) (nd : ns.Nodup) (hy : sc.names.lookup y = some .local) (hsw : ∀ env : Env, env.scope = sc → swapsWith (.ListComp elt [⟨target, iter, ifs, 0⟩] scope pos) (some (.Name y py)) spos.line env = pure true) : Bx (SX G k sc ns (.Assign [.Name y py] (.ListComp elt [⟨target, iter, ifs, 0⟩] scope pos) spos) (xCompA (mComp N tn ts.length cp f g t fe) i)) := ⟨SX_compA hf.out hl.out hs hcl hk hnames hcell hcp hcap hcapD hi nd hy hsw⟩
theorem bSX_asg_name {x : Str} {xp pos : Pos} {value : Expr} {i : Nat} {f : Vals → M AV} (hf : Bx (SE G k sc ns value f)) (hi : ns[i]? = some x) (nd : ns.Nodup) (hx : sc.names.lookup x = some .local ∨ (sc.names.lookup x = some .cell ∧ true = true)) (hs : ∀ env : Env, env.scope = sc → swapsWith value (some (.Name x xp)) pos.line env = pure false) : Bx (SX G k sc ns (.Assign [.Name x xp] value pos) (xAsg f (aVar i))) := ⟨SX_asg_name hf.out hi nd hx hs⟩
theorem bSX_asg_attr {ob value : Expr} {attr : Str} {ap pos : Pos} {f g : Vals → M AV} {i : Nat} (hf : Bx (SE G k sc ns value f)) (hg : Bx (SE G k sc ns ob g)) (hi : fldTab[i]? = some attr) (hs : ∀ env : Env, env.scope = sc → swapsWith value (some (.Attribute ob attr ap)) pos.line env = pure false) : Bx (SX G k sc ns (.Assign [.Attribute ob attr ap] value pos) (xAsg f (aAttr g i))) := ⟨SX_asg_attr hf.out hg.out hi hs⟩
theorem bSX_asg_sub {ob ix value : Expr} {ap pos : Pos} {f g h : Vals → M AV} (hf : Bx (SE G k sc ns value f)) (hg : Bx (SE G k sc ns ob g)) (hh : Bx (SE G k sc ns ix h)) (hs : ∀ env : Env, env.scope = sc → swapsWith value (some (.Subscript ob ix ap)) pos.line env = pure false) : Bx (SX G k sc ns (.Assign [.Subscript ob ix ap] value pos) (xAsg f (aSub g h))) := ⟨SX_asg_sub hf.out hg.out hh.out hs⟩
theorem bSX_asg_swap {ts : List Expr} {j : Nat} {tp pos : Pos} {value : Expr} {f : Vals → M AV} {is : List Nat} {xs : List Str} (hf : Bx (SE G k sc ns value f)) (nd : ns.Nodup) (hi : is.map (ns[·]?) = xs.reverse.map some) (hx : ∀ x ∈ xs, sc.names.lookup x = some .local) (hs : ∀ env : Env, env.scope = sc → swapsWithSole [.Tuple ts j tp] value pos.line env = pure false) (hw : ∀ env : Env, env.scope = sc → swappedStores [.Tuple ts j tp] value env = pure (some xs)) : Bx (SX G k sc ns (.Assign [.Tuple ts j tp] value pos) (xSwap xs.length f fun l => asRev is l.reverse)) := ⟨SX_asg_swap hf.out nd hi hx hs hw⟩
theorem bSX_asg_tup {ts : List Expr} {j : Nat} {tp pos : Pos} {value : Expr} {f : Vals → M AV} {g : AV → Vals → M Vals} (hf : Bx (SE G k sc ns value f)) (hg : Bx (SA G true k sc ns (.Tuple ts j tp) g)) (hs : ∀ env : Env, env.scope = sc → swapsWithSole [.Tuple ts j tp] value pos.line env = pure false) (hw : ∀ env : Env, env.scope = sc → swappedStores [.Tuple ts j tp] value env = pure none) : Bx (SX G k sc ns (.Assign [.Tuple ts j tp] value pos) (xAsg f g)) := ⟨SX_asg_tup hf.out hg.out hs hw⟩
theorem bSXs_nil  : Bx (SXs G k sc ns [] xNil) := ⟨SXs_nil ⟩
theorem bSXs_cons {st : Stmt} {rest : List Stmt} {f g : XM} (hf : Bx (SX G k sc ns st f)) (hg : Bx (SXs G k sc ns rest g)) : Bx (SXs G k sc ns (st :: rest) (xSeq f g)) := ⟨SXs_cons hf.out hg.out⟩
end
end Mine
end
section
open PySem PySem.W PySem.Calls PyProof.Rows
set_option Elab.async false
set_option maxRecDepth 100000
namespace Mine
noncomputable def f__law_pool : XM := (xSeq (xAsg (cD (.int 0)) (aVar 2))
    (xSeq (xIf (cCmpB .Lt (cVar 1) (cCall (one fLen) (cCons (cVar 0) cNil))) (xSeq (xAsg (cIdx (cVar 0) (cVar 1)) (aVar 2))
    xNil) xNil)
    (xSeq (xAsg (cCall (two fMax) (cCons (cCall (one fInt) (cCons (cVar 2) cNil)) (cCons (cCall (one fInt) (cCons (cBin .Sub (cNeg (cD (.int 1))) (cVar 2)) cNil)) cNil))) (aVar 3))
    (xSeq (xAsg (cBin .Mod (cCall (one fInt) (cCons (cBin .Mult (cBin .Add (cBin .Add (cBin .Add (cBin .Mod (cCall (one fInt) (cCons (cVar 3) cNil)) (cD (.int 2147483629))) (cBin .Mult (cBin .Mult (cD (.int 7919)) (cVar 1)) (cVar 1))) (cBin .Mult (cD (.int 31)) (cVar 1))) (cD (.int 17))) (cD (.int 48271))) cNil)) (cD (.int 2147483647))) (aVar 4))
    (xSeq (xRet (cLstM (cCons (cBin .Mult (cVar 3) (cCall (one fInt) (cCons (cB (cCmpB .GtE (cVar 3) (cBin .Pow (cD (.int 10)) (cD (.int 18))))) cNil))) (cCons (cVar 4) cNil))))
    xNil)))))
noncomputable def F__law_pool : List AV → M AV := fnM 2 3 f__law_pool
noncomputable def f__law_take : XM := (xSeq (xIf (cCmpB .Gt (cIdx (cVar 0) (cD (.int 0))) (cD (.int 0))) (xSeq (xAsg (cBin .Mod (cCall (one fInt) (cCons (cIdx (cVar 0) (cD (.int 0))) cNil)) (cVar 1)) (aVar 2))
    (xSeq (xAsg (cBin .FloorDiv (cIdx (cVar 0) (cD (.int 0))) (cVar 1)) (aSub (cVar 0) (cD (.int 0))))
    (xSeq (xRet (cVar 2))
    xNil))) xNil)
    (xSeq (xAsg (cBin .Mod (cCall (one fInt) (cCons (cBin .Add (cBin .Mult (cIdx (cVar 0) (cD (.int 1))) (cD (.int 39373))) (cD (.int 7))) cNil)) (cD (.int 2147483647))) (aSub (cVar 0) (cD (.int 1))))
    (xSeq (xRet (cBin .Mod (cCall (one fInt) (cCons (cBin .FloorDiv (cBin .Mod (cCall (one fInt) (cCons (cBin .Mult (cIdx (cVar 0) (cD (.int 1))) (cIdx (cVar 0) (cD (.int 1)))) cNil)) (cD (.int 2147483629))) (cD (.int 32))) cNil)) (cVar 1)))
    xNil)))
noncomputable def F__law_take : List AV → M AV := fnM 2 1 f__law_take
noncomputable def f__law_one : XM := (xSeq (xRet (cIdx (cVar 1) (cCall F__law_take (cCons (cVar 0) (cCons (cCall (one fLen) (cCons (cVar 1) cNil)) cNil)))))
    xNil)
noncomputable def F__law_one : List AV → M AV := fnM 2 0 f__law_one
noncomputable def f___init__ : XM := (xSeq (xAsg (cVar 1) (aAttr (cVar 0) 0))
    (xSeq (xAsg (cLstM cNil) (aAttr (cVar 0) 1))
    (xSeq (xAsg (cLstM cNil) (aAttr (cVar 0) 2))
    (xSeq (xAsg (cLstM cNil) (aAttr (cVar 0) 3))
    (xSeq (xAsg (cD (.bool false)) (aAttr (cVar 0) 4))
    xNil)))))
noncomputable def F___init__ : List AV → M AV := fnM 2 0 f___init__
noncomputable def f_woken_row : XM := (xSeq (xRet (cTup (cCons (cD (.str 2)) (cCons (cIdx (cVar 0) (cD (.int 0))) (cCons (cIdx (cVar 0) (cD (.int 2))) (cCons (cIdx (cVar 0) (cD (.int 3))) (cCons (cVar 1) cNil)))))))
    xNil)
noncomputable def F_woken_row : List AV → M AV := fnM 2 0 f_woken_row
noncomputable def f_offer : XM := (xSeq (xIf (cTr (cAttr (cVar 0) 4)) (xSeq (xRet (cLst (cCons (cTup (cCons (cD (.str 5)) (cCons (cD (.str 6)) cNil))) cNil)))
    xNil) xNil)
    (xSeq (xIf (cCmpB .NotEq (cAttr (cVar 0) 3) (cLst cNil)) (xSeq (xAsg (cLM mPop (cAttr (cVar 0) 3) (cD (.int 0))) (aVar 2))
    (xSeq (xRet (cLst (cCons (cTup (cCons (cD (.str 0)) cNil)) (cCons (cCall F_woken_row (cCons (cVar 2) (cCons (cTup (cCons (cD (.str 3)) (cCons (cIdx (cVar 1) (cD (.int 1))) (cCons (cD (.bool true)) cNil)))) cNil))) cNil))))
    xNil)) xNil)
    (xSeq (xIf (cCmpB .Lt (cCall (one fLen) (cCons (cAttr (cVar 0) 1) cNil)) (cAttr (cVar 0) 0)) (xSeq (xExpr (cLM mAppend (cAttr (cVar 0) 1) (cIdx (cVar 1) (cD (.int 1)))))
    (xSeq (xRet (cLst (cCons (cTup (cCons (cD (.str 0)) cNil)) cNil)))
    xNil)) xNil)
    (xSeq (xExpr (cLM mAppend (cAttr (cVar 0) 2) (cVar 1)))
    (xSeq (xRet (cLst (cCons (cTup (cCons (cD (.str 1)) cNil)) cNil)))
    xNil)))))
noncomputable def F_offer : List AV → M AV := fnM 2 1 f_offer
noncomputable def f_filled : XM := (xSeq (xIf (cCmpB .Eq (cAttr (cVar 0) 2) (cLst cNil)) (xSeq (xRet (cLst cNil))
    xNil) xNil)
    (xSeq (xAsg (cLM mPop (cAttr (cVar 0) 2) (cD (.int 0))) (aVar 1))
    (xSeq (xExpr (cLM mAppend (cAttr (cVar 0) 1) (cIdx (cVar 1) (cD (.int 1)))))
    (xSeq (xRet (cLst (cCons (cCall F_woken_row (cCons (cVar 1) (cCons (cTup (cCons (cD (.str 4)) cNil)) cNil))) cNil)))
    xNil))))
noncomputable def F_filled : List AV → M AV := fnM 1 1 f_filled
noncomputable def f_take : XM := (xSeq (xIf (cCmpB .NotEq (cAttr (cVar 0) 1) (cLst cNil)) (xSeq (xAsg (cLM mPop (cAttr (cVar 0) 1) (cD (.int 0))) (aVar 2))
    (xSeq (xRet (cBin .Add (cLst (cCons (cTup (cCons (cD (.str 0)) (cCons (cVar 2) (cCons (cD (.bool true)) cNil)))) cNil)) (cMeth (cVar 0) F_filled cNil)))
    xNil)) xNil)
    (xSeq (xIf (cCmpB .NotEq (cAttr (cVar 0) 2) (cLst cNil)) (xSeq (xAsg (cLM mPop (cAttr (cVar 0) 2) (cD (.int 0))) (aVar 3))
    (xSeq (xRet (cLst (cCons (cTup (cCons (cD (.str 0)) (cCons (cIdx (cVar 3) (cD (.int 1))) (cCons (cD (.bool true)) cNil)))) (cCons (cCall F_woken_row (cCons (cVar 3) (cCons (cTup (cCons (cD (.str 4)) cNil)) cNil))) cNil))))
    xNil)) xNil)
    (xSeq (xIf (cTr (cAttr (cVar 0) 4)) (xSeq (xRet (cLst (cCons (cTup (cCons (cD (.str 0)) (cCons (cD .none) (cCons (cD (.bool false)) cNil)))) cNil)))
    xNil) xNil)
    (xSeq (xExpr (cLM mAppend (cAttr (cVar 0) 3) (cVar 1)))
    (xSeq (xRet (cLst (cCons (cTup (cCons (cD (.str 1)) cNil)) cNil)))
    xNil)))))
noncomputable def F_take : List AV → M AV := fnM 2 2 f_take
noncomputable def f_size : XM := (xSeq (xRet (cCall (one fLen) (cCons (cAttr (cVar 0) 1) cNil)))
    xNil)
noncomputable def F_size : List AV → M AV := fnM 1 0 f_size
noncomputable def f_can_send : XM := (xSeq (xRet (cOr (cAttr (cVar 0) 4) (cOr (cB (cCmpB .NotEq (cAttr (cVar 0) 3) (cLst cNil))) (cB (cCmpB .Lt (cCall (one fLen) (cCons (cAttr (cVar 0) 1) cNil)) (cAttr (cVar 0) 0))))))
    xNil)
noncomputable def F_can_send : List AV → M AV := fnM 1 0 f_can_send
noncomputable def f_can_receive : XM := (xSeq (xRet (cOr (cB (cCmpB .NotEq (cAttr (cVar 0) 1) (cLst cNil))) (cOr (cB (cCmpB .NotEq (cAttr (cVar 0) 2) (cLst cNil))) (cAttr (cVar 0) 4))))
    xNil)
noncomputable def F_can_receive : List AV → M AV := fnM 1 0 f_can_receive
noncomputable def b_once_a_select_0 : XM := (xSeq (xIf (cOrB (cCmpB .Is (cIdx (cVar 3) (cD (.int 3))) (cD .none)) (cOrB (cCmpB .NotIn (cIdx (cVar 3) (cD (.int 3))) (cVar 2)) (fun _ => M.ret (BoolOp.Or == BoolOp.And)))) (xSeq (xExpr (cLM mAppend (cVar 1) (cTup (cCons (cVar 3) (cCons (cVar 4) cNil)))))
    (xSeq (xExpr (cLM mAppend (cVar 2) (cIdx (cVar 3) (cD (.int 3)))))
    xNil)) xNil)
    xNil)
noncomputable def w_once_a_select_0 : XM := xFor 1001 false (cVar 0) (aTup 2 (asCons (aVar 3) (asCons (aVar 4) asNil))) b_once_a_select_0
noncomputable def f_once_a_select : XM := (xSeq (xSwap 2 (cTup (cCons (cLstM cNil) (cCons (cLstM cNil) cNil))) fun l => asRev [2, 1] l.reverse)
    (xSeq w_once_a_select_0
    (xSeq (xRet (cVar 1))
    xNil)))
noncomputable def F_once_a_select : List AV → M AV := fnM 1 4 f_once_a_select
noncomputable def q_close_0 : Vals → M AV := cComp 1001 false 2 [] (cCall F_once_a_select (cCons (cVar 1) cNil)) (aTup 2 (asCons (aVar 0) (asCons (aVar 1) asNil))) (fun _ => M.ret true) (cCall F_woken_row (cCons (cVar 0) (cCons (cVar 1) cNil)))
noncomputable def q_close_1 : Vals → M AV := cComp 1001 false 1 [] (cAttr (cVar 0) 2) (aVar 0) (fun _ => M.ret true) (cTup (cCons (cVar 0) (cCons (cTup (cCons (cD (.str 5)) (cCons (cD (.str 6)) cNil))) cNil)))
noncomputable def q_close_2 : Vals → M (List AD) := mComp 1001 false 1 [] (cAttr (cVar 0) 3) (aVar 0) (fun _ => M.ret true) (cTup (cCons (cVar 0) (cCons (cTup (cCons (cD (.str 3)) (cCons (cD .none) (cCons (cD (.bool false)) cNil)))) cNil)))
noncomputable def f_close : XM := (xSeq (xIf (cTr (cAttr (cVar 0) 4)) (xSeq (xRet (cLst (cCons (cTup (cCons (cD (.str 5)) (cCons (cD (.str 7)) cNil))) cNil)))
    xNil) xNil)
    (xSeq (xAsg (cD (.bool true)) (aAttr (cVar 0) 4))
    (xSeq (xCompM q_close_2 1)
    (xSeq (xExpr (cLM mExtend (cVar 1) q_close_1))
    (xSeq (xAsg (cTup (cCons (cLstM cNil) (cCons (cLstM cNil) cNil))) (aTup 2 (asCons (aAttr (cVar 0) 3) (asCons (aAttr (cVar 0) 2) asNil))))
    (xSeq (xRet (cBin .Add (cLst (cCons (cTup (cCons (cD (.str 0)) cNil)) cNil)) q_close_0))
    xNil))))))
noncomputable def F_close : List AV → M AV := fnM 1 1 f_close
end Mine
end
section
open PySem PySem.W PySem.Calls PyProof.Rows
set_option Elab.async false
set_option maxRecDepth 100000
namespace Mine
namespace L01
noncomputable def f__law_fixed_right : XM := (xSeq (xAsg (cCall (fNew (F___init__)) (cCons (cD (.int 1)) cNil)) (aVar 0))
    (xSeq (xAsg (cLstM (cCons (cMeth (cVar 0) F_offer (cCons (cTup (cCons (cD (.int 1)) (cCons (cD (.str 10)) (cCons (cD .none) (cCons (cD .none) cNil))))) cNil)) (cCons (cMeth (cVar 0) F_offer (cCons (cTup (cCons (cD (.int 2)) (cCons (cD (.str 11)) (cCons (cD .none) (cCons (cD .none) cNil))))) cNil)) cNil))) (aVar 1))
    (xSeq (xExpr (cLM mAppend (cVar 1) (cMeth (cVar 0) F_take (cCons (cTup (cCons (cD (.int 3)) (cCons (cD .none) (cCons (cD .none) (cCons (cD .none) cNil))))) cNil))))
    (xSeq (xAsg (cLst (cCons (cLst (cCons (cTup (cCons (cD (.str 0)) cNil)) cNil)) (cCons (cLst (cCons (cTup (cCons (cD (.str 1)) cNil)) cNil)) (cCons (cLst (cCons (cTup (cCons (cD (.str 0)) (cCons (cD (.str 10)) (cCons (cD (.bool true)) cNil)))) (cCons (cTup (cCons (cD (.str 2)) (cCons (cD (.int 2)) (cCons (cD .none) (cCons (cD .none) (cCons (cTup (cCons (cD (.str 4)) cNil)) cNil)))))) cNil))) cNil)))) (aVar 2))
    (xSeq (xRet (cAnd (cB (cCmpB .Eq (cVar 1) (cVar 2))) (cB (cCmpB .Eq (cMeth (cVar 0) F_take (cCons (cTup (cCons (cD (.int 3)) (cCons (cD .none) (cCons (cD .none) (cCons (cD .none) cNil))))) cNil)) (cLst (cCons (cTup (cCons (cD (.str 0)) (cCons (cD (.str 11)) (cCons (cD (.bool true)) cNil)))) cNil))))))
    xNil)))))
noncomputable def F__law_fixed_right : List AV → M AV := fnM 0 3 f__law_fixed_right
noncomputable def q__law_kept_0 : Vals → M AV := cComp 1001 false 1 [] (cVar 0) (aVar 0) (cCmpB .Eq (cIdx (cVar 0) (cD (.int 0))) (cD (.str 9))) (cVar 0)
noncomputable def q__law_kept_1 : Vals → M AV := cComp 1001 false 1 [] (cTo (cVar 2) (cVar 1)) (aVar 0) (fun _ => M.ret true) (cIdx (cVar 0) (cD (.int 2)))
noncomputable def q__law_kept_2 : Vals → M (List AD) := mComp 1001 false 1 [] (cVar 0) (aVar 0) (cCmpB .Eq (cIdx (cVar 0) (cD (.int 0))) (cD (.str 8))) (cVar 0)
noncomputable def f__law_kept : XM := (xSeq (xCompA q__law_kept_2 2)
    (xSeq (xRet (cTup (cCons q__law_kept_1 (cCons (cFrom (cVar 2) (cVar 1)) (cCons q__law_kept_0 cNil)))))
    xNil))
noncomputable def F__law_kept : List AV → M AV := fnM 2 1 f__law_kept
noncomputable def b__law_sent_0 : XM := (xSeq (xIf (cCmpB .Eq (cIdx (cVar 4) (cD (.int 0))) (cD (.str 9))) (xSeq (xExpr (cLM mRemove (cVar 0) (cVar 4)))
    (xSeq (xRet (cLst (cCons (cTup (cCons (cD (.str 0)) cNil)) (cCons (cTup (cCons (cD (.str 2)) (cCons (cIdx (cVar 4) (cD (.int 1))) (cCons (cD .none) (cCons (cD .none) (cCons (cTup (cCons (cD (.str 3)) (cCons (cVar 3) (cCons (cD (.bool true)) cNil)))) cNil)))))) cNil))))
    xNil)) xNil)
    xNil)
noncomputable def w__law_sent_0 : XM := xFor 1001 false (cVar 0) (aVar 4) b__law_sent_0
noncomputable def f__law_sent : XM := (xSeq w__law_sent_0
    (xSeq (xExpr (cLM mAppend (cVar 0) (cTup (cCons (cD (.str 8)) (cCons (cVar 2) (cCons (cVar 3) cNil))))))
    (xSeq (xRet (cIte (cCmpB .Eq (cCall (one fLen) (cCons (cIdx (cCall F__law_kept (cCons (cVar 0) (cCons (cVar 1) cNil))) (cD (.int 0))) cNil)) (cCall (one fLen) (cCons (cVar 0) cNil))) (cLst (cCons (cTup (cCons (cD (.str 0)) cNil)) cNil)) (cLst (cCons (cTup (cCons (cD (.str 1)) cNil)) cNil))))
    xNil)))
noncomputable def F__law_sent : List AV → M AV := fnM 4 1 f__law_sent
noncomputable def q__law_taken_0 : Vals → M (List AD) := mComp 1001 false 1 [] (cTo (cVar 6) (cD (.int 1))) (aVar 0) (fun _ => M.ret true) (cTup (cCons (cD (.str 2)) (cCons (cIdx (cVar 0) (cD (.int 1))) (cCons (cD .none) (cCons (cD .none) (cCons (cTup (cCons (cD (.str 4)) cNil)) cNil))))))
noncomputable def f__law_taken : XM := (xSeq (xAsg (cCall F__law_kept (cCons (cVar 0) (cCons (cVar 1) cNil))) (aTup 3 (asCons (aVar 5) (asCons (aVar 6) (asCons (aVar 7) asNil)))))
    (xSeq (xIf (cAndB (cCmpB .Eq (cVar 5) (cLst cNil)) (cAndB (cCmpB .Eq (cVar 6) (cLst cNil)) (fun _ => M.ret (BoolOp.And == BoolOp.And)))) (xSeq (xExpr (cLM mAppend (cVar 0) (cTup (cCons (cD (.str 9)) (cCons (cVar 2) cNil)))))
    (xSeq (xRet (cLst (cCons (cTup (cCons (cD (.str 1)) cNil)) cNil)))
    xNil)) xNil)
    (xSeq (xAsg (cLM mPop (cVar 0) (cD (.int 0))) (aVar 3))
    (xSeq (xCompA q__law_taken_0 4)
    (xSeq (xRet (cBin .Add (cLst (cCons (cTup (cCons (cD (.str 0)) (cCons (cIdx (cVar 3) (cD (.int 2))) (cCons (cD (.bool true)) cNil)))) cNil)) (cVar 4)))
    xNil)))))
noncomputable def F__law_taken : List AV → M AV := fnM 3 5 f__law_taken
noncomputable def q__law_is_like_0 : Vals → M AV := cComp 1001 false 1 [] (cVar 5) (aVar 0) (fun _ => M.ret true) (cIdx (cVar 0) (cD (.int 1)))
noncomputable def q__law_is_like_1 : Vals → M AV := cComp 1001 false 1 [] (cVar 4) (aVar 0) (fun _ => M.ret true) (cTup (cCons (cIdx (cVar 0) (cD (.int 1))) (cCons (cIdx (cVar 0) (cD (.int 2))) cNil)))
noncomputable def q__law_is_like_2 : Vals → M AV := cComp 1001 false 1 [] (cAttr (cVar 0) 3) (aVar 0) (fun _ => M.ret true) (cIdx (cVar 0) (cD (.int 0)))
noncomputable def q__law_is_like_3 : Vals → M AV := cComp 1001 false 1 [] (cAttr (cVar 0) 2) (aVar 0) (fun _ => M.ret true) (cTup (cCons (cIdx (cVar 0) (cD (.int 0))) (cCons (cIdx (cVar 0) (cD (.int 1))) cNil)))
noncomputable def f__law_is_like : XM := (xSeq (xAsg (cCall F__law_kept (cCons (cVar 1) (cCons (cVar 2) cNil))) (aTup 3 (asCons (aVar 3) (asCons (aVar 4) (asCons (aVar 5) asNil)))))
    (xSeq (xSwap 2 (cTup (cCons q__law_is_like_3 (cCons q__law_is_like_2 cNil))) fun l => asRev [7, 6] l.reverse)
    (xSeq (xIf (cOrB (cCmpB .NotEq (cAttr (cVar 0) 1) (cVar 3)) (cOrB (cCmpB .NotEq (cMeth (cVar 0) F_size cNil) (cCall (one fLen) (cCons (cVar 3) cNil))) (cOrB (cCmpB .NotEq (cVar 6) q__law_is_like_1) (fun _ => M.ret (BoolOp.Or == BoolOp.And))))) (xSeq (xRet (cD (.bool false)))
    xNil) xNil)
    (xSeq (xRet (cAnd (cB (cCmpB .Eq (cVar 7) q__law_is_like_0)) (cB (cNotB (cTr (cAttr (cVar 0) 4))))))
    xNil))))
noncomputable def F__law_is_like : List AV → M AV := fnM 3 5 f__law_is_like
noncomputable def q_law_0 : Vals → M AV := cComp 1001 false 1 [] (cVar 12) (aVar 0) (cAndB (cCmpB .Eq (cIdx (cVar 0) (cD (.int 0))) (cD (.str 2))) (cAndB (cCmpB .Eq (cIdx (cIdx (cVar 0) (cD (.int 4))) (cD (.int 0))) (cD (.str 3))) (fun _ => M.ret (BoolOp.And == BoolOp.And)))) (cIdx (cIdx (cVar 0) (cD (.int 4))) (cD (.int 1)))
noncomputable def q_law_1 : Vals → M AV := cComp 1001 false 1 [] (cVar 12) (aVar 0) (cAndB (cCmpB .Eq (cIdx (cVar 0) (cD (.int 0))) (cD (.str 0))) (cAndB (cCmpB .Eq (cCall (one fLen) (cCons (cVar 0) cNil)) (cD (.int 3))) (fun _ => M.ret (BoolOp.And == BoolOp.And)))) (cIdx (cVar 0) (cD (.int 1)))
noncomputable def q_law_2 : Vals → M AV := cComp 1001 false 1 [] (cVar 1) (aVar 0) (cCmpB .Eq (cIdx (cVar 0) (cD (.int 0))) (cD (.str 2))) (cIdx (cVar 0) (cD (.int 1)))
noncomputable def q_law_3 : Vals → M AV := cComp 1001 false 1 [12] (cVar 6) (aVar 0) (cCmpB .NotIn (cVar 0) q_law_2) (cVar 0)
noncomputable def q_law_4 : Vals → M (List AD) := mComp 1001 true 1 [6] (cCall (one fRange) (cCons (cD (.int 6)) cNil)) (aVar 0) (cCmpB .NotIn (cVar 0) (cVar 1)) (cVar 0)
noncomputable def b_law_0 : XM := (xSeq (xCompA q_law_4 9)
    (xSeq (xIf (cCmpB .Eq (cVar 9) (cLst cNil)) (xSeq xBrk
    xNil) xNil)
    (xSeq (xSwap 2 (cTup (cCons (cCall F__law_one (cCons (cVar 1) (cCons (cVar 9) cNil))) (cCons (cD .none) cNil))) fun l => asRev [11, 10] l.reverse)
    (xSeq (xIf (cCmpB .Eq (cCall F__law_take (cCons (cVar 1) (cCons (cD (.int 2)) cNil))) (cD (.int 0))) (xSeq (xAsg (cTup (cCons (cVar 10) (cCons (cVar 3) cNil))) (aVar 11))
    (xSeq (xExpr (cLM mAppend (cVar 8) (cVar 11)))
    (xSeq (xAsg (cTup (cCons (cMeth (cVar 4) F_offer (cCons (cTup (cCons (cVar 10) (cCons (cVar 11) (cCons (cD .none) (cCons (cD .none) cNil))))) cNil)) (cCons (cCall F__law_sent (cCons (cVar 5) (cCons (cVar 2) (cCons (cVar 10) (cCons (cVar 11) cNil))))) cNil))) (aTup 2 (asCons (aVar 12) (asCons (aVar 13) asNil))))
    xNil))) (xSeq (xAsg (cTup (cCons (cMeth (cVar 4) F_take (cCons (cTup (cCons (cVar 10) (cCons (cD .none) (cCons (cD .none) (cCons (cD .none) cNil))))) cNil)) (cCons (cCall F__law_taken (cCons (cVar 5) (cCons (cVar 2) (cCons (cVar 10) cNil)))) cNil))) (aTup 2 (asCons (aVar 12) (asCons (aVar 13) asNil))))
    xNil))
    (xSeq (xIf (cOrB (cCmpB .NotEq (cVar 12) (cVar 13)) (cOrB (cNotB (cTr (cCall F__law_is_like (cCons (cVar 4) (cCons (cVar 5) (cCons (cVar 2) cNil)))))) (fun _ => M.ret (BoolOp.Or == BoolOp.And)))) (xSeq (xRet (cD (.bool false)))
    xNil) xNil)
    (xSeq (xAsg q_law_3 (aVar 6))
    (xSeq (xAsg (cBin .Add (cVar 6) (cBin .Mult (cLst (cCons (cVar 10) cNil)) (cCall (one fInt) (cCons (cB (cCmpB .Eq (cVar 12) (cLst (cCons (cTup (cCons (cD (.str 1)) cNil)) cNil)))) cNil)))) (aVar 6))
    (xSeq (xAsg (cBin .Add (cVar 7) q_law_1) (aVar 7))
    (xSeq (xAsg (cBin .Add (cVar 7) q_law_0) (aVar 7))
    xNil)))))))))
noncomputable def w_law_0 : XM := xFor 1001 true (cCall (one fRange) (cCons (cBin .Add (cD (.int 5)) (cCall F__law_take (cCons (cVar 1) (cCons (cD (.int 10)) cNil)))) cNil)) (aVar 3) b_law_0
noncomputable def f_law : XM := (xSeq (xIf (cNotB (cTr (cCall F__law_fixed_right cNil))) (xSeq (xRet (cD (.bool false)))
    xNil) xNil)
    (xSeq (xAsg (cCall F__law_pool (cCons (cVar 0) (cCons (cD (.int 0)) cNil))) (aVar 1))
    (xSeq (xAsg (cCall F__law_one (cCons (cVar 1) (cCons (cLst (cCons (cD (.int 0)) (cCons (cD (.int 1)) (cCons (cD (.int 1)) (cCons (cD (.int 2)) (cCons (cD (.int 3)) cNil)))))) cNil))) (aVar 2))
    (xSeq (xAsg (cTup (cCons (cCall (fNew (F___init__)) (cCons (cVar 2) cNil)) (cCons (cLstM cNil) (cCons (cLst cNil) (cCons (cLst cNil) (cCons (cLstM cNil) cNil)))))) (aTup 5 (asCons (aVar 4) (asCons (aVar 5) (asCons (aVar 6) (asCons (aVar 7) (asCons (aVar 8) asNil)))))))
    (xSeq w_law_0
    (xSeq (xRet (cB (cCmpB .Eq (cVar 7) (cTo (cVar 8) (cCall (one fLen) (cCons (cVar 7) cNil))))))
    xNil))))))
noncomputable def F_law : List AV → M AV := fnM 1 13 f_law
end L01
end Mine
end
section
open PySem PySem.W PySem.Calls PyProof.Rows
set_option Elab.async false
set_option maxRecDepth 100000
namespace Mine
namespace L01
section
variable {G : GC} {P : Params} (hK : G.K = hd.heap_39 P) (hC : G.C = 106)
include hK hC
set_option maxHeartbeats 4000000 in
theorem c__law_pool : SC G 1 (.ref 117) F__law_pool := by
  refine SC_fn (ps := ["script", "k"]) (others := ["cell", "big", "mixed"]) ?hb (rw_K hK (f := fun K => K.lookup 117) rfl) ?hcd ?nd ?hbind ?hloc ?hcell rfl rfl rfl
  case hcd => rw [hK]; kernel_rfl
  case nd => decide +kernel
  case hbind => intro vs h; obtain ⟨a, b, rfl⟩ := len2 h; rfl
  case hloc => decide +kernel
  case hcell => decide +kernel
  refine Bx.out ?_
  refine bSXs_cons ?s0 ?r0
  case s0 => exact (bSX_asg_name bSE_int (i := 2) rfl (by decide +kernel) (.inl rfl) (by intro env h; cases env; subst h; rfl))
  refine bSXs_cons ?s1 ?r1
  case s1 => exact (bSX_if (bST_cmp (bSE_var (i := 1) rfl rfl rfl) (bSE_call2 (j := 0) (fv := (.builtin "len")) SF_len (Nat.zero_le _) (bSEs_cons2 (bSE_var (i := 0) rfl rfl rfl) bSEs_nil rfl) (.inr ⟨(rw_K hK (f := fun K => nsIn K mainGlobals "len") rfl), rfl, by decide⟩) rfl rfl rfl rfl) rfl) (bSXs_cons (bSX_asg_name (bSE_idx (bSE_var (i := 0) rfl rfl rfl) (bSE_var (i := 1) rfl rfl rfl) (fun _ _ => rfl)) (i := 2) rfl (by decide +kernel) (.inl rfl) (by intro env h; cases env; subst h; rfl))
    bSXs_nil) bSXs_nil)
  refine bSXs_cons ?s2 ?r2
  case s2 => exact (bSX_asg_name (bSE_call2 (j := 0) (fv := (.builtin "max")) SF_max (Nat.zero_le _) (bSEs_cons2 (bSE_call2 (j := 0) (fv := (.type "int")) SF_int (Nat.zero_le _) (bSEs_cons2 (bSE_var (i := 2) rfl rfl rfl) bSEs_nil rfl) (.inr ⟨(rw_K hK (f := fun K => nsIn K mainGlobals "int") rfl), rfl, by decide⟩) rfl rfl rfl rfl) (bSEs_cons2 (bSE_call2 (j := 0) (fv := (.type "int")) SF_int (Nat.zero_le _) (bSEs_cons2 (bSE_bin (bSE_neg bSE_int) (bSE_var (i := 2) rfl rfl rfl)) bSEs_nil rfl) (.inr ⟨(rw_K hK (f := fun K => nsIn K mainGlobals "int") rfl), rfl, by decide⟩) rfl rfl rfl rfl) bSEs_nil rfl) rfl) (.inr ⟨(rw_K hK (f := fun K => nsIn K mainGlobals "max") rfl), rfl, by decide⟩) rfl rfl rfl rfl) (i := 3) rfl (by decide +kernel) (.inl rfl) (by intro env h; cases env; subst h; rfl))
  refine bSXs_cons ?s3 ?r3
  case s3 => exact (bSX_asg_name (bSE_bin (bSE_call2 (j := 0) (fv := (.type "int")) SF_int (Nat.zero_le _) (bSEs_cons2 (bSE_bin (bSE_bin (bSE_bin (bSE_bin (bSE_bin (bSE_call2 (j := 0) (fv := (.type "int")) SF_int (Nat.zero_le _) (bSEs_cons2 (bSE_var (i := 3) rfl rfl rfl) bSEs_nil rfl) (.inr ⟨(rw_K hK (f := fun K => nsIn K mainGlobals "int") rfl), rfl, by decide⟩) rfl rfl rfl rfl) bSE_int) (bSE_bin (bSE_bin bSE_int (bSE_var (i := 1) rfl rfl rfl)) (bSE_var (i := 1) rfl rfl rfl))) (bSE_bin bSE_int (bSE_var (i := 1) rfl rfl rfl))) bSE_int) bSE_int) bSEs_nil rfl) (.inr ⟨(rw_K hK (f := fun K => nsIn K mainGlobals "int") rfl), rfl, by decide⟩) rfl rfl rfl rfl) bSE_int) (i := 4) rfl (by decide +kernel) (.inl rfl) (by intro env h; cases env; subst h; rfl))
  refine bSXs_cons ?s4 ?r4
  case s4 => exact (bSX_ret (bSE_lstM (bSEs_cons2 (bSE_bin (bSE_var (i := 3) rfl rfl rfl) (bSE_call2 (j := 0) (fv := (.type "int")) SF_int (Nat.zero_le _) (bSEs_cons2 (bSE_cmp (bSE_var (i := 3) rfl rfl rfl) (bSE_bin bSE_int bSE_int) rfl) bSEs_nil rfl) (.inr ⟨(rw_K hK (f := fun K => nsIn K mainGlobals "int") rfl), rfl, by decide⟩) rfl rfl rfl rfl)) (bSEs_cons2 (bSE_var (i := 4) rfl rfl rfl) bSEs_nil rfl) rfl)))
  exact bSXs_nil
set_option maxHeartbeats 4000000 in
theorem c__law_take : SC G 1 (.ref 124) F__law_take := by
  refine SC_fn (ps := ["source", "top"]) (others := ["drawn"]) ?hb (rw_K hK (f := fun K => K.lookup 124) rfl) ?hcd ?nd ?hbind ?hloc ?hcell rfl rfl rfl
  case hcd => rw [hK]; kernel_rfl
  case nd => decide +kernel
  case hbind => intro vs h; obtain ⟨a, b, rfl⟩ := len2 h; rfl
  case hloc => decide +kernel
  case hcell => decide +kernel
  refine Bx.out ?_
  refine bSXs_cons ?s0 ?r0
  case s0 => exact (bSX_if (bST_cmp (bSE_idx (bSE_var (i := 0) rfl rfl rfl) bSE_int (fun _ _ => rfl)) bSE_int rfl) (bSXs_cons (bSX_asg_name (bSE_bin (bSE_call2 (j := 0) (fv := (.type "int")) SF_int (Nat.zero_le _) (bSEs_cons2 (bSE_idx (bSE_var (i := 0) rfl rfl rfl) bSE_int (fun _ _ => rfl)) bSEs_nil rfl) (.inr ⟨(rw_K hK (f := fun K => nsIn K mainGlobals "int") rfl), rfl, by decide⟩) rfl rfl rfl rfl) (bSE_var (i := 1) rfl rfl rfl)) (i := 2) rfl (by decide +kernel) (.inl rfl) (by intro env h; cases env; subst h; rfl))
    (bSXs_cons (bSX_asg_sub (bSE_bin (bSE_idx (bSE_var (i := 0) rfl rfl rfl) bSE_int (fun _ _ => rfl)) (bSE_var (i := 1) rfl rfl rfl)) (bSE_var (i := 0) rfl rfl rfl) bSE_int (by intro env h; cases env; subst h; rfl))
    (bSXs_cons (bSX_ret (bSE_var (i := 2) rfl rfl rfl))
    bSXs_nil))) bSXs_nil)
  refine bSXs_cons ?s1 ?r1
  case s1 => exact (bSX_asg_sub (bSE_bin (bSE_call2 (j := 0) (fv := (.type "int")) SF_int (Nat.zero_le _) (bSEs_cons2 (bSE_bin (bSE_bin (bSE_idx (bSE_var (i := 0) rfl rfl rfl) bSE_int (fun _ _ => rfl)) bSE_int) bSE_int) bSEs_nil rfl) (.inr ⟨(rw_K hK (f := fun K => nsIn K mainGlobals "int") rfl), rfl, by decide⟩) rfl rfl rfl rfl) bSE_int) (bSE_var (i := 0) rfl rfl rfl) bSE_int (by intro env h; cases env; subst h; rfl))
  refine bSXs_cons ?s2 ?r2
  case s2 => exact (bSX_ret (bSE_bin (bSE_call2 (j := 0) (fv := (.type "int")) SF_int (Nat.zero_le _) (bSEs_cons2 (bSE_bin (bSE_bin (bSE_call2 (j := 0) (fv := (.type "int")) SF_int (Nat.zero_le _) (bSEs_cons2 (bSE_bin (bSE_idx (bSE_var (i := 0) rfl rfl rfl) bSE_int (fun _ _ => rfl)) (bSE_idx (bSE_var (i := 0) rfl rfl rfl) bSE_int (fun _ _ => rfl))) bSEs_nil rfl) (.inr ⟨(rw_K hK (f := fun K => nsIn K mainGlobals "int") rfl), rfl, by decide⟩) rfl rfl rfl rfl) bSE_int) bSE_int) bSEs_nil rfl) (.inr ⟨(rw_K hK (f := fun K => nsIn K mainGlobals "int") rfl), rfl, by decide⟩) rfl rfl rfl rfl) (bSE_var (i := 1) rfl rfl rfl)))
  exact bSXs_nil
set_option maxHeartbeats 4000000 in
theorem c__law_one : SC G 2 (.ref 131) F__law_one := by
  refine SC_fn (ps := ["source", "things"]) (others := []) ?hb (rw_K hK (f := fun K => K.lookup 131) rfl) ?hcd ?nd ?hbind ?hloc ?hcell rfl rfl rfl
  case hcd => rw [hK]; kernel_rfl
  case nd => decide +kernel
  case hbind => intro vs h; obtain ⟨a, b, rfl⟩ := len2 h; rfl
  case hloc => decide +kernel
  case hcell => decide +kernel
  refine Bx.out ?_
  refine bSXs_cons ?s0 ?r0
  case s0 => exact (bSX_ret (bSE_idx (bSE_var (i := 1) rfl rfl rfl) (bSE_call2 (fv := .ref 124) (c__law_take hK hC).sf (by decide) (bSEs_cons2 (bSE_var (i := 0) rfl rfl rfl) (bSEs_cons2 (bSE_call2 (j := 0) (fv := (.builtin "len")) SF_len (Nat.zero_le _) (bSEs_cons2 (bSE_var (i := 1) rfl rfl rfl) bSEs_nil rfl) (.inr ⟨(rw_K hK (f := fun K => nsIn K mainGlobals "len") rfl), rfl, by decide⟩) rfl rfl rfl rfl) bSEs_nil rfl) rfl) (.inl (rw_K hK (f := fun K => nsIn K mainGlobals "_law_take") rfl)) (by rw [hK]; kernel_rfl) rfl rfl rfl) (fun _ _ => rfl)))
  exact bSXs_nil
set_option maxHeartbeats 4000000 in
theorem c___init__ : SC G 1 (.ref 49) F___init__ := by
  refine SC_fn (ps := ["self", "room"]) (others := []) ?hb (rw_K hK (f := fun K => K.lookup 49) rfl) ?hcd ?nd ?hbind ?hloc ?hcell rfl rfl rfl
  case hcd => rw [hK]; kernel_rfl
  case nd => decide +kernel
  case hbind => intro vs h; obtain ⟨a, b, rfl⟩ := len2 h; rfl
  case hloc => decide +kernel
  case hcell => decide +kernel
  refine Bx.out ?_
  refine bSXs_cons ?s0 ?r0
  case s0 => exact (bSX_asg_attr (bSE_var (i := 1) rfl rfl rfl) (bSE_var (i := 0) rfl rfl rfl) (i := 0) rfl (by intro env h; cases env; subst h; rfl))
  refine bSXs_cons ?s1 ?r1
  case s1 => exact (bSX_asg_attr (bSE_lstM bSEs_nil) (bSE_var (i := 0) rfl rfl rfl) (i := 1) rfl (by intro env h; cases env; subst h; rfl))
  refine bSXs_cons ?s2 ?r2
  case s2 => exact (bSX_asg_attr (bSE_lstM bSEs_nil) (bSE_var (i := 0) rfl rfl rfl) (i := 2) rfl (by intro env h; cases env; subst h; rfl))
  refine bSXs_cons ?s3 ?r3
  case s3 => exact (bSX_asg_attr (bSE_lstM bSEs_nil) (bSE_var (i := 0) rfl rfl rfl) (i := 3) rfl (by intro env h; cases env; subst h; rfl))
  refine bSXs_cons ?s4 ?r4
  case s4 => exact (bSX_asg_attr bSE_bool (bSE_var (i := 0) rfl rfl rfl) (i := 4) rfl (by intro env h; cases env; subst h; rfl))
  exact bSXs_nil
theorem s_Channel : SF G 2 (.ref 106) (fNew F___init__) := by
  have := SF_new (G := G) (c___init__ hK hC) (by rw [hC]; exact (rw_K hK (f := fun K => findIn K (.ref 106) "__init__") rfl)) (by rw [hK]; kernel_rfl)
  rwa [hC] at this
set_option maxHeartbeats 4000000 in
theorem c_woken_row : SC G 1 (.ref 28) F_woken_row := by
  refine SC_fn (ps := ["waiter", "what"]) (others := []) ?hb (rw_K hK (f := fun K => K.lookup 28) rfl) ?hcd ?nd ?hbind ?hloc ?hcell rfl rfl rfl
  case hcd => rw [hK]; kernel_rfl
  case nd => decide +kernel
  case hbind => intro vs h; obtain ⟨a, b, rfl⟩ := len2 h; rfl
  case hloc => decide +kernel
  case hcell => decide +kernel
  refine Bx.out ?_
  refine bSXs_cons ?s0 ?r0
  case s0 => exact (bSX_ret (bSE_tup (bSEs_cons2 (bSE_str (j := 2) rfl) (bSEs_cons2 (bSE_idx (bSE_var (i := 0) rfl rfl rfl) bSE_int (fun _ _ => rfl)) (bSEs_cons2 (bSE_idx (bSE_var (i := 0) rfl rfl rfl) bSE_int (fun _ _ => rfl)) (bSEs_cons2 (bSE_idx (bSE_var (i := 0) rfl rfl rfl) bSE_int (fun _ _ => rfl)) (bSEs_cons2 (bSE_var (i := 1) rfl rfl rfl) bSEs_nil rfl) rfl) rfl) rfl) rfl)))
  exact bSXs_nil
set_option maxHeartbeats 4000000 in
theorem c_offer : SC G 2 (.ref 70) F_offer := by
  refine SC_fn (ps := ["self", "waiter"]) (others := ["first"]) ?hb (rw_K hK (f := fun K => K.lookup 70) rfl) ?hcd ?nd ?hbind ?hloc ?hcell rfl rfl rfl
  case hcd => rw [hK]; kernel_rfl
  case nd => decide +kernel
  case hbind => intro vs h; obtain ⟨a, b, rfl⟩ := len2 h; rfl
  case hloc => decide +kernel
  case hcell => decide +kernel
  refine Bx.out ?_
  refine bSXs_cons ?s0 ?r0
  case s0 => exact (bSX_if (bST_val (bSE_attr2 (bSE_var (i := 0) rfl rfl rfl) (i := 4) rfl rfl) (fun _ _ => rfl)) (bSXs_cons (bSX_ret (bSE_lst (bSEs_cons2 (bSE_tup (bSEs_cons2 (bSE_str (j := 5) rfl) (bSEs_cons2 (bSE_gstr (j := 6) rfl (rw_K hK (f := fun K => nsIn K mainGlobals "SEND_ON_CLOSED") rfl) rfl rfl) bSEs_nil rfl) rfl)) bSEs_nil rfl)))
    bSXs_nil) bSXs_nil)
  refine bSXs_cons ?s1 ?r1
  case s1 => exact (bSX_if (bST_cmp (bSE_attr2 (bSE_var (i := 0) rfl rfl rfl) (i := 3) rfl rfl) (bSE_lst bSEs_nil) rfl) (bSXs_cons (bSX_asg_name (bSE_lmeth2 (k := _) SL_pop (bSE_attr2 (bSE_var (i := 0) rfl rfl rfl) (i := 3) rfl rfl) bSE_int PySem.F.slot_list_pop rfl rfl rfl rfl) (i := 2) rfl (by decide +kernel) (.inl rfl) (by intro env h; cases env; subst h; rfl))
    (bSXs_cons (bSX_ret (bSE_lst (bSEs_cons2 (bSE_tup (bSEs_cons2 (bSE_str (j := 0) rfl) bSEs_nil rfl)) (bSEs_cons2 (bSE_call2 (fv := .ref 28) (c_woken_row hK hC).sf (by decide) (bSEs_cons2 (bSE_var (i := 2) rfl rfl rfl) (bSEs_cons2 (bSE_tup (bSEs_cons2 (bSE_str (j := 3) rfl) (bSEs_cons2 (bSE_idx (bSE_var (i := 1) rfl rfl rfl) bSE_int (fun _ _ => rfl)) (bSEs_cons2 bSE_bool bSEs_nil rfl) rfl) rfl)) bSEs_nil rfl) rfl) (.inl (rw_K hK (f := fun K => nsIn K mainGlobals "woken_row") rfl)) (by rw [hK]; kernel_rfl) rfl rfl rfl) bSEs_nil rfl) rfl)))
    bSXs_nil)) bSXs_nil)
  refine bSXs_cons ?s2 ?r2
  case s2 => exact (bSX_if (bST_cmp (bSE_call2 (j := 0) (fv := (.builtin "len")) SF_len (Nat.zero_le _) (bSEs_cons2 (bSE_attr2 (bSE_var (i := 0) rfl rfl rfl) (i := 1) rfl rfl) bSEs_nil rfl) (.inr ⟨(rw_K hK (f := fun K => nsIn K mainGlobals "len") rfl), rfl, by decide⟩) rfl rfl rfl rfl) (bSE_attr2 (bSE_var (i := 0) rfl rfl rfl) (i := 0) rfl rfl) rfl) (bSXs_cons (bSX_expr (bSE_lmeth2 (k := _) SL_append (bSE_attr2 (bSE_var (i := 0) rfl rfl rfl) (i := 1) rfl rfl) (bSE_idx (bSE_var (i := 1) rfl rfl rfl) bSE_int (fun _ _ => rfl)) PySem.F.slot_list_append rfl rfl rfl rfl) (fun _ _ => rfl))
    (bSXs_cons (bSX_ret (bSE_lst (bSEs_cons2 (bSE_tup (bSEs_cons2 (bSE_str (j := 0) rfl) bSEs_nil rfl)) bSEs_nil rfl)))
    bSXs_nil)) bSXs_nil)
  refine bSXs_cons ?s3 ?r3
  case s3 => exact (bSX_expr (bSE_lmeth2 (k := _) SL_append (bSE_attr2 (bSE_var (i := 0) rfl rfl rfl) (i := 2) rfl rfl) (bSE_var (i := 1) rfl rfl rfl) PySem.F.slot_list_append rfl rfl rfl rfl) (fun _ _ => rfl))
  refine bSXs_cons ?s4 ?r4
  case s4 => exact (bSX_ret (bSE_lst (bSEs_cons2 (bSE_tup (bSEs_cons2 (bSE_str (j := 1) rfl) bSEs_nil rfl)) bSEs_nil rfl)))
  exact bSXs_nil
set_option maxHeartbeats 4000000 in
theorem c_filled : SC G 2 (.ref 84) F_filled := by
  refine SC_fn (ps := ["self"]) (others := ["first"]) ?hb (rw_K hK (f := fun K => K.lookup 84) rfl) ?hcd ?nd ?hbind ?hloc ?hcell rfl rfl rfl
  case hcd => rw [hK]; kernel_rfl
  case nd => decide +kernel
  case hbind => intro vs h; obtain ⟨a, rfl⟩ := len1 h; rfl
  case hloc => decide +kernel
  case hcell => decide +kernel
  refine Bx.out ?_
  refine bSXs_cons ?s0 ?r0
  case s0 => exact (bSX_if (bST_cmp (bSE_attr2 (bSE_var (i := 0) rfl rfl rfl) (i := 2) rfl rfl) (bSE_lst bSEs_nil) rfl) (bSXs_cons (bSX_ret (bSE_lst bSEs_nil))
    bSXs_nil) bSXs_nil)
  refine bSXs_cons ?s1 ?r1
  case s1 => exact (bSX_asg_name (bSE_lmeth2 (k := _) SL_pop (bSE_attr2 (bSE_var (i := 0) rfl rfl rfl) (i := 2) rfl rfl) bSE_int PySem.F.slot_list_pop rfl rfl rfl rfl) (i := 1) rfl (by decide +kernel) (.inl rfl) (by intro env h; cases env; subst h; rfl))
  refine bSXs_cons ?s2 ?r2
  case s2 => exact (bSX_expr (bSE_lmeth2 (k := _) SL_append (bSE_attr2 (bSE_var (i := 0) rfl rfl rfl) (i := 1) rfl rfl) (bSE_idx (bSE_var (i := 1) rfl rfl rfl) bSE_int (fun _ _ => rfl)) PySem.F.slot_list_append rfl rfl rfl rfl) (fun _ _ => rfl))
  refine bSXs_cons ?s3 ?r3
  case s3 => exact (bSX_ret (bSE_lst (bSEs_cons2 (bSE_call2 (fv := .ref 28) (c_woken_row hK hC).sf (by decide) (bSEs_cons2 (bSE_var (i := 1) rfl rfl rfl) (bSEs_cons2 (bSE_tup (bSEs_cons2 (bSE_str (j := 4) rfl) bSEs_nil rfl)) bSEs_nil rfl) rfl) (.inl (rw_K hK (f := fun K => nsIn K mainGlobals "woken_row") rfl)) (by rw [hK]; kernel_rfl) rfl rfl rfl) bSEs_nil rfl)))
  exact bSXs_nil
set_option maxHeartbeats 4000000 in
theorem c_take : SC G 3 (.ref 77) F_take := by
  refine SC_fn (ps := ["self", "waiter"]) (others := ["found", "first"]) ?hb (rw_K hK (f := fun K => K.lookup 77) rfl) ?hcd ?nd ?hbind ?hloc ?hcell rfl rfl rfl
  case hcd => rw [hK]; kernel_rfl
  case nd => decide +kernel
  case hbind => intro vs h; obtain ⟨a, b, rfl⟩ := len2 h; rfl
  case hloc => decide +kernel
  case hcell => decide +kernel
  refine Bx.out ?_
  refine bSXs_cons ?s0 ?r0
  case s0 => exact (bSX_if (bST_cmp (bSE_attr2 (bSE_var (i := 0) rfl rfl rfl) (i := 1) rfl rfl) (bSE_lst bSEs_nil) rfl) (bSXs_cons (bSX_asg_name (bSE_lmeth2 (k := _) SL_pop (bSE_attr2 (bSE_var (i := 0) rfl rfl rfl) (i := 1) rfl rfl) bSE_int PySem.F.slot_list_pop rfl rfl rfl rfl) (i := 2) rfl (by decide +kernel) (.inl rfl) (by intro env h; cases env; subst h; rfl))
    (bSXs_cons (bSX_ret (bSE_bin (bSE_lst (bSEs_cons2 (bSE_tup (bSEs_cons2 (bSE_str (j := 0) rfl) (bSEs_cons2 (bSE_var (i := 2) rfl rfl rfl) (bSEs_cons2 bSE_bool bSEs_nil rfl) rfl) rfl)) bSEs_nil rfl)) (bSE_meth2 (fa := 84) (c_filled hK hC).sf (by decide) (bSE_var (i := 0) rfl rfl rfl) bSEs_nil (by rw [hC]; exact (rw_K hK (f := fun K => findIn K (.ref 106) "filled") rfl)) (by rw [hK]; kernel_rfl) (by decide +kernel) (by rw [hK]; kernel_rfl) rfl rfl rfl rfl)))
    bSXs_nil)) bSXs_nil)
  refine bSXs_cons ?s1 ?r1
  case s1 => exact (bSX_if (bST_cmp (bSE_attr2 (bSE_var (i := 0) rfl rfl rfl) (i := 2) rfl rfl) (bSE_lst bSEs_nil) rfl) (bSXs_cons (bSX_asg_name (bSE_lmeth2 (k := _) SL_pop (bSE_attr2 (bSE_var (i := 0) rfl rfl rfl) (i := 2) rfl rfl) bSE_int PySem.F.slot_list_pop rfl rfl rfl rfl) (i := 3) rfl (by decide +kernel) (.inl rfl) (by intro env h; cases env; subst h; rfl))
    (bSXs_cons (bSX_ret (bSE_lst (bSEs_cons2 (bSE_tup (bSEs_cons2 (bSE_str (j := 0) rfl) (bSEs_cons2 (bSE_idx (bSE_var (i := 3) rfl rfl rfl) bSE_int (fun _ _ => rfl)) (bSEs_cons2 bSE_bool bSEs_nil rfl) rfl) rfl)) (bSEs_cons2 (bSE_call2 (fv := .ref 28) (c_woken_row hK hC).sf (by decide) (bSEs_cons2 (bSE_var (i := 3) rfl rfl rfl) (bSEs_cons2 (bSE_tup (bSEs_cons2 (bSE_str (j := 4) rfl) bSEs_nil rfl)) bSEs_nil rfl) rfl) (.inl (rw_K hK (f := fun K => nsIn K mainGlobals "woken_row") rfl)) (by rw [hK]; kernel_rfl) rfl rfl rfl) bSEs_nil rfl) rfl)))
    bSXs_nil)) bSXs_nil)
  refine bSXs_cons ?s2 ?r2
  case s2 => exact (bSX_if (bST_val (bSE_attr2 (bSE_var (i := 0) rfl rfl rfl) (i := 4) rfl rfl) (fun _ _ => rfl)) (bSXs_cons (bSX_ret (bSE_lst (bSEs_cons2 (bSE_tup (bSEs_cons2 (bSE_str (j := 0) rfl) (bSEs_cons2 bSE_none (bSEs_cons2 bSE_bool bSEs_nil rfl) rfl) rfl)) bSEs_nil rfl)))
    bSXs_nil) bSXs_nil)
  refine bSXs_cons ?s3 ?r3
  case s3 => exact (bSX_expr (bSE_lmeth2 (k := _) SL_append (bSE_attr2 (bSE_var (i := 0) rfl rfl rfl) (i := 3) rfl rfl) (bSE_var (i := 1) rfl rfl rfl) PySem.F.slot_list_append rfl rfl rfl rfl) (fun _ _ => rfl))
  refine bSXs_cons ?s4 ?r4
  case s4 => exact (bSX_ret (bSE_lst (bSEs_cons2 (bSE_tup (bSEs_cons2 (bSE_str (j := 1) rfl) bSEs_nil rfl)) bSEs_nil rfl)))
  exact bSXs_nil
set_option maxHeartbeats 4000000 in
theorem c__law_fixed_right : SC G 4 (.ref 160) F__law_fixed_right := by
  refine SC_fn (ps := []) (others := ["channel", "told", "due"]) ?hb (rw_K hK (f := fun K => K.lookup 160) rfl) ?hcd ?nd ?hbind ?hloc ?hcell rfl rfl rfl
  case hcd => rw [hK]; kernel_rfl
  case nd => decide +kernel
  case hbind => intro vs h; cases len0 h; rfl
  case hloc => decide +kernel
  case hcell => decide +kernel
  refine Bx.out ?_
  refine bSXs_cons ?s0 ?r0
  case s0 => exact (bSX_asg_name (bSE_call2 (fv := .ref 106) (s_Channel hK hC) (by decide) (bSEs_cons2 bSE_int bSEs_nil rfl) (.inl (rw_K hK (f := fun K => nsIn K mainGlobals "Channel") rfl)) (by rw [hK]; kernel_rfl) rfl rfl rfl) (i := 0) rfl (by decide +kernel) (.inl rfl) (by intro env h; cases env; subst h; rfl))
  refine bSXs_cons ?s1 ?r1
  case s1 => exact (bSX_asg_name (bSE_lstM (bSEs_cons2 (bSE_meth2 (fa := 70) (c_offer hK hC).sf (by decide) (bSE_var (i := 0) rfl rfl rfl) (bSEs_cons2 (bSE_tup (bSEs_cons2 bSE_int (bSEs_cons2 (bSE_str (j := 10) rfl) (bSEs_cons2 bSE_none (bSEs_cons2 bSE_none bSEs_nil rfl) rfl) rfl) rfl)) bSEs_nil rfl) (by rw [hC]; exact (rw_K hK (f := fun K => findIn K (.ref 106) "offer") rfl)) (by rw [hK]; kernel_rfl) (by decide +kernel) (by rw [hK]; kernel_rfl) rfl rfl rfl rfl) (bSEs_cons2 (bSE_meth2 (fa := 70) (c_offer hK hC).sf (by decide) (bSE_var (i := 0) rfl rfl rfl) (bSEs_cons2 (bSE_tup (bSEs_cons2 bSE_int (bSEs_cons2 (bSE_str (j := 11) rfl) (bSEs_cons2 bSE_none (bSEs_cons2 bSE_none bSEs_nil rfl) rfl) rfl) rfl)) bSEs_nil rfl) (by rw [hC]; exact (rw_K hK (f := fun K => findIn K (.ref 106) "offer") rfl)) (by rw [hK]; kernel_rfl) (by decide +kernel) (by rw [hK]; kernel_rfl) rfl rfl rfl rfl) bSEs_nil rfl) rfl)) (i := 1) rfl (by decide +kernel) (.inl rfl) (by intro env h; cases env; subst h; rfl))
  refine bSXs_cons ?s2 ?r2
  case s2 => exact (bSX_expr (bSE_lmeth2 (k := _) SL_append (bSE_var (i := 1) rfl rfl rfl) (bSE_meth2 (fa := 77) (c_take hK hC).sf (by decide) (bSE_var (i := 0) rfl rfl rfl) (bSEs_cons2 (bSE_tup (bSEs_cons2 bSE_int (bSEs_cons2 bSE_none (bSEs_cons2 bSE_none (bSEs_cons2 bSE_none bSEs_nil rfl) rfl) rfl) rfl)) bSEs_nil rfl) (by rw [hC]; exact (rw_K hK (f := fun K => findIn K (.ref 106) "take") rfl)) (by rw [hK]; kernel_rfl) (by decide +kernel) (by rw [hK]; kernel_rfl) rfl rfl rfl rfl) PySem.F.slot_list_append rfl rfl rfl rfl) (fun _ _ => rfl))
  refine bSXs_cons ?s3 ?r3
  case s3 => exact (bSX_asg_name (bSE_lst (bSEs_cons2 (bSE_lst (bSEs_cons2 (bSE_tup (bSEs_cons2 (bSE_str (j := 0) rfl) bSEs_nil rfl)) bSEs_nil rfl)) (bSEs_cons2 (bSE_lst (bSEs_cons2 (bSE_tup (bSEs_cons2 (bSE_str (j := 1) rfl) bSEs_nil rfl)) bSEs_nil rfl)) (bSEs_cons2 (bSE_lst (bSEs_cons2 (bSE_tup (bSEs_cons2 (bSE_str (j := 0) rfl) (bSEs_cons2 (bSE_str (j := 10) rfl) (bSEs_cons2 bSE_bool bSEs_nil rfl) rfl) rfl)) (bSEs_cons2 (bSE_tup (bSEs_cons2 (bSE_str (j := 2) rfl) (bSEs_cons2 bSE_int (bSEs_cons2 bSE_none (bSEs_cons2 bSE_none (bSEs_cons2 (bSE_tup (bSEs_cons2 (bSE_str (j := 4) rfl) bSEs_nil rfl)) bSEs_nil rfl) rfl) rfl) rfl) rfl)) bSEs_nil rfl) rfl)) bSEs_nil rfl) rfl) rfl)) (i := 2) rfl (by decide +kernel) (.inl rfl) (by intro env h; cases env; subst h; rfl))
  refine bSXs_cons ?s4 ?r4
  case s4 => exact (bSX_ret (bSE_boolop (bSBs_and (bSE_cmp (bSE_var (i := 1) rfl rfl rfl) (bSE_var (i := 2) rfl rfl rfl) rfl) (bSBs_one (bSE_cmp (bSE_meth2 (fa := 77) (c_take hK hC).sf (by decide) (bSE_var (i := 0) rfl rfl rfl) (bSEs_cons2 (bSE_tup (bSEs_cons2 bSE_int (bSEs_cons2 bSE_none (bSEs_cons2 bSE_none (bSEs_cons2 bSE_none bSEs_nil rfl) rfl) rfl) rfl)) bSEs_nil rfl) (by rw [hC]; exact (rw_K hK (f := fun K => findIn K (.ref 106) "take") rfl)) (by rw [hK]; kernel_rfl) (by decide +kernel) (by rw [hK]; kernel_rfl) rfl rfl rfl rfl) (bSE_lst (bSEs_cons2 (bSE_tup (bSEs_cons2 (bSE_str (j := 0) rfl) (bSEs_cons2 (bSE_str (j := 11) rfl) (bSEs_cons2 bSE_bool bSEs_nil rfl) rfl) rfl)) bSEs_nil rfl)) rfl)))))
  exact bSXs_nil
set_option maxHeartbeats 4000000 in
theorem c__law_kept : SC G 1 (.ref 136) F__law_kept := by
  refine SC_fn (ps := ["deeds", "room"]) (others := ["sends"]) ?hb (rw_K hK (f := fun K => K.lookup 136) rfl) ?hcd ?nd ?hbind ?hloc ?hcell rfl rfl rfl
  case hcd => rw [hK]; kernel_rfl
  case nd => decide +kernel
  case hbind => intro vs h; obtain ⟨a, b, rfl⟩ := len2 h; rfl
  case hloc => decide +kernel
  case hcell => decide +kernel
  refine Bx.out ?_
  refine bSXs_cons ?s0 ?r0
  case s0 => exact (bSX_compA (ts := ["deed"]) (cap := []) (cp := []) (N := 1001) (tn := false) (bSE_var (i := 0) rfl rfl rfl) (bLoopOk_any (bSA_var (i := 0) rfl (by decide +kernel) (.inl rfl)) (bSIf_one (bST_cmp (bSE_idx (bSE_var (i := 0) rfl rfl rfl) bSE_int (fun _ _ => rfl)) (bSE_str (j := 8) rfl) rfl)) (bSE_var (i := 0) rfl rfl rfl) (fun _ _ => rfl)) (fun _ _ => rfl) (Clos_none (fun _ => rfl)) rfl (by decide +kernel) (by decide +kernel) rfl (fun _ m => absurd m List.not_mem_nil) (by decide +kernel) (i := 2) rfl (by decide +kernel) rfl (by intro env h; cases env; subst h; rfl))
  refine bSXs_cons ?s1 ?r1
  case s1 => exact (bSX_ret (bSE_tup (bSEs_cons2 (bSE_comp (ts := ["deed"]) (cap := []) (cp := []) (N := 1001) (tn := false) (bSE_to (bSE_var (i := 2) rfl rfl rfl) (bSE_var (i := 1) rfl rfl rfl) (fun _ _ => rfl)) (bLoopOk_any (bSA_var (i := 0) rfl (by decide +kernel) (.inl rfl)) bSIf_nil (bSE_idx (bSE_var (i := 0) rfl rfl rfl) bSE_int (fun _ _ => rfl)) (fun _ _ => rfl)) (fun _ _ => rfl) (Clos_none (fun _ => rfl)) rfl (by decide +kernel) (by decide +kernel) rfl (fun _ m => absurd m List.not_mem_nil) (by decide +kernel)) (bSEs_cons2 (bSE_from (bSE_var (i := 2) rfl rfl rfl) (bSE_var (i := 1) rfl rfl rfl) (fun _ _ => rfl)) (bSEs_cons2 (bSE_comp (ts := ["deed"]) (cap := []) (cp := []) (N := 1001) (tn := false) (bSE_var (i := 0) rfl rfl rfl) (bLoopOk_any (bSA_var (i := 0) rfl (by decide +kernel) (.inl rfl)) (bSIf_one (bST_cmp (bSE_idx (bSE_var (i := 0) rfl rfl rfl) bSE_int (fun _ _ => rfl)) (bSE_str (j := 9) rfl) rfl)) (bSE_var (i := 0) rfl rfl rfl) (fun _ _ => rfl)) (fun _ _ => rfl) (Clos_none (fun _ => rfl)) rfl (by decide +kernel) (by decide +kernel) rfl (fun _ m => absurd m List.not_mem_nil) (by decide +kernel)) bSEs_nil rfl) rfl) rfl)))
  exact bSXs_nil
set_option maxHeartbeats 4000000 in
theorem c__law_sent : SC G 2 (.ref 143) F__law_sent := by
  refine SC_fn (ps := ["deeds", "room", "who", "value"]) (others := ["deed"]) ?hb (rw_K hK (f := fun K => K.lookup 143) rfl) ?hcd ?nd ?hbind ?hloc ?hcell rfl rfl rfl
  case hcd => rw [hK]; kernel_rfl
  case nd => decide +kernel
  case hbind => intro vs h; obtain ⟨a, b, c, d, rfl⟩ := len4 h; rfl
  case hloc => decide +kernel
  case hcell => decide +kernel
  refine Bx.out ?_
  refine bSXs_cons ?s0 ?r0
  case s0 => exact (bSX_for (N := 1001) (tn := false) (bSE_var (i := 0) rfl rfl rfl) (bSA_var (i := 4) rfl (by decide +kernel) (.inl rfl)) (bSXs_cons (bSX_if (bST_cmp (bSE_idx (bSE_var (i := 4) rfl rfl rfl) bSE_int (fun _ _ => rfl)) (bSE_str (j := 9) rfl) rfl) (bSXs_cons (bSX_expr (bSE_lmeth2 (k := _) SL_remove (bSE_var (i := 0) rfl rfl rfl) (bSE_var (i := 4) rfl rfl rfl) PySem.F.slot_list_remove rfl rfl rfl rfl) (fun _ _ => rfl))
    (bSXs_cons (bSX_ret (bSE_lst (bSEs_cons2 (bSE_tup (bSEs_cons2 (bSE_str (j := 0) rfl) bSEs_nil rfl)) (bSEs_cons2 (bSE_tup (bSEs_cons2 (bSE_str (j := 2) rfl) (bSEs_cons2 (bSE_idx (bSE_var (i := 4) rfl rfl rfl) bSE_int (fun _ _ => rfl)) (bSEs_cons2 bSE_none (bSEs_cons2 bSE_none (bSEs_cons2 (bSE_tup (bSEs_cons2 (bSE_str (j := 3) rfl) (bSEs_cons2 (bSE_var (i := 3) rfl rfl rfl) (bSEs_cons2 bSE_bool bSEs_nil rfl) rfl) rfl)) bSEs_nil rfl) rfl) rfl) rfl) rfl)) bSEs_nil rfl) rfl)))
    bSXs_nil)) bSXs_nil)
    bSXs_nil) (fun _ _ => rfl) (fun h => nomatch h))
  refine bSXs_cons ?s1 ?r1
  case s1 => exact (bSX_expr (bSE_lmeth2 (k := _) SL_append (bSE_var (i := 0) rfl rfl rfl) (bSE_tup (bSEs_cons2 (bSE_str (j := 8) rfl) (bSEs_cons2 (bSE_var (i := 2) rfl rfl rfl) (bSEs_cons2 (bSE_var (i := 3) rfl rfl rfl) bSEs_nil rfl) rfl) rfl)) PySem.F.slot_list_append rfl rfl rfl rfl) (fun _ _ => rfl))
  refine bSXs_cons ?s2 ?r2
  case s2 => exact (bSX_ret (bSE_ifexp (bST_cmp (bSE_call2 (j := 0) (fv := (.builtin "len")) SF_len (Nat.zero_le _) (bSEs_cons2 (bSE_idx (bSE_call2 (fv := .ref 136) (c__law_kept hK hC).sf (by decide) (bSEs_cons2 (bSE_var (i := 0) rfl rfl rfl) (bSEs_cons2 (bSE_var (i := 1) rfl rfl rfl) bSEs_nil rfl) rfl) (.inl (rw_K hK (f := fun K => nsIn K mainGlobals "_law_kept") rfl)) (by rw [hK]; kernel_rfl) rfl rfl rfl) bSE_int (fun _ _ => rfl)) bSEs_nil rfl) (.inr ⟨(rw_K hK (f := fun K => nsIn K mainGlobals "len") rfl), rfl, by decide⟩) rfl rfl rfl rfl) (bSE_call2 (j := 0) (fv := (.builtin "len")) SF_len (Nat.zero_le _) (bSEs_cons2 (bSE_var (i := 0) rfl rfl rfl) bSEs_nil rfl) (.inr ⟨(rw_K hK (f := fun K => nsIn K mainGlobals "len") rfl), rfl, by decide⟩) rfl rfl rfl rfl) rfl) (bSE_lst (bSEs_cons2 (bSE_tup (bSEs_cons2 (bSE_str (j := 0) rfl) bSEs_nil rfl)) bSEs_nil rfl)) (bSE_lst (bSEs_cons2 (bSE_tup (bSEs_cons2 (bSE_str (j := 1) rfl) bSEs_nil rfl)) bSEs_nil rfl))))
  exact bSXs_nil
set_option maxHeartbeats 4000000 in
theorem c__law_taken : SC G 2 (.ref 148) F__law_taken := by
  refine SC_fn (ps := ["deeds", "room", "who"]) (others := ["first", "woken", "kept", "late", "takes"]) ?hb (rw_K hK (f := fun K => K.lookup 148) rfl) ?hcd ?nd ?hbind ?hloc ?hcell rfl rfl rfl
  case hcd => rw [hK]; kernel_rfl
  case nd => decide +kernel
  case hbind => intro vs h; obtain ⟨a, b, c, rfl⟩ := len3 h; rfl
  case hloc => decide +kernel
  case hcell => decide +kernel
  refine Bx.out ?_
  refine bSXs_cons ?s0 ?r0
  case s0 => exact (bSX_asg_tup (bSE_call2 (fv := .ref 136) (c__law_kept hK hC).sf (by decide) (bSEs_cons2 (bSE_var (i := 0) rfl rfl rfl) (bSEs_cons2 (bSE_var (i := 1) rfl rfl rfl) bSEs_nil rfl) rfl) (.inl (rw_K hK (f := fun K => nsIn K mainGlobals "_law_kept") rfl)) (by rw [hK]; kernel_rfl) rfl rfl rfl) (bSA_tup (bSAs_cons (bSA_var (i := 5) rfl (by decide +kernel) (.inl rfl)) (bSAs_cons (bSA_var (i := 6) rfl (by decide +kernel) (.inl rfl)) (bSAs_cons (bSA_var (i := 7) rfl (by decide +kernel) (.inl rfl)) bSAs_nil (fun _ => rfl)) (fun _ => rfl)) (fun _ => rfl)) (n := 3) (fun _ => rfl) (fun _ => rfl)) (by intro env h; cases env; subst h; rfl) (by intro env h; cases env; subst h; rfl))
  refine bSXs_cons ?s1 ?r1
  case s1 => exact (bSX_if (bST_bool (bSTs_and (bST_cmp (bSE_var (i := 5) rfl rfl rfl) (bSE_lst bSEs_nil) rfl) (bSTs_and (bST_cmp (bSE_var (i := 6) rfl rfl rfl) (bSE_lst bSEs_nil) rfl) bSTs_nil))) (bSXs_cons (bSX_expr (bSE_lmeth2 (k := _) SL_append (bSE_var (i := 0) rfl rfl rfl) (bSE_tup (bSEs_cons2 (bSE_str (j := 9) rfl) (bSEs_cons2 (bSE_var (i := 2) rfl rfl rfl) bSEs_nil rfl) rfl)) PySem.F.slot_list_append rfl rfl rfl rfl) (fun _ _ => rfl))
    (bSXs_cons (bSX_ret (bSE_lst (bSEs_cons2 (bSE_tup (bSEs_cons2 (bSE_str (j := 1) rfl) bSEs_nil rfl)) bSEs_nil rfl)))
    bSXs_nil)) bSXs_nil)
  refine bSXs_cons ?s2 ?r2
  case s2 => exact (bSX_asg_name (bSE_lmeth2 (k := _) SL_pop (bSE_var (i := 0) rfl rfl rfl) bSE_int PySem.F.slot_list_pop rfl rfl rfl rfl) (i := 3) rfl (by decide +kernel) (.inl rfl) (by intro env h; cases env; subst h; rfl))
  refine bSXs_cons ?s3 ?r3
  case s3 => exact (bSX_compA (ts := ["deed"]) (cap := []) (cp := []) (N := 1001) (tn := false) (bSE_to (bSE_var (i := 6) rfl rfl rfl) bSE_int (fun _ _ => rfl)) (bLoopOk_any (bSA_var (i := 0) rfl (by decide +kernel) (.inl rfl)) bSIf_nil (bSE_tup (bSEs_cons2 (bSE_str (j := 2) rfl) (bSEs_cons2 (bSE_idx (bSE_var (i := 0) rfl rfl rfl) bSE_int (fun _ _ => rfl)) (bSEs_cons2 bSE_none (bSEs_cons2 bSE_none (bSEs_cons2 (bSE_tup (bSEs_cons2 (bSE_str (j := 4) rfl) bSEs_nil rfl)) bSEs_nil rfl) rfl) rfl) rfl) rfl)) (fun _ _ => rfl)) (fun _ _ => rfl) (Clos_none (fun _ => rfl)) rfl (by decide +kernel) (by decide +kernel) rfl (fun _ m => absurd m List.not_mem_nil) (by decide +kernel) (i := 4) rfl (by decide +kernel) rfl (by intro env h; cases env; subst h; rfl))
  refine bSXs_cons ?s4 ?r4
  case s4 => exact (bSX_ret (bSE_bin (bSE_lst (bSEs_cons2 (bSE_tup (bSEs_cons2 (bSE_str (j := 0) rfl) (bSEs_cons2 (bSE_idx (bSE_var (i := 3) rfl rfl rfl) bSE_int (fun _ _ => rfl)) (bSEs_cons2 bSE_bool bSEs_nil rfl) rfl) rfl)) bSEs_nil rfl)) (bSE_var (i := 4) rfl rfl rfl)))
  exact bSXs_nil
set_option maxHeartbeats 4000000 in
theorem c_size : SC G 1 (.ref 103) F_size := by
  refine SC_fn (ps := ["self"]) (others := []) ?hb (rw_K hK (f := fun K => K.lookup 103) rfl) ?hcd ?nd ?hbind ?hloc ?hcell rfl rfl rfl
  case hcd => rw [hK]; kernel_rfl
  case nd => decide +kernel
  case hbind => intro vs h; obtain ⟨a, rfl⟩ := len1 h; rfl
  case hloc => decide +kernel
  case hcell => decide +kernel
  refine Bx.out ?_
  refine bSXs_cons ?s0 ?r0
  case s0 => exact (bSX_ret (bSE_call2 (j := 0) (fv := (.builtin "len")) SF_len (Nat.zero_le _) (bSEs_cons2 (bSE_attr2 (bSE_var (i := 0) rfl rfl rfl) (i := 1) rfl rfl) bSEs_nil rfl) (.inr ⟨(rw_K hK (f := fun K => nsIn K mainGlobals "len") rfl), rfl, by decide⟩) rfl rfl rfl rfl))
  exact bSXs_nil
set_option maxHeartbeats 4000000 in
theorem c__law_is_like : SC G 2 (.ref 153) F__law_is_like := by
  refine SC_fn (ps := ["channel", "deeds", "room"]) (others := ["kept", "late", "takes", "senders", "receivers"]) ?hb (rw_K hK (f := fun K => K.lookup 153) rfl) ?hcd ?nd ?hbind ?hloc ?hcell rfl rfl rfl
  case hcd => rw [hK]; kernel_rfl
  case nd => decide +kernel
  case hbind => intro vs h; obtain ⟨a, b, c, rfl⟩ := len3 h; rfl
  case hloc => decide +kernel
  case hcell => decide +kernel
  refine Bx.out ?_
  refine bSXs_cons ?s0 ?r0
  case s0 => exact (bSX_asg_tup (bSE_call2 (fv := .ref 136) (c__law_kept hK hC).sf (by decide) (bSEs_cons2 (bSE_var (i := 1) rfl rfl rfl) (bSEs_cons2 (bSE_var (i := 2) rfl rfl rfl) bSEs_nil rfl) rfl) (.inl (rw_K hK (f := fun K => nsIn K mainGlobals "_law_kept") rfl)) (by rw [hK]; kernel_rfl) rfl rfl rfl) (bSA_tup (bSAs_cons (bSA_var (i := 3) rfl (by decide +kernel) (.inl rfl)) (bSAs_cons (bSA_var (i := 4) rfl (by decide +kernel) (.inl rfl)) (bSAs_cons (bSA_var (i := 5) rfl (by decide +kernel) (.inl rfl)) bSAs_nil (fun _ => rfl)) (fun _ => rfl)) (fun _ => rfl)) (n := 3) (fun _ => rfl) (fun _ => rfl)) (by intro env h; cases env; subst h; rfl) (by intro env h; cases env; subst h; rfl))
  refine bSXs_cons ?s1 ?r1
  case s1 => exact (bSX_asg_swap (is := [7, 6]) (xs := ["senders", "receivers"]) (bSE_tup (bSEs_cons2 (bSE_comp (ts := ["one"]) (cap := []) (cp := []) (N := 1001) (tn := false) (bSE_attr2 (bSE_var (i := 0) rfl rfl rfl) (i := 2) rfl rfl) (bLoopOk_any (bSA_var (i := 0) rfl (by decide +kernel) (.inl rfl)) bSIf_nil (bSE_tup (bSEs_cons2 (bSE_idx (bSE_var (i := 0) rfl rfl rfl) bSE_int (fun _ _ => rfl)) (bSEs_cons2 (bSE_idx (bSE_var (i := 0) rfl rfl rfl) bSE_int (fun _ _ => rfl)) bSEs_nil rfl) rfl)) (fun _ _ => rfl)) (fun _ _ => rfl) (Clos_none (fun _ => rfl)) rfl (by decide +kernel) (by decide +kernel) rfl (fun _ m => absurd m List.not_mem_nil) (by decide +kernel)) (bSEs_cons2 (bSE_comp (ts := ["one"]) (cap := []) (cp := []) (N := 1001) (tn := false) (bSE_attr2 (bSE_var (i := 0) rfl rfl rfl) (i := 3) rfl rfl) (bLoopOk_any (bSA_var (i := 0) rfl (by decide +kernel) (.inl rfl)) bSIf_nil (bSE_idx (bSE_var (i := 0) rfl rfl rfl) bSE_int (fun _ _ => rfl)) (fun _ _ => rfl)) (fun _ _ => rfl) (Clos_none (fun _ => rfl)) rfl (by decide +kernel) (by decide +kernel) rfl (fun _ m => absurd m List.not_mem_nil) (by decide +kernel)) bSEs_nil rfl) rfl)) (by decide +kernel) rfl (by decide +kernel) (by intro env h; cases env; subst h; rfl) (by intro env h; cases env; subst h; rfl))
  refine bSXs_cons ?s2 ?r2
  case s2 => exact (bSX_if (bST_bool (bSTs_or (bST_cmp (bSE_attr2 (bSE_var (i := 0) rfl rfl rfl) (i := 1) rfl rfl) (bSE_var (i := 3) rfl rfl rfl) rfl) (bSTs_or (bST_cmp (bSE_meth2 (fa := 103) (c_size hK hC).sf (by decide) (bSE_var (i := 0) rfl rfl rfl) bSEs_nil (by rw [hC]; exact (rw_K hK (f := fun K => findIn K (.ref 106) "size") rfl)) (by rw [hK]; kernel_rfl) (by decide +kernel) (by rw [hK]; kernel_rfl) rfl rfl rfl rfl) (bSE_call2 (j := 0) (fv := (.builtin "len")) SF_len (Nat.zero_le _) (bSEs_cons2 (bSE_var (i := 3) rfl rfl rfl) bSEs_nil rfl) (.inr ⟨(rw_K hK (f := fun K => nsIn K mainGlobals "len") rfl), rfl, by decide⟩) rfl rfl rfl rfl) rfl) (bSTs_or (bST_cmp (bSE_var (i := 6) rfl rfl rfl) (bSE_comp (ts := ["deed"]) (cap := []) (cp := []) (N := 1001) (tn := false) (bSE_var (i := 4) rfl rfl rfl) (bLoopOk_any (bSA_var (i := 0) rfl (by decide +kernel) (.inl rfl)) bSIf_nil (bSE_tup (bSEs_cons2 (bSE_idx (bSE_var (i := 0) rfl rfl rfl) bSE_int (fun _ _ => rfl)) (bSEs_cons2 (bSE_idx (bSE_var (i := 0) rfl rfl rfl) bSE_int (fun _ _ => rfl)) bSEs_nil rfl) rfl)) (fun _ _ => rfl)) (fun _ _ => rfl) (Clos_none (fun _ => rfl)) rfl (by decide +kernel) (by decide +kernel) rfl (fun _ m => absurd m List.not_mem_nil) (by decide +kernel)) rfl) bSTs_nil)))) (bSXs_cons (bSX_ret bSE_bool)
    bSXs_nil) bSXs_nil)
  refine bSXs_cons ?s3 ?r3
  case s3 => exact (bSX_ret (bSE_boolop (bSBs_and (bSE_cmp (bSE_var (i := 7) rfl rfl rfl) (bSE_comp (ts := ["deed"]) (cap := []) (cp := []) (N := 1001) (tn := false) (bSE_var (i := 5) rfl rfl rfl) (bLoopOk_any (bSA_var (i := 0) rfl (by decide +kernel) (.inl rfl)) bSIf_nil (bSE_idx (bSE_var (i := 0) rfl rfl rfl) bSE_int (fun _ _ => rfl)) (fun _ _ => rfl)) (fun _ _ => rfl) (Clos_none (fun _ => rfl)) rfl (by decide +kernel) (by decide +kernel) rfl (fun _ m => absurd m List.not_mem_nil) (by decide +kernel)) rfl) (bSBs_one (bSE_not (bSE_attr2 (bSE_var (i := 0) rfl rfl rfl) (i := 4) rfl rfl))))))
  exact bSXs_nil
end
end L01
end Mine
end
section
set_option Elab.async false
set_option maxRecDepth 100000
set_option linter.unusedSimpArgs false
namespace Mine
open PySem
/-! ## the plain side: what the functions answer -/
theorem deps_nil : AD.deps [] = 0 := rfl
mutual
theorem AD.beq_self : ∀ d : AD, d.beq d = true
  | .none => rfl
  | .bool b => by simp [AD.beq]
  | .int i => by simp [AD.beq]
  | .str k => by simp [AD.beq]
  | .tup xs => by rw [AD.beq]; exact AD.beqs_self xs
  | .lst xs => by rw [AD.beq]; exact AD.beqs_self xs
theorem AD.beqs_self : ∀ ds : List AD, AD.beqs ds ds = true
  | [] => rfl
  | x :: xs => by rw [AD.beqs, AD.beq_self x, AD.beqs_self xs]; rfl
end
theorem allD_map : ∀ l : List AD, allD (l.map AV.d) = some l
  | [] => rfl
  | x :: xs => by rw [List.map_cons, allD, allD_map xs]; rfl
structure Ch where
  room : Int
  buf : List AD
  snd : List AD
  rcv : List AD
  closed : Bool
structure ChAt (σ : Store) (l b s r : Nat) (c : Ch) : Prop where
  o : σ[l]? = some (.dict [.d (.int c.room), .loc b, .loc s, .loc r, .d (.bool c.closed)])
  hb : σ[b]? = some (.list c.buf)
  hs : σ[s]? = some (.list c.snd)
  hr : σ[r]? = some (.list c.rcv)
  bs : b ≠ s
  br : b ≠ r
  sr : s ≠ r
/-- sizes that the rules ask -/
structure Ch.Fit (c : Ch) : Prop where
  lb : c.buf.length ≤ 900
  ls : c.snd.length ≤ 900
  lr : c.rcv.length ≤ 900
  db : AD.deps c.buf ≤ 50
  ds : AD.deps c.snd ≤ 50
  dr : AD.deps c.rcv ≤ 50
theorem woken_eq (w0 w1 w2 w3 what : AD) (σ : Store) : F_woken_row [.d (.tup [w0, w1, w2, w3]), .d what] σ = some (.d (.tup [.str 2, w0, w2, w3, what]), σ) := rfl
theorem offer_rcv {σ : Store} {l b s r : Nat} {c : Ch} {w0 w1 w2 w3 r0 r1 r2 r3 : AD} {rest : List AD} (h : ChAt σ l b s r c) (f : c.Fit) (hc : c.closed = false) (hr : c.rcv = .tup [r0, r1, r2, r3] :: rest) :
    F_offer [.obj l, .d (.tup [w0, w1, w2, w3])] σ = some (.d (.lst [.tup [.str 0], .tup [.str 2, r0, r2, r3, .tup [.str 3, w1, .bool true]]]), σ.set r (.list rest)) := by
  have ho := h.o
  have hR := h.hr
  have hd := f.dr
  have hn := f.lr
  rw [hc] at ho
  rw [hr] at hR hd hn
  rw [List.length_cons] at hn
  have hn' : rest.length + 1 ≤ 1000 := by omega
  have hd' : AD.deps (AD.tup [r0, r1, r2, r3] :: rest) ≤ 59 := by omega
  simp [F_offer, f_offer, fnM, fEnd, xSeq, xIf, xRet, xExpr, xAsg, xNil, xBrk, aVar, aAttr, mSetAttr, putF, cTr, cAttr, cVar, M.bind, M.opt, M.ret, getA, boolOf, cLst, cTup, cCons, cNil, cD, mkLst, mkTup, allD, room, cCmpB, cmpA, cB, cAndB, cOrB, cNotB, cAnd, cOr, cIte, cNeg, res, ress, content, AD.dep, deps_nil, AD.beq, AD.beqs, cLM, isLoc, mPop, mAppend, mExtend, cCall, cMeth, isObj, cIdx, idxA, itemAt, cBin, binA, one, two, fLen, lenA, fInt, fMax, fMin, fList, fListM, cLstM, mAlloc, aTup, seqA, asCons, asNil, xSwap, asRev, cTo, toA, cFrom, fromA, aSub, mSetItem, fRange, xCompA, xCompM, intOf, int2, addL, mulL, intA, isN, eqL, inL, ho, hR, hd', hn', woken_eq]
theorem offer_buf {σ : Store} {l b s r : Nat} {c : Ch} {w0 w1 w2 w3 : AD} (h : ChAt σ l b s r c) (f : c.Fit) (hc : c.closed = false) (hr : c.rcv = []) (hl : (c.buf.length : Int) < c.room) :
    F_offer [.obj l, .d (.tup [w0, w1, w2, w3])] σ = some (.d (.lst [.tup [.str 0]]), σ.set b (.list (c.buf ++ [w1]))) := by
  have ho := h.o
  have hR := h.hr
  have hB := h.hb
  have hn := f.lb
  rw [hc] at ho
  rw [hr] at hR
  have hn' : c.buf.length ≤ 1000 := by omega
  have hn2 : c.buf.length ≤ 1048576 := by omega
  simp [F_offer, f_offer, fnM, fEnd, xSeq, xIf, xRet, xExpr, xAsg, xNil, xBrk, aVar, aAttr, mSetAttr, putF, cTr, cAttr, cVar, M.bind, M.opt, M.ret, getA, boolOf, cLst, cTup, cCons, cNil, cD, mkLst, mkTup, allD, room, cCmpB, cmpA, cB, cAndB, cOrB, cNotB, cAnd, cOr, cIte, cNeg, res, ress, content, AD.dep, deps_nil, AD.beq, AD.beqs, cLM, isLoc, mPop, mAppend, mExtend, cCall, cMeth, isObj, cIdx, idxA, itemAt, cBin, binA, one, two, fLen, lenA, fInt, fMax, fMin, fList, fListM, cLstM, mAlloc, aTup, seqA, asCons, asNil, xSwap, asRev, cTo, toA, cFrom, fromA, aSub, mSetItem, fRange, xCompA, xCompM, intOf, int2, addL, mulL, intA, isN, eqL, inL, ho, hR, hB, hn', hn2, hl]
theorem offer_snd {σ : Store} {l b s r : Nat} {c : Ch} {w : AD} (h : ChAt σ l b s r c) (f : c.Fit) (hc : c.closed = false) (hr : c.rcv = []) (hl : ¬ (c.buf.length : Int) < c.room) :
    F_offer [.obj l, .d w] σ = some (.d (.lst [.tup [.str 1]]), σ.set s (.list (c.snd ++ [w]))) := by
  have ho := h.o
  have hR := h.hr
  have hB := h.hb
  have hS := h.hs
  have hn := f.lb
  have hn3 := f.ls
  rw [hc] at ho
  rw [hr] at hR
  have hn' : c.snd.length ≤ 1000 := by omega
  have hn2 : c.buf.length ≤ 1048576 := by omega
  simp [F_offer, f_offer, fnM, fEnd, xSeq, xIf, xRet, xExpr, xAsg, xNil, xBrk, aVar, aAttr, mSetAttr, putF, cTr, cAttr, cVar, M.bind, M.opt, M.ret, getA, boolOf, cLst, cTup, cCons, cNil, cD, mkLst, mkTup, allD, room, cCmpB, cmpA, cB, cAndB, cOrB, cNotB, cAnd, cOr, cIte, cNeg, res, ress, content, AD.dep, deps_nil, AD.beq, AD.beqs, cLM, isLoc, mPop, mAppend, mExtend, cCall, cMeth, isObj, cIdx, idxA, itemAt, cBin, binA, one, two, fLen, lenA, fInt, fMax, fMin, fList, fListM, cLstM, mAlloc, aTup, seqA, asCons, asNil, xSwap, asRev, cTo, toA, cFrom, fromA, aSub, mSetItem, fRange, xCompA, xCompM, intOf, int2, addL, mulL, intA, isN, eqL, inL, ho, hR, hB, hS, hn', hn2, hl]
theorem size_eq {σ : Store} {l b s r : Nat} {c : Ch} (h : ChAt σ l b s r c) (f : c.Fit) : F_size [.obj l] σ = some (.d (.int c.buf.length), σ) := by
  have ho := h.o
  have hB := h.hb
  have hn := f.lb
  have hn2 : c.buf.length ≤ 1048576 := by omega
  simp [F_size, f_size, fnM, fEnd, xSeq, xIf, xRet, xExpr, xAsg, xNil, xBrk, aVar, aAttr, mSetAttr, putF, cTr, cAttr, cVar, M.bind, M.opt, M.ret, getA, boolOf, cLst, cTup, cCons, cNil, cD, mkLst, mkTup, allD, room, cCmpB, cmpA, cB, cAndB, cOrB, cNotB, cAnd, cOr, cIte, cNeg, res, ress, content, AD.dep, deps_nil, AD.beq, AD.beqs, cLM, isLoc, mPop, mAppend, mExtend, cCall, cMeth, isObj, cIdx, idxA, itemAt, cBin, binA, one, two, fLen, lenA, fInt, fMax, fMin, fList, fListM, cLstM, mAlloc, aTup, seqA, asCons, asNil, xSwap, asRev, cTo, toA, cFrom, fromA, aSub, mSetItem, fRange, xCompA, xCompM, intOf, int2, addL, mulL, intA, isN, eqL, inL, ho, hB, hn2]
theorem filled_nil {σ : Store} {l b s r : Nat} {c : Ch} (h : ChAt σ l b s r c) (hs : c.snd = []) : F_filled [.obj l] σ = some (.d (.lst []), σ) := by
  have ho := h.o
  have hS := h.hs
  rw [hs] at hS
  simp [F_filled, f_filled, fnM, fEnd, xSeq, xIf, xRet, xExpr, xAsg, xNil, xBrk, aVar, aAttr, mSetAttr, putF, cTr, cAttr, cVar, M.bind, M.opt, M.ret, getA, boolOf, cLst, cTup, cCons, cNil, cD, mkLst, mkTup, allD, room, cCmpB, cmpA, cB, cAndB, cOrB, cNotB, cAnd, cOr, cIte, cNeg, res, ress, content, AD.dep, deps_nil, AD.beq, AD.beqs, cLM, isLoc, mPop, mAppend, mExtend, cCall, cMeth, isObj, cIdx, idxA, itemAt, cBin, binA, one, two, fLen, lenA, fInt, fMax, fMin, fList, fListM, cLstM, mAlloc, aTup, seqA, asCons, asNil, xSwap, asRev, cTo, toA, cFrom, fromA, aSub, mSetItem, fRange, xCompA, xCompM, intOf, int2, addL, mulL, intA, isN, eqL, inL, ho, hS]
theorem filled_cons {σ : Store} {l b s r : Nat} {c : Ch} {s0 s1 s2 s3 : AD} {ss : List AD} (h : ChAt σ l b s r c) (f : c.Fit) (hs : c.snd = .tup [s0, s1, s2, s3] :: ss) :
    F_filled [.obj l] σ = some (.d (.lst [.tup [.str 2, s0, s2, s3, .tup [.str 4]]]), (σ.set s (.list ss)).set b (.list (c.buf ++ [s1]))) := by
  have ho := h.o
  have hS := h.hs
  have hB := h.hb
  have hn := f.lb
  have hm := f.ls
  have hd := f.ds
  rw [hs] at hS hd hm
  rw [List.length_cons] at hm
  have hm' : ss.length + 1 ≤ 1000 := by omega
  have hn' : c.buf.length ≤ 1000 := by omega
  have hd' : AD.deps (AD.tup [s0, s1, s2, s3] :: ss) ≤ 59 := by omega
  have hls : l ≠ s := fun q => by rw [q, hS] at ho; cases ho
  have ho' : (σ.set s (.list ss))[l]? = some (.dict [.d (.int c.room), .loc b, .loc s, .loc r, .d (.bool c.closed)]) := by rw [List.getElem?_set_ne hls.symm]; exact ho
  have hB' : (σ.set s (.list ss))[b]? = some (.list c.buf) := by rw [List.getElem?_set_ne h.bs.symm]; exact hB
  simp [F_filled, f_filled, fnM, fEnd, xSeq, xIf, xRet, xExpr, xAsg, xNil, xBrk, aVar, aAttr, mSetAttr, putF, cTr, cAttr, cVar, M.bind, M.opt, M.ret, getA, boolOf, cLst, cTup, cCons, cNil, cD, mkLst, mkTup, allD, room, cCmpB, cmpA, cB, cAndB, cOrB, cNotB, cAnd, cOr, cIte, cNeg, res, ress, content, AD.dep, deps_nil, AD.beq, AD.beqs, cLM, isLoc, mPop, mAppend, mExtend, cCall, cMeth, isObj, cIdx, idxA, itemAt, cBin, binA, one, two, fLen, lenA, fInt, fMax, fMin, fList, fListM, cLstM, mAlloc, aTup, seqA, asCons, asNil, xSwap, asRev, cTo, toA, cFrom, fromA, aSub, mSetItem, fRange, xCompA, xCompM, intOf, int2, addL, mulL, intA, isN, eqL, inL, ho, hS, hd', hm', ho', hB', hn', woken_eq]
theorem ChAt.setb {σ : Store} {l b s r : Nat} {c : Ch} (h : ChAt σ l b s r c) (xs : List AD) : ChAt (σ.set b (.list xs)) l b s r { c with buf := xs } := by
  have hl : b ≠ l := fun q => by have := h.o; rw [← q, h.hb] at this; cases this
  refine ⟨by rw [List.getElem?_set_ne hl]; exact h.o, ?_, by rw [List.getElem?_set_ne h.bs]; exact h.hs, by rw [List.getElem?_set_ne h.br]; exact h.hr, h.bs, h.br, h.sr⟩
  rw [List.getElem?_set_self (List.getElem?_eq_some_iff.mp h.hb).1]
theorem ChAt.sets {σ : Store} {l b s r : Nat} {c : Ch} (h : ChAt σ l b s r c) (xs : List AD) : ChAt (σ.set s (.list xs)) l b s r { c with snd := xs } := by
  have hl : s ≠ l := fun q => by have := h.o; rw [← q, h.hs] at this; cases this
  refine ⟨by rw [List.getElem?_set_ne hl]; exact h.o, by rw [List.getElem?_set_ne h.bs.symm]; exact h.hb, ?_, by rw [List.getElem?_set_ne h.sr]; exact h.hr, h.bs, h.br, h.sr⟩
  rw [List.getElem?_set_self (List.getElem?_eq_some_iff.mp h.hs).1]
theorem ChAt.setr {σ : Store} {l b s r : Nat} {c : Ch} (h : ChAt σ l b s r c) (xs : List AD) : ChAt (σ.set r (.list xs)) l b s r { c with rcv := xs } := by
  have hl : r ≠ l := fun q => by have := h.o; rw [← q, h.hr] at this; cases this
  refine ⟨by rw [List.getElem?_set_ne hl]; exact h.o, by rw [List.getElem?_set_ne h.br.symm]; exact h.hb, by rw [List.getElem?_set_ne h.sr.symm]; exact h.hs, ?_, h.bs, h.br, h.sr⟩
  rw [List.getElem?_set_self (List.getElem?_eq_some_iff.mp h.hr).1]
theorem ChAt.other {σ σ' : Store} {l b s r : Nat} {c : Ch} (h : ChAt σ l b s r c) (h1 : σ'[l]? = σ[l]?) (h2 : σ'[b]? = σ[b]?) (h3 : σ'[s]? = σ[s]?) (h4 : σ'[r]? = σ[r]?) : ChAt σ' l b s r c :=
  ⟨h1.trans h.o, h2.trans h.hb, h3.trans h.hs, h4.trans h.hr, h.bs, h.br, h.sr⟩
theorem take_buf0 {σ : Store} {l b s r : Nat} {c : Ch} {w x : AD} {bs : List AD} (h : ChAt σ l b s r c) (f : c.Fit) (hb : c.buf = x :: bs) (hs : c.snd = []) :
    F_take [.obj l, .d w] σ = some (.d (.lst [.tup [.str 0, x, .bool true]]), σ.set b (.list bs)) := by
  have ho := h.o
  have hB := h.hb
  have hn := f.lb
  have hd := f.db
  have hfill := filled_nil (h.setb bs) hs
  have ho' := (h.setb bs).o
  rw [hb] at hB hd hn
  rw [List.length_cons] at hn
  have hn' : bs.length + 1 ≤ 1000 := by omega
  have hd' : AD.deps (x :: bs) ≤ 59 := by omega
  simp [F_take, f_take, fnM, fEnd, xSeq, xIf, xRet, xExpr, xAsg, xNil, xBrk, aVar, aAttr, mSetAttr, putF, cTr, cAttr, cVar, M.bind, M.opt, M.ret, getA, boolOf, cLst, cTup, cCons, cNil, cD, mkLst, mkTup, allD, room, cCmpB, cmpA, cB, cAndB, cOrB, cNotB, cAnd, cOr, cIte, cNeg, res, ress, content, AD.dep, deps_nil, AD.beq, AD.beqs, cLM, isLoc, mPop, mAppend, mExtend, cCall, cMeth, isObj, cIdx, idxA, itemAt, cBin, binA, one, two, fLen, lenA, fInt, fMax, fMin, fList, fListM, cLstM, mAlloc, aTup, seqA, asCons, asNil, xSwap, asRev, cTo, toA, cFrom, fromA, aSub, mSetItem, fRange, xCompA, xCompM, intOf, int2, addL, mulL, intA, isN, eqL, inL, ho, hB, hd', hn', ho', hfill]
theorem take_buf1 {σ : Store} {l b s r : Nat} {c : Ch} {w x s0 s1 s2 s3 : AD} {bs ss : List AD} (h : ChAt σ l b s r c) (f : c.Fit) (hb : c.buf = x :: bs) (hs : c.snd = .tup [s0, s1, s2, s3] :: ss) :
    F_take [.obj l, .d w] σ = some (.d (.lst [.tup [.str 0, x, .bool true], .tup [.str 2, s0, s2, s3, .tup [.str 4]]]), ((σ.set b (.list bs)).set s (.list ss)).set b (.list (bs ++ [s1]))) := by
  have ho := h.o
  have hB := h.hb
  have hn := f.lb
  have hd := f.db
  rw [hb] at hB hd hn
  have f' : Ch.Fit { c with buf := bs } := ⟨by rw [List.length_cons] at hn; show bs.length ≤ 900; omega, f.ls, f.lr, by rw [AD.deps] at hd; show AD.deps bs ≤ 50; omega, f.ds, f.dr⟩
  have hfill := filled_cons (h.setb bs) f' hs
  have ho' := (h.setb bs).o
  rw [List.length_cons] at hn
  have hn' : bs.length + 1 ≤ 1000 := by omega
  have hd' : AD.deps (x :: bs) ≤ 59 := by omega
  simp [F_take, f_take, fnM, fEnd, xSeq, xIf, xRet, xExpr, xAsg, xNil, xBrk, aVar, aAttr, mSetAttr, putF, cTr, cAttr, cVar, M.bind, M.opt, M.ret, getA, boolOf, cLst, cTup, cCons, cNil, cD, mkLst, mkTup, allD, room, cCmpB, cmpA, cB, cAndB, cOrB, cNotB, cAnd, cOr, cIte, cNeg, res, ress, content, AD.dep, deps_nil, AD.beq, AD.beqs, cLM, isLoc, mPop, mAppend, mExtend, cCall, cMeth, isObj, cIdx, idxA, itemAt, cBin, binA, one, two, fLen, lenA, fInt, fMax, fMin, fList, fListM, cLstM, mAlloc, aTup, seqA, asCons, asNil, xSwap, asRev, cTo, toA, cFrom, fromA, aSub, mSetItem, fRange, xCompA, xCompM, intOf, int2, addL, mulL, intA, isN, eqL, inL, ho, hB, hd', hn', ho', hfill]
theorem take_snd {σ : Store} {l b s r : Nat} {c : Ch} {w s0 s1 s2 s3 : AD} {ss : List AD} (h : ChAt σ l b s r c) (f : c.Fit) (hb : c.buf = []) (hs : c.snd = .tup [s0, s1, s2, s3] :: ss) :
    F_take [.obj l, .d w] σ = some (.d (.lst [.tup [.str 0, s1, .bool true], .tup [.str 2, s0, s2, s3, .tup [.str 4]]]), σ.set s (.list ss)) := by
  have ho := h.o
  have hB := h.hb
  have hS := h.hs
  have hn := f.ls
  have hd := f.ds
  rw [hb] at hB
  rw [hs] at hS hn hd
  rw [List.length_cons] at hn
  have hn' : ss.length + 1 ≤ 1000 := by omega
  have hd' : AD.deps (AD.tup [s0, s1, s2, s3] :: ss) ≤ 59 := by omega
  simp [F_take, f_take, fnM, fEnd, xSeq, xIf, xRet, xExpr, xAsg, xNil, xBrk, aVar, aAttr, mSetAttr, putF, cTr, cAttr, cVar, M.bind, M.opt, M.ret, getA, boolOf, cLst, cTup, cCons, cNil, cD, mkLst, mkTup, allD, room, cCmpB, cmpA, cB, cAndB, cOrB, cNotB, cAnd, cOr, cIte, cNeg, res, ress, content, AD.dep, deps_nil, AD.beq, AD.beqs, cLM, isLoc, mPop, mAppend, mExtend, cCall, cMeth, isObj, cIdx, idxA, itemAt, cBin, binA, one, two, fLen, lenA, fInt, fMax, fMin, fList, fListM, cLstM, mAlloc, aTup, seqA, asCons, asNil, xSwap, asRev, cTo, toA, cFrom, fromA, aSub, mSetItem, fRange, xCompA, xCompM, intOf, int2, addL, mulL, intA, isN, eqL, inL, ho, hB, hS, hd', hn', woken_eq]
theorem take_rcv {σ : Store} {l b s r : Nat} {c : Ch} {w : AD} (h : ChAt σ l b s r c) (f : c.Fit) (hb : c.buf = []) (hs : c.snd = []) (hc : c.closed = false) :
    F_take [.obj l, .d w] σ = some (.d (.lst [.tup [.str 1]]), σ.set r (.list (c.rcv ++ [w]))) := by
  have ho := h.o
  have hB := h.hb
  have hS := h.hs
  have hR := h.hr
  have hn := f.lr
  rw [hb] at hB
  rw [hs] at hS
  rw [hc] at ho
  have hn' : c.rcv.length ≤ 1000 := by omega
  simp [F_take, f_take, fnM, fEnd, xSeq, xIf, xRet, xExpr, xAsg, xNil, xBrk, aVar, aAttr, mSetAttr, putF, cTr, cAttr, cVar, M.bind, M.opt, M.ret, getA, boolOf, cLst, cTup, cCons, cNil, cD, mkLst, mkTup, allD, room, cCmpB, cmpA, cB, cAndB, cOrB, cNotB, cAnd, cOr, cIte, cNeg, res, ress, content, AD.dep, deps_nil, AD.beq, AD.beqs, cLM, isLoc, mPop, mAppend, mExtend, cCall, cMeth, isObj, cIdx, idxA, itemAt, cBin, binA, one, two, fLen, lenA, fInt, fMax, fMin, fList, fListM, cLstM, mAlloc, aTup, seqA, asCons, asNil, xSwap, asRev, cTo, toA, cFrom, fromA, aSub, mSetItem, fRange, xCompA, xCompM, intOf, int2, addL, mulL, intA, isN, eqL, inL, ho, hB, hS, hR, hn']
theorem new_eq (rm : Int) (σ : Store) : fNew F___init__ [.d (.int rm)] σ = some (.obj σ.length, σ ++ [.dict [.d (.int rm), .loc (σ.length + 1), .loc (σ.length + 2), .loc (σ.length + 3), .d (.bool false)], .list [], .list [], .list []]) := by
  simp [F___init__, f___init__, fNew, fnM, fEnd, xSeq, xIf, xRet, xExpr, xAsg, xNil, xBrk, aVar, aAttr, mSetAttr, putF, cTr, cAttr, cVar, M.bind, M.opt, M.ret, getA, boolOf, cLst, cTup, cCons, cNil, cD, mkLst, mkTup, allD, room, cCmpB, cmpA, cB, cAndB, cOrB, cNotB, cAnd, cOr, cIte, cNeg, res, ress, content, AD.dep, deps_nil, AD.beq, AD.beqs, cLM, isLoc, mPop, mAppend, mExtend, cCall, cMeth, isObj, cIdx, idxA, itemAt, cBin, binA, one, two, fLen, lenA, fInt, fMax, fMin, fList, fListM, cLstM, mAlloc, aTup, seqA, asCons, asNil, xSwap, asRev, cTo, toA, cFrom, fromA, aSub, mSetItem, fRange, xCompA, xCompM, intOf, int2, addL, mulL, intA, isN, eqL, inL]
end Mine
end
section
set_option Elab.async false
set_option maxRecDepth 100000
set_option linter.unusedSimpArgs false
namespace Mine
open PySem
theorem small_lt {i : Int} (h1 : 0 ≤ i) (h2 : i < 18446744073709551616) : smallB i = true := by unfold smallB; simp; omega
theorem small_ite (p : Prop) [Decidable p] : smallB (if p then 1 else 0) = true := by split <;> decide
theorem small_ite2 (p : Bool) : smallB (if p = true then 1 else 0) = true := by cases p <;> decide
theorem pool0 {σ : Store} {ns : List Int} (hn : ns.length ≤ 63) :
    ∃ a b : Int, 0 ≤ a ∧ 0 ≤ b ∧ F__law_pool [.d (.lst (ns.map AD.int)), .d (.int 0)] σ = some (.loc σ.length, σ ++ [.list [.int a, .int b]]) := by
  have h1 : ns.length ≤ 1048576 := by omega
  have h3 : smallB 7919 = true := by decide
  have h4 : smallB 31 = true := by decide
  have h5 : smallB 48271 = true := by decide
  have h6 : smallB 10 = true := by decide
  have h7 : smallB 0 = true := by decide
  have h8 : smallB 1 = true := by decide
  have nn : ∀ x : Int, 0 ≤ x.fmod 2147483647 := fun x => by
    rw [Int.fmod_eq_emod_of_nonneg _ (by decide)]
    exact Int.emod_nonneg _ (by decide)
  by_cases hlt : 0 < ns.length
  · have hlt' : (0 : Int) < (ns.length : Int) := by omega
    refine ⟨(if ns[0] < -1 - ns[0] then -1 - ns[0] else ns[0]) * (if 1000000000000000000 ≤ (if ns[0] < -1 - ns[0] then -1 - ns[0] else ns[0]) then 1 else 0),
      (((if ns[0] < -1 - ns[0] then -1 - ns[0] else ns[0]).fmod 2147483629 + 17) * 48271).fmod 2147483647, ?_, nn _, ?_⟩
    · split <;> split <;> omega
    · simp [F__law_pool, f__law_pool, fnM, fEnd, xSeq, xIf, xRet, xExpr, xAsg, xNil, xBrk, aVar, aAttr, mSetAttr, putF, cTr, cAttr, cVar, M.bind, M.opt, M.ret, getA, boolOf, cLst, cTup, cCons, cNil, cD, mkLst, mkTup, allD, room, cCmpB, cmpA, cB, cAndB, cOrB, cNotB, cAnd, cOr, cIte, cNeg, res, ress, content, AD.dep, deps_nil, AD.beq, AD.beqs, cLM, isLoc, mPop, mAppend, mExtend, cCall, cMeth, isObj, cIdx, idxA, itemAt, cBin, binA, one, two, fLen, lenA, fInt, fMax, fMin, fList, fListM, cLstM, mAlloc, aTup, seqA, asCons, asNil, xSwap, asRev, cTo, toA, cFrom, fromA, aSub, mSetItem, fRange, xCompA, xCompM, intOf, int2, addL, mulL, intA, isN, eqL, inL, h1, h3, h4, h5, h6, h7, h8, small_ite, small_ite2, hlt, hlt', Int.add_assoc]
  · have hle : ns.length ≤ 0 := by omega
    have hlt' : ¬ (0 : Int) < (ns.length : Int) := by omega
    refine ⟨0, (820607 : Int), by decide, by decide, ?_⟩
    simp [F__law_pool, f__law_pool, fnM, fEnd, xSeq, xIf, xRet, xExpr, xAsg, xNil, xBrk, aVar, aAttr, mSetAttr, putF, cTr, cAttr, cVar, M.bind, M.opt, M.ret, getA, boolOf, cLst, cTup, cCons, cNil, cD, mkLst, mkTup, allD, room, cCmpB, cmpA, cB, cAndB, cOrB, cNotB, cAnd, cOr, cIte, cNeg, res, ress, content, AD.dep, deps_nil, AD.beq, AD.beqs, cLM, isLoc, mPop, mAppend, mExtend, cCall, cMeth, isObj, cIdx, idxA, itemAt, cBin, binA, one, two, fLen, lenA, fInt, fMax, fMin, fList, fListM, cLstM, mAlloc, aTup, seqA, asCons, asNil, xSwap, asRev, cTo, toA, cFrom, fromA, aSub, mSetItem, fRange, xCompA, xCompM, intOf, int2, addL, mulL, intA, isN, eqL, inL, h1, h3, h4, h5, h6, h7, h8, small_ite, small_ite2, hlt, hlt', hle]
/-- what stands of the draws -/
structure Src (σ : Store) (q : Nat) : Prop where
  at_ : ∃ a b : Int, 0 ≤ a ∧ 0 ≤ b ∧ σ[q]? = some (.list [.int a, .int b])
theorem take_eq {σ : Store} {q : Nat} (h : Src σ q) (top : Int) (h1 : 0 < top) (h2 : top ≤ 1000) :
    ∃ (v : Int) (x : AO), 0 ≤ v ∧ v < top ∧ F__law_take [.loc q, .d (.int top)] σ = some (.d (.int v), σ.set q x) ∧ Src (σ.set q x) q := by
  obtain ⟨a, b, ha, hb, e⟩ := h.at_
  have hlt : q < σ.length := (List.getElem?_eq_some_iff.mp e).1
  have hset : ∀ x : AO, (σ.set q x)[q]? = some x := fun x => by rw [List.getElem?_set_self hlt]
  have ht : smallB top = true := small_lt (by omega) (by omega)
  have htn : top ≠ 0 := by omega
  have h3 : smallB 39373 = true := by decide
  have h5 : smallB 32 = true := by decide
  have mod0 : ∀ x m : Int, 0 < m → 0 ≤ x.fmod m ∧ x.fmod m < m := fun x m hm => by
    rw [Int.fmod_eq_emod_of_nonneg _ (by omega)]
    exact ⟨Int.emod_nonneg _ (by omega), Int.emod_lt_of_pos _ hm⟩
  by_cases h0 : 0 < a
  · refine ⟨a.fmod top, .list [.int (a.fdiv top), .int b], (mod0 a top h1).1, (mod0 a top h1).2, ?_, ⟨a.fdiv top, b, ?_, hb, hset _⟩⟩
    · simp [F__law_take, f__law_take, fnM, fEnd, xSeq, xIf, xRet, xExpr, xAsg, xNil, xBrk, aVar, aAttr, mSetAttr, putF, cTr, cAttr, cVar, M.bind, M.opt, M.ret, getA, boolOf, cLst, cTup, cCons, cNil, cD, mkLst, mkTup, allD, room, cCmpB, cmpA, cB, cAndB, cOrB, cNotB, cAnd, cOr, cIte, cNeg, res, ress, content, AD.dep, deps_nil, AD.beq, AD.beqs, cLM, isLoc, mPop, mAppend, mExtend, cCall, cMeth, isObj, cIdx, idxA, itemAt, cBin, binA, one, two, fLen, lenA, fInt, fMax, fMin, fList, fListM, cLstM, mAlloc, aTup, seqA, asCons, asNil, xSwap, asRev, cTo, toA, cFrom, fromA, aSub, mSetItem, fRange, xCompA, xCompM, intOf, int2, addL, mulL, intA, isN, eqL, inL, e, h0, ht, htn]
    · rw [Int.fdiv_eq_ediv_of_nonneg _ (by omega)]
      exact Int.ediv_nonneg ha (by omega)
  · have hb' := mod0 (b * 39373 + 7) 2147483647 (by decide)
    have hs : smallB ((b * 39373 + 7).fmod 2147483647) = true := small_lt hb'.1 (by omega)
    refine ⟨((((b * 39373 + 7).fmod 2147483647 * (b * 39373 + 7).fmod 2147483647).fmod 2147483629).fdiv 32).fmod top, .list [.int a, .int ((b * 39373 + 7).fmod 2147483647)], (mod0 _ top h1).1, (mod0 _ top h1).2, ?_, ⟨a, _, ha, hb'.1, hset _⟩⟩
    · simp [F__law_take, f__law_take, fnM, fEnd, xSeq, xIf, xRet, xExpr, xAsg, xNil, xBrk, aVar, aAttr, mSetAttr, putF, cTr, cAttr, cVar, M.bind, M.opt, M.ret, getA, boolOf, cLst, cTup, cCons, cNil, cD, mkLst, mkTup, allD, room, cCmpB, cmpA, cB, cAndB, cOrB, cNotB, cAnd, cOr, cIte, cNeg, res, ress, content, AD.dep, deps_nil, AD.beq, AD.beqs, cLM, isLoc, mPop, mAppend, mExtend, cCall, cMeth, isObj, cIdx, idxA, itemAt, cBin, binA, one, two, fLen, lenA, fInt, fMax, fMin, fList, fListM, cLstM, mAlloc, aTup, seqA, asCons, asNil, xSwap, asRev, cTo, toA, cFrom, fromA, aSub, mSetItem, fRange, xCompA, xCompM, intOf, int2, addL, mulL, intA, isN, eqL, inL, e, h0, ht, htn, h3, hset, hs, h5]
theorem one_eq {σ : Store} {q : Nat} (h : Src σ q) (things : List AD) (h1 : things ≠ []) (h2 : things.length ≤ 1000) :
    ∃ (v : AD) (x : AO), v ∈ things ∧ F__law_one [.loc q, .d (.lst things)] σ = some (.d v, σ.set q x) ∧ Src (σ.set q x) q := by
  have hl : 0 < things.length := List.length_pos_iff.mpr h1
  obtain ⟨v, x, h3, h4, e, hs⟩ := take_eq h (things.length : Int) (by omega) (by omega)
  have hv : v.toNat < things.length := by omega
  refine ⟨things[v.toNat], x, List.getElem_mem hv, ?_, hs⟩
  have h5 : things.length ≤ 1048576 := by omega
  have h6 : v < 9223372036854775808 := by omega
  simp [F__law_one, f__law_one, fnM, fEnd, xSeq, xIf, xRet, xExpr, xAsg, xNil, xBrk, aVar, aAttr, mSetAttr, putF, cTr, cAttr, cVar, M.bind, M.opt, M.ret, getA, boolOf, cLst, cTup, cCons, cNil, cD, mkLst, mkTup, allD, room, cCmpB, cmpA, cB, cAndB, cOrB, cNotB, cAnd, cOr, cIte, cNeg, res, ress, content, AD.dep, deps_nil, AD.beq, AD.beqs, cLM, isLoc, mPop, mAppend, mExtend, cCall, cMeth, isObj, cIdx, idxA, itemAt, cBin, binA, one, two, fLen, lenA, fInt, fMax, fMin, fList, fListM, cLstM, mAlloc, aTup, seqA, asCons, asNil, xSwap, asRev, cTo, toA, cFrom, fromA, aSub, mSetItem, fRange, xCompA, xCompM, intOf, int2, addL, mulL, intA, isN, eqL, inL, h5, e, h3, h6, hv]
end Mine
end
section
set_option Elab.async false
set_option maxRecDepth 100000
set_option linter.unusedSimpArgs false
namespace Mine
open PySem
/-! ## loops and comprehensions, plain -/
theorem next_lst {σ : Store} {a : AV} {xs : List AD} (hc : content σ a = some xs) (i : Nat) : nextA σ a i = some ((xs[i]?).map .d) := by
  unfold nextA
  split
  · cases hc
  · rw [hc]; rfl
theorem next_rng {σ : Store} {n : Nat} (i : Nat) : nextA σ (.rng n) i = some ((((List.range n).map fun j => AD.int (j : Nat))[i]?).map .d) := by
  unfold nextA
  by_cases h : i < n
  · have : (i : Int) < (n : Int) := by omega
    simp [this, h]
  · have : ¬ (i : Int) < (n : Int) := by omega
    simp [this, h]
theorem comp_run {α : Type} (ad : α → AD) {σ : Store} {a : AV} {xs : List α} {t : Vals → M Bool} {fe : Vals → M AV} {p : α → Bool} {e : α → AD} {cap : Vals} (hn : ∀ i, nextA σ a i = some ((xs[i]?).map fun x => .d (ad x)))
    (ht : ∀ x ∈ xs, t (some (.d (ad x)) :: cap) σ = some (p x, σ)) (he : ∀ x ∈ xs, p x = true → fe (some (.d (ad x)) :: cap) σ = some (.d (e x), σ)) :
    ∀ (ys : List α) (i N : Nat) (v : Option AV) (acc : List AD), xs.drop i = ys → ys.length < N → acc.length + ys.length ≤ 1000 → compLoop a (aVar 0) t fe N i (v :: cap) acc σ = some (acc ++ (ys.filter p).map e, σ) := by
  intro ys
  induction ys with
  | nil =>
    intro i N v acc hd hN hl
    cases N with
    | zero => exact absurd hN (Nat.not_lt_zero _)
    | succ N =>
      have : xs[i]? = none := by
        have := congrArg (·[0]?) hd
        simpa using this
      unfold compLoop
      rw [hn, this]
      simp
  | cons y ys ih =>
    intro i N v acc hd hN hl
    cases N with
    | zero => exact absurd hN (Nat.not_lt_zero _)
    | succ N =>
      have hy : xs[i]? = some y := by
        have := congrArg (·[0]?) hd
        simpa using this
      have hd' : xs.drop (i + 1) = ys := by
        have := congrArg (List.drop 1) hd
        simpa [List.drop_drop, Nat.add_comm] using this
      have hm : y ∈ xs := List.mem_of_getElem? hy
      rw [List.length_cons] at hN hl
      unfold compLoop
      rw [hn, hy]
      simp only [Option.map_some, aVar, M.ret, List.set_cons_zero]
      rw [ht y hm]
      cases hp : p y with
      | false =>
        dsimp only
        rw [ih (i + 1) N _ acc hd' (by omega) (by omega), List.filter_cons_of_neg (by simp [hp])]
      | true =>
        dsimp only
        rw [he y hm hp]
        dsimp only
        rw [if_pos (room_of' (by omega)), ih (i + 1) N _ (acc ++ [e y]) hd' (by omega) (by simp; omega), List.filter_cons_of_pos hp, List.map_cons, List.append_assoc]
        rfl
where room_of' {n : Nat} (h : n ≤ 1000) : room n = true := by unfold room; exact decide_eq_true h
/-- one name, a test, nothing captured or something -/
theorem mcomp_run {α : Type} (ad : α → AD) {σ σ1 : Store} {vals : Vals} {f : Vals → M AV} {a : AV} {xs : List α} {t : Vals → M Bool} {fe : Vals → M AV} {p : α → Bool} {e : α → AD} {cp : List Nat} {tn : Bool} (hf : f vals σ = some (a, σ1)) (hs : srcOk tn a σ1 = some ((), σ1))
    (hn : ∀ i, nextA σ1 a i = some ((xs[i]?).map fun x => .d (ad x))) (hl : xs.length ≤ 1000)
    (ht : ∀ x ∈ xs, t (some (.d (ad x)) :: cp.map fun i => (vals[i]?).join) σ1 = some (p x, σ1)) (he : ∀ x ∈ xs, p x = true → fe (some (.d (ad x)) :: cp.map fun i => (vals[i]?).join) σ1 = some (.d (e x), σ1)) :
    mComp 1001 tn 1 cp f (aVar 0) t fe vals σ = some ((xs.filter p).map e, σ1) := by
  unfold mComp
  simp only [M.bind, hf, hs]
  have := comp_run ad hn ht he xs 0 1001 none [] rfl (by omega) (by simpa using hl)
  simpa [compIn] using this
theorem src_lst {σ : Store} {a : AV} {xs : List AD} {tn : Bool} (hc : content σ a = some xs) : srcOk tn a σ = some ((), σ) := by
  unfold srcOk M.opt
  split
  · cases hc
  · show ((Option.map (fun _ => ()) (content σ a)).map fun x => (x, σ)) = _
    rw [hc]; rfl
theorem mcomp_lst {α : Type} (ad : α → AD) {σ σ1 : Store} {vals : Vals} {f : Vals → M AV} {a : AV} {xs : List α} {t : Vals → M Bool} {fe : Vals → M AV} (p : α → Bool) (e : α → AD) {cp : List Nat} {tn : Bool} (hf : f vals σ = some (a, σ1)) (hc : content σ1 a = some (xs.map ad)) (hl : xs.length ≤ 1000)
    (ht : ∀ x ∈ xs, t (some (.d (ad x)) :: cp.map fun i => (vals[i]?).join) σ1 = some (p x, σ1)) (he : ∀ x ∈ xs, p x = true → fe (some (.d (ad x)) :: cp.map fun i => (vals[i]?).join) σ1 = some (.d (e x), σ1)) :
    mComp 1001 tn 1 cp f (aVar 0) t fe vals σ = some ((xs.filter p).map e, σ1) :=
  mcomp_run ad hf (src_lst hc) (fun i => by rw [next_lst hc i, List.getElem?_map, Option.map_map]; rfl) hl ht he
/-- no test -/
theorem mcomp_map {α : Type} (ad : α → AD) {σ σ1 : Store} {vals : Vals} {f : Vals → M AV} {a : AV} {xs : List α} {fe : Vals → M AV} (e : α → AD) {cp : List Nat} {tn : Bool} (hf : f vals σ = some (a, σ1)) (hc : content σ1 a = some (xs.map ad)) (hl : xs.length ≤ 1000)
    (he : ∀ x ∈ xs, fe (some (.d (ad x)) :: cp.map fun i => (vals[i]?).join) σ1 = some (.d (e x), σ1)) :
    mComp 1001 tn 1 cp f (aVar 0) (fun _ => M.ret true) fe vals σ = some (xs.map e, σ1) := by
  rw [mcomp_lst ad (fun _ => true) e hf hc hl (fun _ _ => rfl) fun x m _ => he x m]
  rw [List.filter_eq_self.mpr fun _ _ => rfl]
/-- the rows that the channel tells -/
inductive Rw where
  | done | blocked | got (x : AD) | recv (w a b x : AD) | sent (w a b : AD)
noncomputable def Rw.ad : Rw → AD
  | .done => .tup [.str 0]
  | .blocked => .tup [.str 1]
  | .got x => .tup [.str 0, x, .bool true]
  | .recv w a b x => .tup [.str 2, w, a, b, .tup [.str 3, x, .bool true]]
  | .sent w a b => .tup [.str 2, w, a, b, .tup [.str 4]]
theorem ccomp_of {N : Nat} {tn : Bool} {m : Nat} {cp : List Nat} {f : Vals → M AV} {g : AV → Vals → M Vals} {t : Vals → M Bool} {fe : Vals → M AV} {vals : Vals} {σ σ1 : Store} {xs : List AD} (h : mComp N tn m cp f g t fe vals σ = some (xs, σ1)) : cComp N tn m cp f g t fe vals σ = some (.d (.lst xs), σ1) := by
  unfold cComp M.bind
  rw [h]; rfl
/-- a loop over a range, by what holds between the turns; it may be left early -/
theorem for_range {n : Nat} {g : AV → Vals → M Vals} {body : XM} (P : Nat → Vals → Store → Prop) (B : Vals → Store → Prop)
    (hstep : ∀ i, i < n → ∀ vals σ, P i vals σ → ∃ vals1 σ1 fl vals2 σ2, g (.d (.int (i : Nat))) vals σ = some (vals1, σ1) ∧ body vals1 σ1 = some ((fl, vals2), σ2) ∧ ((fl = .next ∧ P (i + 1) vals2 σ2) ∨ (fl = .brk ∧ B vals2 σ2))) :
    ∀ (d i N : Nat) (vals : Vals) (σ : Store), n = i + d → d < N → P i vals σ → ∃ vals' σ', xForLoop (.rng n) g body N i vals σ = some ((.next, vals'), σ') ∧ (P n vals' σ' ∨ B vals' σ') := by
  intro d
  induction d with
  | zero =>
    intro i N vals σ hd hN hP
    cases N with
    | zero => exact absurd hN (Nat.not_lt_zero _)
    | succ N =>
      refine ⟨vals, σ, ?_, .inl (by rw [hd]; exact hP)⟩
      unfold xForLoop
      have : nextA σ (.rng n) i = some none := by
        unfold nextA
        have : ¬ ((i : Int) < (n : Int)) := by omega
        simp [this]
      rw [this]
  | succ d ih =>
    intro i N vals σ hd hN hP
    cases N with
    | zero => exact absurd hN (Nat.not_lt_zero _)
    | succ N =>
      obtain ⟨vals1, σ1, fl, vals2, σ2, e1, e2, hfl⟩ := hstep i (by omega) vals σ hP
      have hx : nextA σ (.rng n) i = some (some (.d (.int (i : Nat)))) := by
        unfold nextA
        have : ((i : Int) < (n : Int)) := by omega
        simp [this]
      rcases hfl with ⟨rfl, hP'⟩ | ⟨rfl, hB⟩
      · obtain ⟨vals', σ', e3, h3⟩ := ih (i + 1) N vals2 σ2 (by omega) (by omega) hP'
        refine ⟨vals', σ', ?_, h3⟩
        unfold xForLoop
        simp only [hx, e1, e2]
        exact e3
      · refine ⟨vals2, σ2, ?_, .inr hB⟩
        unfold xForLoop
        simp only [hx, e1, e2]
theorem xfor_range {n : Nat} {f : Vals → M AV} {g : AV → Vals → M Vals} {body : XM} {vals : Vals} {σ σ1 : Store} (P : Nat → Vals → Store → Prop) (B : Vals → Store → Prop) (hf : f vals σ = some (.rng n, σ1)) (hn : n ≤ 1000) (hP : P 0 vals σ1)
    (hstep : ∀ i, i < n → ∀ vals σ, P i vals σ → ∃ vals1 σ1 fl vals2 σ2, g (.d (.int (i : Nat))) vals σ = some (vals1, σ1) ∧ body vals1 σ1 = some ((fl, vals2), σ2) ∧ ((fl = .next ∧ P (i + 1) vals2 σ2) ∨ (fl = .brk ∧ B vals2 σ2))) :
    ∃ vals' σ', xFor 1001 true f g body vals σ = some ((.next, vals'), σ') ∧ (P n vals' σ' ∨ B vals' σ') := by
  obtain ⟨vals', σ', e, h⟩ := for_range P B hstep n 0 1001 vals σ1 (by omega) (by omega) hP
  refine ⟨vals', σ', ?_, h⟩
  unfold xFor
  have h1 : ((n : Int) ≤ 1000) := by omega
  simp only [M.bind, hf, srcOk, M.opt]
  simp [h1, e]
theorem xseq_next {f g : XM} {vals vals1 : Vals} {σ σ1 : Store} (h : f vals σ = some ((.next, vals1), σ1)) : xSeq f g vals σ = g vals1 σ1 := by
  unfold xSeq M.bind
  rw [h]
theorem xnil_eq {vals : Vals} {σ : Store} : xNil vals σ = some ((.next, vals), σ) := rfl
theorem gset (l : Store) (i j : Nat) (a : AO) : (l.set i a)[j]? = if i = j then (l[j]?).map (fun _ => a) else l[j]? := by
  by_cases h : i = j
  · subst h
    rw [if_pos rfl]
    by_cases q : i < l.length
    · rw [List.getElem?_set_self q, List.getElem?_eq_getElem q]; rfl
    · have h1 : (l.set i a)[i]? = none := List.getElem?_eq_none (by rw [List.length_set]; exact Nat.le_of_not_lt q)
      have h2 : l[i]? = none := List.getElem?_eq_none (Nat.le_of_not_lt q)
      rw [h1, h2]; rfl
  · rw [if_neg h, List.getElem?_set_ne h]
theorem dep_blk : AD.deps [AD.tup [AD.str 1]] ≤ 59 := by decide
theorem dep_done : AD.deps [AD.tup [AD.str 0]] ≤ 59 := by decide
theorem dep_bb (a b : Bool) : AD.deps [.bool a, .bool b] ≤ 59 := by simp [AD.deps, AD.dep]
noncomputable def Grow (σ σ' : Store) : Prop := ∃ E, σ' = σ ++ E
theorem Grow.refl (σ : Store) : Grow σ σ := ⟨[], by simp⟩
theorem Grow.app {σ τ : Store} (g : Grow σ τ) (E : Store) : Grow σ (τ ++ E) := by
  obtain ⟨F, rfl⟩ := g
  exact ⟨F ++ E, by simp⟩
theorem Grow.get {σ τ : Store} (g : Grow σ τ) {i : Nat} {o : AO} (h : σ[i]? = some o) : τ[i]? = some o := by
  obtain ⟨F, rfl⟩ := g
  rw [List.getElem?_append_left (List.getElem?_eq_some_iff.mp h).1]; exact h
end Mine
end
section
set_option Elab.async false
set_option maxRecDepth 100000
set_option linter.unusedSimpArgs false
set_option linter.unusedVariables false
namespace Mine
open PySem
theorem deps_le {k : Nat} : ∀ {l : List AD}, (∀ x ∈ l, x.dep ≤ k) → AD.deps l ≤ k
  | [], _ => Nat.zero_le _
  | x :: xs, h => by
    rw [AD.deps]
    exact Nat.max_le.mpr ⟨h x (.head _), deps_le fun y m => h y (.tail _ m)⟩
theorem deps_map {α : Type} {k : Nat} (f : α → AD) (h : ∀ x, (f x).dep ≤ k) (l : List α) : AD.deps (l.map f) ≤ k := deps_le fun y m => by
  obtain ⟨x, _, rfl⟩ := List.mem_map.mp m
  exact h x
theorem src_grow {σ σ' : Store} {n : Nat} (h : Src σ n) (g : Grow σ σ') : Src σ' n := by
  obtain ⟨a, b, ha, hb, e⟩ := h.at_
  exact ⟨a, b, ha, hb, g.get e⟩
theorem src_other {σ σ' : Store} {n : Nat} (h : Src σ n) (g : σ'[n]? = σ[n]?) : Src σ' n := by
  obtain ⟨a, b, ha, hb, e⟩ := h.at_
  exact ⟨a, b, ha, hb, g.trans e⟩
/-- a loop over a list that stays as it is -/
theorem for_lst {a : AV} {xs : List AD} {g : AV → Vals → M Vals} {body : XM} (P : Nat → Vals → Store → Prop) (hc : ∀ i vals σ, P i vals σ → content σ a = some xs)
    (hstep : ∀ i x, xs[i]? = some x → ∀ vals σ, P i vals σ → ∃ vals1 σ1 vals2 σ2, g (.d x) vals σ = some (vals1, σ1) ∧ body vals1 σ1 = some ((.next, vals2), σ2) ∧ P (i + 1) vals2 σ2) :
    ∀ (d i N : Nat) (vals : Vals) (σ : Store), xs.length = i + d → d < N → P i vals σ → ∃ vals' σ', xForLoop a g body N i vals σ = some ((.next, vals'), σ') ∧ P xs.length vals' σ' := by
  intro d
  induction d with
  | zero =>
    intro i N vals σ hd hN hP
    cases N with
    | zero => exact absurd hN (Nat.not_lt_zero _)
    | succ N =>
      refine ⟨vals, σ, ?_, by rw [hd]; exact hP⟩
      unfold xForLoop
      rw [next_lst (hc i vals σ hP), List.getElem?_eq_none (by omega)]
      rfl
  | succ d ih =>
    intro i N vals σ hd hN hP
    cases N with
    | zero => exact absurd hN (Nat.not_lt_zero _)
    | succ N =>
      have hi : i < xs.length := by omega
      obtain ⟨vals1, σ1, vals2, σ2, e1, e2, hP'⟩ := hstep i _ (List.getElem?_eq_getElem hi) vals σ hP
      obtain ⟨vals', σ', e3, h3⟩ := ih (i + 1) N vals2 σ2 (by omega) (by omega) hP'
      refine ⟨vals', σ', ?_, h3⟩
      unfold xForLoop
      rw [next_lst (hc i vals σ hP), List.getElem?_eq_getElem hi]
      simp only [Option.map_some, e1, e2]
      exact e3
theorem xfor_lst {a : AV} {xs : List AD} {f : Vals → M AV} {g : AV → Vals → M Vals} {body : XM} {vals : Vals} {σ σ1 : Store} {tn : Bool} (P : Nat → Vals → Store → Prop) (hf : f vals σ = some (a, σ1)) (hn : xs.length ≤ 1000) (hP : P 0 vals σ1)
    (hc : ∀ i vals σ, P i vals σ → content σ a = some xs)
    (hstep : ∀ i x, xs[i]? = some x → ∀ vals σ, P i vals σ → ∃ vals1 σ1 vals2 σ2, g (.d x) vals σ = some (vals1, σ1) ∧ body vals1 σ1 = some ((.next, vals2), σ2) ∧ P (i + 1) vals2 σ2) :
    ∃ vals' σ', xFor 1001 tn f g body vals σ = some ((.next, vals'), σ') ∧ P xs.length vals' σ' := by
  obtain ⟨vals', σ', e, h⟩ := for_lst P hc hstep xs.length 0 1001 vals σ1 (by omega) (by omega) hP
  refine ⟨vals', σ', ?_, h⟩
  unfold xFor
  simp only [M.bind, hf, src_lst (hc 0 vals σ1 hP)]
  exact e
noncomputable def prT (q : AD × AD) : AD := .tup [q.1, q.2]
/-- a waiter that is no select's -/
noncomputable def Lone (w : AD) : Prop := ∃ a b c, w = .tup [a, b, c, .none]
theorem app0 (σ : Store) (x y : AO) : (σ ++ [x, y])[σ.length]? = some x := by simp
theorem app1 (σ : Store) (x y : AO) : (σ ++ [x, y])[σ.length + 1]? = some y := by simp [List.getElem?_append_right]
noncomputable def wokenT : AD → AD → AD
  | .tup [a, _, c, d], what => .tup [.str 2, a, c, d, what]
  | _, _ => .none
/-- what a close tells -/
noncomputable def endT : AD := .tup [.str 3, .none, .bool false]
noncomputable def panT : AD := .tup [.str 5, .str 6]
noncomputable def closeRows (c : Ch) : List AD := .tup [.str 0] :: (c.rcv.map fun w => wokenT w endT) ++ c.snd.map fun w => wokenT w panT
end Mine
end
section
set_option Elab.async false
set_option maxRecDepth 100000
set_option linter.unusedSimpArgs false
set_option linter.unusedVariables false
namespace Mine
open PySem PyProof.Rows
theorem xfor_ret {a : AV} {x : AD} {xs : List AD} {f : Vals → M AV} {g : AV → Vals → M Vals} {body : XM} {vals vals1 vals2 : Vals} {σ σ1 σ2 σ3 : Store} {v : AV} {tn : Bool} (hf : f vals σ = some (a, σ1)) (hc : content σ1 a = some (x :: xs))
    (hg : g (.d x) vals σ1 = some (vals1, σ2)) (hb : body vals1 σ2 = some ((.ret v, vals2), σ3)) : xFor 1001 tn f g body vals σ = some ((.ret v, vals2), σ3) := by
  unfold xFor
  simp only [M.bind, hf, src_lst hc]
  unfold xForLoop
  rw [next_lst hc]
  simp only [List.getElem?_cons_zero, Option.map_some, hg, hb]
namespace L01
theorem fixed_map : (F__law_fixed_right [] []).map (·.1) = some (.d (.bool true)) := by kernel_rfl
theorem fixed_eq : ∃ σ, F__law_fixed_right [] [] = some (.d (.bool true), σ) := by
  obtain ⟨⟨a, σ⟩, e, q⟩ := Option.map_eq_some_iff.mp fixed_map
  exact ⟨σ, by rw [e]; exact congrArg (fun a => some (a, σ)) q⟩
noncomputable def valT (q : Int × Int) : AD := .tup [.int q.1, .int q.2]
noncomputable def sndT (q : Int × Int) : AD := .tup [.int q.1, valT q, .none, .none]
noncomputable def rcvT (w : Int) : AD := .tup [.int w, .none, .none, .none]
noncomputable def dS (q : Int × Int) : AD := .tup [.str 8, .int q.1, valT q]
noncomputable def dT (w : Int) : AD := .tup [.str 9, .int w]
noncomputable def dE : (Int × Int) ⊕ Int → AD := Sum.elim dS dT
noncomputable def deeds (D : List (Int × Int)) (T : List Int) : List AD := D.map dS ++ T.map dT
noncomputable def both (D : List (Int × Int)) (T : List Int) : List ((Int × Int) ⊕ Int) := D.map .inl ++ T.map .inr
theorem both_map (D : List (Int × Int)) (T : List Int) : (both D T).map dE = deeds D T := by
  rw [both, List.map_append, List.map_map, List.map_map]; rfl
theorem both_left : ∀ (D : List (Int × Int)) (T : List Int), ((both D T).filter Sum.isLeft).map dE = D.map dS := fun D T => by
  rw [both, List.filter_append, List.map_append, List.filter_eq_self.mpr (fun x m => by obtain ⟨_, _, rfl⟩ := List.mem_map.mp m; rfl), List.filter_eq_nil_iff.mpr (fun x m => by obtain ⟨_, _, rfl⟩ := List.mem_map.mp m; exact Bool.false_ne_true), List.map_map, List.map_nil, List.append_nil]; rfl
theorem both_right : ∀ (D : List (Int × Int)) (T : List Int), ((both D T).filter Sum.isRight).map dE = T.map dT := fun D T => by
  rw [both, List.filter_append, List.map_append, List.filter_eq_nil_iff.mpr (fun x m => by obtain ⟨_, _, rfl⟩ := List.mem_map.mp m; exact Bool.false_ne_true), List.filter_eq_self.mpr (fun x m => by obtain ⟨_, _, rfl⟩ := List.mem_map.mp m; rfl), List.map_map, List.map_nil, List.nil_append]; rfl
theorem both_len (D : List (Int × Int)) (T : List Int) : (both D T).length = D.length + T.length := by simp [both]
theorem kept_eq {σ : Store} {q rm : Nat} {D : List (Int × Int)} {T : List Int} (h : σ[q]? = some (.list (deeds D T))) (hl : D.length + T.length ≤ 100) :
    F__law_kept [.loc q, .d (.int rm)] σ = some (.d (.tup [.lst ((D.take rm).map valT), .lst ((D.drop rm).map dS), .lst (T.map dT)]), σ) := by
  have n1 : D.length ≤ 1048576 := by omega
  have e2 : q__law_kept_2 [some (.loc q), some (.d (.int rm)), none] σ = some (D.map dS, σ) := by
    rw [← both_left D T]
    refine mcomp_lst dE Sum.isLeft dE (a := .loc q) (by simp [fnM, fEnd, xSeq, xIf, xRet, xExpr, xAsg, xNil, xBrk, aVar, aAttr, mSetAttr, putF, cTr, cAttr, cVar, M.bind, M.opt, M.ret, getA, boolOf, cLst, cTup, cCons, cNil, cD, mkLst, mkTup, allD, room, cCmpB, cmpA, cB, cAndB, cOrB, cNotB, cAnd, cOr, cIte, cNeg, res, ress, content, AD.dep, deps_nil, AD.beq, AD.beqs, cLM, isLoc, mPop, mAppend, mExtend, cCall, cMeth, isObj, cIdx, idxA, itemAt, cBin, binA, one, two, fLen, lenA, fInt, fMax, fMin, fList, fListM, cLstM, mAlloc, aTup, seqA, asCons, asNil, xSwap, asRev, cTo, toA, cFrom, fromA, aSub, mSetItem, fRange, xCompA, xCompM, intOf, int2, addL, mulL, intA, isN, eqL, inL]) (by simp [content, h, both_map]) (by rw [both_len]; omega) (fun x _ => ?_) fun x _ _ => by simp [fnM, fEnd, xSeq, xIf, xRet, xExpr, xAsg, xNil, xBrk, aVar, aAttr, mSetAttr, putF, cTr, cAttr, cVar, M.bind, M.opt, M.ret, getA, boolOf, cLst, cTup, cCons, cNil, cD, mkLst, mkTup, allD, room, cCmpB, cmpA, cB, cAndB, cOrB, cNotB, cAnd, cOr, cIte, cNeg, res, ress, content, AD.dep, deps_nil, AD.beq, AD.beqs, cLM, isLoc, mPop, mAppend, mExtend, cCall, cMeth, isObj, cIdx, idxA, itemAt, cBin, binA, one, two, fLen, lenA, fInt, fMax, fMin, fList, fListM, cLstM, mAlloc, aTup, seqA, asCons, asNil, xSwap, asRev, cTo, toA, cFrom, fromA, aSub, mSetItem, fRange, xCompA, xCompM, intOf, int2, addL, mulL, intA, isN, eqL, inL]
    cases x <;> simp [fnM, fEnd, xSeq, xIf, xRet, xExpr, xAsg, xNil, xBrk, aVar, aAttr, mSetAttr, putF, cTr, cAttr, cVar, M.bind, M.opt, M.ret, getA, boolOf, cLst, cTup, cCons, cNil, cD, mkLst, mkTup, allD, room, cCmpB, cmpA, cB, cAndB, cOrB, cNotB, cAnd, cOr, cIte, cNeg, res, ress, content, AD.dep, deps_nil, AD.beq, AD.beqs, cLM, isLoc, mPop, mAppend, mExtend, cCall, cMeth, isObj, cIdx, idxA, itemAt, cBin, binA, one, two, fLen, lenA, fInt, fMax, fMin, fList, fListM, cLstM, mAlloc, aTup, seqA, asCons, asNil, xSwap, asRev, cTo, toA, cFrom, fromA, aSub, mSetItem, fRange, xCompA, xCompM, intOf, int2, addL, mulL, intA, isN, eqL, inL, dE, dS, dT]
  have e0 : q__law_kept_0 [some (.loc q), some (.d (.int rm)), some (.d (.lst (D.map dS)))] σ = some (.d (.lst (T.map dT)), σ) := by
    rw [← both_right D T]
    refine ccomp_of (mcomp_lst dE Sum.isRight dE (a := .loc q) (by simp [fnM, fEnd, xSeq, xIf, xRet, xExpr, xAsg, xNil, xBrk, aVar, aAttr, mSetAttr, putF, cTr, cAttr, cVar, M.bind, M.opt, M.ret, getA, boolOf, cLst, cTup, cCons, cNil, cD, mkLst, mkTup, allD, room, cCmpB, cmpA, cB, cAndB, cOrB, cNotB, cAnd, cOr, cIte, cNeg, res, ress, content, AD.dep, deps_nil, AD.beq, AD.beqs, cLM, isLoc, mPop, mAppend, mExtend, cCall, cMeth, isObj, cIdx, idxA, itemAt, cBin, binA, one, two, fLen, lenA, fInt, fMax, fMin, fList, fListM, cLstM, mAlloc, aTup, seqA, asCons, asNil, xSwap, asRev, cTo, toA, cFrom, fromA, aSub, mSetItem, fRange, xCompA, xCompM, intOf, int2, addL, mulL, intA, isN, eqL, inL]) (by simp [content, h, both_map]) (by rw [both_len]; omega) (fun x _ => ?_) fun x _ _ => by simp [fnM, fEnd, xSeq, xIf, xRet, xExpr, xAsg, xNil, xBrk, aVar, aAttr, mSetAttr, putF, cTr, cAttr, cVar, M.bind, M.opt, M.ret, getA, boolOf, cLst, cTup, cCons, cNil, cD, mkLst, mkTup, allD, room, cCmpB, cmpA, cB, cAndB, cOrB, cNotB, cAnd, cOr, cIte, cNeg, res, ress, content, AD.dep, deps_nil, AD.beq, AD.beqs, cLM, isLoc, mPop, mAppend, mExtend, cCall, cMeth, isObj, cIdx, idxA, itemAt, cBin, binA, one, two, fLen, lenA, fInt, fMax, fMin, fList, fListM, cLstM, mAlloc, aTup, seqA, asCons, asNil, xSwap, asRev, cTo, toA, cFrom, fromA, aSub, mSetItem, fRange, xCompA, xCompM, intOf, int2, addL, mulL, intA, isN, eqL, inL])
    cases x <;> simp [fnM, fEnd, xSeq, xIf, xRet, xExpr, xAsg, xNil, xBrk, aVar, aAttr, mSetAttr, putF, cTr, cAttr, cVar, M.bind, M.opt, M.ret, getA, boolOf, cLst, cTup, cCons, cNil, cD, mkLst, mkTup, allD, room, cCmpB, cmpA, cB, cAndB, cOrB, cNotB, cAnd, cOr, cIte, cNeg, res, ress, content, AD.dep, deps_nil, AD.beq, AD.beqs, cLM, isLoc, mPop, mAppend, mExtend, cCall, cMeth, isObj, cIdx, idxA, itemAt, cBin, binA, one, two, fLen, lenA, fInt, fMax, fMin, fList, fListM, cLstM, mAlloc, aTup, seqA, asCons, asNil, xSwap, asRev, cTo, toA, cFrom, fromA, aSub, mSetItem, fRange, xCompA, xCompM, intOf, int2, addL, mulL, intA, isN, eqL, inL, dE, dS, dT]
  have e1 : q__law_kept_1 [some (.loc q), some (.d (.int rm)), some (.d (.lst (D.map dS)))] σ = some (.d (.lst ((D.take rm).map valT)), σ) :=
    ccomp_of (mcomp_map dS valT (a := .d (.lst ((D.take rm).map dS))) (by simp [fnM, fEnd, xSeq, xIf, xRet, xExpr, xAsg, xNil, xBrk, aVar, aAttr, mSetAttr, putF, cTr, cAttr, cVar, M.bind, M.opt, M.ret, getA, boolOf, cLst, cTup, cCons, cNil, cD, mkLst, mkTup, allD, room, cCmpB, cmpA, cB, cAndB, cOrB, cNotB, cAnd, cOr, cIte, cNeg, res, ress, content, AD.dep, deps_nil, AD.beq, AD.beqs, cLM, isLoc, mPop, mAppend, mExtend, cCall, cMeth, isObj, cIdx, idxA, itemAt, cBin, binA, one, two, fLen, lenA, fInt, fMax, fMin, fList, fListM, cLstM, mAlloc, aTup, seqA, asCons, asNil, xSwap, asRev, cTo, toA, cFrom, fromA, aSub, mSetItem, fRange, xCompA, xCompM, intOf, int2, addL, mulL, intA, isN, eqL, inL, n1, List.map_take]) rfl (by simp; omega) fun x _ => by simp [fnM, fEnd, xSeq, xIf, xRet, xExpr, xAsg, xNil, xBrk, aVar, aAttr, mSetAttr, putF, cTr, cAttr, cVar, M.bind, M.opt, M.ret, getA, boolOf, cLst, cTup, cCons, cNil, cD, mkLst, mkTup, allD, room, cCmpB, cmpA, cB, cAndB, cOrB, cNotB, cAnd, cOr, cIte, cNeg, res, ress, content, AD.dep, deps_nil, AD.beq, AD.beqs, cLM, isLoc, mPop, mAppend, mExtend, cCall, cMeth, isObj, cIdx, idxA, itemAt, cBin, binA, one, two, fLen, lenA, fInt, fMax, fMin, fList, fListM, cLstM, mAlloc, aTup, seqA, asCons, asNil, xSwap, asRev, cTo, toA, cFrom, fromA, aSub, mSetItem, fRange, xCompA, xCompM, intOf, int2, addL, mulL, intA, isN, eqL, inL, dS])
  simp [F__law_kept, f__law_kept, fnM, fEnd, xSeq, xIf, xRet, xExpr, xAsg, xNil, xBrk, aVar, aAttr, mSetAttr, putF, cTr, cAttr, cVar, M.bind, M.opt, M.ret, getA, boolOf, cLst, cTup, cCons, cNil, cD, mkLst, mkTup, allD, room, cCmpB, cmpA, cB, cAndB, cOrB, cNotB, cAnd, cOr, cIte, cNeg, res, ress, content, AD.dep, deps_nil, AD.beq, AD.beqs, cLM, isLoc, mPop, mAppend, mExtend, cCall, cMeth, isObj, cIdx, idxA, itemAt, cBin, binA, one, two, fLen, lenA, fInt, fMax, fMin, fList, fListM, cLstM, mAlloc, aTup, seqA, asCons, asNil, xSwap, asRev, cTo, toA, cFrom, fromA, aSub, mSetItem, fRange, xCompA, xCompM, intOf, int2, addL, mulL, intA, isN, eqL, inL, e0, e1, e2, n1, List.map_drop]
theorem deeds_nil (T : List Int) : deeds [] T = T.map dT := rfl
theorem deeds_snd (D : List (Int × Int)) : deeds D [] = D.map dS := by simp [deeds]
theorem sent_take {σ : Store} {q rm : Nat} {w : Int} {who val : AD} {T : List Int} (h : σ[q]? = some (.list (deeds [] (w :: T)))) (hl : T.length ≤ 100) :
    F__law_sent [.loc q, .d (.int rm), .d who, .d val] σ = some (.d (.lst [.tup [.str 0], .tup [.str 2, .int w, .none, .none, .tup [.str 3, val, .bool true]]]), σ.set q (.list (deeds [] T))) := by
  rw [deeds_nil, List.map_cons] at h
  have n1 : T.length ≤ 999 := by omega
  have e : w__law_sent_0 [some (.loc q), some (.d (.int rm)), some (.d who), some (.d val), none] σ = some ((.ret (.d (.lst [.tup [.str 0], .tup [.str 2, .int w, .none, .none, .tup [.str 3, val, .bool true]]])), [some (.loc q), some (.d (.int rm)), some (.d who), some (.d val), some (.d (dT w))]), σ.set q (.list (T.map dT))) :=
    xfor_ret (σ1 := σ) (σ2 := σ) (a := .loc q) (x := dT w) (xs := T.map dT) (vals1 := [some (.loc q), some (.d (.int rm)), some (.d who), some (.d val), some (.d (dT w))]) (by simp [fnM, fEnd, xSeq, xIf, xRet, xExpr, xAsg, xNil, xBrk, aVar, aAttr, mSetAttr, putF, cTr, cAttr, cVar, M.bind, M.opt, M.ret, getA, boolOf, cLst, cTup, cCons, cNil, cD, mkLst, mkTup, allD, room, cCmpB, cmpA, cB, cAndB, cOrB, cNotB, cAnd, cOr, cIte, cNeg, res, ress, content, AD.dep, deps_nil, AD.beq, AD.beqs, cLM, isLoc, mPop, mAppend, mExtend, cCall, cMeth, isObj, cIdx, idxA, itemAt, cBin, binA, one, two, fLen, lenA, fInt, fMax, fMin, fList, fListM, cLstM, mAlloc, aTup, seqA, asCons, asNil, xSwap, asRev, cTo, toA, cFrom, fromA, aSub, mSetItem, fRange, xCompA, xCompM, intOf, int2, addL, mulL, intA, isN, eqL, inL]) (by simp [content, h]) (by simp [fnM, fEnd, xSeq, xIf, xRet, xExpr, xAsg, xNil, xBrk, aVar, aAttr, mSetAttr, putF, cTr, cAttr, cVar, M.bind, M.opt, M.ret, getA, boolOf, cLst, cTup, cCons, cNil, cD, mkLst, mkTup, allD, room, cCmpB, cmpA, cB, cAndB, cOrB, cNotB, cAnd, cOr, cIte, cNeg, res, ress, content, AD.dep, deps_nil, AD.beq, AD.beqs, cLM, isLoc, mPop, mAppend, mExtend, cCall, cMeth, isObj, cIdx, idxA, itemAt, cBin, binA, one, two, fLen, lenA, fInt, fMax, fMin, fList, fListM, cLstM, mAlloc, aTup, seqA, asCons, asNil, xSwap, asRev, cTo, toA, cFrom, fromA, aSub, mSetItem, fRange, xCompA, xCompM, intOf, int2, addL, mulL, intA, isN, eqL, inL]) (by simp [b__law_sent_0, fnM, fEnd, xSeq, xIf, xRet, xExpr, xAsg, xNil, xBrk, aVar, aAttr, mSetAttr, putF, cTr, cAttr, cVar, M.bind, M.opt, M.ret, getA, boolOf, cLst, cTup, cCons, cNil, cD, mkLst, mkTup, allD, room, cCmpB, cmpA, cB, cAndB, cOrB, cNotB, cAnd, cOr, cIte, cNeg, res, ress, content, AD.dep, deps_nil, AD.beq, AD.beqs, cLM, isLoc, mPop, mAppend, mExtend, cCall, cMeth, isObj, cIdx, idxA, itemAt, cBin, binA, one, two, fLen, lenA, fInt, fMax, fMin, fList, fListM, cLstM, mAlloc, aTup, seqA, asCons, asNil, xSwap, asRev, cTo, toA, cFrom, fromA, aSub, mSetItem, fRange, xCompA, xCompM, intOf, int2, addL, mulL, intA, isN, eqL, inL, mRemove, dT, h, n1, AD.deps])
  simp [F__law_sent, f__law_sent, fnM, fEnd, xSeq, xIf, xRet, xExpr, xAsg, xNil, xBrk, aVar, aAttr, mSetAttr, putF, cTr, cAttr, cVar, M.bind, M.opt, M.ret, getA, boolOf, cLst, cTup, cCons, cNil, cD, mkLst, mkTup, allD, room, cCmpB, cmpA, cB, cAndB, cOrB, cNotB, cAnd, cOr, cIte, cNeg, res, ress, content, AD.dep, deps_nil, AD.beq, AD.beqs, cLM, isLoc, mPop, mAppend, mExtend, cCall, cMeth, isObj, cIdx, idxA, itemAt, cBin, binA, one, two, fLen, lenA, fInt, fMax, fMin, fList, fListM, cLstM, mAlloc, aTup, seqA, asCons, asNil, xSwap, asRev, cTo, toA, cFrom, fromA, aSub, mSetItem, fRange, xCompA, xCompM, intOf, int2, addL, mulL, intA, isN, eqL, inL, e, deeds_nil]
theorem sent_walk {σ : Store} {q rm : Nat} {who val : AD} {D : List (Int × Int)} (h : σ[q]? = some (.list (deeds D []))) (hl : D.length ≤ 100) :
    ∃ v, w__law_sent_0 [some (.loc q), some (.d (.int rm)), some (.d who), some (.d val), none] σ = some ((.next, [some (.loc q), some (.d (.int rm)), some (.d who), some (.d val), v]), σ) := by
  obtain ⟨vals', σ', e, v, h1, h2⟩ := xfor_lst (a := .loc q) (xs := D.map dS) (f := cVar 0) (g := aVar 4) (body := b__law_sent_0) (tn := false) (vals := [some (.loc q), some (.d (.int rm)), some (.d who), some (.d val), none]) (σ := σ) (σ1 := σ)
    (fun i vals τ => ∃ v, vals = [some (.loc q), some (.d (.int rm)), some (.d who), some (.d val), v] ∧ τ = σ) (by simp [fnM, fEnd, xSeq, xIf, xRet, xExpr, xAsg, xNil, xBrk, aVar, aAttr, mSetAttr, putF, cTr, cAttr, cVar, M.bind, M.opt, M.ret, getA, boolOf, cLst, cTup, cCons, cNil, cD, mkLst, mkTup, allD, room, cCmpB, cmpA, cB, cAndB, cOrB, cNotB, cAnd, cOr, cIte, cNeg, res, ress, content, AD.dep, deps_nil, AD.beq, AD.beqs, cLM, isLoc, mPop, mAppend, mExtend, cCall, cMeth, isObj, cIdx, idxA, itemAt, cBin, binA, one, two, fLen, lenA, fInt, fMax, fMin, fList, fListM, cLstM, mAlloc, aTup, seqA, asCons, asNil, xSwap, asRev, cTo, toA, cFrom, fromA, aSub, mSetItem, fRange, xCompA, xCompM, intOf, int2, addL, mulL, intA, isN, eqL, inL]) (by simpa using by omega) ⟨none, rfl, rfl⟩ (fun i vals τ ⟨_, _, e⟩ => by subst e; simp [content, h, deeds_snd]) (fun i x hx vals τ ⟨v, e1, e2⟩ => by
      subst e1 e2
      obtain ⟨d, _, rfl⟩ := List.mem_map.mp (List.mem_of_getElem? hx)
      exact ⟨[some (.loc q), some (.d (.int rm)), some (.d who), some (.d val), some (.d (dS d))], τ, [some (.loc q), some (.d (.int rm)), some (.d who), some (.d val), some (.d (dS d))], τ, by simp [fnM, fEnd, xSeq, xIf, xRet, xExpr, xAsg, xNil, xBrk, aVar, aAttr, mSetAttr, putF, cTr, cAttr, cVar, M.bind, M.opt, M.ret, getA, boolOf, cLst, cTup, cCons, cNil, cD, mkLst, mkTup, allD, room, cCmpB, cmpA, cB, cAndB, cOrB, cNotB, cAnd, cOr, cIte, cNeg, res, ress, content, AD.dep, deps_nil, AD.beq, AD.beqs, cLM, isLoc, mPop, mAppend, mExtend, cCall, cMeth, isObj, cIdx, idxA, itemAt, cBin, binA, one, two, fLen, lenA, fInt, fMax, fMin, fList, fListM, cLstM, mAlloc, aTup, seqA, asCons, asNil, xSwap, asRev, cTo, toA, cFrom, fromA, aSub, mSetItem, fRange, xCompA, xCompM, intOf, int2, addL, mulL, intA, isN, eqL, inL], by simp [b__law_sent_0, fnM, fEnd, xSeq, xIf, xRet, xExpr, xAsg, xNil, xBrk, aVar, aAttr, mSetAttr, putF, cTr, cAttr, cVar, M.bind, M.opt, M.ret, getA, boolOf, cLst, cTup, cCons, cNil, cD, mkLst, mkTup, allD, room, cCmpB, cmpA, cB, cAndB, cOrB, cNotB, cAnd, cOr, cIte, cNeg, res, ress, content, AD.dep, deps_nil, AD.beq, AD.beqs, cLM, isLoc, mPop, mAppend, mExtend, cCall, cMeth, isObj, cIdx, idxA, itemAt, cBin, binA, one, two, fLen, lenA, fInt, fMax, fMin, fList, fListM, cLstM, mAlloc, aTup, seqA, asCons, asNil, xSwap, asRev, cTo, toA, cFrom, fromA, aSub, mSetItem, fRange, xCompA, xCompM, intOf, int2, addL, mulL, intA, isN, eqL, inL, dS], ⟨_, rfl, rfl⟩⟩)
  subst h1 h2
  exact ⟨v, e⟩
theorem sent_send {σ : Store} {q rm : Nat} {d : Int × Int} {D : List (Int × Int)} (h : σ[q]? = some (.list (deeds D []))) (hl : D.length ≤ 90) :
    F__law_sent [.loc q, .d (.int rm), .d (.int d.1), .d (valT d)] σ = some (.d (.lst [if D.length < rm then .tup [.str 0] else .tup [.str 1]]), σ.set q (.list (deeds (D ++ [d]) []))) := by
  obtain ⟨v, e⟩ := sent_walk (rm := rm) (who := .int d.1) (val := valT d) h (by omega)
  have h2 : (σ.set q (.list (deeds (D ++ [d]) [])))[q]? = some (.list (deeds (D ++ [d]) [])) := List.getElem?_set_self (List.getElem?_eq_some_iff.mp h).1
  have e2 := kept_eq (rm := rm) h2 (by simp; omega)
  have hd : deeds (D ++ [d]) [] = D.map dS ++ [dS d] := by simp [deeds]
  rw [hd] at h2 e2
  rw [deeds_snd] at h
  rw [hd]
  have n1 : D.length ≤ 1000 := by omega
  have n2 : min rm (D.length + 1) ≤ 1048576 := by omega
  have n3 : D.length + 1 ≤ 1048576 := by omega
  have hh : dS d = .tup [.str 8, .int d.1, valT d] := rfl
  by_cases c : D.length < rm
  · have c1 : ((min rm (D.length + 1) : Nat) : Int) = (D.length : Int) + 1 := by omega
    simp [F__law_sent, f__law_sent, fnM, fEnd, xSeq, xIf, xRet, xExpr, xAsg, xNil, xBrk, aVar, aAttr, mSetAttr, putF, cTr, cAttr, cVar, M.bind, M.opt, M.ret, getA, boolOf, cLst, cTup, cCons, cNil, cD, mkLst, mkTup, allD, room, cCmpB, cmpA, cB, cAndB, cOrB, cNotB, cAnd, cOr, cIte, cNeg, res, ress, content, AD.dep, deps_nil, AD.beq, AD.beqs, cLM, isLoc, mPop, mAppend, mExtend, cCall, cMeth, isObj, cIdx, idxA, itemAt, cBin, binA, one, two, fLen, lenA, fInt, fMax, fMin, fList, fListM, cLstM, mAlloc, aTup, seqA, asCons, asNil, xSwap, asRev, cTo, toA, cFrom, fromA, aSub, mSetItem, fRange, xCompA, xCompM, intOf, int2, addL, mulL, intA, isN, eqL, inL, e, h, n1, ← hh, e2, h2, n2, n3, c, c1]
  · have c1 : ¬ ((min rm (D.length + 1) : Nat) : Int) = (D.length : Int) + 1 := by omega
    simp [F__law_sent, f__law_sent, fnM, fEnd, xSeq, xIf, xRet, xExpr, xAsg, xNil, xBrk, aVar, aAttr, mSetAttr, putF, cTr, cAttr, cVar, M.bind, M.opt, M.ret, getA, boolOf, cLst, cTup, cCons, cNil, cD, mkLst, mkTup, allD, room, cCmpB, cmpA, cB, cAndB, cOrB, cNotB, cAnd, cOr, cIte, cNeg, res, ress, content, AD.dep, deps_nil, AD.beq, AD.beqs, cLM, isLoc, mPop, mAppend, mExtend, cCall, cMeth, isObj, cIdx, idxA, itemAt, cBin, binA, one, two, fLen, lenA, fInt, fMax, fMin, fList, fListM, cLstM, mAlloc, aTup, seqA, asCons, asNil, xSwap, asRev, cTo, toA, cFrom, fromA, aSub, mSetItem, fRange, xCompA, xCompM, intOf, int2, addL, mulL, intA, isN, eqL, inL, e, h, n1, ← hh, e2, h2, n2, n3, c, c1]
theorem comp_late {σ : Store} {vals : Vals} (L : List (Int × Int)) (h : vals[6]? = some (some (.d (.lst (L.map dS))))) (hl : L.length ≤ 100) :
    q__law_taken_0 vals σ = some ((L.take 1).map fun d => .tup [.str 2, .int d.1, .none, .none, .tup [.str 4]], σ) := by
  have n1 : L.length ≤ 1048576 := by omega
  exact mcomp_map dS (fun d => .tup [.str 2, .int d.1, .none, .none, .tup [.str 4]]) (a := .d (.lst ((L.take 1).map dS))) (by simp [fnM, fEnd, xSeq, xIf, xRet, xExpr, xAsg, xNil, xBrk, aVar, aAttr, mSetAttr, putF, cTr, cAttr, cVar, M.bind, M.opt, M.ret, getA, boolOf, cLst, cTup, cCons, cNil, cD, mkLst, mkTup, allD, room, cCmpB, cmpA, cB, cAndB, cOrB, cNotB, cAnd, cOr, cIte, cNeg, res, ress, content, AD.dep, deps_nil, AD.beq, AD.beqs, cLM, isLoc, mPop, mAppend, mExtend, cCall, cMeth, isObj, cIdx, idxA, itemAt, cBin, binA, one, two, fLen, lenA, fInt, fMax, fMin, fList, fListM, cLstM, mAlloc, aTup, seqA, asCons, asNil, xSwap, asRev, cTo, toA, cFrom, fromA, aSub, mSetItem, fRange, xCompA, xCompM, intOf, int2, addL, mulL, intA, isN, eqL, inL, h, n1, List.map_take]) rfl (by simp; omega) fun x _ => by simp [fnM, fEnd, xSeq, xIf, xRet, xExpr, xAsg, xNil, xBrk, aVar, aAttr, mSetAttr, putF, cTr, cAttr, cVar, M.bind, M.opt, M.ret, getA, boolOf, cLst, cTup, cCons, cNil, cD, mkLst, mkTup, allD, room, cCmpB, cmpA, cB, cAndB, cOrB, cNotB, cAnd, cOr, cIte, cNeg, res, ress, content, AD.dep, deps_nil, AD.beq, AD.beqs, cLM, isLoc, mPop, mAppend, mExtend, cCall, cMeth, isObj, cIdx, idxA, itemAt, cBin, binA, one, two, fLen, lenA, fInt, fMax, fMin, fList, fListM, cLstM, mAlloc, aTup, seqA, asCons, asNil, xSwap, asRev, cTo, toA, cFrom, fromA, aSub, mSetItem, fRange, xCompA, xCompM, intOf, int2, addL, mulL, intA, isN, eqL, inL, dS]
theorem taken_wait {σ : Store} {q rm : Nat} {who : Int} {T : List Int} (h : σ[q]? = some (.list (deeds [] T))) (hl : T.length ≤ 90) :
    F__law_taken [.loc q, .d (.int rm), .d (.int who)] σ = some (.d (.lst [.tup [.str 1]]), σ.set q (.list (deeds [] (T ++ [who])))) := by
  have e2 := kept_eq (rm := rm) h (by simp; omega)
  rw [deeds_nil] at h
  have n1 : T.length ≤ 1000 := by omega
  simp only [List.take_nil, List.drop_nil, List.map_nil] at e2
  simp [F__law_taken, f__law_taken, fnM, fEnd, xSeq, xIf, xRet, xExpr, xAsg, xNil, xBrk, aVar, aAttr, mSetAttr, putF, cTr, cAttr, cVar, M.bind, M.opt, M.ret, getA, boolOf, cLst, cTup, cCons, cNil, cD, mkLst, mkTup, allD, room, cCmpB, cmpA, cB, cAndB, cOrB, cNotB, cAnd, cOr, cIte, cNeg, res, ress, content, AD.dep, deps_nil, AD.beq, AD.beqs, cLM, isLoc, mPop, mAppend, mExtend, cCall, cMeth, isObj, cIdx, idxA, itemAt, cBin, binA, one, two, fLen, lenA, fInt, fMax, fMin, fList, fListM, cLstM, mAlloc, aTup, seqA, asCons, asNil, xSwap, asRev, cTo, toA, cFrom, fromA, aSub, mSetItem, fRange, xCompA, xCompM, intOf, int2, addL, mulL, intA, isN, eqL, inL, e2, h, n1, deeds_nil, dT]
theorem deps_any {l : List (Int × Int)} {e : Int × Int → AD} (h : ∀ x, (e x).dep ≤ 3) : AD.deps (l.map e) ≤ 50 := Nat.le_trans (deps_map (k := 3) e h l) (by omega)
theorem dep_val (d : Int × Int) : (valT d).dep ≤ 3 := (by decide : (1 : Nat) ≤ 3)
theorem dep_dS (d : Int × Int) : (dS d).dep ≤ 3 := (by decide : (2 : Nat) ≤ 3)
theorem dep_sndT (d : Int × Int) : (sndT d).dep ≤ 3 := (by decide : (2 : Nat) ≤ 3)
theorem taken_got {σ : Store} {q rm : Nat} {who : Int} {d : Int × Int} {D : List (Int × Int)} (h : σ[q]? = some (.list (deeds (d :: D) []))) (hl : D.length ≤ 90) :
    F__law_taken [.loc q, .d (.int rm), .d (.int who)] σ = some (.d (.lst (.tup [.str 0, valT d, .bool true] :: (((d :: D).drop rm).take 1).map fun d => .tup [.str 2, .int d.1, .none, .none, .tup [.str 4]])), σ.set q (.list (deeds D []))) := by
  have e2 := kept_eq (rm := rm) h (by simp; omega)
  have n1 : D.length ≤ 999 := by omega
  have n2 : ((d :: D).drop rm).length ≤ 100 := by simp; omega
  have C := fun (σ : Store) (vals : Vals) (h : vals[6]? = _) => comp_late (σ := σ) (vals := vals) ((d :: D).drop rm) h n2
  have d1 : AD.deps (((d :: D).take rm).map valT) ≤ 59 := Nat.le_trans (deps_any dep_val) (by omega)
  have d2 : AD.deps (((d :: D).drop rm).map dS) ≤ 59 := Nat.le_trans (deps_any dep_dS) (by omega)
  rw [deeds_snd, List.map_cons] at h
  rw [deeds_snd]
  have l1 : ((((d :: D).drop rm).take 1).map fun d => AD.tup [.str 2, .int d.1, .none, .none, .tup [.str 4]]).length ≤ 1 := by simp; omega
  generalize ((((d :: D).drop rm).take 1).map fun d => AD.tup [.str 2, .int d.1, .none, .none, .tup [.str 4]]) = wk at *
  have l2 : 1 + wk.length ≤ 1048576 := by omega
  have hne : ∀ K L, K = ((d :: D).take rm).map valT → L = ((d :: D).drop rm).map dS → (AD.beqs K [] && AD.beqs L []) = false := fun K L hK hL => by
    subst hK hL
    cases rm with
    | zero => simp [AD.beqs]
    | succ k => simp [AD.beqs]
  generalize hK : ((d :: D).take rm).map valT = K at *
  generalize hL : ((d :: D).drop rm).map dS = L at *
  have hne := hne K L rfl rfl
  rw [Bool.and_eq_false_iff] at hne
  have e3 : ∀ x, dS d = x → x = .tup [.str 8, .int d.1, valT d] := fun x q => q ▸ rfl
  have hd := e3 _ rfl
  by_cases c1 : AD.beqs K [] = true
  · have c2 : AD.beqs L [] = false := by
      rcases hne with q | q
      · rw [c1] at q; cases q
      · exact q
    simp [F__law_taken, f__law_taken, fnM, fEnd, xSeq, xIf, xRet, xExpr, xAsg, xNil, xBrk, aVar, aAttr, mSetAttr, putF, cTr, cAttr, cVar, M.bind, M.opt, M.ret, getA, boolOf, cLst, cTup, cCons, cNil, cD, mkLst, mkTup, allD, room, cCmpB, cmpA, cB, cAndB, cOrB, cNotB, cAnd, cOr, cIte, cNeg, res, ress, content, AD.dep, deps_nil, AD.beq, AD.beqs, cLM, isLoc, mPop, mAppend, mExtend, cCall, cMeth, isObj, cIdx, idxA, itemAt, cBin, binA, one, two, fLen, lenA, fInt, fMax, fMin, fList, fListM, cLstM, mAlloc, aTup, seqA, asCons, asNil, xSwap, asRev, cTo, toA, cFrom, fromA, aSub, mSetItem, fRange, xCompA, xCompM, intOf, int2, addL, mulL, intA, isN, eqL, inL, e2, h, n1, d1, d2, c1, c2, C, l2, hd]
  · have c1 : AD.beqs K [] = false := by simpa using c1
    simp [F__law_taken, f__law_taken, fnM, fEnd, xSeq, xIf, xRet, xExpr, xAsg, xNil, xBrk, aVar, aAttr, mSetAttr, putF, cTr, cAttr, cVar, M.bind, M.opt, M.ret, getA, boolOf, cLst, cTup, cCons, cNil, cD, mkLst, mkTup, allD, room, cCmpB, cmpA, cB, cAndB, cOrB, cNotB, cAnd, cOr, cIte, cNeg, res, ress, content, AD.dep, deps_nil, AD.beq, AD.beqs, cLM, isLoc, mPop, mAppend, mExtend, cCall, cMeth, isObj, cIdx, idxA, itemAt, cBin, binA, one, two, fLen, lenA, fInt, fMax, fMin, fList, fListM, cLstM, mAlloc, aTup, seqA, asCons, asNil, xSwap, asRev, cTo, toA, cFrom, fromA, aSub, mSetItem, fRange, xCompA, xCompM, intOf, int2, addL, mulL, intA, isN, eqL, inL, e2, h, n1, d1, d2, c1, C, l2, hd]
theorem like_true {σ : Store} {l b s r q rm : Nat} {D : List (Int × Int)} {T : List Int} (hc : ChAt σ l b s r ⟨rm, (D.take rm).map valT, (D.drop rm).map sndT, T.map rcvT, false⟩) (h : σ[q]? = some (.list (deeds D T))) (hl : D.length + T.length ≤ 100) :
    F__law_is_like [.obj l, .loc q, .d (.int rm)] σ = some (.d (.bool true), σ) := by
  have e2 := kept_eq (rm := rm) h hl
  have d1 : AD.deps ((D.take rm).map valT) ≤ 50 := deps_any dep_val
  have d2 : AD.deps ((D.drop rm).map sndT) ≤ 50 := deps_any dep_sndT
  have f : Ch.Fit ⟨rm, (D.take rm).map valT, (D.drop rm).map sndT, T.map rcvT, false⟩ := ⟨by simp; omega, by simp; omega, by simp; omega, d1, d2, Nat.le_trans (deps_map (k := 1) rcvT (fun _ => Nat.le_refl _) _) (by omega)⟩
  have e3 := size_eq hc f
  have o0 := hc.o
  have o1 := hc.hb
  have o2 := hc.hs
  have o3 := hc.hr
  simp only at o0 o1 o2 o3 e3
  have q0 : ∀ vals : Vals, vals[5]? = some (some (.d (.lst (T.map dT)))) → q__law_is_like_0 vals σ = some (.d (.lst (T.map .int)), σ) := fun vals h =>
    ccomp_of (mcomp_map dT .int (a := .d (.lst (T.map dT))) (by simp [fnM, fEnd, xSeq, xIf, xRet, xExpr, xAsg, xNil, xBrk, aVar, aAttr, mSetAttr, putF, cTr, cAttr, cVar, M.bind, M.opt, M.ret, getA, boolOf, cLst, cTup, cCons, cNil, cD, mkLst, mkTup, allD, room, cCmpB, cmpA, cB, cAndB, cOrB, cNotB, cAnd, cOr, cIte, cNeg, res, ress, content, AD.dep, deps_nil, AD.beq, AD.beqs, cLM, isLoc, mPop, mAppend, mExtend, cCall, cMeth, isObj, cIdx, idxA, itemAt, cBin, binA, one, two, fLen, lenA, fInt, fMax, fMin, fList, fListM, cLstM, mAlloc, aTup, seqA, asCons, asNil, xSwap, asRev, cTo, toA, cFrom, fromA, aSub, mSetItem, fRange, xCompA, xCompM, intOf, int2, addL, mulL, intA, isN, eqL, inL, h]) rfl (by omega) fun x _ => by simp [fnM, fEnd, xSeq, xIf, xRet, xExpr, xAsg, xNil, xBrk, aVar, aAttr, mSetAttr, putF, cTr, cAttr, cVar, M.bind, M.opt, M.ret, getA, boolOf, cLst, cTup, cCons, cNil, cD, mkLst, mkTup, allD, room, cCmpB, cmpA, cB, cAndB, cOrB, cNotB, cAnd, cOr, cIte, cNeg, res, ress, content, AD.dep, deps_nil, AD.beq, AD.beqs, cLM, isLoc, mPop, mAppend, mExtend, cCall, cMeth, isObj, cIdx, idxA, itemAt, cBin, binA, one, two, fLen, lenA, fInt, fMax, fMin, fList, fListM, cLstM, mAlloc, aTup, seqA, asCons, asNil, xSwap, asRev, cTo, toA, cFrom, fromA, aSub, mSetItem, fRange, xCompA, xCompM, intOf, int2, addL, mulL, intA, isN, eqL, inL, dT])
  have q1 : ∀ vals : Vals, vals[4]? = some (some (.d (.lst ((D.drop rm).map dS)))) → q__law_is_like_1 vals σ = some (.d (.lst ((D.drop rm).map fun d => .tup [.int d.1, valT d])), σ) := fun vals h =>
    ccomp_of (mcomp_map dS (fun d => .tup [.int d.1, valT d]) (a := .d (.lst ((D.drop rm).map dS))) (by simp [fnM, fEnd, xSeq, xIf, xRet, xExpr, xAsg, xNil, xBrk, aVar, aAttr, mSetAttr, putF, cTr, cAttr, cVar, M.bind, M.opt, M.ret, getA, boolOf, cLst, cTup, cCons, cNil, cD, mkLst, mkTup, allD, room, cCmpB, cmpA, cB, cAndB, cOrB, cNotB, cAnd, cOr, cIte, cNeg, res, ress, content, AD.dep, deps_nil, AD.beq, AD.beqs, cLM, isLoc, mPop, mAppend, mExtend, cCall, cMeth, isObj, cIdx, idxA, itemAt, cBin, binA, one, two, fLen, lenA, fInt, fMax, fMin, fList, fListM, cLstM, mAlloc, aTup, seqA, asCons, asNil, xSwap, asRev, cTo, toA, cFrom, fromA, aSub, mSetItem, fRange, xCompA, xCompM, intOf, int2, addL, mulL, intA, isN, eqL, inL, h]) rfl (by simp; omega) fun x _ => by simp [fnM, fEnd, xSeq, xIf, xRet, xExpr, xAsg, xNil, xBrk, aVar, aAttr, mSetAttr, putF, cTr, cAttr, cVar, M.bind, M.opt, M.ret, getA, boolOf, cLst, cTup, cCons, cNil, cD, mkLst, mkTup, allD, room, cCmpB, cmpA, cB, cAndB, cOrB, cNotB, cAnd, cOr, cIte, cNeg, res, ress, content, AD.dep, deps_nil, AD.beq, AD.beqs, cLM, isLoc, mPop, mAppend, mExtend, cCall, cMeth, isObj, cIdx, idxA, itemAt, cBin, binA, one, two, fLen, lenA, fInt, fMax, fMin, fList, fListM, cLstM, mAlloc, aTup, seqA, asCons, asNil, xSwap, asRev, cTo, toA, cFrom, fromA, aSub, mSetItem, fRange, xCompA, xCompM, intOf, int2, addL, mulL, intA, isN, eqL, inL, dS])
  have q2 : ∀ vals : Vals, vals[0]? = some (some (.obj l)) → q__law_is_like_2 vals σ = some (.d (.lst (T.map .int)), σ) := fun vals h =>
    ccomp_of (mcomp_map rcvT .int (a := .loc r) (by simp [fnM, fEnd, xSeq, xIf, xRet, xExpr, xAsg, xNil, xBrk, aVar, aAttr, mSetAttr, putF, cTr, cAttr, cVar, M.bind, M.opt, M.ret, getA, boolOf, cLst, cTup, cCons, cNil, cD, mkLst, mkTup, allD, room, cCmpB, cmpA, cB, cAndB, cOrB, cNotB, cAnd, cOr, cIte, cNeg, res, ress, content, AD.dep, deps_nil, AD.beq, AD.beqs, cLM, isLoc, mPop, mAppend, mExtend, cCall, cMeth, isObj, cIdx, idxA, itemAt, cBin, binA, one, two, fLen, lenA, fInt, fMax, fMin, fList, fListM, cLstM, mAlloc, aTup, seqA, asCons, asNil, xSwap, asRev, cTo, toA, cFrom, fromA, aSub, mSetItem, fRange, xCompA, xCompM, intOf, int2, addL, mulL, intA, isN, eqL, inL, h, o0]) (by simp [content, o3]) (by omega) fun x _ => by simp [fnM, fEnd, xSeq, xIf, xRet, xExpr, xAsg, xNil, xBrk, aVar, aAttr, mSetAttr, putF, cTr, cAttr, cVar, M.bind, M.opt, M.ret, getA, boolOf, cLst, cTup, cCons, cNil, cD, mkLst, mkTup, allD, room, cCmpB, cmpA, cB, cAndB, cOrB, cNotB, cAnd, cOr, cIte, cNeg, res, ress, content, AD.dep, deps_nil, AD.beq, AD.beqs, cLM, isLoc, mPop, mAppend, mExtend, cCall, cMeth, isObj, cIdx, idxA, itemAt, cBin, binA, one, two, fLen, lenA, fInt, fMax, fMin, fList, fListM, cLstM, mAlloc, aTup, seqA, asCons, asNil, xSwap, asRev, cTo, toA, cFrom, fromA, aSub, mSetItem, fRange, xCompA, xCompM, intOf, int2, addL, mulL, intA, isN, eqL, inL, rcvT])
  have q3 : ∀ vals : Vals, vals[0]? = some (some (.obj l)) → q__law_is_like_3 vals σ = some (.d (.lst ((D.drop rm).map fun d => .tup [.int d.1, valT d])), σ) := fun vals h =>
    ccomp_of (mcomp_map sndT (fun d => .tup [.int d.1, valT d]) (a := .loc s) (by simp [fnM, fEnd, xSeq, xIf, xRet, xExpr, xAsg, xNil, xBrk, aVar, aAttr, mSetAttr, putF, cTr, cAttr, cVar, M.bind, M.opt, M.ret, getA, boolOf, cLst, cTup, cCons, cNil, cD, mkLst, mkTup, allD, room, cCmpB, cmpA, cB, cAndB, cOrB, cNotB, cAnd, cOr, cIte, cNeg, res, ress, content, AD.dep, deps_nil, AD.beq, AD.beqs, cLM, isLoc, mPop, mAppend, mExtend, cCall, cMeth, isObj, cIdx, idxA, itemAt, cBin, binA, one, two, fLen, lenA, fInt, fMax, fMin, fList, fListM, cLstM, mAlloc, aTup, seqA, asCons, asNil, xSwap, asRev, cTo, toA, cFrom, fromA, aSub, mSetItem, fRange, xCompA, xCompM, intOf, int2, addL, mulL, intA, isN, eqL, inL, h, o0]) (by simp [content, o2]) (by simp; omega) fun x _ => by simp [fnM, fEnd, xSeq, xIf, xRet, xExpr, xAsg, xNil, xBrk, aVar, aAttr, mSetAttr, putF, cTr, cAttr, cVar, M.bind, M.opt, M.ret, getA, boolOf, cLst, cTup, cCons, cNil, cD, mkLst, mkTup, allD, room, cCmpB, cmpA, cB, cAndB, cOrB, cNotB, cAnd, cOr, cIte, cNeg, res, ress, content, AD.dep, deps_nil, AD.beq, AD.beqs, cLM, isLoc, mPop, mAppend, mExtend, cCall, cMeth, isObj, cIdx, idxA, itemAt, cBin, binA, one, two, fLen, lenA, fInt, fMax, fMin, fList, fListM, cLstM, mAlloc, aTup, seqA, asCons, asNil, xSwap, asRev, cTo, toA, cFrom, fromA, aSub, mSetItem, fRange, xCompA, xCompM, intOf, int2, addL, mulL, intA, isN, eqL, inL, sndT])
  have d3 : AD.deps (T.map AD.int) ≤ 59 := Nat.le_trans (deps_map (k := 0) AD.int (fun _ => Nat.le_refl _) _) (by omega)
  have d4 : AD.deps ((D.drop rm).map fun d => AD.tup [.int d.1, valT d]) ≤ 59 := Nat.le_trans (deps_any fun d => (by decide : (2 : Nat) ≤ 3)) (by omega)
  have n1 : ((D.take rm).map valT).length ≤ 1048576 := by simp; omega
  have n2 : (D.drop rm).length ≤ 1000 := by simp; omega
  have b1 := AD.beqs_self ((D.take rm).map valT)
  have b2 := AD.beqs_self (T.map .int)
  have b3 := AD.beqs_self ((D.drop rm).map fun d => AD.tup [.int d.1, valT d])
  have d5 : AD.deps ((D.take rm).map valT) ≤ 59 := by omega
  generalize (D.take rm).map valT = K at *
  generalize ((D.drop rm).map fun d => AD.tup [.int d.1, valT d]) = L at *
  generalize (T.map AD.int) = R at *
  simp [F__law_is_like, f__law_is_like, fnM, fEnd, xSeq, xIf, xRet, xExpr, xAsg, xNil, xBrk, aVar, aAttr, mSetAttr, putF, cTr, cAttr, cVar, M.bind, M.opt, M.ret, getA, boolOf, cLst, cTup, cCons, cNil, cD, mkLst, mkTup, allD, room, cCmpB, cmpA, cB, cAndB, cOrB, cNotB, cAnd, cOr, cIte, cNeg, res, ress, content, AD.dep, deps_nil, AD.beq, AD.beqs, cLM, isLoc, mPop, mAppend, mExtend, cCall, cMeth, isObj, cIdx, idxA, itemAt, cBin, binA, one, two, fLen, lenA, fInt, fMax, fMin, fList, fListM, cLstM, mAlloc, aTup, seqA, asCons, asNil, xSwap, asRev, cTo, toA, cFrom, fromA, aSub, mSetItem, fRange, xCompA, xCompM, intOf, int2, addL, mulL, intA, isN, eqL, inL, e2, e3, q0, q1, q2, q3, o0, o1, d3, d4, d5, n1, b1, b2, b3]
end L01
end Mine
end
section
set_option Elab.async false
set_option maxRecDepth 100000
set_option linter.unusedSimpArgs false
set_option linter.unusedVariables false
namespace Mine
open PySem PyProof.Rows
namespace L01
structure V1 where
  rm : Nat
  D : List (Int × Int)
  T : List Int
  O : List (Int × Int)
noncomputable def V1.ch (v : V1) : Ch := ⟨v.rm, (v.D.take v.rm).map valT, (v.D.drop v.rm).map sndT, v.T.map rcvT, false⟩
structure At (σ : Store) (n : Nat) (v : V1) (m : Nat) : Prop where
  src : Src σ n
  ch : ChAt σ (n + 1) (n + 2) (n + 3) (n + 4) v.ch
  dd : σ[n + 5]? = some (.list (deeds v.D v.T))
  giv : σ[n + 6]? = some (.list ((v.O ++ v.D).map valT))
  one : v.T ≠ [] → v.D = []
  nD : v.O.length + v.D.length ≤ m
  nT : v.T.length ≤ m
theorem At.fit {σ : Store} {n m : Nat} {v : V1} (h : At σ n v m) (hm : m ≤ 90) : v.ch.Fit := by
  have := h.nD
  have := h.nT
  exact ⟨by simp [V1.ch]; omega, by simp [V1.ch]; omega, by simp [V1.ch]; omega, deps_any dep_val, deps_any dep_sndT, Nat.le_trans (deps_map (k := 1) rcvT (fun _ => Nat.le_refl _) _) (by omega)⟩
noncomputable def isGot : Rw → Bool
  | .got _ => true
  | _ => false
noncomputable def isRecv : Rw → Bool
  | .recv _ _ _ _ => true
  | _ => false
noncomputable def valOf : Rw → AD
  | .got x => x
  | .recv _ _ _ x => x
  | _ => .none
/-- what a deed that tells `rs` has done -/
structure Did (rs : List Rw) (v v' : V1) : Prop where
  rm : v'.rm = v.rm
  len : rs.length ≤ 2
  dep : AD.deps (rs.map Rw.ad) ≤ 50
  out : v'.O.map valT = (v.O.map valT ++ (rs.filter isGot).map valOf) ++ (rs.filter isRecv).map valOf
theorem send_all {σ : Store} {n m : Nat} {v : V1} (h : At σ n v m) (hm : m ≤ 50) (d : Int × Int) :
    ∃ rs τ1 τ2 v', F_offer [.obj (n + 1), .d (.tup [.int d.1, valT d, .none, .none])] (σ.set (n + 6) (.list ((v.O ++ v.D).map valT ++ [valT d]))) = some (.d (.lst (rs.map Rw.ad)), τ1) ∧
      F__law_sent [.loc (n + 5), .d (.int v.rm), .d (.int d.1), .d (valT d)] τ1 = some (.d (.lst (rs.map Rw.ad)), τ2) ∧ At τ2 n v' (m + 1) ∧ Did rs v v' := by
  have f := h.fit (by omega)
  have hG : n + 6 < σ.length := (List.getElem?_eq_some_iff.mp h.giv).1
  obtain ⟨τ, hτ⟩ : ∃ τ, τ = σ.set (n + 6) (.list ((v.O ++ v.D).map valT ++ [valT d])) := ⟨_, rfl⟩
  rw [← hτ]
  have oth : ∀ i, i < n + 6 → τ[i]? = σ[i]? := fun i hi => by rw [hτ, List.getElem?_set_ne (by omega)]
  have ch : ChAt τ (n + 1) (n + 2) (n + 3) (n + 4) v.ch := h.ch.other (oth _ (by omega)) (oth _ (by omega)) (oth _ (by omega)) (oth _ (by omega))
  have dd : τ[n + 5]? = some (.list (deeds v.D v.T)) := (oth _ (by omega)).trans h.dd
  have giv : τ[n + 6]? = some (.list ((v.O ++ v.D).map valT ++ [valT d])) := by rw [hτ, List.getElem?_set_self hG]
  have src : Src τ n := src_other h.src (oth _ (by omega))
  have hl5 : n + 5 < τ.length := (List.getElem?_eq_some_iff.mp dd).1
  have nD := h.nD
  have nT := h.nT
  cases hT : v.T with
  | cons w T =>
    have hD := h.one (by rw [hT]; simp)
    have E := offer_rcv (w0 := .int d.1) (w1 := valT d) (w2 := .none) (w3 := .none) ch f rfl (show v.ch.rcv = .tup [.int w, .none, .none, .none] :: T.map rcvT by simp [V1.ch, hT, rcvT])
    rw [hT, hD] at dd
    rw [hT] at nT
    simp only [List.length_cons] at nT
    have E2 := sent_take (rm := v.rm) (who := .int d.1) (val := valT d) (σ := τ.set (n + 4) (.list (T.map rcvT))) (q := n + 5) (w := w) (T := T) (by rw [List.getElem?_set_ne (by omega)]; exact dd) (by omega)
    refine ⟨[.done, .recv (.int w) .none .none (valT d)], _, _, { v with T := T, O := v.O ++ [d] }, E, E2, ⟨src_other src (by rw [List.getElem?_set_ne (by omega), List.getElem?_set_ne (by omega)]), ?_, ?_, ?_, fun _ => hD, ?_, ?_⟩, ⟨rfl, by simp, by simp [Rw.ad, AD.deps, AD.dep, valT], by simp [isGot, isRecv, valOf, List.filter_cons]⟩⟩
    · refine (ch.setr (T.map rcvT)).other ?_ ?_ ?_ ?_ <;> rw [List.getElem?_set_ne (by omega)]
    · rw [List.getElem?_set_self (by rw [List.length_set]; exact hl5), hD]
    · rw [List.getElem?_set_ne (by omega), List.getElem?_set_ne (by omega), giv, hD]; simp
    · rw [hD] at nD ⊢; simp at nD ⊢; omega
    · show T.length ≤ m + 1; omega
  | nil =>
    have hr : v.ch.rcv = [] := by simp [V1.ch, hT]
    rw [hT] at dd
    by_cases c : v.D.length < v.rm
    · have hb : v.D.take v.rm = v.D := List.take_of_length_le (by omega)
      have hs : v.D.drop v.rm = [] := List.drop_of_length_le (by omega)
      have E := offer_buf (w0 := .int d.1) (w1 := valT d) (w2 := .none) (w3 := .none) ch f rfl hr (by simp [V1.ch]; omega)
      have E2 := sent_send (rm := v.rm) (d := d) (D := v.D) (σ := τ.set (n + 2) (.list (v.ch.buf ++ [valT d]))) (q := n + 5) (by rw [List.getElem?_set_ne (by omega)]; exact dd) (by omega)
      rw [if_pos c] at E2
      refine ⟨[.done], _, _, { v with D := v.D ++ [d], T := [] }, E, E2, ⟨src_other src (by rw [List.getElem?_set_ne (by omega), List.getElem?_set_ne (by omega)]), ?_, ?_, ?_, fun q => absurd rfl q, ?_, by simp⟩, ⟨rfl, by simp, by simp [Rw.ad, AD.deps, AD.dep], by simp [isGot, isRecv, List.filter_cons]⟩⟩
      · have := (ch.setb (v.ch.buf ++ [valT d])).other (σ' := (τ.set (n + 2) (.list (v.ch.buf ++ [valT d]))).set (n + 5) (.list (deeds (v.D ++ [d]) []))) (by rw [List.getElem?_set_ne (by omega)]) (by rw [List.getElem?_set_ne (by omega)]) (by rw [List.getElem?_set_ne (by omega)]) (by rw [List.getElem?_set_ne (by omega)])
        have e1 : (v.D ++ [d]).take v.rm = v.D ++ [d] := List.take_of_length_le (by simp; omega)
        have e2 : (v.D ++ [d]).drop v.rm = [] := List.drop_of_length_le (by simp; omega)
        simpa [V1.ch, e1, e2, hb, hs, hT] using this
      · rw [List.getElem?_set_self (by rw [List.length_set]; exact hl5)]
      · rw [List.getElem?_set_ne (by omega), List.getElem?_set_ne (by omega), giv]; simp
      · simp; omega
    · have E := offer_snd (w := .tup [.int d.1, valT d, .none, .none]) ch f rfl hr (by simp [V1.ch]; omega)
      have E2 := sent_send (rm := v.rm) (d := d) (D := v.D) (σ := τ.set (n + 3) (.list (v.ch.snd ++ [.tup [.int d.1, valT d, .none, .none]]))) (q := n + 5) (by rw [List.getElem?_set_ne (by omega)]; exact dd) (by omega)
      rw [if_neg c] at E2
      refine ⟨[.blocked], _, _, { v with D := v.D ++ [d], T := [] }, E, E2, ⟨src_other src (by rw [List.getElem?_set_ne (by omega), List.getElem?_set_ne (by omega)]), ?_, ?_, ?_, fun q => absurd rfl q, ?_, by simp⟩, ⟨rfl, by simp, by simp [Rw.ad, AD.deps, AD.dep], by simp [isGot, isRecv, List.filter_cons]⟩⟩
      · have := (ch.sets (v.ch.snd ++ [.tup [.int d.1, valT d, .none, .none]])).other (σ' := (τ.set (n + 3) (.list (v.ch.snd ++ [.tup [.int d.1, valT d, .none, .none]]))).set (n + 5) (.list (deeds (v.D ++ [d]) []))) (by rw [List.getElem?_set_ne (by omega)]) (by rw [List.getElem?_set_ne (by omega)]) (by rw [List.getElem?_set_ne (by omega)]) (by rw [List.getElem?_set_ne (by omega)])
        have e1 : (v.D ++ [d]).take v.rm = v.D.take v.rm := List.take_append_of_le_length (by omega)
        have e2 : (v.D ++ [d]).drop v.rm = v.D.drop v.rm ++ [d] := List.drop_append_of_le_length (by omega)
        simpa [V1.ch, e1, e2, hT, sndT] using this
      · rw [List.getElem?_set_self (by rw [List.length_set]; exact hl5)]
      · rw [List.getElem?_set_ne (by omega), List.getElem?_set_ne (by omega), giv]; simp
      · simp; omega
theorem take_all {σ : Store} {n m : Nat} {v : V1} (h : At σ n v m) (hm : m ≤ 50) (who : Int) :
    ∃ rs τ1 τ2 v', F_take [.obj (n + 1), .d (.tup [.int who, .none, .none, .none])] σ = some (.d (.lst (rs.map Rw.ad)), τ1) ∧
      F__law_taken [.loc (n + 5), .d (.int v.rm), .d (.int who)] τ1 = some (.d (.lst (rs.map Rw.ad)), τ2) ∧ At τ2 n v' (m + 1) ∧ Did rs v v' := by
  have f := h.fit (by omega)
  have ch := h.ch
  have dd := h.dd
  have giv := h.giv
  have hl5 : n + 5 < σ.length := (List.getElem?_eq_some_iff.mp dd).1
  have nD := h.nD
  have nT := h.nT
  cases hD : v.D with
  | nil =>
    have E := take_rcv (w := .tup [.int who, .none, .none, .none]) ch f (by simp [V1.ch, hD]) (by simp [V1.ch, hD]) rfl
    rw [hD] at dd
    have E2 := taken_wait (rm := v.rm) (who := who) (T := v.T) (σ := σ.set (n + 4) (.list (v.ch.rcv ++ [.tup [.int who, .none, .none, .none]]))) (q := n + 5) (by rw [List.getElem?_set_ne (by omega)]; exact dd) (by omega)
    refine ⟨[.blocked], _, _, { v with T := v.T ++ [who], D := [] }, E, E2, ⟨src_other h.src (by rw [List.getElem?_set_ne (by omega), List.getElem?_set_ne (by omega)]), ?_, ?_, ?_, fun _ => rfl, by simp; omega, by simp; omega⟩, ⟨rfl, by simp, by simp [Rw.ad, AD.deps, AD.dep], by simp [isGot, isRecv, List.filter_cons]⟩⟩
    · have := (ch.setr (v.ch.rcv ++ [.tup [.int who, .none, .none, .none]])).other (σ' := (σ.set (n + 4) (.list (v.ch.rcv ++ [.tup [.int who, .none, .none, .none]]))).set (n + 5) (.list (deeds [] (v.T ++ [who])))) (by rw [List.getElem?_set_ne (by omega)]) (by rw [List.getElem?_set_ne (by omega)]) (by rw [List.getElem?_set_ne (by omega)]) (by rw [List.getElem?_set_ne (by omega)])
      simpa [V1.ch, hD, rcvT] using this
    · rw [List.getElem?_set_self (by rw [List.length_set]; exact hl5)]
    · rw [List.getElem?_set_ne (by omega), List.getElem?_set_ne (by omega), giv, hD]
  | cons d D =>
    have hT : v.T = [] := by
      cases q : v.T with
      | nil => rfl
      | cons w T => have := h.one (by rw [q]; simp); rw [hD] at this; cases this
    rw [hD] at nD
    simp only [List.length_cons] at nD
    rw [hD, hT] at dd
    have giv' : σ[n + 6]? = some (.list (((v.O ++ [d]) ++ D).map valT)) := by rw [giv, hD]; simp
    have fin : ∀ (τ1 : Store) (c' : Ch) (ss : List Rw), ss.length ≤ 1 → AD.deps (ss.map Rw.ad) ≤ 40 → (ss.filter isGot) = [] → (ss.filter isRecv) = [] →
        F_take [.obj (n + 1), .d (.tup [.int who, .none, .none, .none])] σ = some (.d (.lst (((.got (valT d) :: ss) : List Rw).map Rw.ad)), τ1) → (ss.map Rw.ad = (((d :: D).drop v.rm).take 1).map fun d => .tup [.str 2, .int d.1, .none, .none, .tup [.str 4]]) →
        τ1[n]? = σ[n]? → τ1[n + 5]? = σ[n + 5]? → τ1[n + 6]? = σ[n + 6]? → ChAt τ1 (n + 1) (n + 2) (n + 3) (n + 4) c' → c' = ⟨v.rm, (D.take v.rm).map valT, (D.drop v.rm).map sndT, [], false⟩ →
        ∃ rs τ1 τ2 v', F_take [.obj (n + 1), .d (.tup [.int who, .none, .none, .none])] σ = some (.d (.lst (rs.map Rw.ad)), τ1) ∧
          F__law_taken [.loc (n + 5), .d (.int v.rm), .d (.int who)] τ1 = some (.d (.lst (rs.map Rw.ad)), τ2) ∧ At τ2 n v' (m + 1) ∧ Did rs v v' := fun τ1 c' ss hss hdep hg hr E hrow t0 t5 t6 hch hc' => by
      subst hc'
      have E2 := taken_got (rm := v.rm) (who := who) (d := d) (D := D) (σ := τ1) (q := n + 5) (t5.trans dd) (by omega)
      rw [← hrow] at E2
      have hl : n + 5 < τ1.length := (List.getElem?_eq_some_iff.mp (t5.trans dd)).1
      refine ⟨.got (valT d) :: ss, τ1, _, { v with D := D, O := v.O ++ [d], T := [] }, E, E2, ⟨src_other h.src (by rw [List.getElem?_set_ne (by omega)]; exact t0), ?_, ?_, ?_, fun q => absurd rfl q, by simp; omega, by simp⟩, ⟨rfl, by simp; omega, ?_, ?_⟩⟩
      · refine hch.other ?_ ?_ ?_ ?_ <;> rw [List.getElem?_set_ne (by omega)]
      · rw [List.getElem?_set_self hl]
      · rw [List.getElem?_set_ne (by omega), t6]; exact giv'
      · rw [List.map_cons, AD.deps]
        refine Nat.max_le.mpr ⟨?_, by omega⟩
        simp [Rw.ad, AD.dep, AD.deps, valT]
      · rw [List.filter_cons_of_pos (by rfl), List.filter_cons_of_neg (by simp [isRecv]), hg, hr]; simp [valOf]
    rcases (show v.rm = 0 ∨ ∃ k, v.rm = k + 1 by cases q : v.rm with | zero => exact .inl rfl | succ k => exact .inr ⟨k, rfl⟩) with hrm | ⟨k, hrm⟩
    ·
      have E := take_snd (w := .tup [.int who, .none, .none, .none]) ch f (by simp [V1.ch, hrm]) (show v.ch.snd = .tup [.int d.1, valT d, .none, .none] :: D.map sndT by simp [V1.ch, hrm, hD, sndT])
      refine fin _ _ [.sent (.int d.1) .none .none] (by simp) (by simp [Rw.ad, AD.deps, AD.dep]) rfl rfl E (by simp [hrm, Rw.ad]) (by rw [List.getElem?_set_ne (by omega)]) (by rw [List.getElem?_set_ne (by omega)]) (by rw [List.getElem?_set_ne (by omega)]) (ch.sets _) (by simp [V1.ch, hrm, hT])
    ·
      have hb : v.ch.buf = valT d :: (D.take k).map valT := by simp [V1.ch, hrm, hD]
      cases hk : D.drop k with
      | nil =>
        have E := take_buf0 (w := .tup [.int who, .none, .none, .none]) ch f hb (by simp [V1.ch, hrm, hD, hk])
        have hle : D.length ≤ k := List.drop_eq_nil_iff.mp hk
        refine fin _ _ [] (by simp) (by simp [AD.deps]) rfl rfl E (by simp [hrm, hk]) (by rw [List.getElem?_set_ne (by omega)]) (by rw [List.getElem?_set_ne (by omega)]) (by rw [List.getElem?_set_ne (by omega)]) (ch.setb _) ?_
        rw [List.take_of_length_le hle, hrm, List.take_of_length_le (by omega), List.drop_of_length_le (by omega)]
        simp [V1.ch, hrm, hT, hD, hk]
      | cons e L =>
        have E := take_buf1 (w := .tup [.int who, .none, .none, .none]) ch f hb (show v.ch.snd = .tup [.int e.1, valT e, .none, .none] :: L.map sndT by simp [V1.ch, hrm, hD, hk, sndT])
        have he : D[k]? = some e := by
          have := congrArg (·[0]?) hk
          simpa using this
        have h1 : D.take (k + 1) = D.take k ++ [e] := by rw [List.take_add_one, he]; rfl
        have h2 : D.drop (k + 1) = L := by
          have := congrArg (List.drop 1) hk
          simpa [List.drop_drop, Nat.add_comm] using this
        refine fin _ _ [.sent (.int e.1) .none .none] (by simp) (by simp [Rw.ad, AD.deps, AD.dep]) rfl rfl E (by simp [hrm, hk, Rw.ad]) ?_ ?_ ?_ (((ch.setb _).sets _).setb _) ?_
        · rw [List.getElem?_set_ne (by omega), List.getElem?_set_ne (by omega), List.getElem?_set_ne (by omega)]
        · rw [List.getElem?_set_ne (by omega), List.getElem?_set_ne (by omega), List.getElem?_set_ne (by omega)]
        · rw [List.getElem?_set_ne (by omega), List.getElem?_set_ne (by omega), List.getElem?_set_ne (by omega)]
        · rw [hrm, h1, h2]
          simp [V1.ch, hrm, hT]
end L01
end Mine
end
section
set_option Elab.async false
set_option maxRecDepth 100000
set_option linter.unusedSimpArgs false
set_option linter.unusedVariables false
namespace Mine
open PySem PyProof.Rows
theorem xseq_brk {f g : XM} {vals vals1 : Vals} {σ σ1 : Store} (h : f vals σ = some ((.brk, vals1), σ1)) : xSeq f g vals σ = some ((.brk, vals1), σ1) := by
  unfold xSeq M.bind
  rw [h]; rfl
namespace L01
noncomputable def isWok : Rw → Bool
  | .recv _ _ _ _ => true
  | .sent _ _ _ => true
  | _ => false
noncomputable def nameOf : Rw → AD
  | .recv w _ _ _ => w
  | .sent w _ _ => w
  | _ => .none
theorem free_eq {σ : Store} {vals : Vals} (H : List Int) (h : vals[6]? = some (some (.d (.lst (H.map .int))))) : ∃ fr : List Int, q_law_4 vals σ = some (fr.map .int, σ) ∧ fr.length ≤ 6 := by
  have e := mcomp_run (fun j : Nat => AD.int j) (σ := σ) (σ1 := σ) (vals := vals) (f := cCall (one fRange) (cCons (cD (.int 6)) cNil)) (a := .rng 6) (xs := List.range 6) (t := cCmpB .NotIn (cVar 0) (cVar 1)) (fe := cVar 0) (p := fun j => !(H.map AD.int).any fun y => y.beq (.int j)) (e := fun j => .int j) (cp := [6]) (tn := true)
    (by simp [fnM, fEnd, xSeq, xIf, xRet, xExpr, xAsg, xNil, xBrk, aVar, aAttr, mSetAttr, putF, cTr, cAttr, cVar, M.bind, M.opt, M.ret, getA, boolOf, cLst, cTup, cCons, cNil, cD, mkLst, mkTup, allD, room, cCmpB, cmpA, cB, cAndB, cOrB, cNotB, cAnd, cOr, cIte, cNeg, res, ress, content, AD.dep, deps_nil, AD.beq, AD.beqs, cLM, isLoc, mPop, mAppend, mExtend, cCall, cMeth, isObj, cIdx, idxA, itemAt, cBin, binA, one, two, fLen, lenA, fInt, fMax, fMin, fList, fListM, cLstM, mAlloc, aTup, seqA, asCons, asNil, xSwap, asRev, cTo, toA, cFrom, fromA, aSub, mSetItem, fRange, xCompA, xCompM, intOf, int2, addL, mulL, intA, isN, eqL, inL]) (by simp [srcOk, M.opt]) (fun i => by rw [show (6 : Int) = ((6 : Nat) : Int) from rfl, next_rng, List.getElem?_map, Option.map_map]; rfl) (by simp) (fun x _ => by simp [fnM, fEnd, xSeq, xIf, xRet, xExpr, xAsg, xNil, xBrk, aVar, aAttr, mSetAttr, putF, cTr, cAttr, cVar, M.bind, M.opt, M.ret, getA, boolOf, cLst, cTup, cCons, cNil, cD, mkLst, mkTup, allD, room, cCmpB, cmpA, cB, cAndB, cOrB, cNotB, cAnd, cOr, cIte, cNeg, res, ress, content, AD.dep, deps_nil, AD.beq, AD.beqs, cLM, isLoc, mPop, mAppend, mExtend, cCall, cMeth, isObj, cIdx, idxA, itemAt, cBin, binA, one, two, fLen, lenA, fInt, fMax, fMin, fList, fListM, cLstM, mAlloc, aTup, seqA, asCons, asNil, xSwap, asRev, cTo, toA, cFrom, fromA, aSub, mSetItem, fRange, xCompA, xCompM, intOf, int2, addL, mulL, intA, isN, eqL, inL, h]) (fun x _ _ => by simp [fnM, fEnd, xSeq, xIf, xRet, xExpr, xAsg, xNil, xBrk, aVar, aAttr, mSetAttr, putF, cTr, cAttr, cVar, M.bind, M.opt, M.ret, getA, boolOf, cLst, cTup, cCons, cNil, cD, mkLst, mkTup, allD, room, cCmpB, cmpA, cB, cAndB, cOrB, cNotB, cAnd, cOr, cIte, cNeg, res, ress, content, AD.dep, deps_nil, AD.beq, AD.beqs, cLM, isLoc, mPop, mAppend, mExtend, cCall, cMeth, isObj, cIdx, idxA, itemAt, cBin, binA, one, two, fLen, lenA, fInt, fMax, fMin, fList, fListM, cLstM, mAlloc, aTup, seqA, asCons, asNil, xSwap, asRev, cTo, toA, cFrom, fromA, aSub, mSetItem, fRange, xCompA, xCompM, intOf, int2, addL, mulL, intA, isN, eqL, inL])
  refine ⟨((List.range 6).filter fun j : Nat => !(H.map AD.int).any fun y => y.beq (.int j)).map Int.ofNat, ?_, ?_⟩
  · rw [List.map_map]; exact e
  · rw [List.length_map]; exact Nat.le_trans (List.length_filter_le _ _) (by simp)
theorem wok_eq {σ : Store} {vals : Vals} (rs : List Rw) (h : vals[1]? = some (some (.d (.lst (rs.map Rw.ad))))) (hl : rs.length ≤ 10) : q_law_2 vals σ = some (.d (.lst ((rs.filter isWok).map nameOf)), σ) := by
  refine ccomp_of (mcomp_lst Rw.ad isWok nameOf (a := .d (.lst (rs.map Rw.ad))) (by simp [fnM, fEnd, xSeq, xIf, xRet, xExpr, xAsg, xNil, xBrk, aVar, aAttr, mSetAttr, putF, cTr, cAttr, cVar, M.bind, M.opt, M.ret, getA, boolOf, cLst, cTup, cCons, cNil, cD, mkLst, mkTup, allD, room, cCmpB, cmpA, cB, cAndB, cOrB, cNotB, cAnd, cOr, cIte, cNeg, res, ress, content, AD.dep, deps_nil, AD.beq, AD.beqs, cLM, isLoc, mPop, mAppend, mExtend, cCall, cMeth, isObj, cIdx, idxA, itemAt, cBin, binA, one, two, fLen, lenA, fInt, fMax, fMin, fList, fListM, cLstM, mAlloc, aTup, seqA, asCons, asNil, xSwap, asRev, cTo, toA, cFrom, fromA, aSub, mSetItem, fRange, xCompA, xCompM, intOf, int2, addL, mulL, intA, isN, eqL, inL, h]) rfl (by omega) (fun x _ => ?_) fun x _ hx => ?_)
  · cases x <;> simp [fnM, fEnd, xSeq, xIf, xRet, xExpr, xAsg, xNil, xBrk, aVar, aAttr, mSetAttr, putF, cTr, cAttr, cVar, M.bind, M.opt, M.ret, getA, boolOf, cLst, cTup, cCons, cNil, cD, mkLst, mkTup, allD, room, cCmpB, cmpA, cB, cAndB, cOrB, cNotB, cAnd, cOr, cIte, cNeg, res, ress, content, AD.dep, deps_nil, AD.beq, AD.beqs, cLM, isLoc, mPop, mAppend, mExtend, cCall, cMeth, isObj, cIdx, idxA, itemAt, cBin, binA, one, two, fLen, lenA, fInt, fMax, fMin, fList, fListM, cLstM, mAlloc, aTup, seqA, asCons, asNil, xSwap, asRev, cTo, toA, cFrom, fromA, aSub, mSetItem, fRange, xCompA, xCompM, intOf, int2, addL, mulL, intA, isN, eqL, inL, Rw.ad, isWok]
  · cases x <;> simp [isWok] at hx <;> simp [fnM, fEnd, xSeq, xIf, xRet, xExpr, xAsg, xNil, xBrk, aVar, aAttr, mSetAttr, putF, cTr, cAttr, cVar, M.bind, M.opt, M.ret, getA, boolOf, cLst, cTup, cCons, cNil, cD, mkLst, mkTup, allD, room, cCmpB, cmpA, cB, cAndB, cOrB, cNotB, cAnd, cOr, cIte, cNeg, res, ress, content, AD.dep, deps_nil, AD.beq, AD.beqs, cLM, isLoc, mPop, mAppend, mExtend, cCall, cMeth, isObj, cIdx, idxA, itemAt, cBin, binA, one, two, fLen, lenA, fInt, fMax, fMin, fList, fListM, cLstM, mAlloc, aTup, seqA, asCons, asNil, xSwap, asRev, cTo, toA, cFrom, fromA, aSub, mSetItem, fRange, xCompA, xCompM, intOf, int2, addL, mulL, intA, isN, eqL, inL, Rw.ad, nameOf]
theorem held_eq {σ : Store} {vals : Vals} (H : List Int) (rs : List Rw) (h : vals[6]? = some (some (.d (.lst (H.map .int))))) (h2 : vals[12]? = some (some (.d (.lst (rs.map Rw.ad))))) (hl : rs.length ≤ 10) (hH : H.length ≤ 100) :
    ∃ H' : List Int, q_law_3 vals σ = some (.d (.lst (H'.map .int)), σ) ∧ H'.length ≤ H.length := by
  have C := fun (σ : Store) (vals : Vals) (h : vals[1]? = _) => wok_eq (σ := σ) (vals := vals) rs h hl
  refine ⟨H.filter fun x => !((rs.filter isWok).map nameOf).any fun y => y.beq (.int x), ?_, List.length_filter_le _ _⟩
  exact ccomp_of (mcomp_lst AD.int (fun x => !((rs.filter isWok).map nameOf).any fun y => y.beq (.int x)) AD.int (a := .d (.lst (H.map .int))) (by simp [fnM, fEnd, xSeq, xIf, xRet, xExpr, xAsg, xNil, xBrk, aVar, aAttr, mSetAttr, putF, cTr, cAttr, cVar, M.bind, M.opt, M.ret, getA, boolOf, cLst, cTup, cCons, cNil, cD, mkLst, mkTup, allD, room, cCmpB, cmpA, cB, cAndB, cOrB, cNotB, cAnd, cOr, cIte, cNeg, res, ress, content, AD.dep, deps_nil, AD.beq, AD.beqs, cLM, isLoc, mPop, mAppend, mExtend, cCall, cMeth, isObj, cIdx, idxA, itemAt, cBin, binA, one, two, fLen, lenA, fInt, fMax, fMin, fList, fListM, cLstM, mAlloc, aTup, seqA, asCons, asNil, xSwap, asRev, cTo, toA, cFrom, fromA, aSub, mSetItem, fRange, xCompA, xCompM, intOf, int2, addL, mulL, intA, isN, eqL, inL, h]) rfl (by omega) (fun x _ => by simp [fnM, fEnd, xSeq, xIf, xRet, xExpr, xAsg, xNil, xBrk, aVar, aAttr, mSetAttr, putF, cTr, cAttr, cVar, M.bind, M.opt, M.ret, getA, boolOf, cLst, cTup, cCons, cNil, cD, mkLst, mkTup, allD, room, cCmpB, cmpA, cB, cAndB, cOrB, cNotB, cAnd, cOr, cIte, cNeg, res, ress, content, AD.dep, deps_nil, AD.beq, AD.beqs, cLM, isLoc, mPop, mAppend, mExtend, cCall, cMeth, isObj, cIdx, idxA, itemAt, cBin, binA, one, two, fLen, lenA, fInt, fMax, fMin, fList, fListM, cLstM, mAlloc, aTup, seqA, asCons, asNil, xSwap, asRev, cTo, toA, cFrom, fromA, aSub, mSetItem, fRange, xCompA, xCompM, intOf, int2, addL, mulL, intA, isN, eqL, inL, h2, C]) fun x _ _ => by simp [fnM, fEnd, xSeq, xIf, xRet, xExpr, xAsg, xNil, xBrk, aVar, aAttr, mSetAttr, putF, cTr, cAttr, cVar, M.bind, M.opt, M.ret, getA, boolOf, cLst, cTup, cCons, cNil, cD, mkLst, mkTup, allD, room, cCmpB, cmpA, cB, cAndB, cOrB, cNotB, cAnd, cOr, cIte, cNeg, res, ress, content, AD.dep, deps_nil, AD.beq, AD.beqs, cLM, isLoc, mPop, mAppend, mExtend, cCall, cMeth, isObj, cIdx, idxA, itemAt, cBin, binA, one, two, fLen, lenA, fInt, fMax, fMin, fList, fListM, cLstM, mAlloc, aTup, seqA, asCons, asNil, xSwap, asRev, cTo, toA, cFrom, fromA, aSub, mSetItem, fRange, xCompA, xCompM, intOf, int2, addL, mulL, intA, isN, eqL, inL])
theorem got_eq {σ : Store} {vals : Vals} (rs : List Rw) (h : vals[12]? = some (some (.d (.lst (rs.map Rw.ad))))) (hl : rs.length ≤ 10) : q_law_1 vals σ = some (.d (.lst ((rs.filter isGot).map valOf)), σ) := by
  refine ccomp_of (mcomp_lst Rw.ad isGot valOf (a := .d (.lst (rs.map Rw.ad))) (by simp [fnM, fEnd, xSeq, xIf, xRet, xExpr, xAsg, xNil, xBrk, aVar, aAttr, mSetAttr, putF, cTr, cAttr, cVar, M.bind, M.opt, M.ret, getA, boolOf, cLst, cTup, cCons, cNil, cD, mkLst, mkTup, allD, room, cCmpB, cmpA, cB, cAndB, cOrB, cNotB, cAnd, cOr, cIte, cNeg, res, ress, content, AD.dep, deps_nil, AD.beq, AD.beqs, cLM, isLoc, mPop, mAppend, mExtend, cCall, cMeth, isObj, cIdx, idxA, itemAt, cBin, binA, one, two, fLen, lenA, fInt, fMax, fMin, fList, fListM, cLstM, mAlloc, aTup, seqA, asCons, asNil, xSwap, asRev, cTo, toA, cFrom, fromA, aSub, mSetItem, fRange, xCompA, xCompM, intOf, int2, addL, mulL, intA, isN, eqL, inL, h]) rfl (by omega) (fun x _ => ?_) fun x _ hx => ?_)
  · cases x <;> simp [fnM, fEnd, xSeq, xIf, xRet, xExpr, xAsg, xNil, xBrk, aVar, aAttr, mSetAttr, putF, cTr, cAttr, cVar, M.bind, M.opt, M.ret, getA, boolOf, cLst, cTup, cCons, cNil, cD, mkLst, mkTup, allD, room, cCmpB, cmpA, cB, cAndB, cOrB, cNotB, cAnd, cOr, cIte, cNeg, res, ress, content, AD.dep, deps_nil, AD.beq, AD.beqs, cLM, isLoc, mPop, mAppend, mExtend, cCall, cMeth, isObj, cIdx, idxA, itemAt, cBin, binA, one, two, fLen, lenA, fInt, fMax, fMin, fList, fListM, cLstM, mAlloc, aTup, seqA, asCons, asNil, xSwap, asRev, cTo, toA, cFrom, fromA, aSub, mSetItem, fRange, xCompA, xCompM, intOf, int2, addL, mulL, intA, isN, eqL, inL, Rw.ad, isGot]
  · cases x <;> simp [isGot] at hx
    simp [fnM, fEnd, xSeq, xIf, xRet, xExpr, xAsg, xNil, xBrk, aVar, aAttr, mSetAttr, putF, cTr, cAttr, cVar, M.bind, M.opt, M.ret, getA, boolOf, cLst, cTup, cCons, cNil, cD, mkLst, mkTup, allD, room, cCmpB, cmpA, cB, cAndB, cOrB, cNotB, cAnd, cOr, cIte, cNeg, res, ress, content, AD.dep, deps_nil, AD.beq, AD.beqs, cLM, isLoc, mPop, mAppend, mExtend, cCall, cMeth, isObj, cIdx, idxA, itemAt, cBin, binA, one, two, fLen, lenA, fInt, fMax, fMin, fList, fListM, cLstM, mAlloc, aTup, seqA, asCons, asNil, xSwap, asRev, cTo, toA, cFrom, fromA, aSub, mSetItem, fRange, xCompA, xCompM, intOf, int2, addL, mulL, intA, isN, eqL, inL, Rw.ad, valOf]
theorem recv_eq {σ : Store} {vals : Vals} (rs : List Rw) (h : vals[12]? = some (some (.d (.lst (rs.map Rw.ad))))) (hl : rs.length ≤ 10) : q_law_0 vals σ = some (.d (.lst ((rs.filter isRecv).map valOf)), σ) := by
  refine ccomp_of (mcomp_lst Rw.ad isRecv valOf (a := .d (.lst (rs.map Rw.ad))) (by simp [fnM, fEnd, xSeq, xIf, xRet, xExpr, xAsg, xNil, xBrk, aVar, aAttr, mSetAttr, putF, cTr, cAttr, cVar, M.bind, M.opt, M.ret, getA, boolOf, cLst, cTup, cCons, cNil, cD, mkLst, mkTup, allD, room, cCmpB, cmpA, cB, cAndB, cOrB, cNotB, cAnd, cOr, cIte, cNeg, res, ress, content, AD.dep, deps_nil, AD.beq, AD.beqs, cLM, isLoc, mPop, mAppend, mExtend, cCall, cMeth, isObj, cIdx, idxA, itemAt, cBin, binA, one, two, fLen, lenA, fInt, fMax, fMin, fList, fListM, cLstM, mAlloc, aTup, seqA, asCons, asNil, xSwap, asRev, cTo, toA, cFrom, fromA, aSub, mSetItem, fRange, xCompA, xCompM, intOf, int2, addL, mulL, intA, isN, eqL, inL, h]) rfl (by omega) (fun x _ => ?_) fun x _ hx => ?_)
  · cases x <;> simp [fnM, fEnd, xSeq, xIf, xRet, xExpr, xAsg, xNil, xBrk, aVar, aAttr, mSetAttr, putF, cTr, cAttr, cVar, M.bind, M.opt, M.ret, getA, boolOf, cLst, cTup, cCons, cNil, cD, mkLst, mkTup, allD, room, cCmpB, cmpA, cB, cAndB, cOrB, cNotB, cAnd, cOr, cIte, cNeg, res, ress, content, AD.dep, deps_nil, AD.beq, AD.beqs, cLM, isLoc, mPop, mAppend, mExtend, cCall, cMeth, isObj, cIdx, idxA, itemAt, cBin, binA, one, two, fLen, lenA, fInt, fMax, fMin, fList, fListM, cLstM, mAlloc, aTup, seqA, asCons, asNil, xSwap, asRev, cTo, toA, cFrom, fromA, aSub, mSetItem, fRange, xCompA, xCompM, intOf, int2, addL, mulL, intA, isN, eqL, inL, Rw.ad, isRecv]
  · cases x <;> simp [isRecv] at hx
    simp [fnM, fEnd, xSeq, xIf, xRet, xExpr, xAsg, xNil, xBrk, aVar, aAttr, mSetAttr, putF, cTr, cAttr, cVar, M.bind, M.opt, M.ret, getA, boolOf, cLst, cTup, cCons, cNil, cD, mkLst, mkTup, allD, room, cCmpB, cmpA, cB, cAndB, cOrB, cNotB, cAnd, cOr, cIte, cNeg, res, ress, content, AD.dep, deps_nil, AD.beq, AD.beqs, cLM, isLoc, mPop, mAppend, mExtend, cCall, cMeth, isObj, cIdx, idxA, itemAt, cBin, binA, one, two, fLen, lenA, fInt, fMax, fMin, fList, fListM, cLstM, mAlloc, aTup, seqA, asCons, asNil, xSwap, asRev, cTo, toA, cFrom, fromA, aSub, mSetItem, fRange, xCompA, xCompM, intOf, int2, addL, mulL, intA, isN, eqL, inL, Rw.ad, valOf]
noncomputable def lv (sc : Option AV) (n rm : Nat) (tn : Option AV) (H : List Int) (got : List AD) (fr who val : Option AV) (rows due : Option AV) : Vals := [sc, some (.loc n), some (.d (.int rm)), tn, some (.obj (n + 1)), some (.loc (n + 5)), some (.d (.lst (H.map .int))), some (.d (.lst got)), some (.loc (n + 6)), fr, who, val, rows, due]
/-- the law's turn, from the rows on -/
noncomputable def tl : XM := (xSeq (xIf (cOrB (cCmpB .NotEq (cVar 12) (cVar 13)) (cOrB (cNotB (cTr (cCall F__law_is_like (cCons (cVar 4) (cCons (cVar 5) (cCons (cVar 2) cNil)))))) (fun _ => M.ret (BoolOp.Or == BoolOp.And)))) (xSeq (xRet (cD (.bool false)))
    xNil) xNil)
    (xSeq (xAsg q_law_3 (aVar 6))
    (xSeq (xAsg (cBin .Add (cVar 6) (cBin .Mult (cLst (cCons (cVar 10) cNil)) (cCall (one fInt) (cCons (cB (cCmpB .Eq (cVar 12) (cLst (cCons (cTup (cCons (cD (.str 1)) cNil)) cNil)))) cNil)))) (aVar 6))
    (xSeq (xAsg (cBin .Add (cVar 7) q_law_1) (aVar 7))
    (xSeq (xAsg (cBin .Add (cVar 7) q_law_0) (aVar 7))
    xNil)))))
theorem tl_eq {σ : Store} {n m : Nat} {v v' : V1} {rs : List Rw} {H : List Int} (hA : At σ n v' m) (hm : m ≤ 45) (hd : Did rs v v') (hO : v.O.length ≤ 60) {sc tn fr val : Option AV} {w : Int} (hH : H.length ≤ 90) :
    ∃ H' : List Int, tl (lv sc n v.rm tn H (v.O.map valT) fr (some (.d (.int w))) val (some (.d (.lst (rs.map Rw.ad)))) (some (.d (.lst (rs.map Rw.ad))))) σ =
      some ((.next, lv sc n v.rm tn H' (v'.O.map valT) fr (some (.d (.int w))) val (some (.d (.lst (rs.map Rw.ad)))) (some (.d (.lst (rs.map Rw.ad))))), σ) ∧ H'.length ≤ H.length + 1 := by
  have nD := hA.nD
  have nT := hA.nT
  have hlen := hd.len
  have hl := like_true hA.ch hA.dd (by omega)
  rw [hd.rm] at hl
  have dR : AD.deps (rs.map Rw.ad) ≤ 59 := Nat.le_trans hd.dep (by omega)
  have bR := AD.beqs_self (rs.map Rw.ad)
  obtain ⟨H1, e1, n1⟩ := held_eq (σ := σ) (vals := lv sc n v.rm tn H (v.O.map valT) fr (some (.d (.int w))) val (some (.d (.lst (rs.map Rw.ad)))) (some (.d (.lst (rs.map Rw.ad))))) H rs rfl rfl (by omega) (by omega)
  obtain ⟨H2, n2, e2⟩ : ∃ H2 : List Int, H2.length ≤ H.length + 1 ∧ (xAsg (cBin .Add (cVar 6) (cBin .Mult (cLst (cCons (cVar 10) cNil)) (cCall (one fInt) (cCons (cB (cCmpB .Eq (cVar 12) (cLst (cCons (cTup (cCons (cD (.str 1)) cNil)) cNil)))) cNil)))) (aVar 6)) (lv sc n v.rm tn H1 (v.O.map valT) fr (some (.d (.int w))) val (some (.d (.lst (rs.map Rw.ad)))) (some (.d (.lst (rs.map Rw.ad))))) σ = some ((.next, lv sc n v.rm tn H2 (v.O.map valT) fr (some (.d (.int w))) val (some (.d (.lst (rs.map Rw.ad)))) (some (.d (.lst (rs.map Rw.ad))))), σ) := by
    have l1 : H1.length ≤ 1048576 := by omega
    have l2 : H1.length + 1 ≤ 1048576 := by omega
    cases q : AD.beqs (rs.map Rw.ad) [.tup [.str 1]] with
    | true => exact ⟨H1 ++ [w], by simp; omega, by simp [lv, fnM, fEnd, xSeq, xIf, xRet, xExpr, xAsg, xNil, xBrk, aVar, aAttr, mSetAttr, putF, cTr, cAttr, cVar, M.bind, M.opt, M.ret, getA, boolOf, cLst, cTup, cCons, cNil, cD, mkLst, mkTup, allD, room, cCmpB, cmpA, cB, cAndB, cOrB, cNotB, cAnd, cOr, cIte, cNeg, res, ress, content, AD.dep, deps_nil, AD.beq, AD.beqs, cLM, isLoc, mPop, mAppend, mExtend, cCall, cMeth, isObj, cIdx, idxA, itemAt, cBin, binA, one, two, fLen, lenA, fInt, fMax, fMin, fList, fListM, cLstM, mAlloc, aTup, seqA, asCons, asNil, xSwap, asRev, cTo, toA, cFrom, fromA, aSub, mSetItem, fRange, xCompA, xCompM, intOf, int2, addL, mulL, intA, isN, eqL, inL, dR, dep_blk, q, l1, l2]⟩
    | false => exact ⟨H1, by omega, by simp [lv, fnM, fEnd, xSeq, xIf, xRet, xExpr, xAsg, xNil, xBrk, aVar, aAttr, mSetAttr, putF, cTr, cAttr, cVar, M.bind, M.opt, M.ret, getA, boolOf, cLst, cTup, cCons, cNil, cD, mkLst, mkTup, allD, room, cCmpB, cmpA, cB, cAndB, cOrB, cNotB, cAnd, cOr, cIte, cNeg, res, ress, content, AD.dep, deps_nil, AD.beq, AD.beqs, cLM, isLoc, mPop, mAppend, mExtend, cCall, cMeth, isObj, cIdx, idxA, itemAt, cBin, binA, one, two, fLen, lenA, fInt, fMax, fMin, fList, fListM, cLstM, mAlloc, aTup, seqA, asCons, asNil, xSwap, asRev, cTo, toA, cFrom, fromA, aSub, mSetItem, fRange, xCompA, xCompM, intOf, int2, addL, mulL, intA, isN, eqL, inL, dR, dep_blk, q, l1, l2]⟩
  have e3 := got_eq (σ := σ) (vals := lv sc n v.rm tn H2 (v.O.map valT) fr (some (.d (.int w))) val (some (.d (.lst (rs.map Rw.ad)))) (some (.d (.lst (rs.map Rw.ad))))) rs rfl (by omega)
  have e4 := recv_eq (σ := σ) (vals := lv sc n v.rm tn H2 (v.O.map valT ++ (rs.filter isGot).map valOf) fr (some (.d (.int w))) val (some (.d (.lst (rs.map Rw.ad)))) (some (.d (.lst (rs.map Rw.ad))))) rs rfl (by omega)
  have l3 : (rs.filter isGot).length ≤ 2 := Nat.le_trans (List.length_filter_le _ _) hlen
  have l4 : (rs.filter isRecv).length ≤ 2 := Nat.le_trans (List.length_filter_le _ _) hlen
  have l5 : v.O.length + (rs.filter isGot).length ≤ 1048576 := by omega
  have l6 : v.O.length + ((rs.filter isGot).length + (rs.filter isRecv).length) ≤ 1048576 := by omega
  have l7 : v.O.length + (rs.filter isGot).length + (rs.filter isRecv).length ≤ 1048576 := by omega
  refine ⟨H2, ?_, n2⟩
  unfold tl
  refine Eq.trans (xseq_next (vals1 := lv sc n v.rm tn H (v.O.map valT) fr (some (.d (.int w))) val (some (.d (.lst (rs.map Rw.ad)))) (some (.d (.lst (rs.map Rw.ad))))) (σ1 := σ) (by simp [lv, fnM, fEnd, xSeq, xIf, xRet, xExpr, xAsg, xNil, xBrk, aVar, aAttr, mSetAttr, putF, cTr, cAttr, cVar, M.bind, M.opt, M.ret, getA, boolOf, cLst, cTup, cCons, cNil, cD, mkLst, mkTup, allD, room, cCmpB, cmpA, cB, cAndB, cOrB, cNotB, cAnd, cOr, cIte, cNeg, res, ress, content, AD.dep, deps_nil, AD.beq, AD.beqs, cLM, isLoc, mPop, mAppend, mExtend, cCall, cMeth, isObj, cIdx, idxA, itemAt, cBin, binA, one, two, fLen, lenA, fInt, fMax, fMin, fList, fListM, cLstM, mAlloc, aTup, seqA, asCons, asNil, xSwap, asRev, cTo, toA, cFrom, fromA, aSub, mSetItem, fRange, xCompA, xCompM, intOf, int2, addL, mulL, intA, isN, eqL, inL, dR, bR, hl])) ?_
  refine Eq.trans (xseq_next (vals1 := lv sc n v.rm tn H1 (v.O.map valT) fr (some (.d (.int w))) val (some (.d (.lst (rs.map Rw.ad)))) (some (.d (.lst (rs.map Rw.ad))))) (σ1 := σ) (by simp only [xAsg, M.bind, e1]; simp [lv, aVar, M.ret])) ?_
  refine Eq.trans (xseq_next e2) ?_
  refine Eq.trans (xseq_next (vals1 := lv sc n v.rm tn H2 (v.O.map valT ++ (rs.filter isGot).map valOf) fr (some (.d (.int w))) val (some (.d (.lst (rs.map Rw.ad)))) (some (.d (.lst (rs.map Rw.ad))))) (σ1 := σ) (by simp only [lv] at e3 ⊢; simp [fnM, fEnd, xSeq, xIf, xRet, xExpr, xAsg, xNil, xBrk, aVar, aAttr, mSetAttr, putF, cTr, cAttr, cVar, M.bind, M.opt, M.ret, getA, boolOf, cLst, cTup, cCons, cNil, cD, mkLst, mkTup, allD, room, cCmpB, cmpA, cB, cAndB, cOrB, cNotB, cAnd, cOr, cIte, cNeg, res, ress, content, AD.dep, deps_nil, AD.beq, AD.beqs, cLM, isLoc, mPop, mAppend, mExtend, cCall, cMeth, isObj, cIdx, idxA, itemAt, cBin, binA, one, two, fLen, lenA, fInt, fMax, fMin, fList, fListM, cLstM, mAlloc, aTup, seqA, asCons, asNil, xSwap, asRev, cTo, toA, cFrom, fromA, aSub, mSetItem, fRange, xCompA, xCompM, intOf, int2, addL, mulL, intA, isN, eqL, inL, e3, l5])) ?_
  refine Eq.trans (xseq_next (vals1 := lv sc n v.rm tn H2 (v'.O.map valT) fr (some (.d (.int w))) val (some (.d (.lst (rs.map Rw.ad)))) (some (.d (.lst (rs.map Rw.ad))))) (σ1 := σ) (by rw [hd.out]; simp only [lv] at e4 ⊢; simp [fnM, fEnd, xSeq, xIf, xRet, xExpr, xAsg, xNil, xBrk, aVar, aAttr, mSetAttr, putF, cTr, cAttr, cVar, M.bind, M.opt, M.ret, getA, boolOf, cLst, cTup, cCons, cNil, cD, mkLst, mkTup, allD, room, cCmpB, cmpA, cB, cAndB, cOrB, cNotB, cAnd, cOr, cIte, cNeg, res, ress, content, AD.dep, deps_nil, AD.beq, AD.beqs, cLM, isLoc, mPop, mAppend, mExtend, cCall, cMeth, isObj, cIdx, idxA, itemAt, cBin, binA, one, two, fLen, lenA, fInt, fMax, fMin, fList, fListM, cLstM, mAlloc, aTup, seqA, asCons, asNil, xSwap, asRev, cTo, toA, cFrom, fromA, aSub, mSetItem, fRange, xCompA, xCompM, intOf, int2, addL, mulL, intA, isN, eqL, inL, e4, l5, l6, l7])) ?_
  rfl
/-- what holds between the turns -/
noncomputable def Inv (sc : Option AV) (n rm i : Nat) (vals : Vals) (σ : Store) : Prop :=
  ∃ (v : V1) (H : List Int) (tn fr who val rows due : Option AV), vals = lv sc n rm tn H (v.O.map valT) fr who val rows due ∧ At σ n v i ∧ v.rm = rm ∧ H.length ≤ i
theorem two_set {σ : Store} {n m : Nat} {v : V1} {x : AO} (h : At σ n v m) (hs : Src (σ.set n x) n) : At (σ.set n x) n v m :=
  ⟨hs, h.ch.other (List.getElem?_set_ne (by omega)) (List.getElem?_set_ne (by omega)) (List.getElem?_set_ne (by omega)) (List.getElem?_set_ne (by omega)), (List.getElem?_set_ne (by omega)).trans h.dd, (List.getElem?_set_ne (by omega)).trans h.giv, h.one, h.nD, h.nT⟩
theorem turn_eq {σ : Store} {n rm i : Nat} {sc : Option AV} {v : V1} {H : List Int} {fr who val rows due : Option AV} (h : At σ n v i) (hv : v.rm = rm) (hH : H.length ≤ i) (hi : i ≤ 20) :
    ∃ fl vals' σ', b_law_0 (lv sc n rm (some (.d (.int (i : Nat)))) H (v.O.map valT) fr who val rows due) σ = some ((fl, vals'), σ') ∧ ((fl = .next ∧ Inv sc n rm (i + 1) vals' σ') ∨ (fl = .brk ∧ Inv sc n rm i vals' σ')) := by
  subst hv
  obtain ⟨free, e1, l1⟩ := free_eq (σ := σ) (vals := lv sc n v.rm (some (.d (.int (i : Nat)))) H (v.O.map valT) fr who val rows due) H rfl
  have dF : AD.deps (free.map AD.int) ≤ 59 := Nat.le_trans (deps_map (k := 0) AD.int (fun _ => Nat.le_refl _) _) (by omega)
  have s1 : xCompA q_law_4 9 (lv sc n v.rm (some (.d (.int (i : Nat)))) H (v.O.map valT) fr who val rows due) σ = some ((.next, lv sc n v.rm (some (.d (.int (i : Nat)))) H (v.O.map valT) (some (.d (.lst (free.map .int)))) who val rows due), σ) := by
    simp only [lv] at e1 ⊢
    simp [fnM, fEnd, xSeq, xIf, xRet, xExpr, xAsg, xNil, xBrk, aVar, aAttr, mSetAttr, putF, cTr, cAttr, cVar, M.bind, M.opt, M.ret, getA, boolOf, cLst, cTup, cCons, cNil, cD, mkLst, mkTup, allD, room, cCmpB, cmpA, cB, cAndB, cOrB, cNotB, cAnd, cOr, cIte, cNeg, res, ress, content, AD.dep, deps_nil, AD.beq, AD.beqs, cLM, isLoc, mPop, mAppend, mExtend, cCall, cMeth, isObj, cIdx, idxA, itemAt, cBin, binA, one, two, fLen, lenA, fInt, fMax, fMin, fList, fListM, cLstM, mAlloc, aTup, seqA, asCons, asNil, xSwap, asRev, cTo, toA, cFrom, fromA, aSub, mSetItem, fRange, xCompA, xCompM, intOf, int2, addL, mulL, intA, isN, eqL, inL, e1]
  unfold b_law_0
  by_cases hF : free = []
  · subst hF
    refine ⟨.brk, _, σ, (xseq_next s1).trans (xseq_brk (vals1 := lv sc n v.rm (some (.d (.int (i : Nat)))) H (v.O.map valT) (some (.d (.lst []))) who val rows due) ?_), .inr ⟨rfl, v, H, _, _, _, _, _, _, rfl, h, rfl, hH⟩⟩
    simp [lv, fnM, fEnd, xSeq, xIf, xRet, xExpr, xAsg, xNil, xBrk, aVar, aAttr, mSetAttr, putF, cTr, cAttr, cVar, M.bind, M.opt, M.ret, getA, boolOf, cLst, cTup, cCons, cNil, cD, mkLst, mkTup, allD, room, cCmpB, cmpA, cB, cAndB, cOrB, cNotB, cAnd, cOr, cIte, cNeg, res, ress, content, AD.dep, deps_nil, AD.beq, AD.beqs, cLM, isLoc, mPop, mAppend, mExtend, cCall, cMeth, isObj, cIdx, idxA, itemAt, cBin, binA, one, two, fLen, lenA, fInt, fMax, fMin, fList, fListM, cLstM, mAlloc, aTup, seqA, asCons, asNil, xSwap, asRev, cTo, toA, cFrom, fromA, aSub, mSetItem, fRange, xCompA, xCompM, intOf, int2, addL, mulL, intA, isN, eqL, inL]
  obtain ⟨wv, x1, hm, e2, hs1⟩ := one_eq h.src (free.map AD.int) (by simpa using hF) (by simp; omega)
  obtain ⟨w, _, rfl⟩ := List.mem_map.mp hm
  have h1 := two_set h hs1
  generalize σ.set n x1 = σ1 at e2 h1
  obtain ⟨way, x2, w0, w1, e3, hs2⟩ := take_eq h1.src 2 (by decide) (by decide)
  have h2 := two_set h1 hs2
  generalize σ1.set n x2 = σ2 at e3 h2
  have ho := h2.ch.o
  have hG := h2.giv
  have nD := h2.nD
  have nb : AD.beqs (free.map AD.int) [] = false := by
    cases free with
    | nil => exact absurd rfl hF
    | cons y ys => rfl
  have s2 : ∀ fl g, xIf (cCmpB .Eq (cVar 9) (cLst cNil)) fl g (lv sc n v.rm (some (.d (.int (i : Nat)))) H (v.O.map valT) (some (.d (.lst (free.map .int)))) who val rows due) σ = g (lv sc n v.rm (some (.d (.int (i : Nat)))) H (v.O.map valT) (some (.d (.lst (free.map .int)))) who val rows due) σ := fun fl g => by simp [lv, fnM, fEnd, xSeq, xIf, xRet, xExpr, xAsg, xNil, xBrk, aVar, aAttr, mSetAttr, putF, cTr, cAttr, cVar, M.bind, M.opt, M.ret, getA, boolOf, cLst, cTup, cCons, cNil, cD, mkLst, mkTup, allD, room, cCmpB, cmpA, cB, cAndB, cOrB, cNotB, cAnd, cOr, cIte, cNeg, res, ress, content, AD.dep, deps_nil, AD.beq, AD.beqs, cLM, isLoc, mPop, mAppend, mExtend, cCall, cMeth, isObj, cIdx, idxA, itemAt, cBin, binA, one, two, fLen, lenA, fInt, fMax, fMin, fList, fListM, cLstM, mAlloc, aTup, seqA, asCons, asNil, xSwap, asRev, cTo, toA, cFrom, fromA, aSub, mSetItem, fRange, xCompA, xCompM, intOf, int2, addL, mulL, intA, isN, eqL, inL, dF, nb]
  refine Exists.imp (fun fl => Exists.imp fun vals' => Exists.imp fun σ' => And.imp_left fun e => (xseq_next s1).trans ((xseq_next ((s2 _ _).trans xnil_eq)).trans ((xseq_next (vals1 := lv sc n v.rm (some (.d (.int (i : Nat)))) H (v.O.map valT) (some (.d (.lst (free.map .int)))) (some (.d (.int w))) (some (.d .none)) rows due) (σ1 := σ1) (by simp [lv, fnM, fEnd, xSeq, xIf, xRet, xExpr, xAsg, xNil, xBrk, aVar, aAttr, mSetAttr, putF, cTr, cAttr, cVar, M.bind, M.opt, M.ret, getA, boolOf, cLst, cTup, cCons, cNil, cD, mkLst, mkTup, allD, room, cCmpB, cmpA, cB, cAndB, cOrB, cNotB, cAnd, cOr, cIte, cNeg, res, ress, content, AD.dep, deps_nil, AD.beq, AD.beqs, cLM, isLoc, mPop, mAppend, mExtend, cCall, cMeth, isObj, cIdx, idxA, itemAt, cBin, binA, one, two, fLen, lenA, fInt, fMax, fMin, fList, fListM, cLstM, mAlloc, aTup, seqA, asCons, asNil, xSwap, asRev, cTo, toA, cFrom, fromA, aSub, mSetItem, fRange, xCompA, xCompM, intOf, int2, addL, mulL, intA, isN, eqL, inL, e2])).trans e))) ?_
  have fin : ∀ (σ3 : Store) (v' : V1) (rs : List Rw) (val : Option AV), At σ3 n v' (i + 1) → Did rs v v' →
      ∃ fl vals' σ', tl (lv sc n v.rm (some (.d (.int (i : Nat)))) H (v.O.map valT) (some (.d (.lst (free.map .int)))) (some (.d (.int w))) val (some (.d (.lst (rs.map Rw.ad)))) (some (.d (.lst (rs.map Rw.ad))))) σ3 = some ((fl, vals'), σ') ∧ ((fl = .next ∧ Inv sc n v.rm (i + 1) vals' σ') ∨ (fl = .brk ∧ Inv sc n v.rm i vals' σ')) := fun σ3 v' rs val hA hd => by
    obtain ⟨H', e, l⟩ := tl_eq (sc := sc) (tn := some (.d (.int (i : Nat)))) (fr := some (.d (.lst (free.map .int)))) (val := val) (w := w) (H := H) hA (by omega) hd (by omega) (by omega)
    exact ⟨_, _, _, e, .inl ⟨rfl, v', H', _, _, _, _, _, _, rfl, hA, hd.rm, by omega⟩⟩
  by_cases hw : way = 0
  · subst hw
    obtain ⟨rs, τ1, τ2, v', E1, E2, hA, hd⟩ := send_all h2 (by omega) (w, (i : Int))
    refine Exists.imp (fun fl => Exists.imp fun vals' => Exists.imp fun σ' => And.imp_left fun e => (xseq_next (vals1 := lv sc n v.rm (some (.d (.int (i : Nat)))) H (v.O.map valT) (some (.d (.lst (free.map .int)))) (some (.d (.int w))) (some (.d (valT (w, (i : Int))))) (some (.d (.lst (rs.map Rw.ad)))) (some (.d (.lst (rs.map Rw.ad))))) (σ1 := τ2) ?_).trans e) (fin τ2 v' rs _ hA hd)
    have n1 : v.O.length + v.D.length ≤ 1000 := by omega
    have o2 : (σ2.set (n + 6) (.list ((v.O ++ v.D).map valT ++ [valT (w, (i : Int))])))[n + 1]? = some (.dict [.d (.int v.ch.room), .loc (n + 2), .loc (n + 3), .loc (n + 4), .d (.bool v.ch.closed)]) := by rw [List.getElem?_set_ne (by omega)]; exact ho
    have n2 : ((v.O ++ v.D).map valT).length ≤ 1000 := by simpa using n1
    have ev : valT (w, (i : Int)) = .tup [.int w, .int i] := rfl
    simp only at E1 E2
    generalize (v.O ++ v.D).map valT = GV at *
    rw [ev] at E1 E2 o2 ⊢
    simp [lv, fnM, fEnd, xSeq, xIf, xRet, xExpr, xAsg, xNil, xBrk, aVar, aAttr, mSetAttr, putF, cTr, cAttr, cVar, M.bind, M.opt, M.ret, getA, boolOf, cLst, cTup, cCons, cNil, cD, mkLst, mkTup, allD, room, cCmpB, cmpA, cB, cAndB, cOrB, cNotB, cAnd, cOr, cIte, cNeg, res, ress, content, AD.dep, deps_nil, AD.beq, AD.beqs, cLM, isLoc, mPop, mAppend, mExtend, cCall, cMeth, isObj, cIdx, idxA, itemAt, cBin, binA, one, two, fLen, lenA, fInt, fMax, fMin, fList, fListM, cLstM, mAlloc, aTup, seqA, asCons, asNil, xSwap, asRev, cTo, toA, cFrom, fromA, aSub, mSetItem, fRange, xCompA, xCompM, intOf, int2, addL, mulL, intA, isN, eqL, inL, e3, hG, n2, o2, E1, E2]
  · obtain ⟨rs, τ1, τ2, v', E1, E2, hA, hd⟩ := take_all h2 (by omega) w
    refine Exists.imp (fun fl => Exists.imp fun vals' => Exists.imp fun σ' => And.imp_left fun e => (xseq_next (vals1 := lv sc n v.rm (some (.d (.int (i : Nat)))) H (v.O.map valT) (some (.d (.lst (free.map .int)))) (some (.d (.int w))) (some (.d .none)) (some (.d (.lst (rs.map Rw.ad)))) (some (.d (.lst (rs.map Rw.ad))))) (σ1 := τ2) ?_).trans e) (fin τ2 v' rs _ hA hd)
    simp [lv, fnM, fEnd, xSeq, xIf, xRet, xExpr, xAsg, xNil, xBrk, aVar, aAttr, mSetAttr, putF, cTr, cAttr, cVar, M.bind, M.opt, M.ret, getA, boolOf, cLst, cTup, cCons, cNil, cD, mkLst, mkTup, allD, room, cCmpB, cmpA, cB, cAndB, cOrB, cNotB, cAnd, cOr, cIte, cNeg, res, ress, content, AD.dep, deps_nil, AD.beq, AD.beqs, cLM, isLoc, mPop, mAppend, mExtend, cCall, cMeth, isObj, cIdx, idxA, itemAt, cBin, binA, one, two, fLen, lenA, fInt, fMax, fMin, fList, fListM, cLstM, mAlloc, aTup, seqA, asCons, asNil, xSwap, asRev, cTo, toA, cFrom, fromA, aSub, mSetItem, fRange, xCompA, xCompM, intOf, int2, addL, mulL, intA, isN, eqL, inL, e3, hw, ho, E1, E2]
end L01
end Mine
end
section
set_option Elab.async false
set_option maxRecDepth 100000
set_option linter.unusedSimpArgs false
set_option linter.unusedVariables false
namespace Mine
open PySem PyProof.Rows
namespace L01
theorem At.le {σ : Store} {n m k : Nat} {v : V1} (h : At σ n v m) (hk : m ≤ k) : At σ n v k := ⟨h.src, h.ch, h.dd, h.giv, h.one, by have := h.nD; omega, by have := h.nT; omega⟩
theorem loop_eq {σ : Store} {n rm : Nat} {sc : Option AV} (h : At σ n ⟨rm, [], [], []⟩ 0) :
    ∃ vals' σ', w_law_0 (lv sc n rm none [] [] none none none none none) σ = some ((.next, vals'), σ') ∧ Inv sc n rm 20 vals' σ' := by
  obtain ⟨t, xx, w0, w5, e0, hs⟩ := take_eq h.src 10 (by decide) (by decide)
  obtain ⟨t, rfl⟩ : ∃ k : Nat, t = k := ⟨t.toNat, by omega⟩
  have h' := two_set h hs
  have hr : cCall (one fRange) (cCons (cBin .Add (cD (.int 5)) (cCall F__law_take (cCons (cVar 1) (cCons (cD (.int 10)) cNil)))) cNil) (lv sc n rm none [] [] none none none none none) σ = some (.rng ((5 + t : Nat) : Int), σ.set n xx) := by
    have q1 : (0 : Int) ≤ 5 + (t : Int) := by omega
    have q2 : 5 + (t : Int) ≤ 1000 := by omega
    simp [lv, fnM, fEnd, xSeq, xIf, xRet, xExpr, xAsg, xNil, xBrk, aVar, aAttr, mSetAttr, putF, cTr, cAttr, cVar, M.bind, M.opt, M.ret, getA, boolOf, cLst, cTup, cCons, cNil, cD, mkLst, mkTup, allD, room, cCmpB, cmpA, cB, cAndB, cOrB, cNotB, cAnd, cOr, cIte, cNeg, res, ress, content, AD.dep, deps_nil, AD.beq, AD.beqs, cLM, isLoc, mPop, mAppend, mExtend, cCall, cMeth, isObj, cIdx, idxA, itemAt, cBin, binA, one, two, fLen, lenA, fInt, fMax, fMin, fList, fListM, cLstM, mAlloc, aTup, seqA, asCons, asNil, xSwap, asRev, cTo, toA, cFrom, fromA, aSub, mSetItem, fRange, xCompA, xCompM, intOf, int2, addL, mulL, intA, isN, eqL, inL, e0, q1, q2]
  obtain ⟨vals', σ', e2, h2⟩ := xfor_range (n := 5 + t) (g := aVar 3) (body := b_law_0) (fun i vals σ => Inv sc n rm i vals σ) (fun vals σ => ∃ i, i ≤ 20 ∧ Inv sc n rm i vals σ) hr (by omega) ⟨⟨rm, [], [], []⟩, [], none, none, none, none, none, none, rfl, h', rfl, Nat.le_refl _⟩ fun i hi vals σ ⟨v, H, tn, fr, who, val, rows, due, hv, hA, hrm, hH⟩ => by
    subst hv
    obtain ⟨fl, vals', σ', e, q⟩ := turn_eq (sc := sc) (fr := fr) (who := who) (val := val) (rows := rows) (due := due) hA hrm hH (by omega)
    refine ⟨_, _, fl, vals', σ', rfl, e, ?_⟩
    rcases q with ⟨q, z⟩ | ⟨q, z⟩
    · exact .inl ⟨q, z⟩
    · exact .inr ⟨q, i, by omega, z⟩
  have up : ∀ i, i ≤ 20 → Inv sc n rm i vals' σ' → Inv sc n rm 20 vals' σ' := fun i hi ⟨v, H, tn, fr, who, val, rows, due, hv, hA, hrm, hH⟩ => ⟨v, H, tn, fr, who, val, rows, due, hv, hA.le hi, hrm, by omega⟩
  refine ⟨vals', σ', e2, ?_⟩
  rcases h2 with h2 | ⟨i, hi, h2⟩
  · exact up _ (by omega) h2
  · exact up i hi h2
theorem law_true (ns : List Int) (hn : ns.length ≤ 63) : ∃ vals' σ', f_law (some (.d (.lst (ns.map .int))) :: List.replicate 13 none) [] = some ((.ret (.d (.bool true)), vals'), σ') := by
  obtain ⟨σ0, a0⟩ := fixed_eq
  obtain ⟨a, b, ha, hb, a1⟩ := pool0 (σ := σ0) hn
  have hs : Src (σ0 ++ [AO.list [.int a, .int b]]) σ0.length := ⟨a, b, ha, hb, by simp⟩
  have hl : (σ0 ++ [AO.list [.int a, .int b]]).length = σ0.length + 1 := by simp
  generalize σ0.length = n at *
  generalize σ0 ++ [AO.list [.int a, .int b]] = σ1 at *
  obtain ⟨rmv, x1, hm, e1, h1⟩ := one_eq hs [.int 0, .int 1, .int 1, .int 2, .int 3] (by simp) (by simp)
  obtain ⟨rm, rfl⟩ : ∃ rm : Nat, rmv = .int rm := by
    simp only [List.mem_cons, List.not_mem_nil, or_false] at hm
    rcases hm with rfl | rfl | rfl | rfl | rfl
    · exact ⟨0, rfl⟩
    · exact ⟨1, rfl⟩
    · exact ⟨1, rfl⟩
    · exact ⟨2, rfl⟩
    · exact ⟨3, rfl⟩
  have l1 : (σ1.set n x1).length = n + 1 := by rw [List.length_set]; exact hl
  generalize σ1.set n x1 = τ at e1 h1 l1
  have e2 := new_eq rm τ
  rw [l1] at e2
  have h2 : At (τ ++ [.dict [.d (.int rm), .loc (n + 2), .loc (n + 3), .loc (n + 4), .d (.bool false)], .list [], .list [], .list [], .list [], .list []]) n ⟨rm, [], [], []⟩ 0 := by
    refine ⟨src_grow h1 ((Grow.refl _).app _), ⟨?_, ?_, ?_, ?_, by omega, by omega, by omega⟩, ?_, ?_, fun q => absurd rfl q, Nat.le_refl _, Nat.le_refl _⟩
    all_goals (rw [List.getElem?_append_right (by omega), l1]; simp [V1.ch, deeds, show n + 2 - (n + 1) = 1 by omega, show n + 3 - (n + 1) = 2 by omega, show n + 4 - (n + 1) = 3 by omega, show n + 5 - (n + 1) = 4 by omega, show n + 6 - (n + 1) = 5 by omega])
  obtain ⟨vals', σ', e3, v, H, tn, fr, who, val, rows, due, hv, hA, hrm, hH⟩ := loop_eq (sc := some (.d (.lst (ns.map .int)))) h2
  subst hv
  have hG := hA.giv
  have nD := hA.nD
  refine ⟨lv (some (.d (.lst (ns.map .int)))) n rm tn H (v.O.map valT) fr who val rows due, σ', ?_⟩
  have n1 : v.O.length ≤ 1048576 := by omega
  have n2 : v.O.length + v.D.length ≤ 1048576 := by omega
  have dO : AD.deps (v.O.map valT) ≤ 59 := Nat.le_trans (deps_any dep_val) (by omega)
  have bO := AD.beqs_self (v.O.map valT)
  simp only [lv, List.map_nil] at e3 ⊢
  simp [f_law, fnM, fEnd, xSeq, xIf, xRet, xExpr, xAsg, xNil, xBrk, aVar, aAttr, mSetAttr, putF, cTr, cAttr, cVar, M.bind, M.opt, M.ret, getA, boolOf, cLst, cTup, cCons, cNil, cD, mkLst, mkTup, allD, room, cCmpB, cmpA, cB, cAndB, cOrB, cNotB, cAnd, cOr, cIte, cNeg, res, ress, content, AD.dep, deps_nil, AD.beq, AD.beqs, cLM, isLoc, mPop, mAppend, mExtend, cCall, cMeth, isObj, cIdx, idxA, itemAt, cBin, binA, one, two, fLen, lenA, fInt, fMax, fMin, fList, fListM, cLstM, mAlloc, aTup, seqA, asCons, asNil, xSwap, asRev, cTo, toA, cFrom, fromA, aSub, mSetItem, fRange, xCompA, xCompM, intOf, int2, addL, mulL, intA, isN, eqL, inL, List.replicate, a0, a1, e1, e2, l1, e3, hG, n1, n2, dO, bO]
end L01
end Mine
end
section
open PySem PySem.W PySem.Calls PyProof.Rows
set_option Elab.async false
set_option maxRecDepth 100000
set_option maxHeartbeats 8000000
namespace Mine
namespace L01
theorem fin (hlaw : ∀ ns : List Int, ns.length ≤ 63 → ∃ vals' σ', f_law (some (.d (.lst (ns.map .int))) :: List.replicate 13 none) [] = some ((.ret (.d (.bool true)), vals'), σ')) : PySem.Challenge.rw_pc0013_01.Holds := by
  refine hd ?_
  k_go0
  rename_i hlen _ _ _ _ _ _ _ _ _ _ _ _
  obtain ⟨vals', σ', hf⟩ := hlaw _ (by have := Int.ofNat_le.mp (Int.not_lt.mp hlen); exact this)
  refine law_enterC (x := "script") (K := hd.heap_39 _) (C := 106) (others := ["source", "room", "turn", "channel", "deeds", "held", "got", "given", "free", "who", "value", "rows", "due"]) (k := 5) (f := f_law) (by assumption) (by assumption) (by kernel_rfl) (by kernel_rfl) (by kernel_rfl) (by kernel_rfl) (by kernel_rfl) (fun x m => fld6 m (by kernel_rfl) (by kernel_rfl) (by kernel_rfl) (by kernel_rfl) (by kernel_rfl)) ?hx rfl rfl rfl (fun _ => rfl) (by decide +kernel) (by decide +kernel) (by assumption) (by assumption) (by with_unfolding_all rfl) (by assumption) (by assumption) (by assumption) hf (fun h tk hk => good_true (raisesW_false ?hr) ?hp (by with_reducible assumption) hk)
  case hr => wrow_none_raised
  case hp => wrow_post
  intro G hK hC
  refine Bx.out ?_
  refine bSXs_cons ?s0 ?r0
  case s0 => exact (bSX_if (bST_not (bST_val (bSE_call2 (fv := .ref 160) (c__law_fixed_right hK hC).sf (by decide) bSEs_nil (.inl (rw_K hK (f := fun K => nsIn K mainGlobals "_law_fixed_right") rfl)) (by rw [hK]; kernel_rfl) rfl rfl rfl) (fun _ _ => rfl))) (bSXs_cons (bSX_ret bSE_bool)
    bSXs_nil) bSXs_nil)
  refine bSXs_cons ?s1 ?r1
  case s1 => exact (bSX_asg_name (bSE_call2 (fv := .ref 117) (c__law_pool hK hC).sf (by decide) (bSEs_cons2 (bSE_var (i := 0) rfl rfl rfl) (bSEs_cons2 bSE_int bSEs_nil rfl) rfl) (.inl (rw_K hK (f := fun K => nsIn K mainGlobals "_law_pool") rfl)) (by rw [hK]; kernel_rfl) rfl rfl rfl) (i := 1) rfl (by decide +kernel) (.inl rfl) (by intro env h; cases env; subst h; rfl))
  refine bSXs_cons ?s2 ?r2
  case s2 => exact (bSX_asg_name (bSE_call2 (fv := .ref 131) (c__law_one hK hC).sf (by decide) (bSEs_cons2 (bSE_var (i := 1) rfl rfl rfl) (bSEs_cons2 (bSE_lst (bSEs_cons2 bSE_int (bSEs_cons2 bSE_int (bSEs_cons2 bSE_int (bSEs_cons2 bSE_int (bSEs_cons2 bSE_int bSEs_nil rfl) rfl) rfl) rfl) rfl)) bSEs_nil rfl) rfl) (.inl (rw_K hK (f := fun K => nsIn K mainGlobals "_law_one") rfl)) (by rw [hK]; kernel_rfl) rfl rfl rfl) (i := 2) rfl (by decide +kernel) (.inl rfl) (by intro env h; cases env; subst h; rfl))
  refine bSXs_cons ?s3 ?r3
  case s3 => exact (bSX_asg_tup (bSE_tup (bSEs_cons2 (bSE_call2 (fv := .ref 106) (s_Channel hK hC) (by decide) (bSEs_cons2 (bSE_var (i := 2) rfl rfl rfl) bSEs_nil rfl) (.inl (rw_K hK (f := fun K => nsIn K mainGlobals "Channel") rfl)) (by rw [hK]; kernel_rfl) rfl rfl rfl) (bSEs_cons2 (bSE_lstM bSEs_nil) (bSEs_cons2 (bSE_lst bSEs_nil) (bSEs_cons2 (bSE_lst bSEs_nil) (bSEs_cons2 (bSE_lstM bSEs_nil) bSEs_nil rfl) rfl) rfl) rfl) rfl)) (bSA_tup (bSAs_cons (bSA_var (i := 4) rfl (by decide +kernel) (.inl rfl)) (bSAs_cons (bSA_var (i := 5) rfl (by decide +kernel) (.inl rfl)) (bSAs_cons (bSA_var (i := 6) rfl (by decide +kernel) (.inr ⟨rfl, rfl⟩)) (bSAs_cons (bSA_var (i := 7) rfl (by decide +kernel) (.inl rfl)) (bSAs_cons (bSA_var (i := 8) rfl (by decide +kernel) (.inl rfl)) bSAs_nil (fun _ => rfl)) (fun _ => rfl)) (fun _ => rfl)) (fun _ => rfl)) (fun _ => rfl)) (n := 5) (fun _ => rfl) (fun _ => rfl)) (by intro env h; cases env; subst h; rfl) (by intro env h; cases env; subst h; rfl))
  refine bSXs_cons ?s4 ?r4
  case s4 => exact (bSX_for (N := 1001) (tn := true) (bSE_call2 (j := 0) (fv := (.type "range")) SF_range (Nat.zero_le _) (bSEs_cons2 (bSE_bin bSE_int (bSE_call2 (fv := .ref 124) (c__law_take hK hC).sf (by decide) (bSEs_cons2 (bSE_var (i := 1) rfl rfl rfl) (bSEs_cons2 bSE_int bSEs_nil rfl) rfl) (.inl (rw_K hK (f := fun K => nsIn K mainGlobals "_law_take") rfl)) (by rw [hK]; kernel_rfl) rfl rfl rfl)) bSEs_nil rfl) (.inr ⟨(rw_K hK (f := fun K => nsIn K mainGlobals "range") rfl), rfl, by decide⟩) rfl rfl rfl rfl) (bSA_var (i := 3) rfl (by decide +kernel) (.inl rfl)) (bSXs_cons (bSX_compA (ts := ["who"]) (cap := ["held"]) (cp := [6]) (N := 1001) (tn := true) (bSE_call2 (j := 0) (fv := (.type "range")) SF_range (Nat.zero_le _) (bSEs_cons2 bSE_int bSEs_nil rfl) (.inr ⟨(rw_K hK (f := fun K => nsIn K mainGlobals "range") rfl), rfl, by decide⟩) rfl rfl rfl rfl) (bLoopOk_any (bSA_var (i := 0) rfl (by decide +kernel) (.inl rfl)) (bSIf_one (bST_cmp (bSE_var (i := 0) rfl rfl rfl) (bSE_var (i := 1) rfl rfl rfl) rfl)) (bSE_var (i := 0) rfl rfl rfl) (fun _ _ => rfl)) (fun _ _ => rfl) (Clos_one rfl (fun env c h => clos_one h rfl)) rfl (by decide +kernel) (by decide +kernel) rfl (by decide +kernel) (by decide +kernel) (i := 9) rfl (by decide +kernel) rfl (by intro env h; cases env; subst h; rfl))
    (bSXs_cons (bSX_if (bST_cmp (bSE_var (i := 9) rfl rfl rfl) (bSE_lst bSEs_nil) rfl) (bSXs_cons bSX_brk
    bSXs_nil) bSXs_nil)
    (bSXs_cons (bSX_asg_swap (is := [11, 10]) (xs := ["who", "value"]) (bSE_tup (bSEs_cons2 (bSE_call2 (fv := .ref 131) (c__law_one hK hC).sf (by decide) (bSEs_cons2 (bSE_var (i := 1) rfl rfl rfl) (bSEs_cons2 (bSE_var (i := 9) rfl rfl rfl) bSEs_nil rfl) rfl) (.inl (rw_K hK (f := fun K => nsIn K mainGlobals "_law_one") rfl)) (by rw [hK]; kernel_rfl) rfl rfl rfl) (bSEs_cons2 bSE_none bSEs_nil rfl) rfl)) (by decide +kernel) rfl (by decide +kernel) (by intro env h; cases env; subst h; rfl) (by intro env h; cases env; subst h; rfl))
    (bSXs_cons (bSX_if (bST_cmp (bSE_call2 (fv := .ref 124) (c__law_take hK hC).sf (by decide) (bSEs_cons2 (bSE_var (i := 1) rfl rfl rfl) (bSEs_cons2 bSE_int bSEs_nil rfl) rfl) (.inl (rw_K hK (f := fun K => nsIn K mainGlobals "_law_take") rfl)) (by rw [hK]; kernel_rfl) rfl rfl rfl) bSE_int rfl) (bSXs_cons (bSX_asg_name (bSE_tup (bSEs_cons2 (bSE_var (i := 10) rfl rfl rfl) (bSEs_cons2 (bSE_var (i := 3) rfl rfl rfl) bSEs_nil rfl) rfl)) (i := 11) rfl (by decide +kernel) (.inl rfl) (by intro env h; cases env; subst h; rfl))
    (bSXs_cons (bSX_expr (bSE_lmeth2 (k := _) SL_append (bSE_var (i := 8) rfl rfl rfl) (bSE_var (i := 11) rfl rfl rfl) PySem.F.slot_list_append rfl rfl rfl rfl) (fun _ _ => rfl))
    (bSXs_cons (bSX_asg_tup (bSE_tup (bSEs_cons2 (bSE_meth2 (fa := 70) (c_offer hK hC).sf (by decide) (bSE_var (i := 4) rfl rfl rfl) (bSEs_cons2 (bSE_tup (bSEs_cons2 (bSE_var (i := 10) rfl rfl rfl) (bSEs_cons2 (bSE_var (i := 11) rfl rfl rfl) (bSEs_cons2 bSE_none (bSEs_cons2 bSE_none bSEs_nil rfl) rfl) rfl) rfl)) bSEs_nil rfl) (by rw [hC]; exact (rw_K hK (f := fun K => findIn K (.ref 106) "offer") rfl)) (by rw [hK]; kernel_rfl) (by decide +kernel) (by rw [hK]; kernel_rfl) rfl rfl rfl rfl) (bSEs_cons2 (bSE_call2 (fv := .ref 143) (c__law_sent hK hC).sf (by decide) (bSEs_cons2 (bSE_var (i := 5) rfl rfl rfl) (bSEs_cons2 (bSE_var (i := 2) rfl rfl rfl) (bSEs_cons2 (bSE_var (i := 10) rfl rfl rfl) (bSEs_cons2 (bSE_var (i := 11) rfl rfl rfl) bSEs_nil rfl) rfl) rfl) rfl) (.inl (rw_K hK (f := fun K => nsIn K mainGlobals "_law_sent") rfl)) (by rw [hK]; kernel_rfl) rfl rfl rfl) bSEs_nil rfl) rfl)) (bSA_tup (bSAs_cons (bSA_var (i := 12) rfl (by decide +kernel) (.inr ⟨rfl, rfl⟩)) (bSAs_cons (bSA_var (i := 13) rfl (by decide +kernel) (.inl rfl)) bSAs_nil (fun _ => rfl)) (fun _ => rfl)) (n := 2) (fun _ => rfl) (fun _ => rfl)) (by intro env h; cases env; subst h; rfl) (by intro env h; cases env; subst h; rfl))
    bSXs_nil))) (bSXs_cons (bSX_asg_tup (bSE_tup (bSEs_cons2 (bSE_meth2 (fa := 77) (c_take hK hC).sf (by decide) (bSE_var (i := 4) rfl rfl rfl) (bSEs_cons2 (bSE_tup (bSEs_cons2 (bSE_var (i := 10) rfl rfl rfl) (bSEs_cons2 bSE_none (bSEs_cons2 bSE_none (bSEs_cons2 bSE_none bSEs_nil rfl) rfl) rfl) rfl)) bSEs_nil rfl) (by rw [hC]; exact (rw_K hK (f := fun K => findIn K (.ref 106) "take") rfl)) (by rw [hK]; kernel_rfl) (by decide +kernel) (by rw [hK]; kernel_rfl) rfl rfl rfl rfl) (bSEs_cons2 (bSE_call2 (fv := .ref 148) (c__law_taken hK hC).sf (by decide) (bSEs_cons2 (bSE_var (i := 5) rfl rfl rfl) (bSEs_cons2 (bSE_var (i := 2) rfl rfl rfl) (bSEs_cons2 (bSE_var (i := 10) rfl rfl rfl) bSEs_nil rfl) rfl) rfl) (.inl (rw_K hK (f := fun K => nsIn K mainGlobals "_law_taken") rfl)) (by rw [hK]; kernel_rfl) rfl rfl rfl) bSEs_nil rfl) rfl)) (bSA_tup (bSAs_cons (bSA_var (i := 12) rfl (by decide +kernel) (.inr ⟨rfl, rfl⟩)) (bSAs_cons (bSA_var (i := 13) rfl (by decide +kernel) (.inl rfl)) bSAs_nil (fun _ => rfl)) (fun _ => rfl)) (n := 2) (fun _ => rfl) (fun _ => rfl)) (by intro env h; cases env; subst h; rfl) (by intro env h; cases env; subst h; rfl))
    bSXs_nil))
    (bSXs_cons (bSX_if (bST_bool (bSTs_or (bST_cmp (bSE_var (i := 12) rfl rfl rfl) (bSE_var (i := 13) rfl rfl rfl) rfl) (bSTs_or (bST_not (bST_val (bSE_call2 (fv := .ref 153) (c__law_is_like hK hC).sf (by decide) (bSEs_cons2 (bSE_var (i := 4) rfl rfl rfl) (bSEs_cons2 (bSE_var (i := 5) rfl rfl rfl) (bSEs_cons2 (bSE_var (i := 2) rfl rfl rfl) bSEs_nil rfl) rfl) rfl) (.inl (rw_K hK (f := fun K => nsIn K mainGlobals "_law_is_like") rfl)) (by rw [hK]; kernel_rfl) rfl rfl rfl) (fun _ _ => rfl))) bSTs_nil))) (bSXs_cons (bSX_ret bSE_bool)
    bSXs_nil) bSXs_nil)
    (bSXs_cons (bSX_asg_name (bSE_comp (ts := ["one"]) (cap := ["rows"]) (cp := [12]) (N := 1001) (tn := false) (bSE_var (i := 6) rfl rfl rfl) (bLoopOk_any (bSA_var (i := 0) rfl (by decide +kernel) (.inl rfl)) (bSIf_one (bST_cmp (bSE_var (i := 0) rfl rfl rfl) (bSE_comp (ts := ["row"]) (cap := []) (cp := []) (N := 1001) (tn := false) (bSE_var (i := 1) rfl rfl rfl) (bLoopOk_any (bSA_var (i := 0) rfl (by decide +kernel) (.inl rfl)) (bSIf_one (bST_cmp (bSE_idx (bSE_var (i := 0) rfl rfl rfl) bSE_int (fun _ _ => rfl)) (bSE_str (j := 2) rfl) rfl)) (bSE_idx (bSE_var (i := 0) rfl rfl rfl) bSE_int (fun _ _ => rfl)) (fun _ _ => rfl)) (fun _ _ => rfl) (Clos_none (fun _ => rfl)) rfl (by decide +kernel) (by decide +kernel) rfl (fun _ m => absurd m List.not_mem_nil) (by decide +kernel)) rfl)) (bSE_var (i := 0) rfl rfl rfl) (fun _ _ => rfl)) (fun _ _ => rfl) (Clos_one rfl (fun env c h => clos_one h rfl)) rfl (by decide +kernel) (by decide +kernel) rfl (by decide +kernel) (by decide +kernel)) (i := 6) rfl (by decide +kernel) (.inr ⟨rfl, rfl⟩) (by intro env h; cases env; subst h; rfl))
    (bSXs_cons (bSX_asg_name (bSE_bin (bSE_var (i := 6) rfl rfl rfl) (bSE_bin (bSE_lst (bSEs_cons2 (bSE_var (i := 10) rfl rfl rfl) bSEs_nil rfl)) (bSE_call2 (j := 0) (fv := (.type "int")) SF_int (Nat.zero_le _) (bSEs_cons2 (bSE_cmp (bSE_var (i := 12) rfl rfl rfl) (bSE_lst (bSEs_cons2 (bSE_tup (bSEs_cons2 (bSE_str (j := 1) rfl) bSEs_nil rfl)) bSEs_nil rfl)) rfl) bSEs_nil rfl) (.inr ⟨(rw_K hK (f := fun K => nsIn K mainGlobals "int") rfl), rfl, by decide⟩) rfl rfl rfl rfl))) (i := 6) rfl (by decide +kernel) (.inr ⟨rfl, rfl⟩) (by intro env h; cases env; subst h; rfl))
    (bSXs_cons (bSX_asg_name (bSE_bin (bSE_var (i := 7) rfl rfl rfl) (bSE_comp (ts := ["row"]) (cap := []) (cp := []) (N := 1001) (tn := false) (bSE_var (i := 12) rfl rfl rfl) (bLoopOk_any (bSA_var (i := 0) rfl (by decide +kernel) (.inl rfl)) (bSIf_one (bST_bool (bSTs_and (bST_cmp (bSE_idx (bSE_var (i := 0) rfl rfl rfl) bSE_int (fun _ _ => rfl)) (bSE_str (j := 0) rfl) rfl) (bSTs_and (bST_cmp (bSE_call2 (j := 0) (fv := (.builtin "len")) SF_len (Nat.zero_le _) (bSEs_cons2 (bSE_var (i := 0) rfl rfl rfl) bSEs_nil rfl) (.inr ⟨(rw_K hK (f := fun K => nsIn K mainGlobals "len") rfl), rfl, by decide⟩) rfl rfl rfl rfl) bSE_int rfl) bSTs_nil)))) (bSE_idx (bSE_var (i := 0) rfl rfl rfl) bSE_int (fun _ _ => rfl)) (fun _ _ => rfl)) (fun _ _ => rfl) (Clos_none (fun _ => rfl)) rfl (by decide +kernel) (by decide +kernel) rfl (fun _ m => absurd m List.not_mem_nil) (by decide +kernel))) (i := 7) rfl (by decide +kernel) (.inl rfl) (by intro env h; cases env; subst h; rfl))
    (bSXs_cons (bSX_asg_name (bSE_bin (bSE_var (i := 7) rfl rfl rfl) (bSE_comp (ts := ["row"]) (cap := []) (cp := []) (N := 1001) (tn := false) (bSE_var (i := 12) rfl rfl rfl) (bLoopOk_any (bSA_var (i := 0) rfl (by decide +kernel) (.inl rfl)) (bSIf_one (bST_bool (bSTs_and (bST_cmp (bSE_idx (bSE_var (i := 0) rfl rfl rfl) bSE_int (fun _ _ => rfl)) (bSE_str (j := 2) rfl) rfl) (bSTs_and (bST_cmp (bSE_idx (bSE_idx (bSE_var (i := 0) rfl rfl rfl) bSE_int (fun _ _ => rfl)) bSE_int (fun _ _ => rfl)) (bSE_str (j := 3) rfl) rfl) bSTs_nil)))) (bSE_idx (bSE_idx (bSE_var (i := 0) rfl rfl rfl) bSE_int (fun _ _ => rfl)) bSE_int (fun _ _ => rfl)) (fun _ _ => rfl)) (fun _ _ => rfl) (Clos_none (fun _ => rfl)) rfl (by decide +kernel) (by decide +kernel) rfl (fun _ m => absurd m List.not_mem_nil) (by decide +kernel))) (i := 7) rfl (by decide +kernel) (.inl rfl) (by intro env h; cases env; subst h; rfl))
    bSXs_nil))))))))) (fun _ _ => rfl) (fun _ _ _ => rfl))
  refine bSXs_cons ?s5 ?r5
  case s5 => exact (bSX_ret (bSE_cmp (bSE_var (i := 7) rfl rfl rfl) (bSE_to (bSE_var (i := 8) rfl rfl rfl) (bSE_call2 (j := 0) (fv := (.builtin "len")) SF_len (Nat.zero_le _) (bSEs_cons2 (bSE_var (i := 7) rfl rfl rfl) bSEs_nil rfl) (.inr ⟨(rw_K hK (f := fun K => nsIn K mainGlobals "len") rfl), rfl, by decide⟩) rfl rfl rfl rfl) (fun _ _ => rfl)) rfl))
  exact bSXs_nil
end L01
end Mine
end
theorem PySem.Challenge.cw_pc0013_01_holds : PySem.Challenge.rw_pc0013_01.Holds := by
  exact Mine.L01.fin Mine.L01.law_true
