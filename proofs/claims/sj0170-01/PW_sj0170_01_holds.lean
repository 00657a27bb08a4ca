import PyProof.Rows.All
import Wide.All
import OpenK.AllK
import Wide.FinOn
import PySem.Challenge.RW_sj0170_01
open PySem PySem.W PyProof.Rows PySem.Calls
set_option Elab.async false
set_option linter.all false
set_option compiler.extract_closed false
set_option maxRecDepth 100000
set_option maxHeartbeats 8000000
namespace Mine
open_top hd for PySem.Challenge.rw_sj0170_01
inductive PV where
  | none | bool (b : Bool) | int (i : Int) | str (x : Str) | tup (l : List PV) | obj (i : Nat) | raw (v : Value)

inductive AO where
  | list (l : List PV) | idict (l : List (Int × PV)) | tdict (l : List (List Int × PV))

mutual
inductive Rep (α : List Addr) (h : Heap) : Value → PV → Prop
  | none : Rep α h .none .none
  | bool (b : Bool) : Rep α h (.bool b) (.bool b)
  | int (i : Int) (t : Tok) : Rep α h (.int i t) (.int i)
  | str (x : Str) (t : Tok) : Rep α h (.str x t) (.str x)
  | tup {a : Addr} {vs : List Value} {n : Nat} {l : List PV} : h.get? a = some { cls := .type "tuple", data := .seq vs.toArray n } → RepL α h vs l → Rep α h (.ref a) (.tup l)
  | obj {a : Addr} {i : Nat} : α[i]? = some a → Rep α h (.ref a) (.obj i)
  | raw (v : Value) : Rep α h v (.raw v)
inductive RepL (α : List Addr) (h : Heap) : List Value → List PV → Prop
  | nil : RepL α h [] []
  | cons {v : Value} {d : PV} {vs : List Value} {ds : List PV} : Rep α h v d → RepL α h vs ds → RepL α h (v :: vs) (d :: ds)
end

def NoTup (o : Obj) : Prop := o.cls = .type "tuple" → ∀ xs n, o.data ≠ .seq xs n
def TupK (h h' : Heap) : Prop := ∀ a o, h.get? a = some o → ¬ NoTup o → h'.get? a = some o
theorem isTup_of {o : Obj} {xs : Array Value} {n : Nat} (hc : o.cls = .type "tuple") (hd : o.data = .seq xs n) : ¬ NoTup o := fun q => q hc xs n hd
theorem TupK.refl (h : Heap) : TupK h h := fun _ _ e _ => e
theorem TupK.trans {a b c : Heap} (x : TupK a b) (y : TupK b c) : TupK a c := fun p o e t => y p o (x p o e t) t
theorem TupK.of_keeps {h h' : Heap} (k : ∀ b o, h.get? b = some o → h'.get? b = some o) : TupK h h' := fun a o e _ => k a o e
theorem TupK.of_same {h h' : Heap} {a : Addr} {o : Obj} (s : Heap.SameBut a h h') (ho : h.get? a = some o) (hc : NoTup o) : TupK h h' :=
  fun b o' e t => (s.2 b fun q => by subst q; rw [ho] at e; cases e; exact t hc).trans e

theorem pre_get {α α' : List Addr} (p : α <+: α') {i : Nat} {a : Addr} (h : α[i]? = some a) : α'[i]? = some a := by
  obtain ⟨t, rfl⟩ := p
  rw [List.getElem?_append_left]
  · exact h
  · exact (List.getElem?_eq_some_iff.mp h).1

theorem nodup_inj {α : List Addr} (hn : α.Nodup) {i j : Nat} {a : Addr} (hi : α[i]? = some a) (hj : α[j]? = some a) : i = j := by
  obtain ⟨l1, e1⟩ := List.getElem?_eq_some_iff.mp hi
  obtain ⟨l2, e2⟩ := List.getElem?_eq_some_iff.mp hj
  have hp := List.pairwise_iff_getElem.mp hn
  rcases Nat.lt_trichotomy i j with q | q | q
  · exact absurd (e1.trans e2.symm) (hp i j l1 l2 q)
  · exact q
  · exact absurd (e2.trans e1.symm) (hp j i l2 l1 q)

section
variable {α α' : List Addr} {h h' : Heap}
theorem Rep.mono (p : α <+: α') (k : TupK h h') {v : Value} {d : PV} (r : Rep α h v d) : Rep α' h' v d :=
  Rep.rec (motive_1 := fun v d _ => Rep α' h' v d) (motive_2 := fun vs ds _ => RepL α' h' vs ds) .none .bool .int .str (fun e _ q => .tup (k _ _ e (isTup_of rfl rfl)) q) (fun e => .obj (pre_get p e)) .raw .nil (fun _ _ x q => .cons x q) r
theorem RepL.mono (p : α <+: α') (k : TupK h h') {vs : List Value} {ds : List PV} (r : RepL α h vs ds) : RepL α' h' vs ds :=
  RepL.rec (motive_1 := fun v d _ => Rep α' h' v d) (motive_2 := fun vs ds _ => RepL α' h' vs ds) .none .bool .int .str (fun e _ q => .tup (k _ _ e (isTup_of rfl rfl)) q) (fun e => .obj (pre_get p e)) .raw .nil (fun _ _ x q => .cons x q) r
theorem RepL.length {vs : List Value} {ds : List PV} (r : RepL α h vs ds) : vs.length = ds.length := by
  induction ds generalizing vs with
  | nil => cases r; rfl
  | cons d ds ih => cases r with | cons x r => simp [ih r]
theorem RepL.append {vs ws : List Value} {ds es : List PV} (r : RepL α h vs ds) (q : RepL α h ws es) : RepL α h (vs ++ ws) (ds ++ es) := by
  induction ds generalizing vs with
  | nil => cases r; exact q
  | cons d ds ih => cases r with | cons x r => exact .cons x (ih r)
theorem RepL.get {vs : List Value} {ds : List PV} (r : RepL α h vs ds) {i : Nat} {d : PV} (e : ds[i]? = some d) : ∃ v, vs[i]? = some v ∧ Rep α h v d := by
  induction ds generalizing vs i with
  | nil => simp at e
  | cons d' ds ih =>
    cases r with
    | cons x r =>
      cases i with
      | zero => simp at e; subst e; exact ⟨_, rfl, x⟩
      | succ i => simp at e; simpa using ih r e
theorem RepL.getV {vs : List Value} {ds : List PV} (r : RepL α h vs ds) {i : Nat} {v : Value} (e : vs[i]? = some v) : ∃ d, ds[i]? = some d ∧ Rep α h v d := by
  induction ds generalizing vs i with
  | nil => cases r; simp at e
  | cons d' ds ih =>
    cases r with
    | cons x r =>
      cases i with
      | zero => simp at e; subst e; exact ⟨_, rfl, x⟩
      | succ i => simp at e; simpa using ih r e
theorem RepL.drop {vs : List Value} {ds : List PV} (r : RepL α h vs ds) (k : Nat) : RepL α h (vs.drop k) (ds.drop k) := by
  induction k generalizing vs ds with
  | zero => simpa using r
  | succ k ih => cases r with
    | nil => simpa using RepL.nil
    | cons x r => simpa using ih r
theorem RepL.take {vs : List Value} {ds : List PV} (r : RepL α h vs ds) (k : Nat) : RepL α h (vs.take k) (ds.take k) := by
  induction k generalizing vs ds with
  | zero => simpa using RepL.nil
  | succ k ih => cases r with
    | nil => simpa using RepL.nil
    | cons x r => simpa using RepL.cons x (ih r)
theorem RepL.reverse {vs : List Value} {ds : List PV} (r : RepL α h vs ds) : RepL α h vs.reverse ds.reverse := by
  induction ds generalizing vs with
  | nil => cases r; exact .nil
  | cons d ds ih => cases r with
    | cons x r => simpa using (ih r).append (.cons x .nil)
theorem RepL.set {vs : List Value} {ds : List PV} (r : RepL α h vs ds) {i : Nat} {v : Value} {d : PV} (x : Rep α h v d) : RepL α h (vs.set i v) (ds.set i d) := by
  induction ds generalizing vs i with
  | nil => cases r; simpa using RepL.nil
  | cons d' ds ih =>
    cases r with
    | cons y r =>
      cases i with
      | zero => simpa using RepL.cons x r
      | succ i => simpa using RepL.cons y (ih r)
theorem RepL.eraseIdx {vs : List Value} {ds : List PV} (r : RepL α h vs ds) {i : Nat} : RepL α h (vs.eraseIdx i) (ds.eraseIdx i) := by
  induction ds generalizing vs i with
  | nil => cases r; simpa using RepL.nil
  | cons d' ds ih =>
    cases r with
    | cons y r =>
      cases i with
      | zero => simpa using r
      | succ i => simpa using RepL.cons y (ih r)
end

section
variable {α : List Addr} {h : Heap} {v : Value}
theorem Rep.obj' {i : Nat} (r : Rep α h v (.obj i)) : ∃ x, v = .ref x ∧ α[i]? = some x := by cases r with | obj e => exact ⟨_, rfl, e⟩
theorem Rep.int' {i : Int} (r : Rep α h v (.int i)) : ∃ t, v = .int i t := by cases r; exact ⟨_, rfl⟩
theorem Rep.str' {x : Str} (r : Rep α h v (.str x)) : ∃ t, v = .str x t := by cases r; exact ⟨_, rfl⟩
theorem Rep.bool' {b : Bool} (r : Rep α h v (.bool b)) : v = .bool b := by cases r; rfl
theorem Rep.none' (r : Rep α h v .none) : v = .none := by cases r; rfl
theorem Rep.tup' {l : List PV} (r : Rep α h v (.tup l)) : ∃ x xs m, v = .ref x ∧ h.get? x = some { cls := .type "tuple", data := .seq (List.toArray xs) m } ∧ RepL α h xs l := by cases r with | tup e r => exact ⟨_, _, _, rfl, e, r⟩
end
/-- what an abstract object is in the heap -/
def ObjRep (prog : Program) (w : World) (α : List Addr) (h : Heap) (a : Addr) : AO → Prop
  | .list l => ∃ vs n, h.get? a = some (listOf vs.toArray n) ∧ RepL α h vs l
  | .idict l => ∃ kvs : List (Int × Value), h.DictOf (intKind prog w) a kvs ∧ kvs.map (·.1) = l.map (·.1) ∧ RepL α h (kvs.map (·.2)) (l.map (·.2))
  | .tdict l => ∃ xs : List (List Int × Addr × Value), h.DictOfH (tupleKind (intKind prog w)) a xs ∧ xs.map (·.1) = l.map (·.1) ∧ RepL α h (xs.map (·.2.2)) (l.map (·.2))

section
variable {prog : Program} {w : World} {α α' : List Addr} {h h' : Heap} {a : Addr}
theorem ObjRep.live {ao : AO} (x : ObjRep prog w α h a ao) : ∃ o, h.get? a = some o ∧ NoTup o := by
  cases ao with
  | list l => obtain ⟨vs, n, e, _⟩ := x; exact ⟨_, e, fun q => absurd (show Value.type "list" = _ from q) (by decide)⟩
  | idict l =>
    obtain ⟨kvs, d, _⟩ := x
    obtain ⟨o, es, ep, ho, hx, hd, _⟩ := d
    exact ⟨o, ho, fun q => by rw [hx.1] at q; exact absurd q (by decide)⟩
  | tdict l =>
    obtain ⟨kvs, d, _⟩ := x
    obtain ⟨o, es, ep, ho, hx, hd, _⟩ := d
    exact ⟨o, ho, fun q => by rw [hx.1] at q; exact absurd q (by decide)⟩
theorem IsTupleKey.tupK {ks : List Int} {b : Addr} (x : IsTupleKey (intKind prog w) h ks b) (k : TupK h h') : IsTupleKey (intKind prog w) h' ks b := by
  obtain ⟨o, items, n, ho, hc, hd, r⟩ := x
  exact ⟨o, items, n, k _ _ ho (isTup_of hc hd), hc, hd, r⟩
theorem ObjRep.mono {ao : AO} (x : ObjRep prog w α h a ao) (e : ∀ o, h.get? a = some o → h'.get? a = some o) (k : TupK h h') (p : α <+: α') : ObjRep prog w α' h' a ao := by
  cases ao with
  | list l => obtain ⟨vs, n, g, r⟩ := x; exact ⟨vs, n, e _ g, r.mono p k⟩
  | idict l => obtain ⟨kvs, d, hk, r⟩ := x; exact ⟨kvs, d.at e, hk, r.mono p k⟩
  | tdict l =>
    obtain ⟨xs, ⟨o, es, ep, ho, hx, hd, he, hi, hn⟩, hk, r⟩ := x
    exact ⟨xs, ⟨o, es, ep, e _ ho, hx, hd, he, fun y hy => IsTupleKey.tupK (hi y hy) k, hn⟩, hk, r.mono p k⟩
end

/-- the abstract heap σ stands in h at the addresses α; h₀: what stood before and stays -/
structure St (prog : Program) (w : World) (h₀ : Heap) (α : List Addr) (σ : List AO) (h : Heap) : Prop where
  len : α.length = σ.length
  nd : α.Nodup
  objs : ∀ (i : Nat) (ao : AO) (a : Addr), σ[i]? = some ao → α[i]? = some a → ObjRep prog w α h a ao
  out : ∀ a ∈ α, h₀.get? a = none
  keep : ∀ b o, h₀.get? b = some o → h.get? b = some o
  sys : (∃ b o, sysModules < b ∧ h₀.get? b = some o) ∧ ∀ a ∈ α, sysModules < a

/-- from s to s': nothing but the objects of α and D has turned -/
structure Go (D α α' : List Addr) (s s' : Shared) : Prop where
  gens : s'.gens = s.gens
  drawn : s'.drawn = s.drawn
  os : s'.os = s.os
  pre : α <+: α'
  pres : ∀ b o, b ∉ α → b ∉ D → s.heap.get? b = some o → s'.heap.get? b = some o
  live : ∀ b o, s.heap.get? b = some o → ∃ o', s'.heap.get? b = some o'
  fresh : ∀ a ∈ α', a ∉ α → s.heap.get? a = none
  tup : TupK s.heap s'.heap

section
variable {prog : Program} {w : World} {h₀ : Heap} {α α' α'' D D' : List Addr} {σ σ' : List AO} {h h' : Heap} {s s' s'' : Shared}
theorem Go.refl (D α : List Addr) (s : Shared) : Go D α α s s := ⟨rfl, rfl, rfl, List.prefix_refl _, fun _ _ _ _ e => e, fun _ o e => ⟨o, e⟩, fun a h1 h2 => absurd h1 h2, TupK.refl _⟩
theorem Go.trans (x : Go D α α' s s') (y : Go D α' α'' s' s'') : Go D α α'' s s'' where
  gens := y.gens.trans x.gens
  drawn := y.drawn.trans x.drawn
  os := y.os.trans x.os
  pre := x.pre.trans y.pre
  pres := fun b o h1 h2 e => y.pres b o (fun q => by rw [x.fresh b q h1] at e; cases e) h2 (x.pres b o h1 h2 e)
  live := fun b o e => let ⟨o', e'⟩ := x.live b o e; y.live b o' e'
  fresh := fun a h1 h2 => by
    by_cases q : a ∈ α'
    · exact x.fresh a q h2
    · cases e : s.heap.get? a with
      | none => rfl
      | some o =>
        obtain ⟨o', e'⟩ := x.live a o e
        rw [y.fresh a h1 q] at e'; cases e'
  tup := x.tup.trans y.tup
theorem Go.weaken (x : Go D α α' s s') (k : ∀ b ∈ D, b ∈ D') : Go D' α α' s s' :=
  ⟨x.gens, x.drawn, x.os, x.pre, fun b o h1 h2 e => x.pres b o h1 (fun q => h2 (k b q)) e, x.live, x.fresh, x.tup⟩
theorem Go.nil (x : Go [] α α' s s') : Go D α α' s s' := x.weaken fun _ h => nomatch h
/-- a step that keeps all -/
theorem Go.keeps {hp : Heap} {tk : Nat} (k : ∀ b o, s.heap.get? b = some o → hp.get? b = some o) : Go D α α s { s with heap := hp, toks := tk } :=
  ⟨rfl, rfl, rfl, List.prefix_refl _, fun b o _ _ e => k b o e, fun b o e => ⟨o, k b o e⟩, fun a h1 h2 => absurd h1 h2, TupK.of_keeps k⟩
theorem Go.toks {tk : Nat} : Go D α α s { s with toks := tk } := Go.keeps (s := s) (hp := s.heap) (tk := tk) fun _ _ e => e

theorem St.live (S : St prog w h₀ α σ h) {a : Addr} (ha : a ∈ α) : ∃ o, h.get? a = some o ∧ NoTup o := by
  obtain ⟨i, hi, e⟩ := List.getElem_of_mem ha
  have hi' : i < σ.length := S.len ▸ hi
  exact (S.objs i _ a (List.getElem?_eq_getElem hi') (by rw [← e]; exact List.getElem?_eq_getElem hi)).live
theorem St.at (S : St prog w h₀ α σ h) {i : Nat} {ao : AO} (e : σ[i]? = some ao) : ∃ a, α[i]? = some a ∧ ObjRep prog w α h a ao := by
  have hi : i < σ.length := (List.getElem?_eq_some_iff.mp e).1
  have hi' : i < α.length := S.len ▸ hi
  exact ⟨_, List.getElem?_eq_getElem hi', S.objs i ao _ e (List.getElem?_eq_getElem hi')⟩
/-- a heap that keeps all objects -/
theorem St.keeps (S : St prog w h₀ α σ h) (k : ∀ b o, h.get? b = some o → h'.get? b = some o) : St prog w h₀ α σ h' :=
  ⟨S.len, S.nd, fun i ao a h1 h2 => (S.objs i ao a h1 h2).mono (fun o e => k a o e) (TupK.of_keeps k) (List.prefix_refl _), S.out, fun b o e => k b o (S.keep b o e), S.sys⟩
/-- one object, none of ours, has turned -/
theorem St.same (S : St prog w h₀ α σ h) {L : Addr} {o : Obj} (hs : Heap.SameBut L h h') (hL : L ∉ α) (h0 : h₀.get? L = none) (ho : h.get? L = some o) (hc : NoTup o) : St prog w h₀ α σ h' :=
  ⟨S.len, S.nd, fun i ao a h1 h2 => (S.objs i ao a h1 h2).mono (fun o e => (hs.2 a fun q => hL (q ▸ List.mem_of_getElem? h2)).trans e) (TupK.of_same hs ho hc) (List.prefix_refl _), S.out,
    fun b o e => (hs.2 b fun q => by rw [q, h0] at e; cases e).trans (S.keep b o e), S.sys⟩
/-- a new object -/
theorem St.loSize (S : St prog w h₀ α σ h) : sysModules < h.objs.size := by
  obtain ⟨b, o, hb, e⟩ := S.sys.1
  exact Nat.lt_trans hb (Heap.lt_size (S.keep b o e))
theorem St.new (S : St prog w h₀ α σ h) {a : Addr} {ao : AO} (k : ∀ b o, h.get? b = some o → h'.get? b = some o) (hn : h.get? a = none) (hr : ObjRep prog w (α ++ [a]) h' a ao) (hlo : sysModules < a) : St prog w h₀ (α ++ [a]) (σ ++ [ao]) h' := by
  have hna : a ∉ α := fun q => by obtain ⟨o, e, _⟩ := S.live q; rw [hn] at e; cases e
  refine ⟨by simp [S.len], ?_, ?_, ?_, fun b o e => k b o (S.keep b o e), ⟨S.sys.1, fun b hb => by
    rcases List.mem_append.mp hb with hb | hb
    · exact S.sys.2 b hb
    · simp at hb; subst hb; exact hlo⟩⟩
  · rw [List.nodup_append]
    exact ⟨S.nd, by simp, fun x hx y hy => by simp at hy; subst hy; exact fun q => hna (q ▸ hx)⟩
  · intro i ao' b h1 h2
    rcases Nat.lt_trichotomy i σ.length with q | q | q
    · rw [List.getElem?_append_left q] at h1
      rw [List.getElem?_append_left (S.len ▸ q)] at h2
      exact (S.objs i ao' b h1 h2).mono (fun o e => k b o e) (TupK.of_keeps k) (List.prefix_append _ _)
    · subst q
      rw [← S.len] at h2
      simp at h1 h2
      subst h1; subst h2
      exact hr
    · rw [List.getElem?_eq_none (by simp; (first | lia | omega))] at h1; cases h1
  · intro b hb
    rcases List.mem_append.mp hb with hb | hb
    · exact S.out b hb
    · simp at hb; subst hb
      cases e : h₀.get? b with
      | none => rfl
      | some o => have := S.keep b o e; rw [hn] at this; cases this
theorem Go.new {hp : Heap} {tk : Nat} {a : Addr} (k : ∀ b o, s.heap.get? b = some o → hp.get? b = some o) (hn : s.heap.get? a = none) : Go D α (α ++ [a]) s { s with heap := hp, toks := tk } :=
  ⟨rfl, rfl, rfl, List.prefix_append _ _, fun b o _ _ e => k b o e, fun b o e => ⟨o, k b o e⟩, fun b h1 h2 => by
    rcases List.mem_append.mp h1 with q | q
    · exact absurd q h2
    · simp at q; subst q; exact hn, TupK.of_keeps k⟩
/-- our object at place i has turned into ao -/
theorem St.put (S : St prog w h₀ α σ h) {i : Nat} {a : Addr} {ao : AO} (hi : α[i]? = some a) (hs : Heap.SameBut a h h') (hr : ObjRep prog w α h' a ao) : St prog w h₀ α (σ.set i ao) h' := by
  have ha := List.mem_of_getElem? hi
  obtain ⟨o, ho, hc⟩ := S.live ha
  refine ⟨by simp [S.len], S.nd, ?_, S.out, fun b o' e => (hs.2 b fun q => by subst q; rw [S.out _ ha] at e; cases e).trans (S.keep b o' e), S.sys⟩
  intro j ao' b h1 h2
  by_cases q : j = i
  · subst q
    rw [hi] at h2; cases h2
    have hl : j < σ.length := S.len ▸ (List.getElem?_eq_some_iff.mp hi).1
    rw [List.getElem?_set_self hl] at h1
    cases h1; exact hr
  · rw [List.getElem?_set_ne (Ne.symm q)] at h1
    have hne : b ≠ a := fun e => by
      subst e
      exact q (nodup_inj S.nd h2 hi)
    exact (S.objs j ao' b h1 h2).mono (fun o e => (hs.2 b hne).trans e) (TupK.of_same hs ho hc) (List.prefix_refl _)
theorem Go.put (S : St prog w h₀ α σ s.heap) {i : Nat} {a : Addr} {hp : Heap} {tk : Nat} (hi : α[i]? = some a) (hs : Heap.SameBut a s.heap hp) (hlive : ∃ o, hp.get? a = some o) : Go D α α s { s with heap := hp, toks := tk } := by
  have ha := List.mem_of_getElem? hi
  obtain ⟨o, ho, hc⟩ := S.live ha
  refine ⟨rfl, rfl, rfl, List.prefix_refl _, fun b o' hb _ e => (hs.2 b fun q => hb (q ▸ ha)).trans e, fun b o' e => ?_, fun b h1 h2 => absurd h1 h2, TupK.of_same hs ho hc⟩
  by_cases q : b = a
  · subst q; exact hlive
  · exact ⟨o', (hs.2 b q).trans e⟩
end

/-- a frame: what its names hold -/
structure Fm (h₀ : Heap) (env : Env) (ρ : List (Str × PV)) (α : List Addr) (h : Heap) : Prop where
  fn : env.scope.kind = .function
  gl : env.globals = mainGlobals
  bl : env.builtins = builtinsNs
  out : h₀.get? env.locals = none
  own : env.locals ∉ α
  ns : ∃ m, h.Ns env.locals m ∧ ∀ x d, ρ.lookup x = some d → env.kindOf x = some .local → ∃ v, m x = some v ∧ Rep α h v d
  cells : ∀ x, env.kindOf x = some .cell → ∃ c, env.cells.lookup x = some c ∧ c ∉ α ∧ c ≠ env.locals ∧ h₀.get? c = none ∧ ∃ u, h.IsCell c u ∧ ∀ d, ρ.lookup x = some d → ∃ v, u = some v ∧ Rep α h v d
  apart : ∀ x y c, env.cells.lookup x = some c → env.cells.lookup y = some c → x = y

theorem noTup_dict {o : Obj} {es : Array DictEntry} {n : Nat} (h : o.data = .dict es n) : NoTup o := fun _ xs k e => by rw [h] at e; cases e
theorem noTup_cell {o : Obj} {v : Option Value} (h : o.data = .cell v) : NoTup o := fun _ xs k e => by rw [h] at e; cases e
theorem ns_live {h : Heap} {L : Addr} {m : Str → Option Value} (x : h.Ns L m) : ∃ o, h.get? L = some o := let ⟨o, _, _, e, _⟩ := x; ⟨o, e⟩

section
variable {prog : Program} {w : World} {h₀ : Heap} {α α' D : List Addr} {σ : List AO} {h h' : Heap} {s s' : Shared} {env : Env} {ρ ρ' : List (Str × PV)}
/-- an expression's steps leave the frame as it is -/
theorem Fm.go (F : Fm h₀ env ρ α s.heap) (g : Go [] α α' s s') : Fm h₀ env ρ α' s'.heap := by
  have keepL : ∀ b o, b ∉ α → s.heap.get? b = some o → s'.heap.get? b = some o := fun b o hb e => g.pres b o hb (fun q => nomatch q) e
  have notin : ∀ b o, b ∉ α → s.heap.get? b = some o → b ∉ α' := fun b o hb e q => by rw [g.fresh b q hb] at e; cases e
  obtain ⟨m, hm, hv⟩ := F.ns
  obtain ⟨oL, hL⟩ := ns_live hm
  refine ⟨F.fn, F.gl, F.bl, F.out, notin _ _ F.own hL, ⟨m, hm.at' fun o e => keepL _ o F.own e, fun x d h1 h2 => ?_⟩, fun x hx => ?_, F.apart⟩
  · obtain ⟨v, e, r⟩ := hv x d h1 h2; exact ⟨v, e, r.mono g.pre g.tup⟩
  · obtain ⟨c, hc, h1, h2, h3, u, ⟨o, ho, hd⟩, h4⟩ := F.cells x hx
    exact ⟨c, hc, notin _ _ h1 ho, h2, h3, u, ⟨o, keepL _ _ h1 ho, hd⟩, fun d hd' => let ⟨v, e, r⟩ := h4 d hd'; ⟨v, e, r.mono g.pre g.tup⟩⟩
theorem Fm.weaken (F : Fm h₀ env ρ α h) (k : ∀ x d, ρ'.lookup x = some d → ρ.lookup x = some d) : Fm h₀ env ρ' α h :=
  ⟨F.fn, F.gl, F.bl, F.out, F.own, let ⟨m, hm, hv⟩ := F.ns; ⟨m, hm, fun x d e => hv x d (k x d e)⟩,
    fun x hx => let ⟨c, hc, h1, h2, h3, u, h4, h6⟩ := F.cells x hx; ⟨c, hc, h1, h2, h3, u, h4, fun d e => h6 d (k x d e)⟩, F.apart⟩
end

/-- room for calls -/
structure Room (n : Nat) (A : Around) : Prop where
  handled : A.handled = none
  depth : A.depth + n ≤ 400
  units : A.units + 10 * n ≤ 400
theorem Room.in1 {n : Nat} {A : Around} (r : Room (n + 1) A) : Room n A.in1 := ⟨r.handled, by have := r.depth; show A.depth + n ≤ 400; (first | lia | omega), by have := r.units; show A.units + 1 + 10 * n ≤ 400; (first | lia | omega)⟩
theorem Room.deeper {n : Nat} {A : Around} (r : Room (n + 1) A) (env : Env) : Room n (A.deeper env) := ⟨r.handled, by have := r.depth; show A.depth + 1 + n ≤ 400; (first | lia | omega), by have := r.units; show A.units + 3 + 10 * n ≤ 400; (first | lia | omega)⟩
theorem Room.le {n k : Nat} {A : Around} (r : Room n A) (h : k ≤ n) : Room k A := ⟨r.handled, by have := r.depth; (first | lia | omega), by have := r.units; (first | lia | omega)⟩
theorem Room.line {n : Nat} {A : Around} (r : Room n A) (k : Nat) (hk : k ≤ 9000) : A.units + k < cLine := by have := r.units; show A.units + k < 9900; (first | lia | omega)
theorem Room.deep {n : Nat} {A : Around} (r : Room n A) : A.depth < recursionLimit := by have := r.depth; show A.depth < 1000; (first | lia | omega)
/-- what the top has laid, as far as the rules ask -/
structure Base (h₀ : Heap) (fl : List (Str × Addr)) (bl : List Str) : Prop where
  names : ∃ mg mb, h₀.Ns mainGlobals mg ∧ h₀.Ns builtinsNs mb ∧ (∀ x f, fl.lookup x = some f → mg x = some (.ref f)) ∧ (∃ t, mg (Str.ofString "ORIGIN") = some (.int 0 t)) ∧
    (∀ x ∈ bl, mg x = none ∧ mb x = bootBuiltins x)
  lim : h₀.NoLimit
  funs : ∀ x f, fl.lookup x = some f → ∃ o fd, h₀.get? f = some o ∧ o.data = .func fd

/-- a def of the text -/
def FnAt (h₀ : Heap) (f : Addr) (names : List Str) (body : List Stmt) (scope : Scope) : Prop :=
  ∃ o fd, h₀.get? f = some o ∧ o.data = .func fd ∧ fd.body = .stmts body ∧ fd.scope = scope ∧ fd.globals = mainGlobals ∧ fd.closure = [] ∧ fd.builtins = builtinsNs ∧ h₀.CodeRec fd.code fd.qualname ∧
    ∀ vs : List Value, vs.length = names.length → bindArgs fd ⟨vs, []⟩ = pure (names.zip vs)

section
variable (prog : Program) (w : World) (h₀ : Heap)
def TV (A : Around) (t : Sem Value) (α : List Addr) (s : Shared) (P : PV → List AO → Prop) : Prop :=
  ∀ (E Q : Value → Shared → Prop), (∀ v d s' α' σ', Go [] α α' s s' → St prog w h₀ α' σ' s'.heap → Rep α' s'.heap v d → P d σ' → Q v s') → wpAny (model prog w) A t Q E s
def TB (A : Around) (t : Sem Bool) (α : List Addr) (s : Shared) (P : Bool → List AO → Prop) : Prop :=
  ∀ (E : Value → Shared → Prop) (Q : Bool → Shared → Prop), (∀ b s' α' σ', Go [] α α' s s' → St prog w h₀ α' σ' s'.heap → P b σ' → Q b s') → wpAny (model prog w) A t Q E s
def TU (A : Around) (t : Sem Unit) (α : List Addr) (s : Shared) (P : List AO → Prop) : Prop :=
  ∀ (E : Value → Shared → Prop) (Q : Unit → Shared → Prop), (∀ s' α' σ', Go [] α α' s s' → St prog w h₀ α' σ' s'.heap → P σ' → Q () s') → wpAny (model prog w) A t Q E s

def Ev (n : Nat) (sc : Scope) (e : Expr) (ρ : List (Str × PV)) (σ : List AO) (P : PV → List AO → Prop) : Prop :=
  ∀ (env : Env) (A : Around) (s : Shared) (α : List Addr), env.scope = sc → Room n A → Fm h₀ env ρ α s.heap → St prog w h₀ α σ s.heap → TV prog w h₀ A (eval e env) α s P
def EvL (n : Nat) (sc : Scope) (es : List Expr) (ρ : List (Str × PV)) (σ : List AO) (P : List PV → List AO → Prop) : Prop :=
  ∀ (env : Env) (A : Around) (s : Shared) (α : List Addr) (pos : Pos), env.scope = sc → Room n A → Fm h₀ env ρ α s.heap → St prog w h₀ α σ s.heap →
    ∀ (E : Value → Shared → Prop) (Q : List Value → Shared → Prop), (∀ vs ds s' α' σ', Go [] α α' s s' → St prog w h₀ α' σ' s'.heap → RepL α' s'.heap vs ds → P ds σ' → Q vs s') →
      wpAny (model prog w) A (spliced (backTo pos (starEach es env))) Q E s
def Tst (n : Nat) (sc : Scope) (e : Expr) (ρ : List (Str × PV)) (σ : List AO) (P : Bool → List AO → Prop) : Prop :=
  ∀ (env : Env) (A : Around) (s : Shared) (α : List Addr) (whole : Sem Value), whole = eval e env → env.scope = sc → Room n A → Fm h₀ env ρ α s.heap → St prog w h₀ α σ s.heap → TB prog w h₀ A (isTrue e env whole) α s P

def Bop (n : Nat) (op : Operator) (a b : PV) (σ : List AO) (P : PV → List AO → Prop) : Prop :=
  ∀ (A : Around) (s : Shared) (α : List Addr) (va vb : Value), Room n A → St prog w h₀ α σ s.heap → Rep α s.heap va a → Rep α s.heap vb b → TV prog w h₀ A (binaryOp op va vb) α s P
def Iop (n : Nat) (op : Operator) (a b : PV) (σ : List AO) (P : PV → List AO → Prop) : Prop :=
  ∀ (A : Around) (s : Shared) (α : List Addr) (va vb : Value), Room n A → St prog w h₀ α σ s.heap → Rep α s.heap va a → Rep α s.heap vb b → TV prog w h₀ A (inplaceOp op va vb) α s P
def Cmp (n : Nat) (op : CmpOp) (a b : PV) (σ : List AO) (P : PV → List AO → Prop) : Prop :=
  ∀ (A : Around) (s : Shared) (α : List Addr) (va vb : Value), Room n A → St prog w h₀ α σ s.heap → Rep α s.heap va a → Rep α s.heap vb b → TV prog w h₀ A (compareOp op va vb) α s P
def Itm (n : Nat) (a b : PV) (σ : List AO) (P : PV → List AO → Prop) : Prop :=
  ∀ (A : Around) (s : Shared) (α : List Addr) (va vb : Value), Room n A → St prog w h₀ α σ s.heap → Rep α s.heap va a → Rep α s.heap vb b →
    (∃ T id, s.TypeIs va T ∧ typeLookup (.type T) "__getitem__" = pure (some (.builtin id))) ∧ TV prog w h₀ A (getItem va vb) α s P
def SetI (n : Nat) (a b c : PV) (σ : List AO) (P : List AO → Prop) : Prop :=
  ∀ (A : Around) (s : Shared) (α : List Addr) (va vb vc : Value), Room n A → St prog w h₀ α σ s.heap → Rep α s.heap va a → Rep α s.heap vb b → Rep α s.heap vc c → TU prog w h₀ A (setItem va vb vc) α s P
def Tru (n : Nat) (a : PV) (σ : List AO) (P : Bool → List AO → Prop) : Prop :=
  ∀ (A : Around) (s : Shared) (α : List Addr) (va : Value), Room n A → St prog w h₀ α σ s.heap → Rep α s.heap va a → TB prog w h₀ A (truthy va) α s P
/-- a call of a value (a def, a built-in, a type) -/
def CallV (n : Nat) (f : Value) (ds : List PV) (σ : List AO) (P : PV → List AO → Prop) : Prop :=
  ∀ (A : Around) (s : Shared) (α : List Addr) (vs : List Value), Room n A → St prog w h₀ α σ s.heap → RepL α s.heap vs ds → TV prog w h₀ A (call f vs []) α s P
end

section
variable {prog : Program} {w : World} {h₀ : Heap} {n : Nat} {sc : Scope} {ρ : List (Str × PV)} {σ : List AO} {P : PV → List AO → Prop} {A : Around} {s : Shared} {α : List Addr}

theorem TV.here {v : Value} {d : PV} {t : Sem Value} (S : St prog w h₀ α σ s.heap) (r : Rep α s.heap v d) (p : P d σ)
    (h : ∀ (E Q : Value → Shared → Prop), Q v s → wpAny (model prog w) A t Q E s) : TV prog w h₀ A t α s P :=
  fun E Q hQ => h E Q (hQ v d s α σ (Go.refl _ _ _) S r p)

theorem ev_local {x : Str} {pos : Pos} {d : PV} (hx : ρ.lookup x = some d) (p : P d σ) (hl : sc.names.lookup x = some .local) (hd : (x == ("__debug__" : Str)) = false := by kernel_rfl) :
    Ev prog w h₀ n sc (.Name x pos) ρ σ P := by
  intro env A s α hsc hr F S
  obtain ⟨m, hm, hv⟩ := F.ns
  have hk : env.kindOf x = some .local := by unfold Env.kindOf; rw [hsc]; exact hl
  obtain ⟨v, e, r⟩ := hv x d hx hk
  exact TV.here S r p fun E Q q => wpAny_Name (wpAny_loadName_local F.fn hk hm e q) hd
theorem ev_cell {x : Str} {pos : Pos} {d : PV} (hx : ρ.lookup x = some d) (p : P d σ) (hl : sc.names.lookup x = some .cell) (hd : (x == ("__debug__" : Str)) = false := by kernel_rfl) :
    Ev prog w h₀ n sc (.Name x pos) ρ σ P := by
  intro env A s α hsc hr F S
  have hk : env.kindOf x = some .cell := by unfold Env.kindOf; rw [hsc]; exact hl
  obtain ⟨c, hc, _, _, _, u, hcell, hv⟩ := F.cells x hk
  obtain ⟨v, rfl, r⟩ := hv d hx
  exact TV.here S r p fun E Q q => wpAny_Name (wpAny_loadName_cell F.fn hk hc hcell q) hd
theorem ev_int {i : Int} {k : Nat} {pos : Pos} (p : P (.int i) σ) : Ev prog w h₀ n sc (.Constant (.int i) k pos) ρ σ P :=
  fun env A s α hsc hr F S E Q hQ => wpAny_Constant_int (hQ _ (.int i) { s with toks := s.toks + 1 } α σ Go.toks S (.int i _) p)
theorem ev_str {x : Str} {k : Nat} {pos : Pos} (p : P (.str x) σ) : Ev prog w h₀ n sc (.Constant (.str x) k pos) ρ σ P :=
  fun env A s α hsc hr F S E Q hQ => Calls.Constant_str (hQ _ (.str x) { s with toks := s.toks + 1 } α σ Go.toks S (.str x _) p)
theorem ev_bool {b : Bool} {k : Nat} {pos : Pos} (p : P (.bool b) σ) : Ev prog w h₀ n sc (.Constant (.bool b) k pos) ρ σ P :=
  fun env A s α hsc hr F S E Q hQ => PyProof.Rows.Constant_bool (hQ _ (.bool b) s α σ (Go.refl _ _ _) S (.bool b) p)

theorem evl_nil {P : List PV → List AO → Prop} (p : P [] σ) : EvL prog w h₀ n sc [] ρ σ P :=
  fun env A s α pos hsc hr F S E Q hQ => spliced_none (hQ [] [] s α σ (Go.refl _ _ _) S .nil p)
theorem evl_cons {P : List PV → List AO → Prop} {e : Expr} {es : List Expr} (h : Ev prog w h₀ n sc e ρ σ fun d σ₁ => EvL prog w h₀ n sc es ρ σ₁ fun ds σ₂ => P (d :: ds) σ₂)
    (he : ∀ env, starEach (e :: es) env = (false, eval e env) :: starEach es env := by intro _; with_unfolding_all rfl) : EvL prog w h₀ n sc (e :: es) ρ σ P := by
  intro env A s α pos hsc hr F S E Q hQ
  refine spliced_more ?_ (he env)
  refine h env A s α hsc hr F S _ _ fun v d s₁ α₁ σ₁ g₁ S₁ r₁ p₁ => ?_
  refine p₁ env A s₁ α₁ pos hsc hr (F.go g₁) S₁ _ _ fun vs ds s₂ α₂ σ₂ g₂ S₂ r₂ p₂ => ?_
  exact hQ _ _ s₂ α₂ σ₂ (g₁.trans g₂) S₂ (.cons (r₁.mono g₂.pre g₂.tup) r₂) p₂

theorem Heap.size_fresh (h : Heap) : h.get? h.objs.size = none := by
  cases e : h.get? h.objs.size with
  | none => rfl
  | some o => exact absurd (Heap.lt_size e) (Nat.lt_irrefl _)
theorem ev_tuple {es : List Expr} {k : Nat} {pos : Pos} (h : EvL prog w h₀ n sc es ρ σ fun ds σ₁ => ds.length ≤ 1000 ∧ P (.tup ds) σ₁) : Ev prog w h₀ n sc (.Tuple es k pos) ρ σ P := by
  intro env A s α hsc hr F S E Q hQ
  refine Tuple_ (h env A s α pos hsc hr F S _ _ fun vs ds s₁ α₁ σ₁ g₁ S₁ r₁ p₁ => ?_)
  refine wpAny_newTuple ?_ (by have := r₁.length; have := p₁.1; rw [sizeLine_eq]; (first | lia | omega))
  have k := fun b o (e : s₁.heap.get? b = some o) => Heap.get?_push_of_some ({ cls := .type "tuple", data := .seq vs.toArray } : Obj) e
  exact hQ _ (.tup ds) { s₁ with heap := s₁.heap.push { cls := .type "tuple", data := .seq vs.toArray } } α₁ σ₁ (g₁.trans (Go.keeps (tk := s₁.toks) k)) (S₁.keeps k) (.tup (Heap.get?_push_size _ rfl) (r₁.mono (List.prefix_refl _) (TupK.of_keeps k))) p₁.2
theorem ev_list {es : List Expr} {pos : Pos} (h : EvL prog w h₀ n sc es ρ σ fun ds σ₁ => ds.length ≤ 1000 ∧ P (.obj σ₁.length) (σ₁ ++ [.list ds])) : Ev prog w h₀ n sc (.List es pos) ρ σ P := by
  intro env A s α hsc hr F S E Q hQ
  refine List_ (h env A s α pos hsc hr F S _ _ fun vs ds s₁ α₁ σ₁ g₁ S₁ r₁ p₁ => ?_)
  refine wpAny_newList ?_ (by have := r₁.length; have := p₁.1; rw [sizeLine_eq]; (first | lia | omega))
  have k := fun b o (e : s₁.heap.get? b = some o) => Heap.get?_push_of_some ({ cls := .type "list", data := .seq vs.toArray } : Obj) e
  refine hQ _ (.obj σ₁.length) { s₁ with heap := s₁.heap.push { cls := .type "list", data := .seq vs.toArray } } (α₁ ++ [s₁.heap.objs.size]) (σ₁ ++ [.list ds]) (g₁.trans (Go.new (tk := s₁.toks) k (Heap.size_fresh _)))
    (S₁.new (ao := .list ds) k (Heap.size_fresh _) ⟨vs, 0, Heap.get?_push_size _ rfl, r₁.mono (List.prefix_append _ _) (TupK.of_keeps k)⟩ S₁.loSize) (.obj ?_) p₁.2
  rw [← S₁.len]; simp
theorem ev_dictI {pos : Pos} (p : P (.obj σ.length) (σ ++ [.idict []])) : Ev prog w h₀ n sc (.Dict [] [] pos) ρ σ P := by
  intro env A s α hsc hr F S E Q hQ
  refine wpAny_Dict_empty ?_
  have k := fun b o (e : s.heap.get? b = some o) => Heap.get?_push_of_some ({ cls := .type "dict", data := .dict #[] } : Obj) e
  refine hQ _ (.obj σ.length) { s with heap := s.heap.push { cls := .type "dict", data := .dict #[] } } (α ++ [s.heap.objs.size]) (σ ++ [.idict []]) (Go.new (tk := s.toks) k (Heap.size_fresh _))
    (S.new (ao := .idict []) k (Heap.size_fresh _) ⟨[], Heap.DictOf.new _, rfl, .nil⟩ S.loSize) (.obj ?_) p
  rw [← S.len]; simp
theorem ev_dictT {pos : Pos} (p : P (.obj σ.length) (σ ++ [.tdict []])) : Ev prog w h₀ n sc (.Dict [] [] pos) ρ σ P := by
  intro env A s α hsc hr F S E Q hQ
  refine wpAny_Dict_empty ?_
  have k := fun b o (e : s.heap.get? b = some o) => Heap.get?_push_of_some ({ cls := .type "dict", data := .dict #[] } : Obj) e
  refine hQ _ (.obj σ.length) { s with heap := s.heap.push { cls := .type "dict", data := .dict #[] } } (α ++ [s.heap.objs.size]) (σ ++ [.tdict []]) (Go.new (tk := s.toks) k (Heap.size_fresh _))
    (S.new (ao := .tdict []) k (Heap.size_fresh _) ⟨[], Heap.DictOfH.new _, rfl, .nil⟩ S.loSize) (.obj ?_) p
  rw [← S.len]; simp

theorem ev_binop {l r : Expr} {op : Operator} {pos : Pos} (h : Ev prog w h₀ n sc l ρ σ fun a σ₁ => Ev prog w h₀ n sc r ρ σ₁ fun b σ₂ => Bop prog w h₀ n op a b σ₂ P) :
    Ev prog w h₀ n sc (.BinOp l op r pos) ρ σ P := by
  intro env A s α hsc hr F S E Q hQ
  refine wpAny_BinOp (h env A s α hsc hr F S _ _ fun va a s₁ α₁ σ₁ g₁ S₁ r₁ p₁ => ?_)
  refine p₁ env A s₁ α₁ hsc hr (F.go g₁) S₁ _ _ fun vb b s₂ α₂ σ₂ g₂ S₂ r₂ p₂ => ?_
  exact p₂ A s₂ α₂ va vb hr S₂ (r₁.mono g₂.pre g₂.tup) r₂ _ _ fun v d s' α' σ' g S r p => hQ v d s' α' σ' (g₁.trans (g₂.trans g)) S r p
theorem ev_cmp {l r : Expr} {op : CmpOp} {pos : Pos} (h : Ev prog w h₀ n sc l ρ σ fun a σ₁ => Ev prog w h₀ n sc r ρ σ₁ fun b σ₂ => Cmp prog w h₀ n op a b σ₂ P)
    (hm : behindInMarks op r = false := by with_unfolding_all rfl) : Ev prog w h₀ n sc (.Compare l [op] [r] pos) ρ σ P := by
  intro env A s α hsc hr F S E Q hQ
  refine wpAny_Compare1 (h env A s α hsc hr F S _ _ fun va a s₁ α₁ σ₁ g₁ S₁ r₁ p₁ => ?_) hm
  refine p₁ env A s₁ α₁ hsc hr (F.go g₁) S₁ _ _ fun vb b s₂ α₂ σ₂ g₂ S₂ r₂ p₂ => ?_
  exact p₂ A s₂ α₂ va vb hr S₂ (r₁.mono g₂.pre g₂.tup) r₂ _ _ fun v d s' α' σ' g S r p => hQ v d s' α' σ' (g₁.trans (g₂.trans g)) S r p
theorem tst_cmp {P : Bool → List AO → Prop} {l r : Expr} {op : CmpOp} {pos : Pos} (h : Ev prog w h₀ n sc l ρ σ fun a σ₁ => Ev prog w h₀ n sc r ρ σ₁ fun b σ₂ => Cmp prog w h₀ n op a b σ₂ fun d σ₃ => ∃ c, d = .bool c ∧ P c σ₃)
    (hm : behindInMarks op r = false := by with_unfolding_all rfl) : Tst prog w h₀ n sc (.Compare l [op] [r] pos) ρ σ P := by
  intro env A s α whole hw hsc hr F S E Q hQ
  refine wpAny_isTrue_Compare1 (h env A s α hsc hr F S _ _ fun va a s₁ α₁ σ₁ g₁ S₁ r₁ p₁ => ?_) hm
  refine p₁ env A s₁ α₁ hsc hr (F.go g₁) S₁ _ _ fun vb b s₂ α₂ σ₂ g₂ S₂ r₂ p₂ => ?_
  refine p₂ A s₂ α₂ va vb hr S₂ (r₁.mono g₂.pre g₂.tup) r₂ _ _ fun v d s' α' σ' g S r p => ?_
  obtain ⟨c, rfl, p⟩ := p
  cases r
  exact wpAny_truthy_bool (hQ c s' α' σ' (g₁.trans (g₂.trans g)) S p)
theorem tst_not {P : Bool → List AO → Prop} {e : Expr} {pos : Pos} (h : Tst prog w h₀ n sc e ρ σ fun b σ₁ => P (!b) σ₁) : Tst prog w h₀ n sc (.UnaryOp .Not e pos) ρ σ P := by
  intro env A s α whole hw hsc hr F S E Q hQ
  exact PyProof.Rows.isTrue_not (h env A s α _ rfl hsc hr F S _ _ fun b s' α' σ' g S p => hQ _ s' α' σ' g S p)
theorem tst_and_nil {P : Bool → List AO → Prop} {pos : Pos} (p : P true σ) : Tst prog w h₀ n sc (.BoolOp .And [] pos) ρ σ P :=
  fun env A s α whole hw hsc hr F S E Q hQ => PyProof.Rows.isTrue_and_nil (hQ true s α σ (Go.refl _ _ _) S p)
theorem tst_or_nil {P : Bool → List AO → Prop} {pos : Pos} (p : P false σ) : Tst prog w h₀ n sc (.BoolOp .Or [] pos) ρ σ P :=
  fun env A s α whole hw hsc hr F S E Q hQ => PyProof.Rows.isTrue_or_nil (hQ false s α σ (Go.refl _ _ _) S p)
end
section
variable {prog : Program} {w : World} {h₀ : Heap} {n : Nat} {sc : Scope} {ρ : List (Str × PV)} {σ : List AO} {P : PV → List AO → Prop} {A : Around} {s : Shared} {α : List Addr}

theorem tst_and {P : Bool → List AO → Prop} {e : Expr} {rest : List Expr} {pos : Pos}
    (h : Tst prog w h₀ n sc e ρ σ fun b σ₁ => (b = true → Tst prog w h₀ n sc (.BoolOp .And rest pos) ρ σ₁ P) ∧ (b = false → P false σ₁)) : Tst prog w h₀ n sc (.BoolOp .And (e :: rest) pos) ρ σ P := by
  intro env A s α whole hw hsc hr F S E Q hQ
  refine PyProof.Rows.isTrue_and (h env A s α _ rfl hsc hr F S _ _ fun b s₁ α₁ σ₁ g₁ S₁ p₁ => ?_)
  cases b with
  | false => exact hQ false s₁ α₁ σ₁ g₁ S₁ (p₁.2 rfl)
  | true =>
    have q := p₁.1 rfl env A s₁ α₁ _ rfl hsc hr (F.go g₁) S₁ E Q fun b s' α' σ' g S p => hQ b s' α' σ' (g₁.trans g) S p
    simp only [arm_isTrue_BoolOp] at q ⊢
    exact q
theorem tst_or {P : Bool → List AO → Prop} {e : Expr} {rest : List Expr} {pos : Pos}
    (h : Tst prog w h₀ n sc e ρ σ fun b σ₁ => (b = false → Tst prog w h₀ n sc (.BoolOp .Or rest pos) ρ σ₁ P) ∧ (b = true → P true σ₁)) : Tst prog w h₀ n sc (.BoolOp .Or (e :: rest) pos) ρ σ P := by
  intro env A s α whole hw hsc hr F S E Q hQ
  refine PyProof.Rows.isTrue_or (h env A s α _ rfl hsc hr F S _ _ fun b s₁ α₁ σ₁ g₁ S₁ p₁ => ?_)
  cases b with
  | true => exact hQ true s₁ α₁ σ₁ g₁ S₁ (p₁.2 rfl)
  | false =>
    have q := p₁.1 rfl env A s₁ α₁ _ rfl hsc hr (F.go g₁) S₁ E Q fun b s' α' σ' g S p => hQ b s' α' σ' (g₁.trans g) S p
    simp only [arm_isTrue_BoolOp] at q ⊢
    exact q
/-- a test that is a value: truthy of it -/
theorem tst_val {P : Bool → List AO → Prop} {e : Expr} (h : Ev prog w h₀ n sc e ρ σ fun d σ₁ => Tru prog w h₀ n d σ₁ P)
    (he : ∀ env whole, isTrue e env whole = (do let v ← whole; standAt e.pos; holding [v] (truthy v)) := by intro _ _; with_unfolding_all rfl) : Tst prog w h₀ n sc e ρ σ P := by
  intro env A s α whole hw hsc hr F S E Q hQ
  subst hw
  refine PyProof.Rows.isTrue_plain (h env A s α hsc hr F S _ _ fun v d s₁ α₁ σ₁ g₁ S₁ r₁ p₁ => ?_) (he env _)
  exact p₁ A s₁ α₁ v hr S₁ r₁ _ _ fun b s' α' σ' g S p => hQ b s' α' σ' (g₁.trans g) S p
theorem tru_bool {P : Bool → List AO → Prop} {b : Bool} (p : P b σ) : Tru prog w h₀ n (.bool b) σ P := by
  intro A s α va hr S r E Q hQ
  cases r
  exact wpAny_truthy_bool (hQ b s α σ (Go.refl _ _ _) S p)

theorem ev_ifexp {test body orelse : Expr} {pos : Pos} (h : Tst prog w h₀ n sc test ρ σ fun b σ₁ => (b = true → Ev prog w h₀ n sc body ρ σ₁ P) ∧ (b = false → Ev prog w h₀ n sc orelse ρ σ₁ P)) :
    Ev prog w h₀ n sc (.IfExp test body orelse pos) ρ σ P := by
  intro env A s α hsc hr F S E Q hQ
  refine PyProof.Rows.IfExp_ (h env A s α _ rfl hsc hr F S _ _ fun b s₁ α₁ σ₁ g₁ S₁ p₁ => ?_)
  cases b with
  | true => exact p₁.1 rfl env A s₁ α₁ hsc hr (F.go g₁) S₁ _ _ fun v d s' α' σ' g S r p => hQ v d s' α' σ' (g₁.trans g) S r p
  | false => exact p₁.2 rfl env A s₁ α₁ hsc hr (F.go g₁) S₁ _ _ fun v d s' α' σ' g S r p => hQ v d s' α' σ' (g₁.trans g) S r p
theorem ev_boolop_one {op : BoolOp} {e : Expr} {pos : Pos} (h : Ev prog w h₀ n sc e ρ σ P) : Ev prog w h₀ n sc (.BoolOp op [e] pos) ρ σ P :=
  fun env A s α hsc hr F S E Q hQ => PyProof.Rows.BoolOp_one (h env A s α hsc hr F S E Q hQ)
theorem ev_and {e e₂ : Expr} {rest : List Expr} {pos : Pos}
    (h : Ev prog w h₀ n sc e ρ σ fun d σ₁ => ∃ b, d = .bool b ∧ (b = true → Ev prog w h₀ n sc (.BoolOp .And (e₂ :: rest) pos) ρ σ₁ P) ∧ (b = false → P (.bool false) σ₁)) : Ev prog w h₀ n sc (.BoolOp .And (e :: e₂ :: rest) pos) ρ σ P := by
  intro env A s α hsc hr F S E Q hQ
  refine PyProof.Rows.BoolOp_and (h env A s α hsc hr F S _ _ fun v d s₁ α₁ σ₁ g₁ S₁ r₁ p₁ => ?_)
  obtain ⟨b, rfl, p1, p2⟩ := p₁
  cases r₁
  refine wpAny_truthy_bool ?_
  cases b with
  | true => exact p1 rfl env A s₁ α₁ hsc hr (F.go g₁) S₁ _ _ fun v d s' α' σ' g S r p => hQ v d s' α' σ' (g₁.trans g) S r p
  | false => exact hQ _ (.bool false) s₁ α₁ σ₁ g₁ S₁ (.bool false) (p2 rfl)
theorem ev_or {e e₂ : Expr} {rest : List Expr} {pos : Pos}
    (h : Ev prog w h₀ n sc e ρ σ fun d σ₁ => ∃ b, d = .bool b ∧ (b = false → Ev prog w h₀ n sc (.BoolOp .Or (e₂ :: rest) pos) ρ σ₁ P) ∧ (b = true → P (.bool true) σ₁)) : Ev prog w h₀ n sc (.BoolOp .Or (e :: e₂ :: rest) pos) ρ σ P := by
  intro env A s α hsc hr F S E Q hQ
  refine PyProof.Rows.BoolOp_or (h env A s α hsc hr F S _ _ fun v d s₁ α₁ σ₁ g₁ S₁ r₁ p₁ => ?_)
  obtain ⟨b, rfl, p1, p2⟩ := p₁
  cases r₁
  refine wpAny_truthy_bool ?_
  cases b with
  | false => exact p1 rfl env A s₁ α₁ hsc hr (F.go g₁) S₁ _ _ fun v d s' α' σ' g S r p => hQ v d s' α' σ' (g₁.trans g) S r p
  | true => exact hQ _ (.bool true) s₁ α₁ σ₁ g₁ S₁ (.bool true) (p2 rfl)

theorem ev_sub {value slice : Expr} {pos : Pos} (h : Ev prog w h₀ n sc value ρ σ fun a σ₁ => Ev prog w h₀ n sc slice ρ σ₁ fun b σ₂ => Itm prog w h₀ n a b σ₂ P)
    (hs : ∀ o i, subscripted slice false o i = operate [o, i] (getItem o i) := by intro _ _; with_unfolding_all rfl) : Ev prog w h₀ n sc (.Subscript value slice pos) ρ σ P := by
  intro env A s α hsc hr F S E Q hQ
  refine Subscript_ (h env A s α hsc hr F S _ _ fun va a s₁ α₁ σ₁ g₁ S₁ r₁ p₁ => ?_)
  refine p₁ env A s₁ α₁ hsc hr (F.go g₁) S₁ _ _ fun vb b s₂ α₂ σ₂ g₂ S₂ r₂ p₂ => ?_
  obtain ⟨⟨T, id, hT, hl⟩, hg⟩ := p₂ A s₂ α₂ va vb hr S₂ (r₁.mono g₂.pre g₂.tup) r₂
  exact tail_any hT hl (hg _ _ fun v d s' α' σ' g S r p => hQ v d s' α' σ' (g₁.trans (g₂.trans g)) S r p) (hs va vb)

/-- a def's call -/
theorem ev_call {fl : List (Str × Addr)} {bl : List Str} {x : Str} {f : Addr} {e : Expr} {rest : List Expr} {np pos : Pos} (B : Base h₀ fl bl := by assumption) (hx : fl.lookup x = some f) (hk : sc.names.lookup x = some .globalImplicit := by kernel_rfl)
    (hd : (x == ("__debug__" : Str)) = false := by kernel_rfl) (h : EvL prog w h₀ n sc (e :: rest) ρ σ fun ds σ' => CallV prog w h₀ n (.ref f) ds σ' P)
    (he : ∀ env, starEach (e :: rest) env = (false, eval e env) :: starEach rest env := by intro _; with_unfolding_all rfl) : Ev prog w h₀ n sc (.Call (.Name x np) (e :: rest) [] pos) ρ σ P := by
  intro env A s α hsc hr F S E Q hQ
  obtain ⟨mg, mb, hg, hb, hf, _, _⟩ := B.names
  obtain ⟨o, fd, ho, hdat⟩ := B.funs x f hx
  refine Call_ (wpAny_Name (ks_loadName_global F.fn (by unfold Env.kindOf; rw [hsc]; exact hk) (Calls.loadGlobal_global (mg := mg) (by rw [F.gl]; exact hg.keeps S.keep) (hf x f hx) ?_)) hd)
  refine callWith_def (o := o) (fd := fd) hdat ?_ (he env)
  refine h env A s α pos hsc hr F S _ _ fun vs ds s₁ α₁ σ₁ g₁ S₁ r₁ p₁ => ⟨S₁.keep f o ho, ?_⟩
  exact p₁ A s₁ α₁ vs hr S₁ r₁ _ _ fun v d s' α' σ' g S r p => hQ v d s' α' σ' (g₁.trans g) S r p
theorem ev_origin {fl : List (Str × Addr)} {bl : List Str} {pos : Pos} (B : Base h₀ fl bl := by assumption) (hk : sc.names.lookup (Str.ofString "ORIGIN") = some .globalImplicit := by kernel_rfl) (p : P (.int 0) σ) :
    Ev prog w h₀ n sc (.Name (Str.ofString "ORIGIN") pos) ρ σ P := by
  intro env A s α hsc hr F S E Q hQ
  obtain ⟨mg, mb, hg, hb, hf, ⟨t, ht⟩, _⟩ := B.names
  exact wpAny_Name (ks_loadName_global F.fn (by unfold Env.kindOf; rw [hsc]; exact hk) (Calls.loadGlobal_global (mg := mg) (by rw [F.gl]; exact hg.keeps S.keep) ht (hQ _ (.int 0) s α σ (Go.refl _ _ _) S (.int 0 t) p))) (by decide)
/-- a built-in's call, a type's call -/
theorem ev_builtin {fl : List (Str × Addr)} {bl : List Str} {x : Str} {id : String} {e : Expr} {rest : List Expr} {np pos : Pos} (B : Base h₀ fl bl) (hx : x ∈ bl) (hv : bootBuiltins x = some (.builtin id)) (hk : sc.names.lookup x = some .globalImplicit)
    (hd : (x == ("__debug__" : Str)) = false) (h : EvL prog w h₀ n sc (e :: rest) ρ σ fun ds σ' => CallV prog w h₀ n (.builtin id) ds σ' P)
    (he : ∀ env, starEach (e :: rest) env = (false, eval e env) :: starEach rest env := by intro _; with_unfolding_all rfl) (hp : ∀ env pos, (backTo pos (starEach rest env)).any (·.1) = false := by intro _ _; with_unfolding_all rfl) : Ev prog w h₀ n sc (.Call (.Name x np) (e :: rest) [] pos) ρ σ P := by
  intro env A s α hsc hr F S E Q hQ
  obtain ⟨mg, mb, hg, hb, _, _, hbl⟩ := B.names
  refine Call_ (wpAny_Name (ks_loadName_global F.fn (by unfold Env.kindOf; rw [hsc]; exact hk) (Calls.loadGlobal_builtin (mg := mg) (mb := mb) (by rw [F.gl]; exact hg.keeps S.keep) (hbl x hx).1 (by rw [F.bl]; exact hb.keeps S.keep) ((hbl x hx).2.trans hv) ?_)) hd)
  refine PyProof.Rows.callWith_builtin1 ?_ (he env) (hp env pos)
  refine h env A s α pos hsc hr F S _ _ fun vs ds s₁ α₁ σ₁ g₁ S₁ r₁ p₁ => ?_
  exact p₁ A s₁ α₁ vs hr S₁ r₁ _ _ fun v d s' α' σ' g S r p => hQ v d s' α' σ' (g₁.trans g) S r p
theorem ev_type {fl : List (Str × Addr)} {bl : List Str} {x : Str} {id : String} {e : Expr} {rest : List Expr} {np pos : Pos} (B : Base h₀ fl bl) (hx : x ∈ bl) (hv : bootBuiltins x = some (.type id)) (hk : sc.names.lookup x = some .globalImplicit)
    (hd : (x == ("__debug__" : Str)) = false) (h : EvL prog w h₀ n sc (e :: rest) ρ σ fun ds σ' => CallV prog w h₀ n (.type id) ds σ' P)
    (he : ∀ env, starEach (e :: rest) env = (false, eval e env) :: starEach rest env := by intro _; with_unfolding_all rfl) (hp : ∀ env pos, (backTo pos (starEach rest env)).any (·.1) = false := by intro _ _; with_unfolding_all rfl) : Ev prog w h₀ n sc (.Call (.Name x np) (e :: rest) [] pos) ρ σ P := by
  intro env A s α hsc hr F S E Q hQ
  obtain ⟨mg, mb, hg, hb, _, _, hbl⟩ := B.names
  refine Call_ (wpAny_Name (ks_loadName_global F.fn (by unfold Env.kindOf; rw [hsc]; exact hk) (Calls.loadGlobal_builtin (mg := mg) (mb := mb) (by rw [F.gl]; exact hg.keeps S.keep) (hbl x hx).1 (by rw [F.bl]; exact hb.keeps S.keep) ((hbl x hx).2.trans hv) ?_)) hd)
  refine PyProof.Rows.callWith_type1 ?_ (he env) (hp env pos)
  refine h env A s α pos hsc hr F S _ _ fun vs ds s₁ α₁ σ₁ g₁ S₁ r₁ p₁ => ?_
  exact p₁ A s₁ α₁ vs hr S₁ r₁ _ _ fun v d s' α' σ' g S r p => hQ v d s' α' σ' (g₁.trans g) S r p
end
inductive Fl where
  | next
  | ret (d : PV)
def FlRep (α : List Addr) (h : Heap) : Flow → Fl → Prop
  | .next, .next => True
  | .ret v, .ret d => Rep α h v d
  | _, _ => False
def cellsOf (env : Env) : List Addr := env.scope.names.filterMap fun p => if env.kindOf p.1 = some .cell then env.cells.lookup p.1 else none
abbrev ownD (env : Env) : List Addr := env.locals :: cellsOf env
theorem mem_cellsOf {env : Env} {c : Addr} : c ∈ cellsOf env ↔ ∃ x, env.kindOf x = some .cell ∧ env.cells.lookup x = some c := by
  unfold cellsOf
  rw [List.mem_filterMap]
  constructor
  · rintro ⟨p, _, h⟩
    split at h
    · rename_i hk; exact ⟨p.1, hk, h⟩
    · cases h
  · rintro ⟨x, hk, hc⟩
    have hm : (x, NameKind.cell) ∈ env.scope.names := PySem.mem_of_lookup hk
    exact ⟨(x, .cell), hm, by rw [if_pos hk]; exact hc⟩

section
variable (prog : Program) (w : World) (h₀ : Heap)
def Ex (n : Nat) (sc : Scope) (st : Stmt) (ρ : List (Str × PV)) (σ : List AO) (P : Fl → List (Str × PV) → List AO → Prop) : Prop :=
  ∀ (env : Env) (A : Around) (s : Shared) (α : List Addr), env.scope = sc → Room n A → Fm h₀ env ρ α s.heap → St prog w h₀ α σ s.heap →
    ∀ (E : Value → Shared → Prop) (Q : Flow → Shared → Prop), (∀ f fl ρ' s' α' σ', Go (ownD env) α α' s s' → Fm h₀ env ρ' α' s'.heap → St prog w h₀ α' σ' s'.heap → FlRep α' s'.heap f fl → P fl ρ' σ' → Q f s') →
      wpAny (model prog w) A (exec st env) Q E s
def Exs (n : Nat) (sc : Scope) (sts : List Stmt) (ρ : List (Str × PV)) (σ : List AO) (P : Fl → List (Str × PV) → List AO → Prop) : Prop :=
  ∀ (env : Env) (A : Around) (s : Shared) (α : List Addr), env.scope = sc → Room n A → Fm h₀ env ρ α s.heap → St prog w h₀ α σ s.heap →
    ∀ (E : Value → Shared → Prop) (Q : Flow → Shared → Prop), (∀ f fl ρ' s' α' σ', Go (ownD env) α α' s s' → Fm h₀ env ρ' α' s'.heap → St prog w h₀ α' σ' s'.heap → FlRep α' s'.heap f fl → P fl ρ' σ' → Q f s') →
      wpAny (model prog w) A (execs sts env) Q E s
def Tgt (n : Nat) (sc : Scope) (t : Expr) (d : PV) (ρ : List (Str × PV)) (σ : List AO) (P : List (Str × PV) → List AO → Prop) : Prop :=
  ∀ (env : Env) (A : Around) (s : Shared) (α : List Addr) (v : Value), env.scope = sc → Room n A → Fm h₀ env ρ α s.heap → St prog w h₀ α σ s.heap → Rep α s.heap v d →
    ∀ (E : Value → Shared → Prop) (Q : Unit → Shared → Prop), (∀ ρ' s' α' σ', Go (ownD env) α α' s s' → Fm h₀ env ρ' α' s'.heap → St prog w h₀ α' σ' s'.heap → P ρ' σ' → Q () s') →
      wpAny (model prog w) A (assign t env v) Q E s
def TgtL (n : Nat) (sc : Scope) (ts : List Expr) (ds : List PV) (ρ : List (Str × PV)) (σ : List AO) (P : List (Str × PV) → List AO → Prop) : Prop :=
  ∀ (env : Env) (A : Around) (s : Shared) (α : List Addr) (vs : List Value), env.scope = sc → Room n A → Fm h₀ env ρ α s.heap → St prog w h₀ α σ s.heap → RepL α s.heap vs ds →
    ∀ (E : Value → Shared → Prop) (Q : Unit → Shared → Prop), (∀ ρ' s' α' σ', Go (ownD env) α α' s s' → Fm h₀ env ρ' α' s'.heap → St prog w h₀ α' σ' s'.heap → P ρ' σ' → Q () s') →
      wpAny (model prog w) A (assignInOrder (ts.map fun t => assign t env) vs) Q E s
end

section
variable {prog : Program} {w : World} {h₀ : Heap} {n : Nat} {sc : Scope} {ρ : List (Str × PV)} {σ : List AO} {P : Fl → List (Str × PV) → List AO → Prop} {A : Around} {s : Shared} {α : List Addr}

def Bound (sc : Scope) (x : Str) : Prop := sc.names.lookup x = some .local ∨ sc.names.lookup x = some .cell

theorem store {env : Env} {x : Str} {v : Value} {d : PV} {E : Value → Shared → Prop} {Q : Unit → Shared → Prop} (hk : Bound env.scope x) (F : Fm h₀ env ρ α s.heap) (S : St prog w h₀ α σ s.heap) (r : Rep α s.heap v d)
    (hQ : ∀ s', Go (ownD env) α α s s' → Fm h₀ env ((x, d) :: ρ) α s'.heap → St prog w h₀ α σ s'.heap → Q () s') : wpAny (model prog w) A (storeName env x v) Q E s := by
  obtain ⟨m, hm, hv⟩ := F.ns
  rcases hk with hk | hk
  · have hk' : env.kindOf x = some .local := hk
    refine wpAny_storeName_local hk' hm (fun h' hn' hs' => ?_) (by rw [F.fn]; rfl)
    obtain ⟨oL, es, ep, hL, hd, _⟩ := hm
    have tk := TupK.of_same hs' hL (noTup_dict hd)
    refine hQ _ ⟨rfl, rfl, rfl, List.prefix_refl _, fun b o _ hD e => (hs'.2 b fun q => hD (q ▸ .head _)).trans e, fun b o e => ?_, fun b h1 h2 => absurd h1 h2, tk⟩ ?_ (S.same hs' F.own F.out hL (noTup_dict hd))
    · by_cases q : b = env.locals
      · subst q; exact ns_live hn'
      · exact ⟨o, (hs'.2 b q).trans e⟩
    · refine ⟨F.fn, F.gl, F.bl, F.out, F.own, ⟨_, hn', fun y d' h1 h2 => ?_⟩, fun y hy => ?_, F.apart⟩
      · rw [List.lookup_cons] at h1
        cases hb : y == x with
        | true =>
          rw [hb] at h1; cases h1
          exact ⟨v, if_pos (eq_of_beq hb), r.mono (List.prefix_refl _) tk⟩
        | false =>
          rw [hb] at h1
          obtain ⟨v', e, r'⟩ := hv y d' h1 h2
          exact ⟨v', (if_neg (fun q => by subst q; simp at hb)).trans e, r'.mono (List.prefix_refl _) tk⟩
      · obtain ⟨c, hc, h1, h2, h3, u, ⟨o, ho, hd⟩, h4⟩ := F.cells y hy
        refine ⟨c, hc, h1, h2, h3, u, ⟨o, (hs'.2 c h2).trans ho, hd⟩, fun d' hd' => ?_⟩
        rw [List.lookup_cons] at hd'
        have hb : (y == x) = false := by
          cases hb : y == x with
          | true => have e := eq_of_beq hb; subst e; rw [hk'] at hy; cases hy
          | false => rfl
        rw [hb] at hd'
        obtain ⟨v', e, r'⟩ := h4 d' hd'
        exact ⟨v', e, r'.mono (List.prefix_refl _) tk⟩
  · have hk' : env.kindOf x = some .cell := hk
    obtain ⟨c, hc, c1, c2, c3, u, hcell, _⟩ := F.cells x hk'
    refine wpAny_storeName_cell F.fn hk' hc hcell fun h' hc' hs' => ?_
    obtain ⟨oc, hoc, hdc⟩ := hcell
    have tk := TupK.of_same hs' hoc (noTup_cell hdc)
    have mem : c ∈ ownD env := List.mem_cons_of_mem _ (mem_cellsOf.mpr ⟨x, hk', hc⟩)
    refine hQ _ ⟨rfl, rfl, rfl, List.prefix_refl _, fun b o _ hD e => (hs'.2 b fun q => hD (q ▸ mem)).trans e, fun b o e => ?_, fun b h1 h2 => absurd h1 h2, tk⟩ ?_ (S.same hs' c1 c3 hoc (noTup_cell hdc))
    · by_cases q : b = c
      · subst q; obtain ⟨o', e', _⟩ := hc'; exact ⟨o', e'⟩
      · exact ⟨o, (hs'.2 b q).trans e⟩
    · refine ⟨F.fn, F.gl, F.bl, F.out, F.own, ⟨m, hm.sameBut hs' (Ne.symm c2), fun y d' h1 h2 => ?_⟩, fun y hy => ?_, F.apart⟩
      · rw [List.lookup_cons] at h1
        have hb : (y == x) = false := by
          cases hb : y == x with
          | true => have e := eq_of_beq hb; subst e; rw [hk'] at h2; cases h2
          | false => rfl
        rw [hb] at h1
        obtain ⟨v', e, r'⟩ := hv y d' h1 h2
        exact ⟨v', e, r'.mono (List.prefix_refl _) tk⟩
      · by_cases q : y = x
        · subst q
          refine ⟨c, hc, c1, c2, c3, some v, hc', fun d' hd' => ?_⟩
          rw [List.lookup_cons, beq_self_eq_true] at hd'
          cases hd'
          exact ⟨v, rfl, r.mono (List.prefix_refl _) tk⟩
        · obtain ⟨c', hc'', h1, h2, h3, u', ⟨o, ho, hd⟩, h4⟩ := F.cells y hy
          have hne : c' ≠ c := fun e => q (F.apart y x c' hc'' (e ▸ hc))
          refine ⟨c', hc'', h1, h2, h3, u', ⟨o, (hs'.2 c' hne).trans ho, hd⟩, fun d' hd' => ?_⟩
          rw [List.lookup_cons, beq_eq_false_iff_ne.mpr q] at hd'
          obtain ⟨v', e, r'⟩ := h4 d' hd'
          exact ⟨v', e, r'.mono (List.prefix_refl _) tk⟩

theorem exs_nil (p : P .next ρ σ) : Exs prog w h₀ n sc [] ρ σ P :=
  fun env A s α hsc hr F S E Q hQ => wpAny_execs_nil (hQ .next .next ρ s α σ (Go.refl _ _ _) F S trivial p)
/-- what comes after a statement -/
abbrev Nx (prog : Program) (w : World) (h₀ : Heap) (n : Nat) (sc : Scope) (rest : List Stmt) (P : Fl → List (Str × PV) → List AO → Prop) (fl : Fl) (ρ : List (Str × PV)) (σ : List AO) : Prop :=
  match fl with | .next => Exs prog w h₀ n sc rest ρ σ P | .ret d => P (.ret d) ρ σ
/-- what comes after a turn of a loop -/
abbrev Lp (J : Nat → List (Str × PV) → List AO → Prop) (i : Nat) (P : Fl → List (Str × PV) → List AO → Prop) (fl : Fl) (ρ : List (Str × PV)) (σ : List AO) : Prop :=
  match fl with | .next => J (i + 1) ρ σ | .ret d => P (.ret d) ρ σ
abbrev Wp (I : Nat → List (Str × PV) → List AO → Prop) (k : Nat) (P : Fl → List (Str × PV) → List AO → Prop) (fl : Fl) (ρ : List (Str × PV)) (σ : List AO) : Prop :=
  match fl with | .next => ∃ m, m < k ∧ I m ρ σ | .ret d => P (.ret d) ρ σ
theorem exs_cons {st : Stmt} {rest : List Stmt} (h : Ex prog w h₀ n sc st ρ σ (Nx prog w h₀ n sc rest P)) : Exs prog w h₀ n sc (st :: rest) ρ σ P := by
  intro env A s α hsc hr F S E Q hQ
  refine wpAny_execs_cons (h env A s α hsc hr F S _ _ fun f fl ρ₁ s₁ α₁ σ₁ g₁ F₁ S₁ r₁ p₁ => ?_)
  cases fl with
  | next =>
    cases f <;> simp only [FlRep] at r₁
    exact p₁ env A s₁ α₁ hsc hr F₁ S₁ E Q fun f fl ρ' s' α' σ' g F S r p => hQ f fl ρ' s' α' σ' (g₁.trans g) F S r p
  | ret d =>
    cases f <;> simp only [FlRep] at r₁
    exact hQ _ (.ret d) ρ₁ s₁ α₁ σ₁ g₁ F₁ S₁ r₁ p₁

theorem tgt_name {P : List (Str × PV) → List AO → Prop} {x : Str} {pos : Pos} {d : PV} (p : P ((x, d) :: ρ) σ) (hk : Bound sc x) : Tgt prog w h₀ n sc (.Name x pos) d ρ σ P :=
  fun env A s α v hsc hr F S r E Q hQ => wpAny_assign_Name (store (hsc ▸ hk) F S r fun s' g F' S' => hQ _ s' α σ g F' S' p)
theorem tgt_sub {P : List (Str × PV) → List AO → Prop} {o i : Expr} {pos : Pos} {d : PV}
    (h : Ev prog w h₀ n sc o ρ σ fun a σ₁ => Ev prog w h₀ n sc i ρ σ₁ fun b σ₂ => SetI prog w h₀ n a b d σ₂ fun σ₃ => P ρ σ₃) : Tgt prog w h₀ n sc (.Subscript o i pos) d ρ σ P := by
  intro env A s α v hsc hr F S r E Q hQ
  rw [arm_assign_Subscript]
  refine wpAny_bind (wpAny_holding (h env A s α hsc hr F S _ _ fun va a s₁ α₁ σ₁ g₁ S₁ r₁ p₁ => wpAny_bind (wpAny_holding ?_)))
  refine p₁ env A s₁ α₁ hsc hr (F.go g₁) S₁ _ _ fun vb b s₂ α₂ σ₂ g₂ S₂ r₂ p₂ => wpAny_bind (wpAny_standAt (wpAny_bind (wpAny_holding ?_)))
  refine p₂ A s₂ α₂ va vb v hr S₂ (r₁.mono g₂.pre g₂.tup) r₂ (r.mono (g₁.trans g₂).pre (g₁.trans g₂).tup) _ _ fun s₃ α₃ σ₃ g₃ S₃ p₃ => ?_
  have g := g₁.trans (g₂.trans g₃)
  intro Γ p hΓ
  rw [Sem.wp_release]
  exact hQ ρ s₃ α₃ σ₃ g.nil (F.go g) S₃ p₃
theorem tgtl_nil {P : List (Str × PV) → List AO → Prop} (p : P ρ σ) : TgtL prog w h₀ n sc [] [] ρ σ P :=
  fun env A s α vs hsc hr F S r E Q hQ => assignInOrder_nil (hQ ρ s α σ (Go.refl _ _ _) F S p)
theorem tgtl_cons {P : List (Str × PV) → List AO → Prop} {t : Expr} {ts : List Expr} {d : PV} {ds : List PV} (h : Tgt prog w h₀ n sc t d ρ σ fun ρ₁ σ₁ => TgtL prog w h₀ n sc ts ds ρ₁ σ₁ P) :
    TgtL prog w h₀ n sc (t :: ts) (d :: ds) ρ σ P := by
  intro env A s α vs hsc hr F S r E Q hQ
  cases r with
  | cons x r =>
    refine assignInOrder_cons (h env A s α _ hsc hr F S x _ _ fun ρ₁ s₁ α₁ σ₁ g₁ F₁ S₁ p₁ => ?_)
    exact p₁ env A s₁ α₁ _ hsc hr F₁ S₁ (r.mono g₁.pre g₁.tup) _ _ fun ρ' s' α' σ' g F S p => hQ ρ' s' α' σ' (g₁.trans g) F S p
theorem tgt_tuple {P : List (Str × PV) → List AO → Prop} {elts : List Expr} {k : Nat} {pos : Pos} {ds : List PV} (h : TgtL prog w h₀ n sc elts ds ρ σ P) (hl : elts.length = ds.length)
    (he : ∀ env, assignEach elts env = elts.map fun t => (false, assign t env) := by intro _; with_unfolding_all rfl) : Tgt prog w h₀ n sc (.Tuple elts k pos) (.tup ds) ρ σ P := by
  intro env A s α v hsc hr F S r E Q hQ
  obtain ⟨a, vs, m, rfl, e, r⟩ := r.tup'
  · skip
    have hlen := r.length
    refine assign_Tuple_tuple (items := vs.toArray) hr.handled ⟨_, e, rfl, m, rfl⟩ (by rw [he env]; simp [hl, hlen]) ?_ fun h' hx => ?_
    · rw [he env, List.findIdx?_eq_none_iff]
      intro x hx; obtain ⟨t, _, rfl⟩ := List.mem_map.mp hx; rfl
    · have kp : ∀ b o, s.heap.get? b = some o → h'.get? b = some o := fun b o e => hx b o (fun q => by subst q; rw [Heap.size_fresh] at e; cases e) e
      have g : Go [] α α s { s with heap := h' } := Go.keeps (tk := s.toks) kp
      rw [he env, List.map_map]
      exact h env A { s with heap := h' } α vs hsc hr (F.go g) (S.keeps kp) (r.mono g.pre g.tup) E Q fun ρ' s' α' σ' g' F S p => hQ ρ' s' α' σ' (g.nil.trans g') F S p
end
section
variable {prog : Program} {w : World} {h₀ : Heap} {n : Nat} {sc : Scope} {ρ : List (Str × PV)} {σ : List AO} {P : Fl → List (Str × PV) → List AO → Prop} {A : Around} {s : Shared} {α : List Addr}

theorem ex_assign {x : Str} {pos' pos : Pos} {value : Expr} (h : Ev prog w h₀ n sc value ρ σ fun d σ₁ => P .next ((x, d) :: ρ) σ₁) (hk : Bound sc x)
    (hs : ∀ env : Env, env.scope = sc → swapsWith value (some (.Name x pos')) pos.line env = pure false := by intro _ _; with_unfolding_all rfl) : Ex prog w h₀ n sc (.Assign [.Name x pos'] value pos) ρ σ P := by
  intro env A s α hsc hr F S E Q hQ
  refine wpAny_Assign_Name (h env A s α hsc hr F S _ _ fun v d s₁ α₁ σ₁ g₁ S₁ r₁ p₁ => ?_) (hs env hsc)
  exact store (hsc ▸ hk) (F.go g₁) S₁ r₁ fun s' g F' S' => hQ .next .next _ s' α₁ σ₁ (g₁.nil.trans g) F' S' trivial p₁
theorem ex_assign_sub {o i value : Expr} {pos' pos : Pos}
    (h : Ev prog w h₀ n sc value ρ σ fun c σ₁ => Ev prog w h₀ n sc o ρ σ₁ fun a σ₂ => Ev prog w h₀ n sc i ρ σ₂ fun b σ₃ => SetI prog w h₀ n a b c σ₃ fun σ₄ => P .next ρ σ₄)
    (hs : ∀ env : Env, env.scope = sc → swapsWith value (some (.Subscript o i pos')) pos.line env = pure false := by intro _ _; with_unfolding_all rfl) : Ex prog w h₀ n sc (.Assign [.Subscript o i pos'] value pos) ρ σ P := by
  intro env A s α hsc hr F S E Q hQ
  refine wpAny_Assign_Subscript (h env A s α hsc hr F S _ _ fun v d s₁ α₁ σ₁ g₁ S₁ r₁ p₁ => ?_) (hs env hsc)
  refine p₁ env A s₁ α₁ hsc hr (F.go g₁) S₁ _ _ fun va a s₂ α₂ σ₂ g₂ S₂ r₂ p₂ => ?_
  refine p₂ env A s₂ α₂ hsc hr (F.go (g₁.trans g₂)) S₂ _ _ fun vb b s₃ α₃ σ₃ g₃ S₃ r₃ p₃ => ?_
  refine p₃ A s₃ α₃ va vb v hr S₃ (r₂.mono g₃.pre g₃.tup) r₃ (r₁.mono (g₂.trans g₃).pre (g₂.trans g₃).tup) _ _ fun s₄ α₄ σ₄ g₄ S₄ p₄ => ?_
  have g := g₁.trans (g₂.trans (g₃.trans g₄))
  exact hQ .next .next ρ s₄ α₄ σ₄ g.nil (F.go g) S₄ trivial p₄
/-- one target, a tuple of targets, not exchanged -/
theorem ex_assign_tuple {elts : List Expr} {k : Nat} {tpos pos : Pos} {value : Expr} (h : Ev prog w h₀ n sc value ρ σ fun d σ₁ => Tgt prog w h₀ n sc (.Tuple elts k tpos) d ρ σ₁ fun ρ₂ σ₂ => P .next ρ₂ σ₂)
    (hs : ∀ env : Env, env.scope = sc → swapsWithSole [.Tuple elts k tpos] value pos.line env = pure false := by intro _ _; with_unfolding_all rfl)
    (hw : ∀ env : Env, env.scope = sc → swappedStores [.Tuple elts k tpos] value env = pure none := by intro env h; cases env; cases h; with_unfolding_all rfl) : Ex prog w h₀ n sc (.Assign [.Tuple elts k tpos] value pos) ρ σ P := by
  intro env A s α hsc hr F S E Q hQ
  refine Assign_Tuple (h env A s α hsc hr F S _ _ fun v d s₁ α₁ σ₁ g₁ S₁ r₁ p₁ => ?_) (hs env hsc) (hw env hsc)
  exact p₁ env A s₁ α₁ v hsc hr (F.go g₁) S₁ r₁ _ _ fun ρ' s' α' σ' g F S p => hQ .next .next ρ' s' α' σ' (g₁.nil.trans g) F S trivial p
/-- exchanged: the names are stored from the last on -/
theorem bindL_ok {env : Env} : ∀ (names : List Str) (vs : List Value) (ds : List PV) (ρ : List (Str × PV)) (s : Shared) {E : Value → Shared → Prop} {Q : Unit → Shared → Prop}, (∀ x ∈ names, Bound env.scope x) → names.length = ds.length →
    Fm h₀ env ρ α s.heap → St prog w h₀ α σ s.heap → RepL α s.heap vs ds → (∀ s', Go (ownD env) α α s s' → Fm h₀ env ((names.zip ds).reverse ++ ρ) α s'.heap → St prog w h₀ α σ s'.heap → Q () s') →
    wpAny (model prog w) A (assignInOrder (names.map fun x => bindName env x) vs) Q E s
  | [], vs, ds, ρ, s, E, Q, hb, hl, F, S, r, hQ => assignInOrder_nil (hQ s (Go.refl _ _ _) (by simpa using F) S)
  | x :: names, vs, [], ρ, s, E, Q, hb, hl, F, S, r, hQ => by simp at hl
  | x :: names, vs, d :: ds, ρ, s, E, Q, hb, hl, F, S, r, hQ => by
    cases r with
    | cons y r =>
      refine assignInOrder_cons (bindName_ (store (hb x List.mem_cons_self) F S y fun s' g F' S' => ?_))
      refine bindL_ok names _ ds _ s' (fun z hz => hb z (List.mem_cons_of_mem _ hz)) (by simpa using hl) F' S' (r.mono g.pre g.tup) fun s'' g' F'' S'' => ?_
      exact hQ s'' (g.trans g') (by simpa using F'') S''
theorem zip_rev : ∀ (xs : List Str) (ys : List PV), ys.length = xs.length → (xs.reverse.zip ys.reverse).reverse = xs.zip ys
  | [], ys, h => by cases ys <;> simp_all
  | x :: xs, [], h => by simp at h
  | x :: xs, y :: ys, h => by
    have e : xs.reverse.length = ys.reverse.length := by simpa using h.symm
    rw [List.reverse_cons, List.reverse_cons, List.zip_append e]
    simp [zip_rev xs ys (by simpa using h)]
theorem ex_assign_swapped {elts : List Expr} {k : Nat} {tpos pos : Pos} {value : Expr} (names : List Str) (h : Ev prog w h₀ n sc value ρ σ fun d σ₁ => ∃ ds, d = .tup ds ∧ ds.length = names.length ∧ P .next (names.zip ds ++ ρ) σ₁)
    (hb : ∀ x ∈ names, Bound sc x)
    (hs : ∀ env : Env, env.scope = sc → swapsWithSole [.Tuple elts k tpos] value pos.line env = pure false := by intro _ _; with_unfolding_all rfl)
    (hw : ∀ env : Env, env.scope = sc → swappedStores [.Tuple elts k tpos] value env = pure (some names) := by intro env h; cases env; cases h; with_unfolding_all rfl) : Ex prog w h₀ n sc (.Assign [.Tuple elts k tpos] value pos) ρ σ P := by
  intro env A s α hsc hr F S E Q hQ
  refine Assign_Tuple_swapped (names := names) (h env A s α hsc hr F S _ _ fun v d s₁ α₁ σ₁ g₁ S₁ r₁ p₁ => ?_) (hs env hsc) (hw env hsc)
  obtain ⟨ds, rfl, hl, p⟩ := p₁
  obtain ⟨a, vs, m, rfl, e, r⟩ := r₁.tup'
  · skip
    have hlen : names.length = vs.toArray.size := by rw [List.size_toArray, r.length, hl]
    rw [hlen]
    refine PyProof.Rows.unpackItems_tuple hr.handled ⟨_, e, rfl, m, rfl⟩ fun h' hx => ?_
    have kp : ∀ b o, s₁.heap.get? b = some o → h'.get? b = some o := fun b o e => hx b o (fun q => by subst q; rw [Heap.size_fresh] at e; cases e) e
    have g : Go [] α₁ α₁ s₁ { s₁ with heap := h' } := Go.keeps (tk := s₁.toks) kp
    have hz : (names.reverse.zip ds.reverse).reverse = names.zip ds := zip_rev names ds hl
    refine bindL_ok (α := α₁) names.reverse vs.reverse ds.reverse ρ { s₁ with heap := h' } (fun x hx => hsc ▸ hb x (List.mem_reverse.mp hx)) (by simp [hl]) ((F.go g₁).go g) (S₁.keeps kp) (r.mono g.pre g.tup).reverse fun s' g' F' S' => ?_
    rw [hz] at F'
    exact hQ .next .next _ s' α₁ σ₁ (g₁.nil.trans (g.nil.trans g')) F' S' trivial p

theorem ex_aug {x : Str} {pos' pos : Pos} {op : Operator} {value : Expr} {d : PV} (hx : ρ.lookup x = some d) (hl : sc.names.lookup x = some .local)
    (h : Ev prog w h₀ n sc value ρ σ fun b σ₁ => Iop prog w h₀ n op d b σ₁ fun r σ₂ => P .next ((x, r) :: ρ) σ₂) : Ex prog w h₀ n sc (.AugAssign (.Name x pos') op value pos) ρ σ P := by
  intro env A s α hsc hr F S E Q hQ
  obtain ⟨m, hm, hv⟩ := F.ns
  have hk : env.kindOf x = some .local := by unfold Env.kindOf; rw [hsc]; exact hl
  obtain ⟨v, e, r⟩ := hv x d hx hk
  refine wpAny_AugAssign_Name (wpAny_loadName_local F.fn hk hm e ?_)
  refine h env A s α hsc hr F S _ _ fun vb b s₁ α₁ σ₁ g₁ S₁ r₁ p₁ => ?_
  refine p₁ A s₁ α₁ v vb hr S₁ (r.mono g₁.pre g₁.tup) r₁ _ _ fun vr dr s₂ α₂ σ₂ g₂ S₂ r₂ p₂ => ?_
  have g := g₁.trans g₂
  exact store (hsc ▸ .inl hl) (F.go g) S₂ r₂ fun s' g' F' S' => hQ .next .next _ s' α₂ σ₂ (g.nil.trans g') F' S' trivial p₂
theorem ex_if {test : Expr} {body orelse : List Stmt} {pos : Pos} (h : Tst prog w h₀ n sc test ρ σ fun b σ₁ => (b = true → Exs prog w h₀ n sc body ρ σ₁ P) ∧ (b = false → Exs prog w h₀ n sc orelse ρ σ₁ P)) :
    Ex prog w h₀ n sc (.If test body orelse pos) ρ σ P := by
  intro env A s α hsc hr F S E Q hQ
  refine wpAny_If (h env A s α _ rfl hsc hr F S _ _ fun b s₁ α₁ σ₁ g₁ S₁ p₁ => ?_)
  cases b with
  | true => exact p₁.1 rfl env A s₁ α₁ hsc hr (F.go g₁) S₁ E Q fun f fl ρ' s' α' σ' g F S r p => hQ f fl ρ' s' α' σ' (g₁.nil.trans g) F S r p
  | false => exact p₁.2 rfl env A s₁ α₁ hsc hr (F.go g₁) S₁ E Q fun f fl ρ' s' α' σ' g F S r p => hQ f fl ρ' s' α' σ' (g₁.nil.trans g) F S r p
theorem ex_return {e : Expr} {pos : Pos} (h : Ev prog w h₀ n sc e ρ σ fun d σ₁ => P (.ret d) ρ σ₁) : Ex prog w h₀ n sc (.Return (some e) pos) ρ σ P := by
  intro env A s α hsc hr F S E Q hQ
  exact wpAny_Return_some (h env A s α hsc hr F S _ _ fun v d s₁ α₁ σ₁ g₁ S₁ r₁ p₁ => hQ (.ret v) (.ret d) ρ s₁ α₁ σ₁ g₁.nil (F.go g₁) S₁ r₁ p₁)
theorem ex_expr {e : Expr} {pos : Pos} (h : Ev prog w h₀ n sc e ρ σ fun d σ₁ => d = .none ∧ P .next ρ σ₁)
    (hi : ∀ env : Env, env.scope = sc → interactive env = false := by intro env h; cases env; cases h; with_unfolding_all rfl) (hs : ∀ env : Env, env.scope = sc → swapsWith e none pos.line env = pure false := by intro _ _; with_unfolding_all rfl) : Ex prog w h₀ n sc (.Expr e pos) ρ σ P := by
  intro env A s α hsc hr F S E Q hQ
  refine wpAny_Expr (h env A s α hsc hr F S _ _ fun v d s₁ α₁ σ₁ g₁ S₁ r₁ p₁ => ?_) (hi env hsc) (hs env hsc)
  obtain ⟨rfl, p⟩ := p₁
  cases r₁
  exact hQ .next .next ρ s₁ α₁ σ₁ g₁.nil (F.go g₁) S₁ trivial p

/-- a while by an invariant and a measure -/
theorem ex_while {test : Expr} {body : List Stmt} {pos : Pos} (I : Nat → List (Str × PV) → List AO → Prop)
    (turn : ∀ k ρ σ, I k ρ σ → Tst prog w h₀ n sc test ρ σ fun b σ₁ => (b = true → Exs prog w h₀ n sc body ρ σ₁ (Wp I k P)) ∧ (b = false → P .next ρ σ₁))
    (k : Nat) (h : I k ρ σ) : Ex prog w h₀ n sc (.While test body [] pos) ρ σ P := by
  intro env A s α hsc hr F S E Q hQ
  refine wpAny_While ?_
  refine codeAny_whileLoop (fun k s' => ∃ α' ρ' σ', Go (ownD env) α α' s s' ∧ Fm h₀ env ρ' α' s'.heap ∧ St prog w h₀ α' σ' s'.heap ∧ I k ρ' σ') ?_ k ⟨α, ρ, σ, Go.refl _ _ _, F, S, h⟩
  rintro k s₁ ⟨α₁, ρ₁, σ₁, g₁, F₁, S₁, h₁⟩
  refine turn k ρ₁ σ₁ h₁ env A s₁ α₁ _ rfl hsc hr F₁ S₁ _ _ fun b s₂ α₂ σ₂ g₂ S₂ p₂ => ?_
  cases b with
  | false => exact wpAny_execs_nil (hQ .next .next ρ₁ s₂ α₂ σ₂ (g₁.trans g₂.nil) (F₁.go g₂) S₂ trivial (p₂.2 rfl))
  | true =>
    refine p₂.1 rfl env A s₂ α₂ hsc hr (F₁.go g₂) S₂ _ _ fun f fl ρ' s' α' σ' g F S r p => ?_
    have gg := g₁.trans (g₂.nil.trans g)
    cases fl with
    | next =>
      cases f <;> simp only [FlRep] at r
      obtain ⟨m, hm, hI⟩ := p
      exact ⟨m, hm, α', ρ', σ', gg, F, S, hI⟩
    | ret d =>
      cases f <;> simp only [FlRep] at r
      exact hQ (.ret _) (.ret d) ρ' s' α' σ' gg F S r p
end
section
variable {prog : Program} {w : World} {h₀ : Heap} {α α' α'' D D' fp : List Addr} {σ σ' : List AO} {h h' : Heap} {s s' s'' : Shared} {env : Env} {ρ ρ' : List (Str × PV)}
/-- what is changed beside is new -/
theorem Go.transF (x : Go D α α' s s') (y : Go fp α' α'' s' s'') (hf : ∀ b ∈ fp, s.heap.get? b = none) : Go D α α'' s s'' where
  gens := y.gens.trans x.gens
  drawn := y.drawn.trans x.drawn
  os := y.os.trans x.os
  pre := x.pre.trans y.pre
  pres := fun b o h1 h2 e => y.pres b o (fun q => by rw [x.fresh b q h1] at e; cases e) (fun q => by rw [hf b q] at e; cases e) (x.pres b o h1 h2 e)
  live := fun b o e => let ⟨o', e'⟩ := x.live b o e; y.live b o' e'
  fresh := fun a h1 h2 => by
    by_cases q : a ∈ α'
    · exact x.fresh a q h2
    · cases e : s.heap.get? a with
      | none => rfl
      | some o =>
        obtain ⟨o', e'⟩ := x.live a o e
        rw [y.fresh a h1 q] at e'; cases e'
  tup := x.tup.trans y.tup
/-- the objects fp, all new since s, have turned -/
theorem Go.endF {hp : Heap} {tk : Nat} (x : Go D α α' s s') (hf : ∀ b ∈ fp, s.heap.get? b = none) (k : ∀ b o, b ∉ fp → s'.heap.get? b = some o → hp.get? b = some o) (tk' : TupK s'.heap hp) : Go D α α' s { s' with heap := hp, toks := tk } where
  gens := x.gens
  drawn := x.drawn
  os := x.os
  pre := x.pre
  pres := fun b o h1 h2 e => k b o (fun q => by rw [hf b q] at e; cases e) (x.pres b o h1 h2 e)
  live := fun b o e => let ⟨o', e'⟩ := x.live b o e; ⟨o', k b o' (fun q => by rw [hf b q] at e; cases e) e'⟩
  fresh := x.fresh
  tup := x.tup.trans tk'
theorem tupK_but {h h' : Heap} (k : ∀ b o, b ∉ fp → h.get? b = some o → h'.get? b = some o) (nt : ∀ b ∈ fp, ∀ o, h.get? b = some o → NoTup o) : TupK h h' :=
  fun b o e t => k b o (fun q => t (nt b q o e)) e
theorem Fm.keepBut (F : Fm h₀ env ρ α h) (k : ∀ b o, b ∉ fp → h.get? b = some o → h'.get? b = some o) (tk : TupK h h') (hL : env.locals ∉ fp) (hc : ∀ x c, env.kindOf x = some .cell → env.cells.lookup x = some c → c ∉ fp) : Fm h₀ env ρ α h' := by
  obtain ⟨m, hm, hv⟩ := F.ns
  refine ⟨F.fn, F.gl, F.bl, F.out, F.own, ⟨m, hm.at' fun o e => k _ o hL e, fun x d h1 h2 => ?_⟩, fun x hx => ?_, F.apart⟩
  · obtain ⟨v, e, r⟩ := hv x d h1 h2; exact ⟨v, e, r.mono (List.prefix_refl _) tk⟩
  · obtain ⟨c, hc', h1, h2, h3, u, ⟨o, ho, hd⟩, h4⟩ := F.cells x hx
    exact ⟨c, hc', h1, h2, h3, u, ⟨o, k _ _ (hc x c hx hc') ho, hd⟩, fun d hd' => let ⟨v, e, r⟩ := h4 d hd'; ⟨v, e, r.mono (List.prefix_refl _) tk⟩⟩
theorem St.keepBut (S : St prog w h₀ α σ h) (k : ∀ b o, b ∉ fp → h.get? b = some o → h'.get? b = some o) (tk : TupK h h') (h1 : ∀ b ∈ fp, b ∉ α) (h2 : ∀ b ∈ fp, h₀.get? b = none) : St prog w h₀ α σ h' :=
  ⟨S.len, S.nd, fun i ao a e1 e2 => (S.objs i ao a e1 e2).mono (fun o e => k a o (fun q => h1 a q (List.mem_of_getElem? e2)) e) tk (List.prefix_refl _), S.out,
    fun b o e => k b o (fun q => by rw [h2 b q] at e; cases e) (S.keep b o e), S.sys⟩
end

/-- an iterator over the abstract items l; fp: the objects that it owns -/
structure Iter (prog : Program) (w : World) (h₀ : Heap) (A : Around) (target : Expr) (it : Value) (αI fp : List Addr) (l : List PV) (C : List AO → Prop) (T : Nat → Heap → Prop) : Prop where
  frame : ∀ i (h h' : Heap), T i h → (∀ b ∈ fp, ∀ o, h.get? b = some o → h'.get? b = some o) → TupK h h' → T i h'
  live : ∀ i (h : Heap), T i h → ∀ b ∈ fp, ∃ o, h.get? b = some o ∧ NoTup o
  item : ∀ i (s : Shared) (α : List Addr) (σ : List AO) (d : PV), l[i]? = some d → T i s.heap → St prog w h₀ α σ s.heap → C σ → (∀ b ∈ fp, b ∉ α) → αI <+: α →
    ∀ (E : Value → Shared → Prop) (Q : Value → Shared → Prop), (∀ v (h' : Heap) tk, T (i + 1) h' → Rep α h' v d → (∀ b o, b ∉ fp → s.heap.get? b = some o → h'.get? b = some o) → Q v { s with heap := h', toks := tk }) →
      wpAny (model prog w) A (pyNext it) (fun r s₁ => match r with | none => False | some v => wpAny (model prog w) A (letOwnedTupleGo target it v) (fun _ s₂ => Q v s₂) E s₁) E s
  done : ∀ (s : Shared) (α : List Addr) (σ : List AO), T l.length s.heap → St prog w h₀ α σ s.heap → C σ → (∀ b ∈ fp, b ∉ α) → αI <+: α →
    ∀ (E : Value → Shared → Prop) (Q : Option Value → Shared → Prop), (∀ (h' : Heap) tk, (∀ b o, b ∉ fp → s.heap.get? b = some o → h'.get? b = some o) → Q none { s with heap := h', toks := tk }) →
      wpAny (model prog w) A (pyNext it) Q E s
  self : ∀ (s : Shared) (E : Value → Shared → Prop) (Q : Value → Shared → Prop), T 0 s.heap → Q it s → wpAny (model prog w) A (pyIter it) Q E s

/-- the source of a loop -/
def Src (prog : Program) (w : World) (h₀ : Heap) (n : Nat) (sc : Scope) (target : Expr) (e : Expr) (ρ : List (Str × PV)) (σ : List AO) (P : List PV → (List AO → Prop) → List AO → Prop) : Prop :=
  ∀ (env : Env) (A : Around) (s : Shared) (α : List Addr), env.scope = sc → Room n A → Fm h₀ env ρ α s.heap → St prog w h₀ α σ s.heap →
    ∀ (E : Value → Shared → Prop) (Q : Value → Shared → Prop), (∀ it fp T l C s' α' σ', Go [] α α' s s' → St prog w h₀ α' σ' s'.heap → (∀ b ∈ fp, s.heap.get? b = none ∧ b ∉ α') → T 0 s'.heap → Iter prog w h₀ A target it α' fp l C T → P l C σ' → Q it s') →
      wpAny (model prog w) A (eval e env) (fun x s₁ => wpAny (model prog w) A (pyIter x) Q E s₁) E s

section
variable {prog : Program} {w : World} {h₀ : Heap} {n : Nat} {sc : Scope} {ρ : List (Str × PV)} {σ : List AO} {P : Fl → List (Str × PV) → List AO → Prop} {A : Around} {s : Shared} {α : List Addr}

theorem ex_for {target iter : Expr} {body : List Stmt} {pos : Pos}
    (h : Src prog w h₀ n sc target iter ρ σ fun l C σ₁ => ∃ J : Nat → List (Str × PV) → List AO → Prop, J 0 ρ σ₁ ∧ (∀ i ρ σ, J i ρ σ → C σ) ∧
      (∀ i d ρ σ, l[i]? = some d → J i ρ σ → Tgt prog w h₀ n sc target d ρ σ fun ρ₁ σ₁ => Exs prog w h₀ n sc body ρ₁ σ₁ (Lp J i P)) ∧
      (∀ ρ σ, J l.length ρ σ → P .next ρ σ))
    (hs : ∀ env x, foldedSetIterable iter env x = pure x := by intro _ _; with_unfolding_all rfl) : Ex prog w h₀ n sc (.For target iter body [] pos) ρ σ P := by
  intro env A s α hsc hr F S E Q hQ
  refine wpAny_For (h env A s α hsc hr F S _ _ fun it fp T l C s₁ α₁ σ₁ g₁ S₁ hf hT W p => ?_) (hs env)
  obtain ⟨J, j0, jC, turn, done⟩ := p
  have fpL : env.locals ∉ fp := fun q => by
    obtain ⟨m, hm, _⟩ := F.ns
    obtain ⟨o, e⟩ := ns_live hm
    rw [(hf _ q).1] at e; cases e
  have F₁ := F.go g₁
  -- the cells that the frame bears
  have own0 : ∀ b ∈ fp, h₀.get? b = none := fun b hb => by
    cases e : h₀.get? b with
    | none => rfl
    | some o => have := S.keep b o e; rw [(hf b hb).1] at this; cases this
  refine codeAny_forLoop_any (fun k s' => ∃ α' ρ' σ' i, Go (ownD env) α α' s s' ∧ α₁ <+: α' ∧ Fm h₀ env ρ' α' s'.heap ∧ St prog w h₀ α' σ' s'.heap ∧ (∀ b ∈ fp, b ∉ α') ∧ (∀ b ∈ fp, b ∉ ownD env) ∧ T i s'.heap ∧ J i ρ' σ' ∧ i ≤ l.length ∧ k = l.length - i) ?_ (l.length - 0)
    ⟨α₁, ρ, σ₁, 0, g₁.nil, List.prefix_refl _, F₁, S₁, fun b hb => (hf b hb).2, ?_, hT, j0, Nat.zero_le _, rfl⟩
  · rintro k s₂ ⟨α₂, ρ₂, σ₂, i, g₂, hpre, F₂, S₂, ha₂, hD, hT₂, hJ, hi, rfl⟩
    have hcell : ∀ x c, env.kindOf x = some .cell → env.cells.lookup x = some c → c ∉ fp := fun x c hk hc q => hD c q (List.mem_cons_of_mem _ (mem_cellsOf.mpr ⟨x, hk, hc⟩))
    cases hd : l[i]? with
    | none =>
      have hin : i = l.length := Nat.le_antisymm hi (by simpa using hd)
      subst hin
      refine W.done s₂ α₂ σ₂ hT₂ S₂ (jC _ _ _ hJ) ha₂ hpre _ _ fun h' tk kp => ?_
      have tk₃ : TupK s₂.heap h' := tupK_but kp (fun b hb o e => by obtain ⟨o', e', t⟩ := W.live _ _ hT₂ b hb; rw [e] at e'; cases e'; exact t)
      exact wpAny_execs_nil (hQ .next .next ρ₂ _ α₂ σ₂ (g₂.endF (fun b hb => (hf b hb).1) kp tk₃) (F₂.keepBut kp tk₃ fpL hcell) (S₂.keepBut kp tk₃ ha₂ own0) trivial (done _ _ hJ))
    | some d =>
      have hlt : i < l.length := (List.getElem?_eq_some_iff.mp hd).1
      refine wpAny_mono (W.item i s₂ α₂ σ₂ d hd hT₂ S₂ (jC _ _ _ hJ) ha₂ hpre _ (fun v s₃ => wpAny (model prog w) A (assign target env v) (fun _ s₂ => wpAny (model prog w) A (execs body env) (fun f s₃ => match f with
            | .next | .cont => ∃ m, m < l.length - i ∧ ∃ α' ρ' σ' i, Go (ownD env) α α' s s₃ ∧ α₁ <+: α' ∧ Fm h₀ env ρ' α' s₃.heap ∧ St prog w h₀ α' σ' s₃.heap ∧ (∀ b ∈ fp, b ∉ α') ∧ (∀ b ∈ fp, b ∉ ownD env) ∧ T i s₃.heap ∧ J i ρ' σ' ∧ i ≤ l.length ∧ m = l.length - i
            | .brk => Q .next s₃
            | .ret v => Q (.ret v) s₃) (notedBy (model prog w) A env fun e s' => cameBackBy (model prog w) A env E e s') s₂) (notedBy (model prog w) A env fun e s' => cameBackBy (model prog w) A env E e s') s₃) fun v h' tk hT₃ hrep kp => ?_) (fun r s₃ h₃ => ?_) fun _ _ e => e
      · have lv : ∀ b ∈ fp, ∃ o, h'.get? b = some o := fun b hb => let ⟨o, e, _⟩ := W.live _ _ hT₃ b hb; ⟨o, e⟩
        have tk₃ : TupK s₂.heap h' := tupK_but kp (fun b hb o e => by obtain ⟨o', e', t⟩ := W.live _ _ hT₂ b hb; rw [e] at e'; cases e'; exact t)
        have S₃ := S₂.keepBut kp tk₃ ha₂ own0
        have F₃ := F₂.keepBut kp tk₃ fpL hcell
        have gg₃ := g₂.endF (tk := tk) (fun b hb => (hf b hb).1) kp tk₃
        refine turn i d ρ₂ σ₂ hd hJ env A _ α₂ v hsc hr F₃ S₃ hrep _ _ fun ρ₄ s₄ α₄ σ₄ g₄ F₄ S₄ p₄ => ?_
        refine p₄ env A s₄ α₄ hsc hr F₄ S₄ _ _ fun f fl ρ₅ s₅ α₅ σ₅ g₅ F₅ S₅ r₅ p₅ => ?_
        have gb := g₄.trans g₅
        have gg := gg₃.trans gb
        have fpkeep : ∀ b ∈ fp, ∀ o, h'.get? b = some o → s₅.heap.get? b = some o := fun b hb o e => gb.pres b o (ha₂ b hb) (hD b hb) e
        cases fl with
        | next =>
          cases f <;> simp only [FlRep] at r₅
          refine ⟨l.length - (i + 1), by omega, α₅, ρ₅, σ₅, i + 1, gg, hpre.trans gb.pre, F₅, S₅, fun b hb q => ?_, hD, W.frame _ _ _ hT₃ fpkeep gb.tup, p₅, hlt, rfl⟩
          obtain ⟨o, e⟩ := lv b hb
          have := gb.fresh b q (ha₂ b hb)
          have e' : ({ s₂ with heap := h', toks := tk } : Shared).heap.get? b = some o := e
          rw [this] at e'; cases e'
        | ret d =>
          cases f <;> simp only [FlRep] at r₅
          exact hQ (.ret _) (.ret d) ρ₅ s₅ α₅ σ₅ gg F₅ S₅ r₅ p₅
      · cases r with
        | none => exact h₃.elim
        | some v => exact h₃
  · intro b hb q
    have hl := (hf b hb).1
    rcases List.mem_cons.mp q with rfl | q
    · exact fpL hb
    · obtain ⟨x, hk, hc⟩ := mem_cellsOf.mp q
      obtain ⟨c, hc', _, _, _, u, ⟨o, ho, _⟩, _⟩ := F.cells x hk
      rw [hc] at hc'; cases hc'
      rw [hl] at ho; cases ho
end
theorem noTup_fields {o : Obj} {vs : Array Value} (h : o.data = .fields vs) : NoTup o := fun _ xs k e => by rw [h] at e; cases e

section
variable {prog : Program} {w : World} {h₀ : Heap} {n : Nat} {sc : Scope} {ρ : List (Str × PV)} {σ : List AO} {A : Around} {s : Shared} {α : List Addr}

/-- over a list of the abstract heap -/
theorem iter_list {x : Str} {px : Pos} {I ax : Addr} {j : Nat} {l : List PV} (hh : A.handled = none) (hax : α[j]? = some ax) :
    Iter prog w h₀ A (.Name x px) (.ref I) α [I] l (fun σ => σ[j]? = some (.list l)) (fun i h => h.IsListIter I ax i) where
  frame := fun i h h' t k _ => t.at fun o e => k I (by simp) o e
  live := fun i h t b hb => by
    simp at hb; subst hb
    obtain ⟨o, e, _, hd⟩ := t
    exact ⟨o, e, noTup_fields hd⟩
  item := fun i s α' σ d hd t S c ha hp E Q hQ => by
    obtain ⟨a, ea, vs, m, e, r⟩ := S.at c
    rw [pre_get hp hax] at ea; cases ea
    obtain ⟨v, ev, rv⟩ := r.get hd
    refine wpAny_pyNext_list_item t ⟨_, e, rfl, m, rfl⟩ (x := v) (by simpa using ev) fun h' t' hs' => ?_
    obtain ⟨o, eo, _, hdo⟩ := t
    exact wpAny_pure (hQ v h' s.toks t' (rv.mono (List.prefix_refl _) (TupK.of_same hs' eo (noTup_fields hdo))) fun b o' hb e' => (hs'.2 b fun q => hb (q ▸ List.mem_singleton_self _)).trans e')
  done := fun s α' σ t S c ha hp E Q hQ => by
    obtain ⟨a, ea, vs, m, e, r⟩ := S.at c
    rw [pre_get hp hax] at ea; cases ea
    refine wpAny_pyNext_list_end hh t ⟨_, e, rfl, m, rfl⟩ (by simp [r.length]) fun h' hx => ?_
    exact hQ h' s.toks fun b o hb e => hx b o (fun q => hb (q ▸ List.mem_singleton_self _)) e
  self := fun s E Q t q => wpAny_pyIter_listiter t q

theorem src_list {e : Expr} {x : Str} {px : Pos} {P : List PV → (List AO → Prop) → List AO → Prop}
    (h : Ev prog w h₀ n sc e ρ σ fun d σ₁ => ∃ j l, d = .obj j ∧ σ₁[j]? = some (.list l) ∧ P l (fun σ => σ[j]? = some (.list l)) σ₁) : Src prog w h₀ n sc (.Name x px) e ρ σ P := by
  intro env A s α hsc hr F S E Q hQ
  refine h env A s α hsc hr F S _ _ fun v d s₁ α₁ σ₁ g₁ S₁ r₁ p₁ => ?_
  obtain ⟨j, l, rfl, hj, p⟩ := p₁
  obtain ⟨ax, rfl, hax⟩ := r₁.obj'
  · skip
    obtain ⟨a, ea, vs, m, e, r⟩ := S₁.at hj
    rw [hax] at ea; cases ea
    refine wpAny_pyIter_list ⟨_, e, rfl, m, rfl⟩ ?_
    have k := fun b o (e : s₁.heap.get? b = some o) => Heap.get?_push_of_some ({ cls := .type "list_iterator", data := .fields #[.ref ax, .int 0 0] } : Obj) e
    refine hQ (.ref s₁.heap.objs.size) [s₁.heap.objs.size] (fun i h => h.IsListIter s₁.heap.objs.size ax i) l _ { s₁ with heap := s₁.heap.push { cls := .type "list_iterator", data := .fields #[.ref ax, .int 0 0] } } α₁ σ₁
      (g₁.trans (Go.keeps (tk := s₁.toks) k)) (S₁.keeps k) (fun b hb => ?_) ⟨_, Heap.get?_push_size _ rfl, rfl, rfl⟩ (iter_list hr.handled hax) p
    simp at hb; subst hb
    refine ⟨?_, fun q => by obtain ⟨o, e, _⟩ := S₁.live q; rw [Heap.size_fresh] at e; cases e⟩
    cases e0 : s.heap.get? s₁.heap.objs.size with
    | none => rfl
    | some o => obtain ⟨o', e'⟩ := g₁.live _ _ e0; rw [Heap.size_fresh] at e'; cases e'

/-- over a tuple -/
theorem iter_tuple {x : Str} {px : Pos} {I ax : Addr} {l : List PV} {vs : List Value} {m : Nat} (hh : A.handled = none) (hlen : vs.length = l.length) :
    Iter prog w h₀ A (.Name x px) (.ref I) α [I] l (fun _ => True) (fun i h => h.IsTupleIter I ax i ∧ h.get? ax = some { cls := .type "tuple", data := .seq vs.toArray m } ∧ RepL α h vs l) where
  frame := fun i h h' t k tk => ⟨t.1.at fun o e => k I (by simp) o e, tk _ _ t.2.1 (isTup_of rfl rfl), t.2.2.mono (List.prefix_refl _) tk⟩
  live := fun i h t b hb => by
    simp at hb; subst hb
    obtain ⟨o, e, _, hd⟩ := t.1
    exact ⟨o, e, noTup_fields hd⟩
  item := fun i s α' σ d hd t S c ha hp E Q hQ => by
    obtain ⟨v, ev, rv⟩ := t.2.2.get hd
    refine wpAny_pyNext_tuple_item t.1 ⟨_, t.2.1, rfl, m, rfl⟩ (x := v) (by simpa using ev) fun h' t' hs' => ?_
    obtain ⟨o, eo, _, hdo⟩ := t.1
    have tk := TupK.of_same hs' eo (noTup_fields hdo)
    exact wpAny_pure (hQ v h' s.toks ⟨t', tk _ _ t.2.1 (isTup_of rfl rfl), t.2.2.mono (List.prefix_refl _) tk⟩ (rv.mono hp tk) fun b o' hb e' => (hs'.2 b fun q => hb (q ▸ List.mem_singleton_self _)).trans e')
  done := fun s α' σ t S c ha hp E Q hQ => by
    refine wpAny_pyNext_tuple_end hh t.1 ⟨_, t.2.1, rfl, m, rfl⟩ (by simp [hlen]) fun h' hx => ?_
    exact hQ h' s.toks fun b o hb e => hx b o (fun q => hb (q ▸ List.mem_singleton_self _)) e
  self := fun s E Q t q => wpAny_pyIter_tupleiter t.1 q
theorem src_tuple {e : Expr} {x : Str} {px : Pos} {P : List PV → (List AO → Prop) → List AO → Prop}
    (h : Ev prog w h₀ n sc e ρ σ fun d σ₁ => ∃ l, d = .tup l ∧ P l (fun _ => True) σ₁) : Src prog w h₀ n sc (.Name x px) e ρ σ P := by
  intro env A s α hsc hr F S E Q hQ
  refine h env A s α hsc hr F S _ _ fun v d s₁ α₁ σ₁ g₁ S₁ r₁ p₁ => ?_
  obtain ⟨l, rfl, p⟩ := p₁
  obtain ⟨ax, vs, m, rfl, e, r⟩ := r₁.tup'
  · skip
    refine wpAny_pyIter_tuple ⟨_, e, rfl, m, rfl⟩ ?_
    have k := fun b o (e : s₁.heap.get? b = some o) => Heap.get?_push_of_some ({ cls := .type "tuple_iterator", data := .fields #[.ref ax, .int 0 0] } : Obj) e
    refine hQ (.ref s₁.heap.objs.size) [s₁.heap.objs.size] _ l _ { s₁ with heap := s₁.heap.push { cls := .type "tuple_iterator", data := .fields #[.ref ax, .int 0 0] } } α₁ σ₁
      (g₁.trans (Go.keeps (tk := s₁.toks) k)) (S₁.keeps k) (fun b hb => ?_) ⟨⟨_, Heap.get?_push_size _ rfl, rfl, rfl⟩, k _ _ e, r.mono (List.prefix_refl _) (TupK.of_keeps k)⟩ (iter_tuple hr.handled r.length) p
    simp at hb; subst hb
    refine ⟨?_, fun q => by obtain ⟨o, e, _⟩ := S₁.live q; rw [Heap.size_fresh] at e; cases e⟩
    cases e0 : s.heap.get? s₁.heap.objs.size with
    | none => rfl
    | some o => obtain ⟨o', e'⟩ := g₁.live _ _ e0; rw [Heap.size_fresh] at e'; cases e'

/-- the ints from a below b -/
def rng (a b : Int) : List PV := (List.range (b - a).toNat).map fun (i : Nat) => PV.int (a + (i : Int))
theorem rng_length (a b : Int) : (rng a b).length = (b - a).toNat := by simp [rng]
theorem rng_get {a b : Int} {i : Nat} {d : PV} (h : (rng a b)[i]? = some d) : i < (b - a).toNat ∧ d = .int (a + (i : Int)) := by
  simp only [rng, List.getElem?_map, Option.map_eq_some_iff] at h
  obtain ⟨k, hk, rfl⟩ := h
  obtain ⟨hl, e⟩ := List.getElem?_eq_some_iff.mp hk
  simp at hl e
  subst e
  exact ⟨by (first | lia | omega), rfl⟩
theorem iter_range {x : Str} {px : Pos} {I : Addr} {a b : Int} (hh : A.handled = none) :
    Iter prog w h₀ A (.Name x px) (.ref I) α [I] (rng a b) (fun _ => True) (fun i h => IsRangeIter h I (a + (i : Nat)) ((((b - a).toNat : Nat) : Int) - (i : Nat)) 1) where
  frame := fun i h h' t k _ => k I (by simp) _ t
  live := fun i h t b hb => by
    simp at hb; subst hb
    exact ⟨_, t, noTup_fields rfl⟩
  item := fun i s α' σ d hd t S c ha hp E Q hQ => by
    obtain ⟨hi, rfl⟩ := rng_get hd
    refine wpAny_pyNext_range_item t (by (first | lia | omega)) fun h' t' hs' => ?_
    refine wpAny_pure (hQ (.int (a + (i : Nat)) s.toks) h' (s.toks + 1) ?_ (.int _ _) fun b o' hb e' => (hs'.2 b fun q => hb (q ▸ List.mem_singleton_self _)).trans e')
    have e1 : a + ((i + 1 : Nat) : Int) = a + (i : Nat) + 1 := by (first | lia | omega)
    have e2 : (((b - a).toNat : Nat) : Int) - ((i + 1 : Nat) : Int) = (((b - a).toNat : Nat) : Int) - (i : Nat) - 1 := by (first | lia | omega)
    rw [e1, e2]; exact t'
  done := fun s α' σ t S c ha hp E Q hQ => by
    refine wpAny_pyNext_range_end hh t (by rw [rng_length]; (first | lia | omega)) fun h' hx => ?_
    exact hQ h' s.toks fun b o hb e => hx b o (fun q => hb (q ▸ List.mem_singleton_self _)) e
  self := fun s E Q t q => wpAny_pyIter_rangeiter t q
theorem src_range_core {x : Str} {px : Pos} {P : List PV → (List AO → Prop) → List AO → Prop} {a b : Int} {t u v : Tok} {s₀ s₁ : Shared} {α₁ : List Addr} {σ₁ : List AO} {r : Addr} {E : Value → Shared → Prop} {Q : Value → Shared → Prop}
    (hh : A.handled = none) (hr : IsRange s₁.heap r a b 1 t u v) (S₁ : St prog w h₀ α₁ σ₁ s₁.heap) (ha : -1000 ≤ a ∧ a ≤ 1000) (hb : -1000 ≤ b ∧ b ≤ 1000) (g₁ : Go [] α α₁ s₀ s₁) (p : P (rng a b) (fun _ => True) σ₁)
    (hQ : ∀ it fp T l C s' α' σ', Go [] α α' s₀ s' → St prog w h₀ α' σ' s'.heap → (∀ b ∈ fp, s₀.heap.get? b = none ∧ b ∉ α') → T 0 s'.heap → Iter prog w h₀ A (.Name x px) it α' fp l C T → P l C σ' → Q it s') :
    wpAny (model prog w) A (pyIter (.ref r)) Q E s₁ := by
  refine wpAny_pyIter_range hr (small_one (by (first | lia | omega)) (by (first | lia | omega)) (by (first | lia | omega)) (by (first | lia | omega))) ?_
  have k := fun b' o (e : s₁.heap.get? b' = some o) => Heap.get?_push_of_some ({ cls := .type "range_iterator", data := .fields #[rawInt a, rawInt (Builtin.Range.rangeSize a b 1), rawInt 1] } : Obj) e
  refine hQ (.ref s₁.heap.objs.size) [s₁.heap.objs.size] _ (rng a b) _ { s₁ with heap := s₁.heap.push { cls := .type "range_iterator", data := .fields #[rawInt a, rawInt (Builtin.Range.rangeSize a b 1), rawInt 1] } } α₁ σ₁
    (g₁.trans (Go.keeps (tk := s₁.toks) k)) (S₁.keeps k) (fun b' hb' => ?_) ?_ (iter_range (a := a) (b := b) hh) p
  · simp at hb'; subst hb'
    refine ⟨?_, fun q => by obtain ⟨o, e, _⟩ := S₁.live q; rw [Heap.size_fresh] at e; cases e⟩
    cases e0 : s₀.heap.get? s₁.heap.objs.size with
    | none => rfl
    | some o => obtain ⟨o', e'⟩ := g₁.live _ _ e0; rw [Heap.size_fresh] at e'; cases e'
  · show IsRangeIter _ _ _ _ _
    have e : Builtin.Range.rangeSize a b 1 = (((b - a).toNat : Nat) : Int) := rangeSize_nat a b
    rw [e]
    simpa using Heap.get?_push_size s₁.heap (o := { cls := .type "range_iterator", data := .fields #[rawInt a, rawInt (((b - a).toNat : Nat) : Int), rawInt 1] }) rfl
/-- range(b), range(a, b) -/
theorem src_range1 {fl : List (Str × Addr)} {bl : List Str} {e : Expr} {np pos : Pos} {x : Str} {px : Pos} {P : List PV → (List AO → Prop) → List AO → Prop} (B : Base h₀ fl bl) (hx : Str.ofString "range" ∈ bl) (hk : sc.names.lookup (Str.ofString "range") = some .globalImplicit)
    (h : Ev prog w h₀ n sc e ρ σ fun d σ₁ => ∃ b : Int, d = .int b ∧ -1000 ≤ b ∧ b ≤ 1000 ∧ P (rng 0 b) (fun _ => True) σ₁)
    (he : ∀ env, starEach [e] env = [(false, eval e env)] := by intro _; with_unfolding_all rfl) : Src prog w h₀ n sc (.Name x px) (.Call (.Name (Str.ofString "range") np) [e] [] pos) ρ σ P := by
  intro env A s α hsc hr F S E Q hQ
  obtain ⟨mg, mb, hg, hb, _, _, hbl⟩ := B.names
  refine Call_ (wpAny_Name (ks_loadName_global F.fn (by unfold Env.kindOf; rw [hsc]; exact hk) (Calls.loadGlobal_builtin (mg := mg) (mb := mb) (v := .type "range") (by rw [F.gl]; exact hg.keeps S.keep) (hbl _ hx).1 (by rw [F.bl]; exact hb.keeps S.keep) ((hbl _ hx).2.trans (by decide +kernel)) ?_)) (by decide))
  refine PyProof.Rows.callWith_type1 (rest := []) (spliced_more (h env A s α hsc hr F S _ _ fun v d s₁ α₁ σ₁ g₁ S₁ r₁ p₁ => spliced_none ?_) (he env)) (he env)
  obtain ⟨b, rfl, b1, b2, p⟩ := p₁
  obtain ⟨t, rfl⟩ := r₁.int'
  · skip
    refine call_range_1 ?_
    have k := fun b' o (e : s₁.heap.get? b' = some o) => Heap.get?_push_of_some ({ cls := .type "range", data := .fields #[.int 0 s₁.toks, .int b t, .int 1 (s₁.toks + 1)] } : Obj) e
    exact src_range_core hr.handled (IsRange.new _ _ _ _ _ _ _) (S₁.keeps k) (by (first | lia | omega)) (by (first | lia | omega)) (g₁.trans (Go.keeps (tk := s₁.toks + 1 + 1) k)) p hQ
theorem src_range2 {fl : List (Str × Addr)} {bl : List Str} {e e₂ : Expr} {np pos : Pos} {x : Str} {px : Pos} {P : List PV → (List AO → Prop) → List AO → Prop} (B : Base h₀ fl bl) (hx : Str.ofString "range" ∈ bl) (hk : sc.names.lookup (Str.ofString "range") = some .globalImplicit)
    (h : Ev prog w h₀ n sc e ρ σ fun d σ₁ => Ev prog w h₀ n sc e₂ ρ σ₁ fun d₂ σ₂ => ∃ a b : Int, d = .int a ∧ d₂ = .int b ∧ (-1000 ≤ a ∧ a ≤ 1000) ∧ (-1000 ≤ b ∧ b ≤ 1000) ∧ P (rng a b) (fun _ => True) σ₂)
    (he : ∀ env, starEach [e, e₂] env = (false, eval e env) :: starEach [e₂] env := by intro _; with_unfolding_all rfl) (he₂ : ∀ env, starEach [e₂] env = [(false, eval e₂ env)] := by intro _; with_unfolding_all rfl)
    (hp : ∀ env pos, (backTo pos (starEach [e₂] env)).any (·.1) = false := by intro _ _; with_unfolding_all rfl) : Src prog w h₀ n sc (.Name x px) (.Call (.Name (Str.ofString "range") np) [e, e₂] [] pos) ρ σ P := by
  intro env A s α hsc hr F S E Q hQ
  obtain ⟨mg, mb, hg, hb, _, _, hbl⟩ := B.names
  refine Call_ (wpAny_Name (ks_loadName_global F.fn (by unfold Env.kindOf; rw [hsc]; exact hk) (Calls.loadGlobal_builtin (mg := mg) (mb := mb) (v := .type "range") (by rw [F.gl]; exact hg.keeps S.keep) (hbl _ hx).1 (by rw [F.bl]; exact hb.keeps S.keep) ((hbl _ hx).2.trans (by decide +kernel)) ?_)) (by decide))
  refine PyProof.Rows.callWith_type1 (spliced_more (h env A s α hsc hr F S _ _ fun v d s₁ α₁ σ₁ g₁ S₁ r₁ p₁ => ?_) (he env)) (he env) (hp env pos)
  refine spliced_more (p₁ env A s₁ α₁ hsc hr (F.go g₁) S₁ _ _ fun v₂ d₂ s₂ α₂ σ₂ g₂ S₂ r₂ p₂ => spliced_none ?_) (he₂ env)
  obtain ⟨a, b, rfl, rfl, ha, hb', p⟩ := p₂
  obtain ⟨t, rfl⟩ := r₁.int'
  · skip
    obtain ⟨u, rfl⟩ := r₂.int'
    · skip
      refine call_range_2 ?_
      have k := fun b' o (e : s₂.heap.get? b' = some o) => Heap.get?_push_of_some ({ cls := .type "range", data := .fields #[.int a t, .int b u, .int 1 s₂.toks] } : Obj) e
      exact src_range_core hr.handled (IsRange.new _ _ _ _ _ _ _) (S₂.keeps k) ha hb' ((g₁.trans g₂).trans (Go.keeps (tk := s₂.toks + 1) k)) p hQ
end
theorem bindL_get {kindOf : Str → Option NameKind} {x : Str} (hk : kindOf x = some .local) : ∀ (binds : List (Str × Value)) (m : Str → Option Value), bindL kindOf binds m x = (binds.reverse.lookup x).or (m x)
  | [], m => by simp [bindL]
  | (y, v) :: r, m => by
    unfold bindL
    rw [bindL_get hk r, List.reverse_cons, List.lookup_append]
    by_cases q : x = y
    · subst q
      rw [if_pos hk]
      simp
    · have hb : (x == y) = false := beq_eq_false_iff_ne.mpr q
      have e : (if kindOf y = some .local then fun z => if z = y then some v else m z else m) x = m x := by
        split
        · simp [q]
        · rfl
      rw [e]
      simp [List.lookup_cons, hb]
theorem bindC_get {kindOf : Str → Option NameKind} {x : Str} (hk : kindOf x = some .cell) : ∀ (binds : List (Str × Value)) (m : Str → Option Value), bindC kindOf binds m x = (binds.reverse.lookup x).or (m x)
  | [], m => by simp [bindC]
  | (y, v) :: r, m => by
    unfold bindC
    rw [bindC_get hk r, List.reverse_cons, List.lookup_append]
    by_cases q : x = y
    · subst q
      rw [if_neg (by rw [hk]; decide)]
      simp
    · have hb : (x == y) = false := beq_eq_false_iff_ne.mpr q
      have e : (if kindOf y = some .local then m else fun z => if z = y then some v else m z) x = m x := by
        split
        · rfl
        · simp [q]
      rw [e]
      simp [List.lookup_cons, hb]
theorem zip_lookup {α : List Addr} {h : Heap} {x : Str} {d : PV} : ∀ (names : List Str) {vs : List Value} {ds : List PV}, RepL α h vs ds → (names.zip ds).reverse.lookup x = some d → ∃ v, (names.zip vs).reverse.lookup x = some v ∧ Rep α h v d
  | [], vs, ds, r, e => by simp at e
  | y :: names, _, _, .nil, e => by simp at e
  | y :: names, _, _, .cons (v := v) (d := d') (vs := vs) (ds := ds) r0 r, e => by
    rw [List.zip_cons_cons, List.reverse_cons, List.lookup_append] at e ⊢
    cases e1 : (names.zip ds).reverse.lookup x with
    | some d1 =>
      rw [e1] at e
      simp at e; subst e
      obtain ⟨v1, ev, rv⟩ := zip_lookup names r e1
      exact ⟨v1, by rw [ev]; rfl, rv⟩
    | none =>
      rw [e1] at e
      have none' : (names.zip vs).reverse.lookup x = none := by
        cases e2 : (names.zip vs).reverse.lookup x with
        | none => rfl
        | some v2 =>
          exfalso
          have hm := PySem.mem_of_lookup e2
          rw [List.mem_reverse] at hm
          obtain ⟨i, hi, hg⟩ := List.getElem_of_mem hm
          have hl := r.length
          have hi' : i < (names.zip ds).length := by simp at hi ⊢; (first | lia | omega)
          have : (names.zip ds)[i] ∈ (names.zip ds).reverse := List.mem_reverse.mpr (List.getElem_mem hi')
          rw [List.lookup_eq_none_iff] at e1
          have e3 := e1 _ this
          rw [List.getElem_zip] at hg e3
          simp at hg e3
          exact e3 hg.1.symm
      rw [none']
      simp only [Option.none_or, List.lookup_cons] at e ⊢
      cases hb : x == y with
      | true => rw [hb] at e; simp at e; subst e; exact ⟨v, by simp, r0⟩
      | false => rw [hb] at e; simp at e

section
variable {prog : Program} {w : World} {h₀ : Heap} {n : Nat} {σ : List AO} {P : PV → List AO → Prop} {A : Around} {s : Shared} {α : List Addr}

theorem callF_of {f : Addr} {names : List Str} {body : List Stmt} {scope : Scope} {ds : List PV} (hf : FnAt h₀ f names body scope) (hlim : h₀.NoLimit) (hlen : ds.length = names.length)
    (hk : scope.kind = .function) (hco : scope.isCoroutine = false) (hgen : scope.isGenerator = false) (hnames : ∀ x ∈ names, Bound scope x)
    (hb : Exs prog w h₀ n scope body (names.zip ds).reverse σ fun fl ρ' σ' => match fl with | .next => P .none σ' | .ret d => P d σ') : CallV prog w h₀ (n + 1) (.ref f) ds σ P := by
  intro A s α vs hr S r E Q hQ
  obtain ⟨o, fd, ho, hdat, hbody, hsc, hgl, hclo, hbl, hcd, hbind⟩ := hf
  subst hsc
  have hvl : vs.length = names.length := r.length.trans hlen
  refine wpAny_call ?_
  refine codeAny_call_cells hr.deep (S.keep f o ho) hdat (hlim.keeps S.keep) (hcd.keeps S.keep) hbody (hbind vs hvl) hclo (fun x hx => ?_) (fun s₁ I => ?_) hco hgen hk
  · have hm : x.1 ∈ names := (List.of_mem_zip hx).1
    exact (hnames _ hm).imp id fun q => ⟨q, cellsFrom_some _ _ _ (.inl q)⟩
  · obtain ⟨h', tk, rfl, hk'⟩ := I.done
    have hsize : s.heap.objs.size ≤ (callEnvC fd s.heap.objs.size f).locals := I.toInCall.fresh
    have dead : ∀ b, s.heap.objs.size ≤ b → s.heap.get? b = none := fun b hb => by
      cases e : s.heap.get? b with
      | none => rfl
      | some o => exact absurd (Heap.lt_size e) (Nat.not_lt.mpr hb)
    have dead0 : ∀ b, s.heap.get? b = none → h₀.get? b = none := fun b hb => by
      cases e : h₀.get? b with
      | none => rfl
      | some o => have := S.keep b o e; rw [hb] at this; cases this
    have notin : ∀ b, s.heap.get? b = none → b ∉ α := fun b hb q => by obtain ⟨o, e, _⟩ := S.live q; rw [hb] at e; cases e
    have g₁ : Go [] α α s { s with heap := h', toks := tk } := Go.keeps hk'
    have rr := r.mono g₁.pre g₁.tup
    have F₁ : Fm h₀ (callEnvC fd s.heap.objs.size f) (names.zip ds).reverse α h' := by
      refine ⟨hk, hgl, hbl, dead0 _ (dead _ hsize), notin _ (dead _ hsize), ⟨_, I.toInCall.ns, fun x d h1 h2 => ?_⟩, fun x hx => ?_, fun x y c h1 h2 => ?_⟩
      · obtain ⟨v, ev, rv⟩ := zip_lookup names rr h1
        exact ⟨v, by rw [bindL_get h2, ev]; rfl, rv⟩
      · have hx' : fd.scope.names.lookup x = some .cell := hx
        have hs : ((callEnvC fd s.heap.objs.size f).cells.lookup x).isSome = true := cellsFrom_some _ _ _ (.inl hx')
        obtain ⟨c, hc⟩ := Option.isSome_iff_exists.mp hs
        have hlt := I.above x c (PySem.mem_of_lookup hc)
        have hd := dead c (Nat.le_trans hsize (Nat.le_of_lt hlt))
        refine ⟨c, hc, notin _ hd, Nat.ne_of_gt hlt, dead0 _ hd, _, I.cell x c hc, fun d h1 => ?_⟩
        obtain ⟨v, ev, rv⟩ := zip_lookup names rr h1
        exact ⟨v, by rw [bindC_get hx, ev]; rfl, rv⟩
      · exact name_of_addr I.apart (PySem.mem_of_lookup h1) (PySem.mem_of_lookup h2)
    refine hb (callEnvC fd s.heap.objs.size f) (A.deeper _) { s with heap := h', toks := tk } α rfl (hr.deeper _) F₁ (S.keeps hk') _ _ fun fl' fl ρ' s' α' σ' g F' S' r' p => ?_
    have own : ∀ b ∈ ownD (callEnvC fd s.heap.objs.size f), s.heap.get? b = none := fun b hb => by
      rcases List.mem_cons.mp hb with rfl | hb
      · exact dead _ hsize
      · obtain ⟨x, _, hc⟩ := mem_cellsOf.mp hb
        exact dead _ (Nat.le_trans hsize (Nat.le_of_lt (I.above x b (PySem.mem_of_lookup hc))))
    have gg : Go [] α α' s s' := g₁.transF g own
    cases fl with
    | next => cases fl' <;> simp only [FlRep] at r'; exact hQ .none .none s' α' σ' gg S' .none p
    | ret d => cases fl' <;> simp only [FlRep] at r'; exact hQ _ d s' α' σ' gg S' r' p
end
theorem closure_go {env : Env} (f : Str × NameKind → List (Str × Addr) → Sem (ForInStep (List (Str × Addr))))
    (hf : ∀ x k cs, f (x, k) cs = if k == .free then (do let a ← cellOf env x; pure (.yield ((x, a) :: cs))) else pure (.yield cs)) :
    ∀ (names : List (Str × NameKind)) (acc : List (Str × Addr)), (∀ x, (x, NameKind.free) ∈ names → ∃ c, env.cells.lookup x = some c) → (∀ p ∈ acc, env.cells.lookup p.1 = some p.2) →
      ∃ cl, forIn names acc f = pure cl ∧ (∀ p ∈ cl, env.cells.lookup p.1 = some p.2) ∧ (∀ x, (x, NameKind.free) ∈ names → ∃ c, (x, c) ∈ cl) ∧ (∀ p ∈ acc, p ∈ cl)
  | [], acc, _, ha => ⟨acc, by rw [List.forIn_nil], ha, (fun x hx => by simp at hx), fun p hp => hp⟩
  | (x, k) :: r, acc, hn, ha => by
    rw [List.forIn_cons, hf]
    by_cases hk : (k == NameKind.free) = true
    · have hk' : k = .free := by simpa using hk
      subst hk'
      obtain ⟨c, hc⟩ := hn x List.mem_cons_self
      obtain ⟨cl, h1, h2, h3, h4⟩ := closure_go f hf r ((x, c) :: acc) (fun y hy => hn y (List.mem_cons_of_mem _ hy)) (fun p hp => by
        rcases List.mem_cons.mp hp with rfl | hp
        · exact hc
        · exact ha p hp)
      refine ⟨cl, ?_, h2, fun y hy => ?_, fun p hp => h4 p (List.mem_cons_of_mem _ hp)⟩
      · rw [if_pos hk]
        unfold cellOf
        rw [hc]
        exact h1
      · rcases List.mem_cons.mp hy with e | hy
        · cases e; exact ⟨c, h4 _ List.mem_cons_self⟩
        · exact h3 y hy
    · obtain ⟨cl, h1, h2, h3, h4⟩ := closure_go f hf r acc (fun y hy => hn y (List.mem_cons_of_mem _ hy)) ha
      refine ⟨cl, ?_, h2, fun y hy => ?_, h4⟩
      · rw [if_neg hk]; exact h1
      · rcases List.mem_cons.mp hy with e | hy
        · cases e; exact absurd rfl hk
        · exact h3 y hy
theorem closure_ok {env : Env} {scope : Scope} (hn : ∀ x, (x, NameKind.free) ∈ scope.names → ∃ c, env.cells.lookup x = some c) :
    ∃ cl, closureFor scope env = pure cl ∧ (∀ p ∈ cl, env.cells.lookup p.1 = some p.2) ∧ ∀ x, (x, NameKind.free) ∈ scope.names → ∃ c, (x, c) ∈ cl := by
  obtain ⟨cl, h1, h2, h3, _⟩ := closure_go (env := env) (fun x cs => match x with | (name, kind) => if (kind == NameKind.free) = true then (do let a ← cellOf env name; pure (ForInStep.yield ((name, a) :: cs))) else pure (ForInStep.yield cs)) (fun _ _ _ => rfl) scope.names [] hn (fun p hp => nomatch hp)
  refine ⟨cl, ?_, h2, h3⟩
  show ((forIn scope.names [] (fun x cs => match x with | (name, kind) => if (kind == NameKind.free) = true then (do let a ← cellOf env name; pure (ForInStep.yield ((name, a) :: cs))) else pure (ForInStep.yield cs))) >>= fun s => pure s) = pure cl
  rw [h1]; rfl

/-- the scope of a comprehension's block within sc -/
def rel (scope sc : Scope) : Scope :=
  { scope with names := scope.names.map fun (y, k) => if (k == .free && sc.kind == .function && sc.names.lookup y == some .cell) then (y, .cell) else (y, k) }
theorem rel_eq {scope : Scope} {env : Env} : relabel scope env = rel scope env.scope := rfl
theorem rel_cell {scope sc : Scope} {y : Str} (hcell : ∀ y ∈ scope.names, y.2 ≠ .cell) (h : (rel scope sc).names.lookup y = some .cell) : (y, NameKind.free) ∈ scope.names ∧ sc.names.lookup y = some .cell := by
  have hm := PySem.mem_of_lookup h
  obtain ⟨⟨z, k⟩, hz, e⟩ := List.mem_map.mp hm
  dsimp only at e
  split at e
  · rename_i hc
    cases e
    simp only [Bool.and_eq_true, beq_iff_eq] at hc
    exact ⟨hc.1.1 ▸ hz, hc.2⟩
  · cases e; exact absurd rfl (hcell _ hz)
theorem rel_local {scope sc : Scope} {y : Str} (h : (rel scope sc).names.lookup y = some .local) : (y, NameKind.local) ∈ scope.names := by
  have hm := PySem.mem_of_lookup h
  obtain ⟨⟨z, k⟩, hz, e⟩ := List.mem_map.mp hm
  dsimp only at e
  split at e
  · cases e
  · cases e; exact hz

section
variable (prog : Program) (w : World) (h₀ : Heap)
/-- the tests of a comprehension: none or one -/
def TstL (n : Nat) (sc : Scope) (ifs : List Expr) (ρ : List (Str × PV)) (σ : List AO) (P : Bool → List AO → Prop) : Prop := match ifs with
  | [] => P true σ
  | [c] => Tst prog w h₀ n sc c ρ σ P
  | _ => False
end
section
variable {prog : Program} {w : World} {h₀ : Heap} {n : Nat} {sc : Scope} {ρ : List (Str × PV)} {σ : List AO} {A : Around} {s : Shared} {α : List Addr}
theorem tstL_run {ifs : List Expr} {P : Bool → List AO → Prop} {env : Env} (h : TstL prog w h₀ n sc ifs ρ σ P) (hsc : env.scope = sc) (hr : Room n A) (F : Fm h₀ env ρ α s.heap) (S : St prog w h₀ α σ s.heap)
    {E : Value → Shared → Prop} {Q : Bool → Shared → Prop} (hQ : ∀ b s' α' σ', Go [] α α' s s' → St prog w h₀ α' σ' s'.heap → P b σ' → Q b s') :
    wpAny (model prog w) A (forIn ifs true fun c r => if r = true then (do let ok ← isTrue c env (eval c env); pure (ForInStep.yield ok)) else pure (ForInStep.yield r)) Q E s := by
  match ifs, h with
  | [], h => rw [List.forIn_nil]; exact wpAny_pure (hQ true s α σ (Go.refl _ _ _) S h)
  | [c], h =>
    rw [List.forIn_cons, if_pos rfl]
    refine wpAny_bind (wpAny_bind (h env A s α _ rfl hsc hr F S _ _ fun b s' α' σ' g S' p => wpAny_pure ?_))
    show wpAny _ _ (forIn [] b _) _ _ _
    rw [List.forIn_nil]
    exact wpAny_pure (hQ b s' α' σ' g S' p)

theorem comp_core {x : Str} {px pos : Pos} {iter elt : Expr} {ifs : List Expr} {scope : Scope} {P : PV → List AO → Prop} (ρc : List (Str × PV))
    (h : Src prog w h₀ n sc (.Name x px) iter ρ σ fun l C σ₁ => ∃ J : Nat → List PV → List AO → Prop, J 0 [] (σ₁ ++ [.list []]) ∧ (∀ i acc σ, J i acc σ → C σ ∧ σ[σ₁.length]? = some (.list acc)) ∧ l.length ≤ 1000 ∧
      (∀ i d acc σ, l[i]? = some d → J i acc σ → TstL prog w h₀ n (rel scope sc) ifs ((x, d) :: ρc) σ fun b σ₂ =>
        (b = true → Ev prog w h₀ n (rel scope sc) elt ((x, d) :: ρc) σ₂ fun v σ₃ => σ₃[σ₁.length]? = some (.list acc) ∧ J (i + 1) (acc ++ [v]) (σ₃.set σ₁.length (.list (acc ++ [v])))) ∧ (b = false → J (i + 1) acc σ₂)) ∧
      (∀ acc σ, J l.length acc σ → P (.obj σ₁.length) σ))
    (hkind : scope.kind = .function) (hcell : ∀ y ∈ scope.names, y.2 ≠ .cell) (hnames : ∀ y ∈ scope.names, y.2 = .local → scope.names.lookup y.1 = some .local)
    (hx : scope.names.lookup x = some .local) (hρ : ∀ y d, ρc.lookup y = some d → ρ.lookup y = some d) (hone : ∀ y, (y, NameKind.local) ∈ scope.names → y = x ∨ ρc.lookup y = none) (hfree : ∀ y, (y, NameKind.free) ∈ scope.names → sc.names.lookup y = some .cell)
    (hs : ∀ env x, foldedSetIterable iter env x = pure x := by intro _ _; with_unfolding_all rfl)
    {use : Option (Value → Sem Unit)} {pc : Pos} {env : Env} {A : Around} {s : Shared} {α : List Addr} (hsc : env.scope = sc) (hr : Room n A) (F : Fm h₀ env ρ α s.heap) (S : St prog w h₀ α σ s.heap) {E : Value → Shared → Prop} {Q : Value → Shared → Prop}
    (hfin : ∀ (C D : Addr) (k : Nat) (α₃ : List Addr) (σ₃ : List AO) (s₄ : Shared) (m : Str → Option Value) (v : Flow), Go [] α α₃ s s₄ → St prog w h₀ α₃ σ₃ s₄.heap → P (.obj k) σ₃ → α₃[k]? = some D → s₄.heap.Ns C m → s.heap.get? C = none → C ∉ α₃ → h₀.get? C = none →
      compPost (model prog w) A E use Q (.ref D) C (.ok v) s₄) :
    wpAny (model prog w) A (comprehension (.ListComp elt [⟨.Name x px, iter, ifs, 0⟩] scope pos) scope env pc (newList []) false (eval iter env) use) Q E s := by
  have hk0 : ∀ y, (y, NameKind.free) ∈ scope.names → env.kindOf y = some .cell := fun y hy => by unfold Env.kindOf; rw [hsc]; exact hfree y hy
  obtain ⟨cl, hclos, hcl1, hcl2⟩ := closure_ok (env := env) (scope := scope) fun y hy => let ⟨c, hc, _⟩ := F.cells y (hk0 y hy); ⟨c, hc⟩
  refine wpAny_comprehension_free (use := use) (g := ⟨.Name x px, iter, ifs, 0⟩) (gs := []) rfl (hs env) hclos hkind hnames ?_
  refine h env A s α hsc hr F S _ _ fun it fp T l C s₁ α₁ σ₁ g₁ S₁ hf hT W p => ?_
  obtain ⟨J, j0, jC, hlen, turn, done⟩ := p
  refine wpAny_newList ?_ (by rw [sizeLine_eq]; exact Nat.zero_le _)
  refine wpAny_newFunctionEnv hcell (fun y hy => nomatch hy) (fun h₂ hns hsb => ?_) hkind
  dsimp only at hns hsb ⊢
  generalize hH : s₁.heap.push { cls := .type "list", dict := none, data := .seq ([] : List Value).toArray } = H at hns hsb ⊢
  have hC : H.objs.size = s₁.heap.objs.size + 1 := by rw [← hH, Heap.size_push]
  have dead₁ : ∀ b, s₁.heap.objs.size ≤ b → s₁.heap.get? b = none := fun b hb => by
    cases e : s₁.heap.get? b with
    | none => rfl
    | some o => exact absurd (Heap.lt_size e) (Nat.not_lt.mpr hb)
  have deads : ∀ b, s₁.heap.get? b = none → s.heap.get? b = none := fun b hb => by
    cases e : s.heap.get? b with
    | none => rfl
    | some o => obtain ⟨o', e'⟩ := g₁.live b o e; rw [hb] at e'; cases e'
  have k₂ : ∀ b o, s₁.heap.get? b = some o → h₂.get? b = some o := fun b o e => hsb.extBut b o (by rw [hC]; exact Nat.ne_of_lt (Nat.lt_succ_of_lt (Heap.lt_size e))) (Heap.get?_push_of_some _ (hH ▸ Heap.get?_push_of_some _ e))
  have hDC : s₁.heap.objs.size ≠ H.objs.size := by rw [hC]; exact Nat.ne_of_lt (Nat.lt_succ_self _)
  have hD₂ : h₂.get? s₁.heap.objs.size = some (listOf ([] : List Value).toArray 0) := hsb.extBut _ _ hDC (Heap.get?_push_of_some _ (hH ▸ Heap.get?_push_size _ rfl))
  have S₂ : St prog w h₀ (α₁ ++ [s₁.heap.objs.size]) (σ₁ ++ [.list []]) h₂ := S₁.new (ao := .list []) k₂ (dead₁ _ (Nat.le_refl _)) ⟨[], 0, hD₂, .nil⟩ S₁.loSize
  have fplive : ∀ b ∈ fp, ∃ o, s₁.heap.get? b = some o := fun b hb => let ⟨o, e, _⟩ := W.live _ _ hT b hb; ⟨o, e⟩
  have hCs₁ : s₁.heap.get? H.objs.size = none := dead₁ _ (by rw [hC]; exact Nat.le_succ _)
  have hCs : s.heap.get? H.objs.size = none := deads _ hCs₁
  have hC0 : h₀.get? H.objs.size = none := by
    cases e : h₀.get? H.objs.size with
    | none => rfl
    | some o => have := S.keep _ o e; rw [hCs] at this; cases this
  have hCfp : H.objs.size ∉ fp := fun q => by obtain ⟨o, e⟩ := fplive _ q; rw [hCs₁] at e; cases e
  have fps : ∀ b ∈ fp, s.heap.get? b = none := fun b hb => (hf b hb).1
  have own0 : ∀ b ∈ fp, h₀.get? b = none := fun b hb => by
    cases e : h₀.get? b with
    | none => rfl
    | some o => have := S.keep b o e; rw [fps b hb] at this; cases this
  have hkD : (α₁ ++ [s₁.heap.objs.size])[σ₁.length]? = some s₁.heap.objs.size := by rw [← S₁.len]; simp
  have hcenvsc : (compEnvC scope cl H.objs.size env).scope = rel scope sc := by rw [← hsc]; rfl
  have loop : ∀ s₂ : Shared, s₂ = { s₁ with heap := h₂, toks := s₁.toks + ([] : List (Str × Value)).length } →
      codeAny (model prog w) A (.compLoop (.ListComp elt [⟨.Name x px, iter, ifs, 0⟩] scope pos) 0 it (.ref s₁.heap.objs.size) (compEnvC scope cl H.objs.size env)) (compPost (model prog w) A E use Q (.ref s₁.heap.objs.size) H.objs.size) s₂ := by
    rintro s₂ rfl
    have g₂ : Go [] α (α₁ ++ [s₁.heap.objs.size]) s { s₁ with heap := h₂, toks := s₁.toks + ([] : List (Str × Value)).length } := g₁.trans (Go.new k₂ (dead₁ _ (Nat.le_refl _)))
    refine codeAny_compLoop_tests (fun k s' => ∃ α' σ' acc i m, Go [] α α' s s' ∧ (α₁ ++ [s₁.heap.objs.size]) <+: α' ∧ St prog w h₀ α' σ' s'.heap ∧ s'.heap.Ns H.objs.size m ∧ H.objs.size ∉ α' ∧ (∀ b ∈ fp, b ∉ α') ∧ T i s'.heap ∧ J i acc σ' ∧ acc.length ≤ i ∧ i ≤ l.length ∧ k = l.length - i) ?_ (l.length - 0)
      ⟨_, _, [], 0, _, g₂, List.prefix_refl _, S₂, hns, fun q => ?_, fun b hb q => ?_, W.frame _ _ _ hT (fun b _ o e => k₂ b o e) (TupK.of_keeps k₂), j0, Nat.le_refl _, Nat.zero_le _, rfl⟩
    · rintro k s₃ ⟨α₃, σ₃, acc, i, m, g₃, p₃, S₃, hn₃, hC₃, hf₃, hT₃, hJ, hacc, hi, rfl⟩
      cases hd : l[i]? with
      | none =>
        have hin : i = l.length := Nat.le_antisymm hi (by simpa using hd)
        subst hin
        refine W.done s₃ α₃ σ₃ hT₃ S₃ (jC _ _ _ hJ).1 hf₃ ((List.prefix_append _ _).trans p₃) _ _ fun h' tk kp => ?_
        have tk₄ : TupK s₃.heap h' := tupK_but kp (fun b hb o e => by obtain ⟨o', e', t⟩ := W.live _ _ hT₃ b hb; rw [e] at e'; cases e'; exact t)
        have g₄ := g₃.endF (tk := tk) fps kp tk₄
        have S₄ := S₃.keepBut kp tk₄ hf₃ own0
        have hn₄ : h'.Ns H.objs.size m := hn₃.at' fun o e => kp _ o hCfp e
        exact hfin H.objs.size s₁.heap.objs.size σ₁.length α₃ σ₃ _ m _ g₄ S₄ (done acc σ₃ hJ) (pre_get p₃ hkD) hn₄ hCs hC₃ hC0
      | some d =>
        have hlt : i < l.length := (List.getElem?_eq_some_iff.mp hd).1
        refine wpAny_mono (W.item i s₃ α₃ σ₃ d hd hT₃ S₃ (jC _ _ _ hJ).1 hf₃ ((List.prefix_append _ _).trans p₃) _ (fun v s₄ => wpAny (model prog w) A (assign (.Name x px) (compEnvC scope cl H.objs.size env) v) (fun _ s₂ => wpAny (model prog w) A (forIn ifs true fun c r => if r = true then (do let ok ← isTrue c (compEnvC scope cl H.objs.size env) (eval c (compEnvC scope cl H.objs.size env)); pure (ForInStep.yield ok)) else pure (ForInStep.yield r)) (fun ok s₃' => if ok = true then wpAny (model prog w) A (eval elt (compEnvC scope cl H.objs.size env)) (fun x s₄ => wpAny (model prog w) A (call (.builtin "list.append") [.ref s₁.heap.objs.size, x]) (fun _ s₅ => ∃ m, m < l.length - i ∧ ∃ α' σ' acc i m', Go [] α α' s s₅ ∧ (α₁ ++ [s₁.heap.objs.size]) <+: α' ∧ St prog w h₀ α' σ' s₅.heap ∧ s₅.heap.Ns H.objs.size m' ∧ H.objs.size ∉ α' ∧ (∀ b ∈ fp, b ∉ α') ∧ T i s₅.heap ∧ J i acc σ' ∧ acc.length ≤ i ∧ i ≤ l.length ∧ m = l.length - i) (notedBy (model prog w) A (compEnvC scope cl H.objs.size env) fun e s' => compPost (model prog w) A E use Q (.ref s₁.heap.objs.size) H.objs.size (.error e) s') s₄) (notedBy (model prog w) A (compEnvC scope cl H.objs.size env) fun e s' => compPost (model prog w) A E use Q (.ref s₁.heap.objs.size) H.objs.size (.error e) s') s₃' else ∃ m, m < l.length - i ∧ ∃ α' σ' acc i m', Go [] α α' s s₃' ∧ (α₁ ++ [s₁.heap.objs.size]) <+: α' ∧ St prog w h₀ α' σ' s₃'.heap ∧ s₃'.heap.Ns H.objs.size m' ∧ H.objs.size ∉ α' ∧ (∀ b ∈ fp, b ∉ α') ∧ T i s₃'.heap ∧ J i acc σ' ∧ acc.length ≤ i ∧ i ≤ l.length ∧ m = l.length - i) (notedBy (model prog w) A (compEnvC scope cl H.objs.size env) fun e s' => compPost (model prog w) A E use Q (.ref s₁.heap.objs.size) H.objs.size (.error e) s') s₂) (notedBy (model prog w) A (compEnvC scope cl H.objs.size env) fun e s' => compPost (model prog w) A E use Q (.ref s₁.heap.objs.size) H.objs.size (.error e) s') s₄) fun v h' tk hT₄ hrep kp => ?_) (fun r s₄ h₄ => ?_) fun _ _ e => e
        · have tk₄ : TupK s₃.heap h' := tupK_but kp (fun b hb o e => by obtain ⟨o', e', t⟩ := W.live _ _ hT₃ b hb; rw [e] at e'; cases e'; exact t)
          have hn₄ : h'.Ns H.objs.size m := hn₃.at' fun o e => kp _ o hCfp e
          refine wpAny_assign_Name (wpAny_storeName_local (lookup_relabel_local hx) hn₄ (fun h₅ hn₅ hs₅ => ?_) (by simp [compEnvC, relabel, hkind]))
          obtain ⟨oC, esC, epC, heC, hdC, _⟩ := hn₄
          have tk₅ : TupK h' h₅ := TupK.of_same hs₅ heC (noTup_dict hdC)
          have kC : ∀ b o, b ∉ [H.objs.size] → h'.get? b = some o → h₅.get? b = some o := fun b o hb e => (hs₅.2 b fun q => hb (q ▸ List.mem_singleton_self _)).trans e
          have oneC : ∀ b ∈ [H.objs.size], b = H.objs.size := fun b hb => by simpa using hb
          have g₅ := (g₃.endF (tk := tk) fps kp tk₄).endF (tk := tk + 1) (fp := [H.objs.size]) (fun b hb => oneC b hb ▸ hCs) kC tk₅
          have S₅ := (S₃.keepBut kp tk₄ hf₃ own0).keepBut kC tk₅ (fun b hb => oneC b hb ▸ hC₃) (fun b hb => oneC b hb ▸ hC0)
          have F₅ := F.go g₅
          have Fc : Fm h₀ (compEnvC scope cl H.objs.size env) ((x, d) :: ρc) α₃ h₅ := by
            refine ⟨hkind, F.gl, F.bl, hC0, hC₃, ⟨_, hn₅, fun y d' h1 h2 => ?_⟩, fun y hy => ?_, fun y z c h1 h2 => F.apart y z c (hcl1 _ (PySem.mem_of_lookup h1)) (hcl1 _ (PySem.mem_of_lookup h2))⟩
            · by_cases hyx : y = x
              · subst hyx
                rw [List.lookup_cons, beq_self_eq_true] at h1
                cases h1
                exact ⟨v, if_pos rfl, hrep.mono (List.prefix_refl _) tk₅⟩
              · rw [List.lookup_cons, beq_eq_false_iff_ne.mpr hyx] at h1
                rcases hone y (rel_local (sc := env.scope) h2) with q | q
                · exact absurd q hyx
                · have h1' : ρc.lookup y = some d' := h1
                  rw [q] at h1'; cases h1'
            · obtain ⟨q1, q2⟩ := rel_cell (sc := env.scope) hcell hy
              obtain ⟨c, hc, c1, c2, c3, u, hcell', hv⟩ := F₅.cells y q2
              obtain ⟨c', hc'⟩ := hcl2 y q1
              have hlk : cl.lookup y = some c := by
                cases e : cl.lookup y with
                | none => rw [List.lookup_eq_none_iff] at e; have := e _ hc'; simp at this
                | some c'' => have := hcl1 _ (PySem.mem_of_lookup e); rw [hc] at this; exact this.symm ▸ rfl
              have hyx : (y == x) = false := beq_eq_false_iff_ne.mpr fun e => by
                subst e
                have : (relabel scope env).names.lookup y = some .local := lookup_relabel_local hx
                have h3 : (relabel scope env).names.lookup y = some .cell := hy
                rw [h3] at this; cases this
              refine ⟨c, hlk, c1, fun e => ?_, c3, u, hcell', fun d' hd' => hv d' ?_⟩
              · obtain ⟨c₀, hc₀, _, _, _, u₀, ⟨o, ho, _⟩, _⟩ := F.cells y q2
                rw [hc] at hc₀; cases hc₀
                have e' : c = H.objs.size := e
                rw [e', hCs] at ho; cases ho
              · rw [List.lookup_cons, hyx] at hd'; exact hρ _ _ hd'
          have hT₅ : T (i + 1) h₅ := W.frame _ _ _ hT₄ (fun b hb o e => kC b o (fun q => hCfp (oneC b q ▸ hb)) e) tk₅
          have lvC : ∃ o, h₅.get? H.objs.size = some o := ns_live hn₅
          refine tstL_run (turn i d acc σ₃ hd hJ) hcenvsc hr Fc S₅ fun b s₆ α₆ σ₆ g₆ S₆ p₆ => ?_
          have fpA : ∀ α' (s' : Shared), Go [] α₃ α' { s₃ with heap := h₅, toks := tk + 1 } s' → (∀ b ∈ fp, b ∉ α') ∧ H.objs.size ∉ α' := fun α' s' g => by
            refine ⟨fun b hb q => ?_, fun q => ?_⟩
            · have e := g.fresh b q (hf₃ b hb)
              obtain ⟨o, e', _⟩ := W.live _ _ hT₅ b hb
              have e'' : ({ s₃ with heap := h₅, toks := tk + 1 } : Shared).heap.get? b = some o := e'
              rw [e] at e''; cases e''
            · have e := g.fresh _ q hC₃
              obtain ⟨o, e'⟩ := lvC
              have e'' : ({ s₃ with heap := h₅, toks := tk + 1 } : Shared).heap.get? H.objs.size = some o := e'
              rw [e] at e''; cases e''
          have keepT : ∀ α' (s' : Shared), Go [] α₃ α' { s₃ with heap := h₅, toks := tk + 1 } s' → T (i + 1) s'.heap ∧ ∃ m', s'.heap.Ns H.objs.size m' := fun α' s' g =>
            ⟨W.frame _ _ _ hT₅ (fun b hb o e => g.pres b o (hf₃ b hb) (fun q => nomatch q) e) g.tup, _, hn₅.at' fun o e => g.pres _ o hC₃ (fun q => nomatch q) e⟩
          cases b with
          | false =>
            rw [if_neg (by decide)]
            obtain ⟨t1, m', t2⟩ := keepT _ _ g₆
            obtain ⟨a1, a2⟩ := fpA _ _ g₆
            exact ⟨l.length - (i + 1), by omega, α₆, σ₆, acc, i + 1, m', g₅.trans g₆, p₃.trans g₆.pre, S₆, t2, a2, a1, t1, p₆.2 rfl, Nat.le_succ_of_le hacc, hlt, rfl⟩
          | true =>
            rw [if_pos rfl]
            refine p₆.1 rfl (compEnvC scope cl H.objs.size env) A s₆ α₆ hcenvsc hr (Fc.go g₆) S₆ _ _ fun y dy s₇ α₇ σ₇ g₇ S₇ r₇ p₇ => ?_
            have g₆₇ := g₆.trans g₇
            obtain ⟨t1, m', t2⟩ := keepT _ _ g₆₇
            obtain ⟨a1, a2⟩ := fpA _ _ g₆₇
            have hk₇ : α₇[σ₁.length]? = some s₁.heap.objs.size := pre_get (p₃.trans g₆₇.pre) hkD
            obtain ⟨aD, ea, vs, mm, eD, rD⟩ := S₇.at p₇.1
            rw [hk₇] at ea; cases ea
            refine wpAny_list_append_plain (items := vs.toArray) ⟨mm, eD⟩ (fun h₈ hl₈ hs₈ => ?_) (by rw [List.size_toArray, rD.length, sizeLine_eq]; omega)
            obtain ⟨m8, e8⟩ := hl₈
            have tk₈ : TupK s₇.heap h₈ := TupK.of_same hs₈ eD (fun q => absurd (show Value.type "list" = _ from q) (by decide))
            have S₈ : St prog w h₀ α₇ (σ₇.set σ₁.length (.list (acc ++ [dy]))) h₈ := S₇.put hk₇ hs₈ ⟨vs ++ [y], m8, by rw [e8]; simp, (rD.append (.cons r₇ .nil)).mono (List.prefix_refl _) tk₈⟩
            have g₈ : Go [] α₇ α₇ s₇ { s₇ with heap := h₈ } := Go.put (tk := s₇.toks) S₇ hk₇ hs₈ ⟨_, e8⟩
            have hDfp : ∀ b ∈ fp, b ≠ s₁.heap.objs.size := fun b hb e => a1 b hb (e ▸ List.mem_of_getElem? hk₇)
            refine ⟨l.length - (i + 1), by omega, α₇, _, acc ++ [dy], i + 1, m', g₅.trans (g₆₇.trans g₈), p₃.trans g₆₇.pre, S₈, t2.sameBut hs₈ (Ne.symm hDC), a2, a1,
              W.frame _ _ _ t1 (fun b hb o e => (hs₈.2 b (hDfp b hb)).trans e) tk₈, p₇.2, by simp; omega, hlt, rfl⟩
        · cases r with
          | none => exact h₄.elim
          | some v => exact fun Γ p hΓ => h₄ Γ p hΓ Γ p hΓ
    · rcases List.mem_append.mp q with q | q
      · obtain ⟨o, e, _⟩ := S₁.live q; rw [hCs₁] at e; cases e
      · simp at q; exact hDC q.symm
    · rcases List.mem_append.mp q with q | q
      · exact (hf b hb).2 q
      · simp at q; subst q
        obtain ⟨o, e⟩ := fplive _ hb
        rw [dead₁ _ (Nat.le_refl _)] at e; cases e
  exact codeAny_compStart_list (loop _ rfl) (W.self _ _ _ (W.frame _ _ _ hT (fun b _ o e => k₂ b o e) (TupK.of_keeps k₂)) (loop _ rfl))
theorem ev_comp {x : Str} {px pos : Pos} {iter elt : Expr} {ifs : List Expr} {scope : Scope} {P : PV → List AO → Prop} (ρc : List (Str × PV))
    (h : Src prog w h₀ n sc (.Name x px) iter ρ σ fun l C σ₁ => ∃ J : Nat → List PV → List AO → Prop, J 0 [] (σ₁ ++ [.list []]) ∧ (∀ i acc σ, J i acc σ → C σ ∧ σ[σ₁.length]? = some (.list acc)) ∧ l.length ≤ 1000 ∧
      (∀ i d acc σ, l[i]? = some d → J i acc σ → TstL prog w h₀ n (rel scope sc) ifs ((x, d) :: ρc) σ fun b σ₂ =>
        (b = true → Ev prog w h₀ n (rel scope sc) elt ((x, d) :: ρc) σ₂ fun v σ₃ => σ₃[σ₁.length]? = some (.list acc) ∧ J (i + 1) (acc ++ [v]) (σ₃.set σ₁.length (.list (acc ++ [v])))) ∧ (b = false → J (i + 1) acc σ₂)) ∧
      (∀ acc σ, J l.length acc σ → P (.obj σ₁.length) σ))
    (hkind : scope.kind = .function) (hcell : ∀ y ∈ scope.names, y.2 ≠ .cell) (hnames : ∀ y ∈ scope.names, y.2 = .local → scope.names.lookup y.1 = some .local)
    (hx : scope.names.lookup x = some .local) (hρ : ∀ y d, ρc.lookup y = some d → ρ.lookup y = some d) (hone : ∀ y, (y, NameKind.local) ∈ scope.names → y = x ∨ ρc.lookup y = none) (hfree : ∀ y, (y, NameKind.free) ∈ scope.names → sc.names.lookup y = some .cell)
    (hs : ∀ env x, foldedSetIterable iter env x = pure x := by intro _ _; with_unfolding_all rfl) : Ev prog w h₀ n sc (.ListComp elt [⟨.Name x px, iter, ifs, 0⟩] scope pos) ρ σ P := by
  intro env A s α hsc hr F S E Q hQ
  rw [eval_ListComp]
  refine comp_core ρc h hkind hcell hnames hx hρ hone hfree hs (use := none) hsc hr F S ?_
  intro C D k α₃ σ₃ s₄ m v g₄ S₄ hP hD hn₄ hCs hC₃ hC0
  refine ⟨m, hn₄, fun h'' hs'' => ?_⟩
  obtain ⟨oC, esC, epC, heC, hdC, _⟩ := hn₄
  have tk₅ : TupK s₄.heap h'' := TupK.of_same hs'' heC (noTup_dict hdC)
  have kC : ∀ b o, b ∉ [C] → s₄.heap.get? b = some o → h''.get? b = some o := fun b o hb e => (hs''.2 b fun q => hb (q ▸ List.mem_singleton_self _)).trans e
  have g₅ := g₄.endF (tk := s₄.toks) (fp := [C]) (fun b hb => by simp at hb; subst hb; exact hCs) kC tk₅
  have S₅ := S₄.keepBut kC tk₅ (fun b hb => by simp at hb; subst hb; exact hC₃) (fun b hb => by simp at hb; subst hb; exact hC0)
  exact hQ _ (.obj k) _ α₃ σ₃ g₅ S₅ (.obj hD) hP
/-- y = [..], where the stores are exchanged -/
theorem ex_assign_comp {x : Str} {px pos : Pos} {iter elt : Expr} {ifs : List Expr} {scope : Scope} {y : Str} {py spos : Pos} {P : PV → List AO → Prop} {P' : Fl → List (Str × PV) → List AO → Prop} (ρc : List (Str × PV))
    (h : Src prog w h₀ n sc (.Name x px) iter ρ σ fun l C σ₁ => ∃ J : Nat → List PV → List AO → Prop, J 0 [] (σ₁ ++ [.list []]) ∧ (∀ i acc σ, J i acc σ → C σ ∧ σ[σ₁.length]? = some (.list acc)) ∧ l.length ≤ 1000 ∧
      (∀ i d acc σ, l[i]? = some d → J i acc σ → TstL prog w h₀ n (rel scope sc) ifs ((x, d) :: ρc) σ fun b σ₂ =>
        (b = true → Ev prog w h₀ n (rel scope sc) elt ((x, d) :: ρc) σ₂ fun v σ₃ => σ₃[σ₁.length]? = some (.list acc) ∧ J (i + 1) (acc ++ [v]) (σ₃.set σ₁.length (.list (acc ++ [v])))) ∧ (b = false → J (i + 1) acc σ₂)) ∧
      (∀ acc σ, J l.length acc σ → P (.obj σ₁.length) σ))
    (hkind : scope.kind = .function) (hcell : ∀ y ∈ scope.names, y.2 ≠ .cell) (hnames : ∀ y ∈ scope.names, y.2 = .local → scope.names.lookup y.1 = some .local)
    (hx : scope.names.lookup x = some .local) (hρ : ∀ y d, ρc.lookup y = some d → ρ.lookup y = some d) (hone : ∀ y, (y, NameKind.local) ∈ scope.names → y = x ∨ ρc.lookup y = none) (hfree : ∀ y, (y, NameKind.free) ∈ scope.names → sc.names.lookup y = some .cell)
    (hs : ∀ env x, foldedSetIterable iter env x = pure x := by intro _ _; with_unfolding_all rfl)
    (hk : Bound sc y) (hP : ∀ d σ', P d σ' → P' .next ((y, d) :: ρ) σ')
    (hsw : ∀ env : Env, env.scope = sc → swapsWith (.ListComp elt [⟨.Name x px, iter, ifs, 0⟩] scope pos) (some (.Name y py)) spos.line env = pure true) : Ex prog w h₀ n sc (.Assign [.Name y py] (.ListComp elt [⟨.Name x px, iter, ifs, 0⟩] scope pos) spos) ρ σ P' := by
  intro env A s α hsc hr F S E Q hQ
  rw [exec_Assign_Name_used _ _ _ _ (hsw env hsc)]
  refine wpAny_bind (wpAny_standAt (wpAny_bind ?_))
  show wpAny _ A (do let _ ← comprehension (.ListComp elt [⟨.Name x px, iter, ifs, 0⟩] scope pos) scope env _ (newList []) false (eval iter env) (some (assign (.Name y py) env))) _ _ s
  refine wpAny_bind (wpAny_mono (comp_core ρc h hkind hcell hnames hx hρ hone hfree hs (use := some (assign (.Name y py) env)) (Q := fun _ s' => Q .next s') hsc hr F S ?_) (fun _ s' hq => wpAny_pure (wpAny_pure hq)) fun _ _ e => e)
  intro C D k α₃ σ₃ s₄ m v g₄ S₄ hp hD hn₄ hCs hC₃ hC0
  show wpAny _ A (assign (.Name y py) env (.ref D)) _ _ _
  have F₄ := F.go g₄
  refine wpAny_assign_Name (store (hsc ▸ hk) F₄ S₄ (.obj hD) fun s₅ g₅ F₅ S₅ => ?_)
  obtain ⟨oL, hL⟩ : ∃ o, s.heap.get? env.locals = some o := by obtain ⟨m, hm, _⟩ := F.ns; exact ns_live hm
  have hCL : env.locals ≠ C := fun q => by rw [q, hCs] at hL; cases hL
  have cellC : ∀ x c, env.kindOf x = some .cell → env.cells.lookup x = some c → c ≠ C := fun x c hx hc q => by
    obtain ⟨c', hc', _, _, _, u, ⟨o, ho, _⟩, _⟩ := F.cells x hx
    rw [hc] at hc'; cases hc'
    rw [q, hCs] at ho; cases ho
  have hCD : C ∉ ownD env := fun q => by
    rcases List.mem_cons.mp q with q | q
    · exact hCL q.symm
    · obtain ⟨x, hx, hc⟩ := mem_cellsOf.mp q; exact cellC x C hx hc rfl
  have hn₅ : s₅.heap.Ns C m := hn₄.at' fun o e => g₅.pres C o hC₃ hCD e
  refine ⟨m, hn₅, fun h'' hs'' => ?_⟩
  obtain ⟨oC, esC, epC, heC, hdC, _⟩ := id hn₅
  have tk₅ : TupK s₅.heap h'' := TupK.of_same hs'' heC (noTup_dict hdC)
  have kC : ∀ b o, b ∉ [C] → s₅.heap.get? b = some o → h''.get? b = some o := fun b o hb e => (hs''.2 b fun q => hb (q ▸ List.mem_singleton_self _)).trans e
  have oneC : ∀ b ∈ [C], b = C := fun b hb => by simpa using hb
  have g₆ := (g₄.nil.trans g₅).endF (tk := s₅.toks) (fp := [C]) (fun b hb => oneC b hb ▸ hCs) kC tk₅
  have S₆ := S₅.keepBut kC tk₅ (fun b hb => oneC b hb ▸ hC₃) (fun b hb => oneC b hb ▸ hC0)
  have F₆ := F₅.keepBut kC tk₅ (fun q => hCL (by simpa using q)) (fun x c hx hc q => cellC x c hx hc (by simpa using q))
  exact hQ .next .next _ _ α₃ σ₃ g₆ F₆ S₆ trivial (hP _ _ hp)
end
/-- store at a key -/
def putK {K : Type} [DecidableEq K] (l : List (K × PV)) (k : K) (d : PV) : List (K × PV) :=
  if l.any (fun x => x.1 = k) then l.map (fun x => if x.1 = k then (x.1, d) else x) else l ++ [(k, d)]

section
variable {α : List Addr} {h : Heap}
theorem dl_lookup {kvs : List (Int × Value)} {l : List (Int × PV)} (hk : kvs.map (·.1) = l.map (·.1)) (r : RepL α h (kvs.map (·.2)) (l.map (·.2))) (k : Int) :
    match l.lookup k with | some d => ∃ v, valueAt kvs k = some v ∧ Rep α h v d | none => valueAt kvs k = none := by
  induction l generalizing kvs with
  | nil => cases kvs with
    | nil => rfl
    | cons a kvs => simp at hk
  | cons y l ih =>
    cases kvs with
    | nil => simp at hk
    | cons a kvs =>
      simp only [List.map_cons, List.cons.injEq] at hk r
      cases r with
      | cons x r =>
        obtain ⟨ka, va⟩ := a
        obtain ⟨ky, dy⟩ := y
        have e1 : ka = ky := hk.1
        subst e1
        by_cases q : ka = k
        · subst q
          simp only [List.lookup_cons, beq_self_eq_true, valueAt, List.find?_cons, decide_true]
          exact ⟨va, rfl, x⟩
        · have q1 : (k == ka) = false := beq_eq_false_iff_ne.mpr (Ne.symm q)
          have := ih hk.2 r
          simp only [List.lookup_cons, q1, valueAt, List.find?_cons, q, decide_false]
          exact this
theorem dl_put {kvs : List (Int × Value)} {l : List (Int × PV)} (hk : kvs.map (·.1) = l.map (·.1)) (r : RepL α h (kvs.map (·.2)) (l.map (·.2))) (k : Int) {v : Value} {d : PV} (x : Rep α h v d) :
    (stored kvs k v).map (·.1) = (putK l k d).map (·.1) ∧ RepL α h ((stored kvs k v).map (·.2)) ((putK l k d).map (·.2)) := by
  have hany : ∀ (kvs : List (Int × Value)) (l : List (Int × PV)), kvs.map (·.1) = l.map (·.1) → kvs.any (fun kv => kv.1 = k) = l.any (fun kv => kv.1 = k) := by
    intro kvs
    induction kvs with
    | nil => intro l e; cases l with
      | nil => rfl
      | cons _ _ => simp at e
    | cons a kvs ih => intro l e; cases l with
      | nil => simp at e
      | cons b l => simp only [List.map_cons, List.cons.injEq] at e; simp only [List.any_cons, ih l e.2, e.1]
  unfold stored putK
  rw [hany kvs l hk]
  split
  · clear hany
    constructor
    · have e1 : (kvs.map fun kv => if kv.1 = k then (kv.1, v) else kv).map (·.1) = kvs.map (·.1) := by
        rw [List.map_map]; apply List.map_congr_left; intro a _; dsimp; split <;> rfl
      have e2 : (l.map fun x => if x.1 = k then (x.1, d) else x).map (·.1) = l.map (·.1) := by
        rw [List.map_map]; apply List.map_congr_left; intro a _; dsimp; split <;> rfl
      rw [e1, e2, hk]
    · rename_i hh; clear hh
      induction l generalizing kvs with
      | nil => cases kvs with
        | nil => exact .nil
        | cons a kvs => simp at hk
      | cons y l ih =>
        cases kvs with
        | nil => simp at hk
        | cons a kvs =>
          simp only [List.map_cons, List.cons.injEq] at hk r
          cases r with
          | cons x' r =>
            simp only [List.map_cons]
            refine .cons ?_ (ih hk.2 r)
            rw [hk.1]
            split
            · exact x
            · exact x'
  · simp only [List.map_append, List.map_cons, List.map_nil]
    exact ⟨by rw [hk], r.append (.cons x .nil)⟩

theorem dh_lookup {xs : List (List Int × Addr × Value)} {l : List (List Int × PV)} (hk : xs.map (·.1) = l.map (·.1)) (r : RepL α h (xs.map (·.2.2)) (l.map (·.2))) (k : List Int) :
    match l.lookup k with | some d => ∃ p, atKey xs k = some p ∧ Rep α h p.2 d | none => atKey xs k = none := by
  induction l generalizing xs with
  | nil => cases xs with
    | nil => rfl
    | cons a kvs => simp at hk
  | cons y l ih =>
    cases xs with
    | nil => simp at hk
    | cons a xs =>
      simp only [List.map_cons, List.cons.injEq] at hk r
      cases r with
      | cons x r =>
        obtain ⟨ka, va⟩ := a
        obtain ⟨ky, dy⟩ := y
        have e1 : ka = ky := hk.1
        subst e1
        by_cases q : ka = k
        · subst q
          simp only [List.lookup_cons, beq_self_eq_true, atKey, List.find?_cons, decide_true]
          exact ⟨va, rfl, x⟩
        · have q1 : (k == ka) = false := beq_eq_false_iff_ne.mpr (Ne.symm q)
          have := ih hk.2 r
          simp only [List.lookup_cons, q1, atKey, List.find?_cons, q, decide_false]
          exact this
theorem dh_put {xs : List (List Int × Addr × Value)} {l : List (List Int × PV)} (hk : xs.map (·.1) = l.map (·.1)) (r : RepL α h (xs.map (·.2.2)) (l.map (·.2))) (k : List Int) {a : Addr} {v : Value} {d : PV} (x : Rep α h v d) :
    (storedH xs k a v).map (·.1) = (putK l k d).map (·.1) ∧ RepL α h ((storedH xs k a v).map (·.2.2)) ((putK l k d).map (·.2)) := by
  have hany : ∀ (xs : List (List Int × Addr × Value)) (l : List (List Int × PV)), xs.map (·.1) = l.map (·.1) → (atKey xs k).isSome = l.any (fun kv => kv.1 = k) := by
    intro xs
    induction xs with
    | nil => intro l e; cases l with
      | nil => rfl
      | cons _ _ => simp at e
    | cons a xs ih => intro l e; cases l with
      | nil => simp at e
      | cons b l =>
        simp only [List.map_cons, List.cons.injEq] at e
        have i := ih l e.2
        simp only [atKey, List.find?_cons, List.any_cons, ← e.1] at i ⊢
        by_cases q : a.1 = k
        · simp [q]
        · simp only [q, decide_false, Bool.false_or]; exact i
  unfold storedH putK
  rw [hany xs l hk]
  split
  · clear hany
    constructor
    · have e1 : (xs.map (putAt k v)).map (·.1) = xs.map (·.1) := by
        rw [List.map_map]; apply List.map_congr_left; intro a _; dsimp [putAt]; split <;> rfl
      have e2 : (l.map fun x => if x.1 = k then (x.1, d) else x).map (·.1) = l.map (·.1) := by
        rw [List.map_map]; apply List.map_congr_left; intro a _; dsimp; split <;> rfl
      rw [e1, e2, hk]
    · rename_i hh; clear hh
      induction l generalizing xs with
      | nil => cases xs with
        | nil => exact .nil
        | cons a kvs => simp at hk
      | cons y l ih =>
        cases xs with
        | nil => simp at hk
        | cons a xs =>
          simp only [List.map_cons, List.cons.injEq] at hk r
          cases r with
          | cons x' r =>
            simp only [List.map_cons]
            refine .cons ?_ (ih hk.2 r)
            unfold putAt
            rw [hk.1]
            split
            · exact x
            · exact x'
  · simp only [List.map_append, List.map_cons, List.map_nil]
    exact ⟨by rw [hk], r.append (.cons x .nil)⟩

def iL (l : List Int) : List PV := l.map .int
theorem iL_are {prog : Program} {w : World} {vs : List Value} {l : List Int} (r : RepL α h vs (iL l)) : ItemsAre (intKind prog w) l vs := by
  induction l generalizing vs with
  | nil => cases r; exact .nil
  | cons i l ih => cases r with
    | cons x r => cases x with
      | int _ t => exact .cons (intKind_is _ _ _ _) (ih r)
end

section
variable {prog : Program} {w : World} {h₀ : Heap} {n : Nat} {sc : Scope} {ρ : List (Str × PV)} {σ : List AO} {P : PV → List AO → Prop} {A : Around} {s : Shared} {α : List Addr}

theorem TV.tok {v : Value} {d : PV} {t : Sem Value} (tk : Nat) (S : St prog w h₀ α σ s.heap) (r : Rep α s.heap v d) (p : P d σ)
    (h : ∀ (E Q : Value → Shared → Prop), Q v { s with toks := tk } → wpAny (model prog w) A t Q E s) : TV prog w h₀ A t α s P :=
  fun E Q hQ => h E Q (hQ v d { s with toks := tk } α σ Go.toks S r p)
/-- a new object of ours -/
theorem TV.new {ao : AO} {o : Obj} {t : Sem Value} (tk : Nat) (S : St prog w h₀ α σ s.heap) (r : ObjRep prog w (α ++ [s.heap.objs.size]) (s.heap.push o) s.heap.objs.size ao) (p : P (.obj σ.length) (σ ++ [ao]))
    (h : ∀ (E Q : Value → Shared → Prop), Q (.ref s.heap.objs.size) { s with heap := s.heap.push o, toks := tk } → wpAny (model prog w) A t Q E s) : TV prog w h₀ A t α s P := by
  intro E Q hQ
  have k := fun b o' (e : s.heap.get? b = some o') => Heap.get?_push_of_some o e
  refine h E Q (hQ _ (.obj σ.length) _ (α ++ [s.heap.objs.size]) (σ ++ [ao]) (Go.new k (Heap.size_fresh _)) (S.new k (Heap.size_fresh _) r S.loSize) (.obj ?_) p)
  rw [← S.len]; simp
theorem TV.newList {l : List PV} {vs : List Value} {t : Sem Value} (tk : Nat) (S : St prog w h₀ α σ s.heap) (r : RepL α s.heap vs l) (p : P (.obj σ.length) (σ ++ [.list l]))
    (h : ∀ (E Q : Value → Shared → Prop), Q (.ref s.heap.objs.size) { s with heap := s.heap.push { cls := .type "list", data := .seq vs.toArray }, toks := tk } → wpAny (model prog w) A t Q E s) : TV prog w h₀ A t α s P :=
  TV.new (ao := .list l) tk S ⟨vs, 0, Heap.get?_push_size _ rfl, r.mono (List.prefix_append _ _) (TupK.of_keeps fun b o e => Heap.get?_push_of_some _ e)⟩ p h
/-- a new tuple -/
theorem TV.newTup {l : List PV} {vs : List Value} {t : Sem Value} (tk : Nat) (S : St prog w h₀ α σ s.heap) (r : RepL α s.heap vs l) (p : P (.tup l) σ)
    (h : ∀ (E Q : Value → Shared → Prop), Q (.ref s.heap.objs.size) { s with heap := s.heap.push { cls := .type "tuple", data := .seq vs.toArray }, toks := tk } → wpAny (model prog w) A t Q E s) : TV prog w h₀ A t α s P := by
  intro E Q hQ
  have k := fun b o' (e : s.heap.get? b = some o') => Heap.get?_push_of_some ({ cls := .type "tuple", data := .seq vs.toArray } : Obj) e
  exact h E Q (hQ _ (.tup l) _ α σ (Go.keeps k) (S.keeps k) (.tup (Heap.get?_push_size _ rfl) (r.mono (List.prefix_refl _) (TupK.of_keeps k))) p)
/-- one of ours has turned -/
theorem TV.put {j : Nat} {a : Addr} {ao : AO} {v : Value} {d : PV} {hp : Heap} {t : Sem Value} (tk : Nat) (S : St prog w h₀ α σ s.heap) (ha : α[j]? = some a) (hs : Heap.SameBut a s.heap hp) (r : ObjRep prog w α hp a ao) (rv : Rep α hp v d) (p : P d (σ.set j ao))
    (h : ∀ (E Q : Value → Shared → Prop), Q v { s with heap := hp, toks := tk } → wpAny (model prog w) A t Q E s) : TV prog w h₀ A t α s P :=
  fun E Q hQ => h E Q (hQ v d _ α _ (Go.put S ha hs (let ⟨o, e, _⟩ := r.live; ⟨o, e⟩)) (S.put ha hs r) rv p)
theorem TU.put {P : List AO → Prop} {j : Nat} {a : Addr} {ao : AO} {hp : Heap} {Q : Unit → Shared → Prop} (tk : Nat) (S : St prog w h₀ α σ s.heap) (ha : α[j]? = some a) (hs : Heap.SameBut a s.heap hp) (r : ObjRep prog w α hp a ao) (p : P (σ.set j ao))
    (hQ : ∀ s' α' σ', Go [] α α' s s' → St prog w h₀ α' σ' s'.heap → P σ' → Q () s') : Q () { s with heap := hp, toks := tk } :=
  hQ _ α _ (Go.put S ha hs (let ⟨o, e, _⟩ := r.live; ⟨o, e⟩)) (S.put ha hs r) p

theorem St.notSys (S : St prog w h₀ α σ s.heap) {j : Nat} {a : Addr} (ha : α[j]? = some a) : (a == sysModules) = false := by
  have := S.sys.2 a (List.mem_of_getElem? ha)
  exact beq_eq_false_iff_ne.mpr fun q => by subst q; exact absurd this (Nat.lt_irrefl _)

-- iL
theorem bop_add {a b : Int} (p : P (.int (a + b)) σ) : Bop prog w h₀ n .Add (.int a) (.int b) σ P := by
  intro A s α va vb hr S ra rb; obtain ⟨_, rfl⟩ := ra.int'; obtain ⟨_, rfl⟩ := rb.int'
  exact TV.tok (s.toks + 1) S (.int _ _) p fun E Q q => PySem.P.add_int q
theorem bop_sub {a b : Int} (p : P (.int (a - b)) σ) : Bop prog w h₀ n .Sub (.int a) (.int b) σ P := by
  intro A s α va vb hr S ra rb; obtain ⟨_, rfl⟩ := ra.int'; obtain ⟨_, rfl⟩ := rb.int'
  exact TV.tok (s.toks + 1) S (.int _ _) p fun E Q q => PySem.P.sub_int q
theorem bop_mul {a b : Int} (h1 : -(2 ^ 64) < a) (h2 : a < 2 ^ 64) (p : P (.int (a * b)) σ) : Bop prog w h₀ n .Mult (.int a) (.int b) σ P := by
  intro A s α va vb hr S ra rb; obtain ⟨_, rfl⟩ := ra.int'; obtain ⟨_, rfl⟩ := rb.int'
  exact TV.tok (s.toks + 1) S (.int _ _) p fun E Q q => PySem.P.mul_int q (IntMulOk.of_left (intBits_le_64 h1 h2))
theorem bop_fdiv {a b : Int} (hb : b ≠ 0) (ha : -1000000 ≤ b ∧ b ≤ 1000000) (p : P (.int (a.fdiv b)) σ) : Bop prog w h₀ n .FloorDiv (.int a) (.int b) σ P := by
  intro A s α va vb hr S ra rb; obtain ⟨_, rfl⟩ := ra.int'; obtain ⟨_, rfl⟩ := rb.int'
  exact TV.tok (s.toks + 1) S (.int _ _) p fun E Q q => PyProof.Rows.floordiv_int (s := s) hb q (Or.inl (PyProof.noPylong_small (by (first | lia | omega))))
theorem bop_mod {a b : Int} (hb : b ≠ 0) (p : P (.int (a.fmod b)) σ) : Bop prog w h₀ n .Mod (.int a) (.int b) σ P := by
  intro A s α va vb hr S ra rb; obtain ⟨_, rfl⟩ := ra.int'; obtain ⟨_, rfl⟩ := rb.int'
  exact TV.tok (s.toks + 1) S (.int _ _) p fun E Q q => PyProof.Rows.mod_int hb q
theorem iop_add_bool {a : Int} {b : Bool} (p : P (.int (a + if b = true then (1 : Int) else 0)) σ) : Iop prog w h₀ n .Add (.int a) (.bool b) σ P := by
  intro A s α va vb hr S ra rb; obtain ⟨_, rfl⟩ := ra.int'; obtain rfl := rb.bool'
  exact TV.tok (s.toks + 1) S (.int _ _) p fun E Q q => iadd_int_bool q
theorem cmp_lt {a b : Int} (p : P (.bool (decide (a < b))) σ) : Cmp prog w h₀ n .Lt (.int a) (.int b) σ P := by
  intro A s α va vb hr S ra rb; obtain ⟨_, rfl⟩ := ra.int'; obtain ⟨_, rfl⟩ := rb.int'
  exact TV.here S (.bool _) p fun E Q q => PySem.P.lt_int q
theorem cmp_gt {a b : Int} (p : P (.bool (decide (a > b))) σ) : Cmp prog w h₀ n .Gt (.int a) (.int b) σ P := by
  intro A s α va vb hr S ra rb; obtain ⟨_, rfl⟩ := ra.int'; obtain ⟨_, rfl⟩ := rb.int'
  exact TV.here S (.bool _) p fun E Q q => PySem.P.gt_int q
theorem cmp_eq_int {a b : Int} (p : P (.bool (a == b)) σ) : Cmp prog w h₀ n .Eq (.int a) (.int b) σ P := by
  intro A s α va vb hr S ra rb; obtain ⟨_, rfl⟩ := ra.int'; obtain ⟨_, rfl⟩ := rb.int'
  exact TV.here S (.bool _) p fun E Q q => PySem.P.eq_int q
theorem cmp_ne_int {a b : Int} (p : P (.bool (a != b)) σ) : Cmp prog w h₀ n .NotEq (.int a) (.int b) σ P := by
  intro A s α va vb hr S ra rb; obtain ⟨_, rfl⟩ := ra.int'; obtain ⟨_, rfl⟩ := rb.int'
  exact TV.here S (.bool _) p fun E Q q => PySem.P.ne_int q
theorem cmp_eq_str {a b : Str} (p : P (.bool (a == b)) σ) : Cmp prog w h₀ n .Eq (.str a) (.str b) σ P := by
  intro A s α va vb hr S ra rb; obtain ⟨_, rfl⟩ := ra.str'; obtain ⟨_, rfl⟩ := rb.str'
  exact TV.here S (.bool _) p fun E Q q => PyProof.Rows.eq_str q
theorem call_abs {a : Int} (p : P (.int (if a < 0 then -a else a)) σ) : CallV prog w h₀ n (.builtin "abs") [.int a] σ P := by
  intro A s α vs hr S r E Q hQ
  cases r with
  | cons x r => cases x; cases r; exact call_abs_int fun u tk => hQ _ (.int _) { s with toks := tk } α σ Go.toks S (.int _ _) p

-- sequences
theorem bop_add_tup {a b : List PV} (hz : a.length + b.length ≤ 1000) (p : P (.tup (a ++ b)) σ) : Bop prog w h₀ n .Add (.tup a) (.tup b) σ P := by
  intro A s α va vb hr S ra rb
  obtain ⟨x, xs, m, rfl, e, r⟩ := ra.tup'
  · skip
    obtain ⟨y, ys, k, rfl, e', r'⟩ := rb.tup'
    · skip
      have l1 := r.length; have l2 := r'.length
      by_cases ha : a = []
      · subst ha
        cases r
        exact TV.here (d := .tup b) S (.tup e' r') p fun E Q q => concat_meets ⟨_, e, rfl⟩ ⟨_, e', rfl⟩ noFill_tuple_add seq_tuple_add PySem.F.slot_tuple_add PySem.F.entry_tuple_add (PySem.F.args_tuple_add_2 _ _) (tuple_addW0 x y _ _ m k none none #[] #[] rfl) ⟨e, e', q⟩
      · have ha' : ¬ xs.toArray.isEmpty = true := by
          intro q; simp at q; subst q; cases r; exact ha rfl
        by_cases hb : b = []
        · subst hb
          cases r'
          exact TV.here (d := .tup a) S (.tup e r) (by simpa using p) fun E Q q => concat_meets ⟨_, e, rfl⟩ ⟨_, e', rfl⟩ noFill_tuple_add seq_tuple_add PySem.F.slot_tuple_add PySem.F.entry_tuple_add (PySem.F.args_tuple_add_2 _ _) (tuple_addW1 x y _ _ m k none none #[] #[] ha' rfl) ⟨e, e', q⟩
        · have hb' : ¬ ys.toArray.isEmpty = true := by
            intro q; simp at q; subst q; cases r'; exact hb rfl
          refine TV.newTup s.toks S (r.append r') p fun E Q q => PySem.P.add_tuple e e' ha' hb' ?_ (by simp [sizeLine_eq]; (first | lia | omega))
          simpa using q
theorem bop_add_list {i j : Nat} {a b : List PV} (hi : σ[i]? = some (.list a)) (hj : σ[j]? = some (.list b)) (hz : a.length + b.length ≤ 1000) (p : P (.obj σ.length) (σ ++ [.list (a ++ b)])) : Bop prog w h₀ n .Add (.obj i) (.obj j) σ P := by
  intro A s α va vb hr S ra rb
  obtain ⟨x, rfl, ea⟩ := ra.obj'
  · skip
    obtain ⟨y, rfl, eb⟩ := rb.obj'
    · skip
      obtain ⟨x', e1, xs, m, e, r⟩ := S.at hi
      obtain ⟨y', e2, ys, k, e', r'⟩ := S.at hj
      rw [ea] at e1; cases e1
      rw [eb] at e2; cases e2
      have l1 := r.length; have l2 := r'.length
      refine TV.newList s.toks S (r.append r') p fun E Q q => PySem.P.add_list e e' ?_ (by simp [sizeLine_eq]; (first | lia | omega))
      simpa using q

-- items
theorem itm_list {j : Nat} {i : Int} {l : List PV} {d : PV} (hj : σ[j]? = some (.list l)) (h0 : 0 ≤ i) (hd : l[i.toNat]? = some d) (hz : l.length ≤ 1000000) (p : P d σ) : Itm prog w h₀ n (.obj j) (.int i) σ P := by
  intro A s α va vb hr S ra rb
  obtain ⟨_, rfl⟩ := rb.int'
  obtain ⟨x, rfl, ea⟩ := ra.obj'
  · skip
    obtain ⟨x', e1, xs, m, e, r⟩ := S.at hj
    rw [ea] at e1; cases e1
    obtain ⟨v, ev, rv⟩ := r.get hd
    have hlt := (List.getElem?_eq_some_iff.mp hd).1
    exact ⟨⟨"list", _, ⟨_, e, rfl⟩, slot_list_getitem.lookup⟩, TV.here S rv p fun E Q q => wpAny_getItem_list ⟨_, e, rfl, m, rfl⟩ h0 (by (first | lia | omega)) (by simpa using ev) q⟩
theorem itm_tup {i : Int} {k : Nat} {l : List PV} {d : PV} (hk : seqIndex? i l.length = some k) (hd : l[k]? = some d) (h1 : -1000000 ≤ i) (h2 : i ≤ 1000000) (p : P d σ) : Itm prog w h₀ n (.tup l) (.int i) σ P := by
  intro A s α va vb hr S ra rb
  obtain ⟨_, rfl⟩ := rb.int'
  obtain ⟨x, xs, m, rfl, e, r⟩ := ra.tup'
  · skip
    obtain ⟨v, ev, rv⟩ := r.get hd
    exact ⟨⟨"tuple", _, ⟨_, e, rfl⟩, PySem.F.slot_tuple_getitem.lookup⟩, TV.here S rv p fun E Q q => PySem.P.getItem_tuple (n := m) e (by (first | lia | omega)) (by (first | lia | omega)) (by simpa [r.length] using hk) (by simpa using ev) q⟩
theorem itm_idict {j : Nat} {i : Int} {l : List (Int × PV)} {d : PV} (hj : σ[j]? = some (.idict l)) (hd : l.lookup i = some d) (p : P d σ) : Itm prog w h₀ n (.obj j) (.int i) σ P := by
  intro A s α va vb hr S ra rb
  obtain ⟨_, rfl⟩ := rb.int'
  obtain ⟨x, rfl, ea⟩ := ra.obj'
  · skip
    obtain ⟨x', e1, kvs, D, hk, r⟩ := S.at hj
    rw [ea] at e1; cases e1
    have q := dl_lookup hk r i
    rw [hd] at q
    obtain ⟨v, ev, rv⟩ := q
    exact ⟨⟨"dict", _, D.typeIs, slot_dict_getitem.lookup⟩, TV.tok (s.toks + 1) S rv p fun E Q q => wpAny_getItem_of (intKind_is _ _ _ _) D.mapOf ev q⟩
theorem itm_tdict {j : Nat} {k : List Int} {l : List (List Int × PV)} {d : PV} (hj : σ[j]? = some (.tdict l)) (hd : l.lookup k = some d) (p : P d σ) : Itm prog w h₀ n (.obj j) (.tup (iL k)) σ P := by
  intro A s α va vb hr S ra rb
  obtain ⟨y, ys, m, rfl, e', r'⟩ := rb.tup'
  · skip
    obtain ⟨x, rfl, ea⟩ := ra.obj'
    · skip
      obtain ⟨x', e1, xs, D, hk, r⟩ := S.at hj
      rw [ea] at e1; cases e1
      have q := dh_lookup hk r k
      rw [hd] at q
      obtain ⟨v, ev, rv⟩ := q
      exact ⟨⟨"dict", _, D.typeIs, slot_dict_getitem.lookup⟩, TV.tok _ S rv p fun E Q q => wpAny_getItem_heap (tupleKind_room_in1 (hr.line 1 (by (first | lia | omega)))) (show IsTupleKey _ _ _ _ from ⟨_, _, _, e', rfl, rfl, iL_are r'⟩) D ev q⟩
theorem cmp_in_tdict {j : Nat} {k : List Int} {l : List (List Int × PV)} (hj : σ[j]? = some (.tdict l)) (p : P (.bool (l.lookup k).isSome) σ) : Cmp prog w h₀ n .In (.tup (iL k)) (.obj j) σ P := by
  intro A s α va vb hr S ra rb
  obtain ⟨y, ys, m, rfl, e', r'⟩ := ra.tup'
  · skip
    obtain ⟨x, rfl, ea⟩ := rb.obj'
    · skip
      obtain ⟨x', e1, xs, D, hk, r⟩ := S.at hj
      rw [ea] at e1; cases e1
      have q := dh_lookup hk r k
      have hb : (atKey xs k).isSome = (l.lookup k).isSome := by
        cases hd : l.lookup k with
        | none => rw [hd] at q; rw [q]; rfl
        | some d => rw [hd] at q; obtain ⟨p, ep, _⟩ := q; rw [ep]; rfl
      refine TV.tok (d := .bool (l.lookup k).isSome) (s.toks + (tupleKind (intKind prog w)).draws k) S (.bool _) p fun E Q q => wpAny_in_heap (tupleKind_room_in1 (hr.line 1 (by (first | lia | omega)))) (show IsTupleKey _ _ _ _ from ⟨_, _, _, e', rfl, rfl, iL_are r'⟩) (S.notSys ea) D ?_
      rw [hb]; exact q

-- stores
theorem set_list {P : List AO → Prop} {j : Nat} {i : Int} {l : List PV} {d : PV} (hj : σ[j]? = some (.list l)) (h0 : 0 ≤ i) (hi : i < l.length) (hz : l.length ≤ 1000000) (p : P (σ.set j (.list (l.set i.toNat d)))) : SetI prog w h₀ n (.obj j) (.int i) d σ P := by
  intro A s α va vb vc hr S ra rb rc E Q hQ
  obtain ⟨_, rfl⟩ := rb.int'
  obtain ⟨x, rfl, ea⟩ := ra.obj'
  · skip
    obtain ⟨x', e1, xs, m, e, r⟩ := S.at hj
    rw [ea] at e1; cases e1
    have hl := r.length
    refine ki_setAt e h0 (by (first | lia | omega)) (by simp; (first | lia | omega)) ?_
    have hs : Heap.SameBut x s.heap (s.heap.update x (Obj.mapSeq (·.setIfInBounds i.toNat vc))) := Heap.SameBut.update ..
    have e2 : (s.heap.update x (Obj.mapSeq (·.setIfInBounds i.toNat vc))).get? x = some (W.listOf (xs.set i.toNat vc).toArray m) := by
      have := PySem.IsL.update e (·.setIfInBounds i.toNat vc)
      refine this.trans ?_
      simp [W.listOf]
    have tk := TupK.of_same hs e (fun q => absurd (show Value.type "list" = _ from q) (by decide))
    exact TU.put s.toks S ea hs (ao := .list (l.set i.toNat d)) ⟨_, m, e2, (r.set rc).mono (List.prefix_refl _) tk⟩ p hQ
theorem set_idict {P : List AO → Prop} {j : Nat} {i : Int} {l : List (Int × PV)} {d : PV} (hj : σ[j]? = some (.idict l)) (hz : l.length ≤ 1000) (p : P (σ.set j (.idict (putK l i d)))) : SetI prog w h₀ n (.obj j) (.int i) d σ P := by
  intro A s α va vb vc hr S ra rb rc E Q hQ
  obtain ⟨_, rfl⟩ := rb.int'
  obtain ⟨x, rfl, ea⟩ := ra.obj'
  · skip
    obtain ⟨x', e1, kvs, D, hk, r⟩ := S.at hj
    rw [ea] at e1; cases e1
    have hl : kvs.length = l.length := by have := congrArg List.length hk; simpa using this
    refine wpAny_setItem_pairs (intKind_is _ _ _ _) D (fun h' D' hs => ?_) (by rw [sizeLine_eq]; (first | lia | omega))
    obtain ⟨o, es, ep, ho, hx, hd, _⟩ := id D
    have tk := TupK.of_same hs ho (noTup_dict hd)
    obtain ⟨q1, q2⟩ := dl_put hk r i rc
    exact TU.put (s.toks + 1) S ea hs (ao := .idict (putK l i d)) ⟨_, D', q1, q2.mono (List.prefix_refl _) tk⟩ p hQ
theorem set_tdict {P : List AO → Prop} {j : Nat} {k : List Int} {l : List (List Int × PV)} {d : PV} (hj : σ[j]? = some (.tdict l)) (hz : l.length ≤ 1000) (p : P (σ.set j (.tdict (putK l k d)))) : SetI prog w h₀ n (.obj j) (.tup (iL k)) d σ P := by
  intro A s α va vb vc hr S ra rb rc E Q hQ
  obtain ⟨y, ys, m, rfl, e', r'⟩ := rb.tup'
  · skip
    obtain ⟨x, rfl, ea⟩ := ra.obj'
    · skip
      obtain ⟨x', e1, xs, D, hk, r⟩ := S.at hj
      rw [ea] at e1; cases e1
      have hl : xs.length = l.length := by have := congrArg List.length hk; simpa using this
      refine wpAny_setItem_heap (tupleKind_room_in1 (hr.line 1 (by (first | lia | omega)))) (show IsTupleKey _ _ _ _ from ⟨_, _, _, e', rfl, rfl, iL_are r'⟩) D (fun h' D' hs => ?_) (by rw [sizeLine_eq]; (first | lia | omega))
      obtain ⟨o, es, ep, ho, hx, hd, _⟩ := id D
      have tk := TupK.of_same hs ho (noTup_dict hd)
      obtain ⟨q1, q2⟩ := dh_put hk r k rc
      exact TU.put _ S ea hs (ao := .tdict (putK l k d)) ⟨_, D', q1, q2.mono (List.prefix_refl _) tk⟩ p hQ
end
section
variable (prog : Program) (w : World) (h₀ : Heap)
/-- an object's method of that name is the built-in id -/
def Mget (name : Str) (id : String) (a : PV) (σ : List AO) : Prop :=
  ∀ (A : Around) (s : Shared) (α : List Addr) (va : Value) (pl : Sem Bool) (E : Value → Shared → Prop) (Q : Value × List Value → Shared → Prop), St prog w h₀ α σ s.heap → Rep α s.heap va a → Q (.builtin id, [va]) s →
    wpAny (model prog w) A (getMethod va name pl) Q E s
end
section
variable {prog : Program} {w : World} {h₀ : Heap} {n : Nat} {sc : Scope} {ρ : List (Str × PV)} {σ : List AO} {P : PV → List AO → Prop} {A : Around} {s : Shared} {α : List Addr}

theorem QV.put {j : Nat} {a : Addr} {ao : AO} {v : Value} {d : PV} {hp : Heap} {Q : Value → Shared → Prop} (tk : Nat) (S : St prog w h₀ α σ s.heap) (ha : α[j]? = some a) (hs : Heap.SameBut a s.heap hp) (r : ObjRep prog w α hp a ao) (rv : Rep α hp v d) (p : P d (σ.set j ao))
    (hQ : ∀ v d s' α' σ', Go [] α α' s s' → St prog w h₀ α' σ' s'.heap → Rep α' s'.heap v d → P d σ' → Q v s') : Q v { s with heap := hp, toks := tk } :=
  hQ v d _ α _ (Go.put S ha hs (let ⟨o, e, _⟩ := r.live; ⟨o, e⟩)) (S.put ha hs r) rv p

theorem ev_method {o e : Expr} {name : Str} {apos pos : Pos} {rest : List Expr} (id : String)
    (h : Ev prog w h₀ n sc o ρ σ fun a σ₁ => Mget prog w h₀ name id a σ₁ ∧ EvL prog w h₀ n sc (e :: rest) ρ σ₁ fun ds σ₂ => CallV prog w h₀ n (.builtin id) (a :: ds) σ₂ P)
    (pl : Env → Sem Bool)
    (hm : ∀ env, eval (.Call (.Attribute o name apos) (e :: rest) [] pos) env = (do
      let ov ← eval o env
      standAt apos.atName
      let (f, first) ← holding [ov] (getMethod ov name (pl env))
      callWith pos f first (backTo pos (starEach (e :: rest) env)) []) := by intro _; with_unfolding_all rfl)
    (he : ∀ env, starEach (e :: rest) env = (false, eval e env) :: starEach rest env := by intro _; with_unfolding_all rfl) (hp : ∀ env pos, (backTo pos (starEach rest env)).any (·.1) = false := by intro _ _; with_unfolding_all rfl) :
    Ev prog w h₀ n sc (.Call (.Attribute o name apos) (e :: rest) [] pos) ρ σ P := by
  intro env A s α hsc hr F S E Q hQ
  refine MethodCall_ (pl := pl env) (h env A s α hsc hr F S _ _ fun va a s₁ α₁ σ₁ g₁ S₁ r₁ p₁ => ?_) (hm env)
  refine p₁.1 A s₁ α₁ va (pl env) E _ S₁ r₁ ?_
  refine callWith_method1 ?_ (he env) (hp env pos)
  refine p₁.2 env A s₁ α₁ pos hsc hr (F.go g₁) S₁ _ _ fun vs ds s₂ α₂ σ₂ g₂ S₂ r₂ p₂ => ?_
  exact p₂ A s₂ α₂ (va :: vs) hr S₂ (.cons (r₁.mono g₂.pre g₂.tup) r₂) _ _ fun v d s' α' σ' g S r p => hQ v d s' α' σ' (g₁.trans (g₂.trans g)) S r p
theorem ev_method0 {o : Expr} {name : Str} {apos pos : Pos} (id : String)
    (h : Ev prog w h₀ n sc o ρ σ fun a σ₁ => Mget prog w h₀ name id a σ₁ ∧ CallV prog w h₀ n (.builtin id) [a] σ₁ P)
    (pl : Env → Sem Bool)
    (hm : ∀ env, eval (.Call (.Attribute o name apos) [] [] pos) env = (do
      let ov ← eval o env
      standAt apos.atName
      let (f, first) ← holding [ov] (getMethod ov name (pl env))
      callWith pos f first (backTo pos (starEach [] env)) []) := by intro _; with_unfolding_all rfl) :
    Ev prog w h₀ n sc (.Call (.Attribute o name apos) [] [] pos) ρ σ P := by
  intro env A s α hsc hr F S E Q hQ
  refine MethodCall_ (pl := pl env) (h env A s α hsc hr F S _ _ fun va a s₁ α₁ σ₁ g₁ S₁ r₁ p₁ => ?_) (hm env)
  refine p₁.1 A s₁ α₁ va (pl env) E _ S₁ r₁ ?_
  refine callWith_method0 ?_
  exact p₁.2 A s₁ α₁ [va] hr S₁ (.cons r₁ .nil) _ _ fun v d s' α' σ' g S r p => hQ v d s' α' σ' (g₁.trans g) S r p

theorem mget_list {j : Nat} {l : List PV} {name : Str} {id : String} (hj : σ[j]? = some (.list l)) (slot : Slot "list" name id) (ty : typeOf (.builtin id) = pure (.type "method_descriptor")) : Mget prog w h₀ name id (.obj j) σ := by
  intro A s α va pl E Q S ra q
  obtain ⟨x, rfl, ea⟩ := ra.obj'
  · skip
    obtain ⟨x', e1, xs, m, e, r⟩ := S.at hj
    rw [ea] at e1; cases e1
    exact getMethod_builtin ⟨_, e, rfl⟩ PySem.F.plainAttrs_list slot ty (fun a e' => by cases e'; exact ⟨_, e, rfl⟩) q
theorem mget_idict {j : Nat} {l : List (Int × PV)} {name : Str} {id : String} (hj : σ[j]? = some (.idict l)) (slot : Slot "dict" name id) (ty : typeOf (.builtin id) = pure (.type "method_descriptor")) : Mget prog w h₀ name id (.obj j) σ := by
  intro A s α va pl E Q S ra q
  obtain ⟨x, rfl, ea⟩ := ra.obj'
  · skip
    obtain ⟨x', e1, kvs, D, hk, r⟩ := S.at hj
    rw [ea] at e1; cases e1
    exact getMethod_builtin D.typeIs PySem.F.plainAttrs_dict slot ty D.mapOf.noDict q

theorem call_append {j : Nat} {l : List PV} {d : PV} (hj : σ[j]? = some (.list l)) (hz : l.length ≤ 1000000) (p : P .none (σ.set j (.list (l ++ [d])))) : CallV prog w h₀ n (.builtin "list.append") [.obj j, d] σ P := by
  intro A s α vs hr S r
  cases r with
  | cons ra r =>
    cases r with
    | cons rd r =>
      cases r
      obtain ⟨x, rfl, ea⟩ := ra.obj'
      · skip
        obtain ⟨x', e1, xs, m, e, r⟩ := S.at hj
        rw [ea] at e1; cases e1
        have hl := r.length
        intro E Q hQ
        refine wpAny_list_append_plain (items := xs.toArray) ⟨m, e⟩ (fun h₈ hl₈ hs₈ => ?_) (by simp [sizeLine_eq]; (first | lia | omega))
        obtain ⟨m8, e8⟩ := hl₈
        have tk₈ : TupK s.heap h₈ := TupK.of_same hs₈ e (fun q => absurd (show Value.type "list" = _ from q) (by decide))
        exact QV.put (d := .none) s.toks S ea hs₈ (ao := .list (l ++ [d])) ⟨xs ++ [_], m8, by rw [e8]; simp, (r.append (.cons rd .nil)).mono (List.prefix_refl _) tk₈⟩ .none p hQ
theorem call_pop {j : Nat} {i : Int} {l : List PV} {d : PV} (hj : σ[j]? = some (.list l)) (h0 : 0 ≤ i) (hd : l[i.toNat]? = some d) (hz : l.length ≤ 1000000) (p : P d (σ.set j (.list (l.eraseIdx i.toNat)))) : CallV prog w h₀ n (.builtin "list.pop") [.obj j, .int i] σ P := by
  intro A s α vs hr S r
  cases r with
  | cons ra r =>
    cases r with
    | cons rd r =>
      cases r
      obtain ⟨t, rfl⟩ := rd.int'
      obtain ⟨x, rfl, ea⟩ := ra.obj'
      · skip
        obtain ⟨x', e1, xs, m, e, r⟩ := S.at hj
        rw [ea] at e1; cases e1
        have hl := r.length
        obtain ⟨v, ev, rv⟩ := r.get hd
        have hlt := (List.getElem?_eq_some_iff.mp hd).1
        intro E Q hQ
        have hfit : Builtin.List.listFitsIndex i = true := fitsIndex_of h0 (by (first | lia | omega))
        have hk : seqIndex? i xs.toArray.size = some i.toNat := by
          unfold seqIndex?
          dsimp only
          rw [if_neg (show ¬ i < 0 by (first | lia | omega)), if_pos (by simp; (first | lia | omega))]
        refine call_meets PySem.F.slot_list_pop ⟨_, e, rfl⟩ PySem.F.entry_list_pop (PySem.F.args_list_pop_2 _ _) (MeetsSeq.list_pop_at x xs.toArray m i t i.toNat v hfit hk (by simpa using ev) (by simp [sizeLine_eq]; (first | lia | omega))) ⟨e, ?_⟩
        have hs : Heap.SameBut x s.heap (s.heap.update x (Obj.mapSeq fun ys => ys.eraseIdxIfInBounds i.toNat)) := Heap.SameBut.update ..
        have e2 := PySem.IsL.update e (fun ys : Array Value => ys.eraseIdxIfInBounds i.toNat)
        have tk := TupK.of_same hs e (fun q => absurd (show Value.type "list" = _ from q) (by decide))
        have e3 : xs.toArray.eraseIdxIfInBounds i.toNat = (xs.eraseIdx i.toNat).toArray := by
          apply Array.toList_inj.mp
          rw [Array.toList_eraseIdxIfInBounds]
        rw [e3] at e2
        exact QV.put s.toks S ea hs (ao := .list (l.eraseIdx i.toNat)) ⟨xs.eraseIdx i.toNat, _, e2, r.eraseIdx.mono (List.prefix_refl _) tk⟩ (rv.mono (List.prefix_refl _) tk) p hQ
theorem call_get2 {j : Nat} {i : Int} {l : List (Int × PV)} {d : PV} (hj : σ[j]? = some (.idict l)) (p : P ((l.lookup i).getD d) σ) : CallV prog w h₀ n (.builtin "dict.get") [.obj j, .int i, d] σ P := by
  intro A s α vs hr S r
  cases r with
  | cons ra r =>
    cases r with
    | cons ri r =>
      cases r with
      | @cons vd _ _ _ rd r =>
        cases r
        cases ri
        obtain ⟨x, rfl, ea⟩ := ra.obj'
        · skip
          obtain ⟨x', e1, kvs, D, hk, r⟩ := S.at hj
          rw [ea] at e1; cases e1
          have q := dl_lookup hk r i
          have rr : Rep α s.heap ((valueAt kvs i).getD vd) ((l.lookup i).getD d) := by
            cases hd : l.lookup i with
            | none => rw [hd] at q; rw [q]; exact rd
            | some d' => rw [hd] at q; obtain ⟨v, ev, rv⟩ := q; rw [ev]; exact rv
          exact TV.tok (s.toks + 1) S rr p fun E Q q => call_meetsIn PySem.F.slot_dict_get D.typeIs PySem.F.entry_dict_get (PySem.F.args_dict_get_3 _ _ _) (meets_dict_get_default (intKind prog w) x (intKind_is prog w i _) (S.notSys ea) _) ⟨_, D.mapOf, q⟩
theorem call_len_l {j : Nat} {l : List PV} (hj : σ[j]? = some (.list l)) (hz : l.length ≤ 1000000) (p : P (.int l.length) σ) : CallV prog w h₀ n (.builtin "len") [.obj j] σ P := by
  intro A s α vs hr S r
  cases r with
  | cons ra r =>
    cases r
    obtain ⟨x, rfl, ea⟩ := ra.obj'
    · skip
      obtain ⟨x', e1, xs, m, e, r⟩ := S.at hj
      rw [ea] at e1; cases e1
      have hl := r.length
      refine TV.tok (s.toks + 1 + 1) S (.int _ (s.toks + 1)) p fun E Q q => call_len_list (items := xs.toArray) ⟨_, e, rfl, m, rfl⟩ (by simp; (first | lia | omega)) ?_
      simpa [hl] using q
theorem call_len_t {l : List PV} (hz : l.length ≤ 1000000) (p : P (.int l.length) σ) : CallV prog w h₀ n (.builtin "len") [.tup l] σ P := by
  intro A s α vs hr S r
  cases r with
  | cons ra r =>
    cases r
    obtain ⟨x, xs, m, rfl, e, r⟩ := ra.tup'
    · skip
      have hl := r.length
      refine TV.tok (s.toks + 1 + 1) S (.int _ (s.toks + 1)) p fun E Q q => PySem.P.len_tuple e (by simp; (first | lia | omega)) ?_
      simpa [hl] using q
theorem call_len_d {j : Nat} {l : List (Int × PV)} (hj : σ[j]? = some (.idict l)) (hz : l.length ≤ 1000000) (p : P (.int l.length) σ) : CallV prog w h₀ n (.builtin "len") [.obj j] σ P := by
  intro A s α vs hr S r
  cases r with
  | cons ra r =>
    cases r
    obtain ⟨x, rfl, ea⟩ := ra.obj'
    · skip
      obtain ⟨x', e1, kvs, D, hk, r⟩ := S.at hj
      rw [ea] at e1; cases e1
      have hl : kvs.length = l.length := by have := congrArg List.length hk; simpa using this
      refine TV.tok (s.toks + 1 + 1) S (.int _ (s.toks + 1)) p fun E Q q => call_len_dict (S.notSys ea) D (by (first | lia | omega)) ?_
      simpa [hl] using q
end
section
variable {prog : Program} {w : World} {A : Around} {E : Value → Shared → Prop} {s : Shared}
theorem adjust_to (b n : Nat) (hb : b ≤ n) : Builtin.Slice.sliceAdjust none (some (b : Int)) 1 (n : Int) = (0, (b : Int)) := by
  unfold Builtin.Slice.sliceAdjust
  have h1 : ¬ ((1 : Int) < 0) := by (first | lia | omega)
  have h2 : ¬ ((b : Int) < 0) := by (first | lia | omega)
  simp only [h1, h2, if_false]
  congr 1
  (first | lia | omega)
theorem places_to (b : Nat) : Builtin.Slice.slicePlaces 0 (b : Int) 1 = b := by
  unfold Builtin.Slice.slicePlaces
  have h1 : (1 : Int) > 0 := by (first | lia | omega)
  simp only [h1, if_true, Int.ediv_one]
  split <;> (first | lia | omega)
theorem applied_to {sl : Addr} {b n : Nat} {u : Tok} {Q : Int × Int × Nat → Shared → Prop} (hs : s.heap.IsSliceOf sl .none (.int b u) .none) (hb : b ≤ n) (h : Q (0, 1, b) s) :
    wpAny (model prog w) A (Builtin.Slice.sliceApplied (.ref sl) (pure (n : Int))) Q E s := by
  obtain ⟨os, hos, hcs, hds⟩ := id hs
  unfold Builtin.Slice.sliceApplied Builtin.Slice.sliceFields
  refine wpAny_bind (wpAny_bind (wpAny_field hos hds (x := .none) rfl (wpAny_bind (wpAny_field hos hds (x := .int b u) rfl (wpAny_bind (wpAny_field hos hds (x := .none) rfl (wpAny_pure ?_)))))))
  refine wpAny_bind (slicePart_none ?_)
  show wpAny _ _ (if ((1 : Int) == 0) = true then _ else _) _ _ s
  rw [if_neg (by decide)]
  refine wpAny_bind (slicePart_none (wpAny_bind (slicePart_int (wpAny_bind (wpAny_pure ?_)))))
  show wpAny _ _ (match Builtin.Slice.sliceAdjust none (some (b : Int)) 1 (n : Int) with | (lo, hi) => pure (lo, (1 : Int), Builtin.Slice.slicePlaces lo hi 1)) _ _ s
  rw [adjust_to b n hb]
  show wpAny _ _ (pure ((0 : Int), (1 : Int), Builtin.Slice.slicePlaces 0 (b : Int) 1)) _ _ s
  rw [places_to b]
  exact wpAny_pure h
theorem pick_to (xs : Array Value) (b : Nat) (hb : b ≤ xs.size) : ((List.range b).filterMap fun (k : Nat) => xs[((0 : Int) + (k : Int) * 1).toNat]?).toArray = (xs.toList.take b).toArray := by
  have e : (fun (k : Nat) => xs[((0 : Int) + (k : Int) * 1).toNat]?) = fun k => xs.toList[k]? := by
    funext k
    have : ((0 : Int) + (k : Int) * 1).toNat = k := by (first | lia | omega)
    rw [this, Array.getElem?_toList]
  rw [e]
  congr 1
  rw [← Array.length_toList] at hb
  revert hb
  generalize xs.toList = l
  intro hb
  induction b with
  | zero => simp
  | succ b ih =>
    rw [List.range_succ, List.filterMap_append, ih (by (first | lia | omega)), List.take_succ]
    simp
    cases h : l[b]? <;> simp [h]
theorem getItem_tuple_to {t sl : Addr} {items : Array Value} {b : Nat} {u : Tok} {Q : Value → Shared → Prop} (ht : IsTup s.heap t items) (hs : s.heap.IsSliceOf sl .none (.int b u) .none) (hb : b < items.size)
    (h : Q (.ref s.heap.objs.size) { s with heap := s.heap.push { cls := .type "tuple", data := .seq (items.toList.take b).toArray } })
    (hsz : items.size ≤ sizeLine) : wpAny (model prog w) A (getItem (.ref t) (.ref sl)) Q E s := by
  have htake : sizeOk (.seq (items.toList.take b).toArray) := by
    show (items.toList.take b).toArray.size ≤ sizeLine
    rw [List.size_toArray, List.length_take, Array.length_toList]
    (first | lia | omega)
  obtain ⟨os, hos, hcs, hds⟩ := id hs
  have hTs : s.TypeIs (.ref sl) "slice" := ⟨os, hos, hcs⟩
  unfold getItem
  try with_reducible refine wpAny_holding ?_
  first | refine wpAny_bind (wpAny_pure ?_) | skip
  refine wpAny_bind (wpAny_sequenceKey ht.typeIs (by decide) ?_)
  refine wpAny_bind (wpAny_callSpecial?_slot (name := Str.ofString "__getitem__") ht.typeIs PyProof.Rows.slot_tuple_getitem
    (wpAny_call_entry PyProof.Rows.slot_tuple_getitem ht.typeIs PyProof.Rows.entry_tuple_getitem ?_ (PyProof.Rows.args_tuple_getitem _ _)))
  show wpAny _ _ (Builtin.Tuple.tupleItemsOf (.ref t) >>= _) _ _ s
  refine wpAny_bind (tupleItemsOf_ ht ?_)
  refine wpAny_bind (wpAny_typeOf hTs ?_)
  rw [if_pos (by decide)]
  refine wpAny_bind (applied_to hs (Nat.le_of_lt hb) ?_)
  have hno : ¬ (((0 : Int) == 0 && (1 : Int) == 1 && b == items.size) = true) := by
    have : (b == items.size) = false := by rw [beq_eq_false_iff_ne]; (first | lia | omega)
    rw [this]; simp
  show wpAny _ _ (if ((0 : Int) == 0 && (1 : Int) == 1 && b == items.size) = true then _ else _) _ _ s
  rw [if_neg hno, pick_to items b (Nat.le_of_lt hb)]
  first
    | exact wpAny_bind (m := Builtin.Tuple.tupleExact _) (wpAny_newObj_type (wpAny_pure ⟨_, rfl, wpAny_pure h⟩) htake)
    | exact wpAny_bind (m := Builtin.Tuple.tupleExact _) (wpAny_newObj_type (wpAny_bind (wpAny_pure (wpAny_pure ⟨_, rfl, wpAny_pure h⟩))) htake)
    | exact wpAny_bind (wpAny_bind (m := Builtin.Tuple.tupleExact _) (wpAny_newObj_type (wpAny_pure (wpAny_pure ⟨_, rfl, wpAny_pure h⟩)) htake))
    | exact wpAny_bind (wpAny_bind (m := Builtin.Tuple.tupleExact _) (wpAny_newObj_type (wpAny_pure ⟨_, rfl, wpAny_pure h⟩) htake))
end

section
variable (prog : Program) (w : World) (h₀ : Heap)
def EvP (n : Nat) (sc : Scope) (e : Option Expr) (ρ : List (Str × PV)) (σ : List AO) (P : PV → List AO → Prop) : Prop :=
  ∀ (env : Env) (A : Around) (s : Shared) (α : List Addr), env.scope = sc → Room n A → Fm h₀ env ρ α s.heap → St prog w h₀ α σ s.heap → TV prog w h₀ A (evalPart e env) α s P
/-- o[a:b:c] -/
def Cut (n : Nat) (o a b c : PV) (σ : List AO) (P : PV → List AO → Prop) : Prop :=
  ∀ (A : Around) (s : Shared) (α : List Addr) (vo va vb vc : Value) (sl : Addr), Room n A → St prog w h₀ α σ s.heap → Rep α s.heap vo o → Rep α s.heap va a → Rep α s.heap vb b → Rep α s.heap vc c → s.heap.IsSliceOf sl va vb vc →
    (∃ x, vo = .ref x) ∧ (∃ T id, s.TypeIs vo T ∧ typeLookup (.type T) "__getitem__" = pure (some (.builtin id))) ∧ TV prog w h₀ A (getItem vo (.ref sl)) α s P
end
section
variable {prog : Program} {w : World} {h₀ : Heap} {n : Nat} {sc : Scope} {ρ : List (Str × PV)} {σ : List AO} {P : PV → List AO → Prop} {A : Around} {s : Shared} {α : List Addr}
theorem evp_none (p : P .none σ) : EvP prog w h₀ n sc none ρ σ P :=
  fun env A s α hsc hr F S => TV.here S .none p fun E Q q => by rw [evalPart_none]; exact wpAny_pure q
theorem evp_some {e : Expr} (h : Ev prog w h₀ n sc e ρ σ P) : EvP prog w h₀ n sc (some e) ρ σ P :=
  fun env A s α hsc hr F S => by rw [evalPart_some]; exact h env A s α hsc hr F S
theorem ev_slice {value : Expr} {lo hi st : Option Expr} {p pos : Pos}
    (h : Ev prog w h₀ n sc value ρ σ fun o σ₁ => EvP prog w h₀ n sc lo ρ σ₁ fun a σ₂ => EvP prog w h₀ n sc hi ρ σ₂ fun b σ₃ => EvP prog w h₀ n sc st ρ σ₃ fun c σ₄ => Cut prog w h₀ n o a b c σ₄ P)
    (hs : ∀ o i, subscripted (.Slice lo hi st p) false (.ref o) (.ref i) = operate [.ref i, .ref o] (getItem (.ref o) (.ref i)) := by intro _ _; with_unfolding_all rfl) : Ev prog w h₀ n sc (.Subscript value (.Slice lo hi st p) pos) ρ σ P := by
  intro env A s α hsc hr F S E Q hQ
  refine Subscript_ (h env A s α hsc hr F S _ _ fun vo o s₁ α₁ σ₁ g₁ S₁ r₁ p₁ => wpAny_Slice ?_)
  refine p₁ env A s₁ α₁ hsc hr (F.go g₁) S₁ _ _ fun va a s₂ α₂ σ₂ g₂ S₂ r₂ p₂ => ?_
  refine p₂ env A s₂ α₂ hsc hr (F.go (g₁.trans g₂)) S₂ _ _ fun vb b s₃ α₃ σ₃ g₃ S₃ r₃ p₃ => ?_
  refine p₃ env A s₃ α₃ hsc hr (F.go (g₁.trans (g₂.trans g₃))) S₃ _ _ fun vc c s₄ α₄ σ₄ g₄ S₄ r₄ p₄ => ?_
  have k := fun b o (e : s₄.heap.get? b = some o) => Heap.get?_push_of_some ({ cls := .type "slice", data := .fields #[va, vb, vc] } : Obj) e
  have g₅ : Go [] α₄ α₄ s₄ { s₄ with heap := s₄.heap.push { cls := .type "slice", data := .fields #[va, vb, vc] } } := Go.keeps (tk := s₄.toks) k
  have g45 := g₄.trans g₅
  have g345 := g₃.trans g45
  have g2345 := g₂.trans g345
  obtain ⟨⟨x, rfl⟩, ⟨T, id, hT, hl⟩, hg⟩ := p₄ A _ α₄ vo va vb vc _ hr (S₄.keeps k) (r₁.mono g2345.pre g2345.tup) (r₂.mono g345.pre g345.tup) (r₃.mono g45.pre g45.tup) (r₄.mono g₅.pre g₅.tup) (Heap.IsSliceOf.new ..)
  exact tail_any hT hl (hg _ _ fun v d s' α' σ' g S r p => hQ v d s' α' σ' (g₁.trans (g2345.trans g)) S r p) (hs x _)
theorem ev_slice3 {value : Expr} {lo hi : Option Expr} {st : Expr} {p pos : Pos}
    (h : Ev prog w h₀ n sc value ρ σ fun o σ₁ => EvP prog w h₀ n sc lo ρ σ₁ fun a σ₂ => EvP prog w h₀ n sc hi ρ σ₂ fun b σ₃ => EvP prog w h₀ n sc (some st) ρ σ₃ fun c σ₄ => Cut prog w h₀ n o a b c σ₄ P)
    (hs : ∀ o i, subscripted (.Slice lo hi (some st) p) false (.ref o) (.ref i) = operate [.ref o, .ref i] (getItem (.ref o) (.ref i)) := by intro _ _; with_unfolding_all rfl) : Ev prog w h₀ n sc (.Subscript value (.Slice lo hi (some st) p) pos) ρ σ P := by
  intro env A s α hsc hr F S E Q hQ
  refine Subscript_ (h env A s α hsc hr F S _ _ fun vo o s₁ α₁ σ₁ g₁ S₁ r₁ p₁ => wpAny_Slice ?_)
  refine p₁ env A s₁ α₁ hsc hr (F.go g₁) S₁ _ _ fun va a s₂ α₂ σ₂ g₂ S₂ r₂ p₂ => ?_
  refine p₂ env A s₂ α₂ hsc hr (F.go (g₁.trans g₂)) S₂ _ _ fun vb b s₃ α₃ σ₃ g₃ S₃ r₃ p₃ => ?_
  refine p₃ env A s₃ α₃ hsc hr (F.go (g₁.trans (g₂.trans g₃))) S₃ _ _ fun vc c s₄ α₄ σ₄ g₄ S₄ r₄ p₄ => ?_
  have k := fun b o (e : s₄.heap.get? b = some o) => Heap.get?_push_of_some ({ cls := .type "slice", data := .fields #[va, vb, vc] } : Obj) e
  have g₅ : Go [] α₄ α₄ s₄ { s₄ with heap := s₄.heap.push { cls := .type "slice", data := .fields #[va, vb, vc] } } := Go.keeps (tk := s₄.toks) k
  have g45 := g₄.trans g₅
  have g345 := g₃.trans g45
  have g2345 := g₂.trans g345
  obtain ⟨⟨x, rfl⟩, ⟨T, id, hT, hl⟩, hg⟩ := p₄ A _ α₄ vo va vb vc _ hr (S₄.keeps k) (r₁.mono g2345.pre g2345.tup) (r₂.mono g345.pre g345.tup) (r₃.mono g45.pre g45.tup) (r₄.mono g₅.pre g₅.tup) (Heap.IsSliceOf.new ..)
  exact tail_any hT hl (hg _ _ fun v d s' α' σ' g S r p => hQ v d s' α' σ' (g₁.trans (g2345.trans g)) S r p) (hs x _)
theorem cut_from {l : List PV} {a : Nat} (h1 : 1 ≤ a) (ha : a ≤ l.length) (hz : l.length ≤ 1000000) (p : P (.tup (l.drop a)) σ) : Cut prog w h₀ n (.tup l) (.int a) .none .none σ P := by
  intro A s α vo va vb vc sl hr S ro ra rb rc hs
  obtain ⟨_, rfl⟩ := ra.int'; obtain rfl := rb.none'; obtain rfl := rc.none'
  obtain ⟨x, xs, m, rfl, e, r⟩ := ro.tup'
  · skip
    have hl := r.length
    have ht : IsTup s.heap x xs.toArray := ⟨_, e, rfl, m, rfl⟩
    exact ⟨⟨x, rfl⟩, ⟨"tuple", _, ⟨_, e, rfl⟩, PySem.F.slot_tuple_getitem.lookup⟩, TV.newTup s.toks S (r.drop a) p fun E Q q => getItem_tuple_from ht hs h1 (by simp; (first | lia | omega)) (by simpa using q) (by simp [sizeLine_eq]; (first | lia | omega))⟩
theorem cut_to {l : List PV} {b : Nat} (hb : b < l.length) (hz : l.length ≤ 1000000) (p : P (.tup (l.take b)) σ) : Cut prog w h₀ n (.tup l) .none (.int b) .none σ P := by
  intro A s α vo va vb vc sl hr S ro ra rb rc hs
  obtain rfl := ra.none'; obtain ⟨_, rfl⟩ := rb.int'; obtain rfl := rc.none'
  obtain ⟨x, xs, m, rfl, e, r⟩ := ro.tup'
  · skip
    have hl := r.length
    have ht : IsTup s.heap x xs.toArray := ⟨_, e, rfl, m, rfl⟩
    exact ⟨⟨x, rfl⟩, ⟨"tuple", _, ⟨_, e, rfl⟩, PySem.F.slot_tuple_getitem.lookup⟩, TV.newTup s.toks S (r.take b) p fun E Q q => getItem_tuple_to ht hs (by simp; (first | lia | omega)) (by simpa using q) (by simp [sizeLine_eq]; (first | lia | omega))⟩
theorem cut_rev {j : Nat} {l : List PV} (hj : σ[j]? = some (.list l)) (hz : l.length ≤ 1000000) (p : P (.obj σ.length) (σ ++ [.list l.reverse])) : Cut prog w h₀ n (.obj j) .none .none (.int (-1)) σ P := by
  intro A s α vo va vb vc sl hr S ro ra rb rc hs
  obtain rfl := ra.none'; obtain rfl := rb.none'; obtain ⟨_, rfl⟩ := rc.int'
  obtain ⟨x, rfl, ea⟩ := ro.obj'
  · skip
    obtain ⟨x', e1, xs, m, e, r⟩ := S.at hj
    rw [ea] at e1; cases e1
    have hl := r.length
    refine ⟨⟨x, rfl⟩, ⟨"list", _, ⟨_, e, rfl⟩, slot_list_getitem.lookup⟩, TV.newList s.toks S r.reverse p fun E Q q => wpAny_getItem_list_slice (items := xs.toArray) ⟨_, e, rfl, m, rfl⟩ hs .none .none (.int (-1) _) (by simp) ?_ (by simp [sizeLine_eq]; (first | lia | omega))⟩
    rw [krv_pick]
    simpa using q
theorem intsAre_rep {h : Heap} {vs : List Value} {ns : List Int} (hi : IntsAre vs ns) : RepL α h vs (iL ns) := by
  induction hi with
  | nil => exact .nil
  | cons m t _ ih => exact .cons (.int m t) ih
theorem cut_script {a : Addr} {vs : List Value} {ns : List Int} {b : Nat} (hl : h₀.IsList a vs.toArray) (hi : IntsAre vs ns) (hz : ns.length ≤ 1000000) (p : P (.obj σ.length) (σ ++ [.list (iL (ns.take b))])) : Cut prog w h₀ n (.raw (.ref a)) .none (.int b) .none σ P := by
  intro A s α vo va vb vc sl hr S ro ra rb rc hs
  obtain rfl := ra.none'; obtain ⟨_, rfl⟩ := rb.int'; obtain rfl := rc.none'
  cases ro
  have hl' : s.heap.IsList a vs.toArray := by
    obtain ⟨o, e, hc, m, hd⟩ := hl
    exact ⟨o, S.keep _ _ e, hc, m, hd⟩
  have hlen := hi.length
  refine ⟨⟨a, rfl⟩, ⟨"list", _, hl'.typeIs, slot_list_getitem.lookup⟩, TV.newList s.toks S (vs := vs.take b) (intsAre_rep (hi.take b)) p fun E Q q => wpAny_getItem_list_slice hl' hs .none (.int b _) .none (by simp) ?_ (by simp [sizeLine_eq]; (first | lia | omega))⟩
  rw [slicePick_upto']
  simpa using q
end
/-- a tuple of ints -/
abbrev tI (ks : List Int) : PV := .tup (iL ks)
abbrev dI (l : List (Int × List Int)) : List (Int × PV) := l.map fun x => (x.1, tI x.2)
def hitsB (lb la : List (Int × List Int)) : Bool := la.all fun x => match lb.lookup x.1 with | none => false | some u => decide (x.2 = u)

theorem shapedT (ns : List Int) : SeqAt.shaped (.tuple (ns.map PyData.int)) = true := by
  simp [SeqAt.shaped, PyData.canLay0, PyData.depth, ke_canLayAll0, ke_depthAll]
theorem sameT (ns ms : List Int) : PySem.Spec.same (.tuple (ns.map PyData.int)) (.tuple (ms.map PyData.int)) = decide (ns = ms) := by
  simp only [PySem.Spec.same]; exact ke_sameAll ns ms
theorem eqvT (ns ms : List Int) : PyData.eqv (.tuple (ns.map PyData.int)) (.tuple (ms.map PyData.int)) = decide (ns = ms) := by
  rw [← SeqAt.same_eq_eqv _ _ (by simp only [SeqAt.noMix]; exact noMix_ints ns ms), sameT]

section
variable {α : List Addr} {h : Heap}
theorem iL_reads {vs : List Value} {l : List Int} (r : RepL α h vs (iL l)) : ReadsAll h vs (l.map PyData.int) [] := by
  induction l generalizing vs with
  | nil => cases r; exact .nil
  | cons i l ih => cases r with
    | cons x r => cases x with
      | int _ t => exact .cons (.int i t) (ih r)
theorem iL_intsAre {vs : List Value} {l : List Int} (r : RepL α h vs (iL l)) : IntsAre vs l := by
  induction l generalizing vs with
  | nil => cases r; exact .nil
  | cons i l ih => cases r with
    | cons x r => cases x with
      | int _ t => exact .cons i t (ih r)
theorem tI_reads {v : Value} {l : List Int} (r : Rep α h v (tI l)) : Reads h v (.tuple (l.map PyData.int)) [] := by
  cases r with
  | tup e r => exact .tuple e rfl rfl (iL_reads r)
theorem tts_reads {vs : List Value} {rows : List (List Int)} (r : RepL α h vs (rows.map tI)) : ReadsAll h vs (rows.map fun x => PyData.tuple (x.map PyData.int)) [] := by
  induction rows generalizing vs with
  | nil => cases r; exact .nil
  | cons i l ih => cases r with
    | cons x r => exact .cons (tI_reads x) (ih r)
theorem canLay_rows : ∀ rows : List (List Int), PyData.canLayAll0 (rows.map fun x => PyData.tuple (x.map PyData.int)) = true
  | [] => rfl
  | x :: r => by simp [PyData.canLayAll0, PyData.canLay0, ke_canLayAll0, canLay_rows r]
end

theorem pairs_free {p p' : Program} {w w' : World} {es : List DictEntry} {kvs : List (Int × Value)} (h : Pairs (intKind p w) es kvs) : Pairs (intKind p' w') es kvs := by
  induction h with
  | nil => exact .nil
  | cons a b _ ih => exact .cons a b ih
theorem dictOf_free {p p' : Program} {w w' : World} {h : Heap} {a : Addr} {kvs : List (Int × Value)} (x : h.DictOf (intKind p w) a kvs) : h.DictOf (intKind p' w') a kvs := by
  obtain ⟨o, es, ep, ho, hx, hd, hk, hp, hn⟩ := x
  exact ⟨o, es, ep, ho, hx, hd, hk, pairs_free hp, hn⟩

section
variable {prog : Program} {w : World} {h₀ : Heap} {n : Nat} {σ : List AO} {P : PV → List AO → Prop} {A : Around} {s : Shared} {α : List Addr}

theorem Room.u64 {n : Nat} {A : Around} (r : Room n A) : A.units + 64 < cLine := r.line 64 (by (first | lia | omega))
theorem Room.u64' {n : Nat} {A : Around} (r : Room n A) : A.in1.units + 64 < cLine := by have := r.line 65 (by (first | lia | omega)); show A.units + 1 + 64 < cLine; (first | lia | omega)
theorem Room.u0 {n : Nat} {A : Around} (r : Room n A) : A.units < cLine := by have := r.line 0 (by (first | lia | omega)); simpa using this

theorem cmp_eq_ti {a b : List Int} (p : P (.bool (decide (a = b))) σ) : Cmp prog w h₀ n .Eq (tI a) (tI b) σ P := by
  intro A s α va vb hr S ra rb
  exact TV.here (d := .bool (decide (a = b))) S (.bool _) p fun E Q q => eq_dataH (tI_reads ra) (tI_reads rb) (shapedT a) (shapedT b) hr.u64 (by rw [eqvT]; exact q)
theorem cmp_ne_ti {a b : List Int} (p : P (.bool (!decide (a = b))) σ) : Cmp prog w h₀ n .NotEq (tI a) (tI b) σ P := by
  intro A s α va vb hr S ra rb
  exact TV.here (d := .bool (!decide (a = b))) S (.bool _) p fun E Q q => ne_dataH (tI_reads ra) (tI_reads rb) (shapedT a) (shapedT b) hr.u64 (by rw [eqvT]; exact q)
theorem cmp_notin_ti {a : Int} {b : List Int} (p : P (.bool (!(b.any (· == a)))) σ) : Cmp prog w h₀ n .NotIn (.int a) (tI b) σ P := by
  intro A s α va vb hr S ra rb
  obtain ⟨_, rfl⟩ := ra.int'
  obtain ⟨x, xs, m, rfl, e, r⟩ := rb.tup'
  · skip
    exact TV.here (d := .bool (!(b.any (· == a)))) S (.bool _) p fun E Q q => notin_tuple_ints (items := xs.toArray) ⟨_, e, rfl, m, rfl⟩ (iL_intsAre r) q
theorem any_rows (rows : List (List Int)) (a : List Int) : ((rows.map fun x => PyData.tuple (x.map PyData.int)).any fun y => PyData.eqv y (.tuple (a.map PyData.int))) = rows.any fun r => decide (r = a) := by
  rw [List.any_map]
  congr 1
  funext r
  exact eqvT r a
theorem cmp_in_tt {a : List Int} {rows : List (List Int)} (p : P (.bool (rows.any fun r => decide (r = a))) σ) : Cmp prog w h₀ n .In (tI a) (.tup (rows.map tI)) σ P := by
  intro A s α va vb hr S ra rb
  have rx := tI_reads ra
  have hd : PyData.depth (.tuple (a.map PyData.int)) ≤ 1 := by simp [PyData.depth, ke_depthAll]
  obtain ⟨x, xs, m, rfl, e, r⟩ := rb.tup'
  · skip
    have rc : Reads s.heap (.ref x) (.tuple (rows.map fun x => PyData.tuple (x.map PyData.int))) [] := .tuple e rfl rfl (tts_reads r)
    refine TV.here (d := .bool (rows.any fun r => decide (r = a))) S (.bool _) p fun E Q q => SeqAt.in_tuple_reads rc rx (canLay_rows rows) (SeqAt.canLay_of_shaped (shapedT a)) ?_ (by rw [any_rows]; exact q)
    have := hr.line 2 (by (first | lia | omega))
    have hm : min (PyData.depthAll (rows.map fun x => PyData.tuple (x.map PyData.int))) (PyData.depth (.tuple (a.map PyData.int))) ≤ PyData.depth (.tuple (a.map PyData.int)) := Nat.min_le_right _ _
    (first | lia | omega)

/-- a list against an empty one -/
theorem cmp_eq_nil {i j : Nat} {l : List PV} (hi : σ[i]? = some (.list l)) (hj : σ[j]? = some (.list [])) (p : P (.bool l.isEmpty) σ) : Cmp prog w h₀ n .Eq (.obj i) (.obj j) σ P := by
  intro A s α va vb hr S ra rb
  obtain ⟨x, rfl, ea⟩ := ra.obj'
  · skip
    obtain ⟨y, rfl, eb⟩ := rb.obj'
    · skip
      obtain ⟨x', e1, xs, m, e, r⟩ := S.at hi
      obtain ⟨y', e2, ys, k, e', r'⟩ := S.at hj
      rw [ea] at e1; cases e1
      rw [eb] at e2; cases e2
      cases r'
      cases l with
      | nil =>
        cases r
        exact TV.here (d := .bool true) S (.bool _) p fun E Q q => SeqAt.eq_listAt (items := #[]) (items2 := #[]) (e := fun _ => true) ⟨_, e, rfl, m, rfl⟩ ⟨_, e', rfl, k, rfl⟩ rfl hr.u0 (fun j h1 => absurd h1 (Nat.not_lt_zero j)) q
      | cons d l =>
        cases r with
        | cons _ _ =>
          exact TV.here (d := .bool false) S (.bool _) p fun E Q q => SeqAt.eq_list_lengthsAt ⟨_, e, rfl, m, rfl⟩ ⟨_, e', rfl, k, rfl⟩ (by simp) hr.u0 q
theorem cmp_ne_nil {i j : Nat} {l : List PV} (hi : σ[i]? = some (.list l)) (hj : σ[j]? = some (.list [])) (p : P (.bool (!l.isEmpty)) σ) : Cmp prog w h₀ n .NotEq (.obj i) (.obj j) σ P := by
  intro A s α va vb hr S ra rb
  obtain ⟨x, rfl, ea⟩ := ra.obj'
  · skip
    obtain ⟨y, rfl, eb⟩ := rb.obj'
    · skip
      obtain ⟨x', e1, xs, m, e, r⟩ := S.at hi
      obtain ⟨y', e2, ys, k, e', r'⟩ := S.at hj
      rw [ea] at e1; cases e1
      rw [eb] at e2; cases e2
      cases r'
      cases l with
      | nil =>
        cases r
        exact TV.here (d := .bool false) S (.bool _) p fun E Q q => SeqAt.RcNeAt.lists (items := #[]) (items2 := #[]) (e := fun _ => true) ⟨_, e, rfl, m, rfl⟩ ⟨_, e', rfl, k, rfl⟩ rfl hr.u0 (fun j h1 => absurd h1 (Nat.not_lt_zero j)) prog w E Q q
      | cons d l =>
        cases r with
        | cons _ _ =>
          exact TV.here (d := .bool true) S (.bool _) p fun E Q q => SeqAt.RcNeAt.lists_lengths ⟨_, e, rfl, m, rfl⟩ ⟨_, e', rfl, k, rfl⟩ (by simp) hr.u0 prog w E Q q

theorem lookup_dI (l : List (Int × List Int)) (k : Int) : (dI l).lookup k = (l.lookup k).map tI := by
  induction l with
  | nil => rfl
  | cons x l ih =>
    obtain ⟨a, b⟩ := x
    simp only [dI, List.map_cons, List.lookup_cons]
    cases k == a
    · exact ih
    · rfl
theorem keq_hits {h : Heap} {kb : List (Int × Value)} {lb : List (Int × List Int)} (hs : s.heap = h) (hkb : kb.map (·.1) = (dI lb).map (·.1)) (rb : RepL α h (kb.map (·.2)) ((dI lb).map (·.2))) (hr : A.in1.units + 64 < cLine) :
    ∀ (la : List (Int × List Int)) (ka : List (Int × Value)), ka.map (·.1) = (dI la).map (·.1) → RepL α h (ka.map (·.2)) ((dI la).map (·.2)) → KeqHits A.in1 s kb ka (hitsB lb la)
  | [], [], _, _ => .nil
  | [], _ :: _, e, _ => by simp at e
  | _ :: _, [], e, _ => by simp at e
  | x :: la, (k, v) :: ka, e, r => by
    simp only [dI, List.map_cons, List.cons.injEq] at e r
    obtain ⟨e1, e2⟩ := e
    subst e1
    cases r with
    | cons r1 r2 =>
      have ih := keq_hits hs hkb rb hr la ka e2 r2
      have q := dl_lookup hkb rb x.1
      rw [lookup_dI] at q
      unfold hitsB
      rw [List.all_cons]
      cases hl : lb.lookup x.1 with
      | none => rw [hl] at q; exact .miss q
      | some u =>
        rw [hl] at q
        obtain ⟨y, ey, ry⟩ := q
        have he := keq_at (A := A) (hs ▸ tI_reads r1) (hs ▸ tI_reads ry) (shapedT x.2) (shapedT u) hr
        rw [eqvT] at he
        exact .hit ey he ih
theorem dlen {kvs : List (Int × Value)} {l : List (Int × List Int)} (hk : kvs.map (·.1) = (dI l).map (·.1)) : kvs.length = l.length := by have := congrArg List.length hk; simpa using this
theorem cmp_eq_d {i j : Nat} {la lb : List (Int × List Int)} (hi : σ[i]? = some (.idict (dI la))) (hj : σ[j]? = some (.idict (dI lb))) (p : P (.bool (la.length == lb.length && hitsB lb la)) σ) : Cmp prog w h₀ n .Eq (.obj i) (.obj j) σ P := by
  intro A s α va vb hr S ra rb
  obtain ⟨x, rfl, ea⟩ := ra.obj'
  · skip
    obtain ⟨y, rfl, eb⟩ := rb.obj'
    · skip
      obtain ⟨x', e1, ka, Da, hka, r⟩ := S.at hi
      obtain ⟨y', e2, kb, Db, hkb, r'⟩ := S.at hj
      rw [ea] at e1; cases e1
      rw [eb] at e2; cases e2
      exact TV.here (d := .bool (la.length == lb.length && hitsB lb la)) S (.bool _) p fun E Q q => keq_eq (S.notSys ea) (S.notSys eb) Da Db hr.u0 (fun _ => keq_hits rfl hkb r' hr.u64' la ka hka r) (by rw [dlen hka, dlen hkb]; exact q)
theorem cmp_ne_d {i j : Nat} {la lb : List (Int × List Int)} (hi : σ[i]? = some (.idict (dI la))) (hj : σ[j]? = some (.idict (dI lb))) (p : P (.bool (!(la.length == lb.length && hitsB lb la))) σ) : Cmp prog w h₀ n .NotEq (.obj i) (.obj j) σ P := by
  intro A s α va vb hr S ra rb
  obtain ⟨x, rfl, ea⟩ := ra.obj'
  · skip
    obtain ⟨y, rfl, eb⟩ := rb.obj'
    · skip
      obtain ⟨x', e1, ka, Da, hka, r⟩ := S.at hi
      obtain ⟨y', e2, kb, Db, hkb, r'⟩ := S.at hj
      rw [ea] at e1; cases e1
      rw [eb] at e2; cases e2
      exact TV.here (d := .bool (!(la.length == lb.length && hitsB lb la))) S (.bool _) p fun E Q q => keq_ne (S.notSys ea) (S.notSys eb) Da Db hr.u0 (fun _ => keq_hits rfl hkb r' hr.u64' la ka hka r) (by rw [dlen hka, dlen hkb]; exact q)
/-- (d, b) != (d', b') -/
theorem cmp_ne_pair {i j : Nat} {a b : Bool} {la lb : List (Int × List Int)} (hij : i ≠ j) (hi : σ[i]? = some (.idict (dI la))) (hj : σ[j]? = some (.idict (dI lb))) (p : P (.bool (!((la.length == lb.length && hitsB lb la) && (a == b)))) σ) :
    Cmp prog w h₀ n .NotEq (.tup [.obj i, .bool a]) (.tup [.obj j, .bool b]) σ P := by
  intro A s α va vb hr S ra rb
  obtain ⟨t, xs, m, rfl, e, r⟩ := ra.tup'
  · skip
    obtain ⟨u, ys, k, rfl, e', r'⟩ := rb.tup'
    · skip
      cases r with
      | cons rx r =>
      cases r with
      | cons rxb r =>
      cases r
      cases rxb
      obtain ⟨x, rfl, ea⟩ := rx.obj'
      cases r' with
      | cons ry r' =>
      cases r' with
      | cons ryb r' =>
      cases r'
      cases ryb
      obtain ⟨y, rfl, eb⟩ := ry.obj'
      obtain ⟨x', e1, ka, Da, hka, r⟩ := S.at hi
      obtain ⟨y', e2, kb, Db, hkb, r'⟩ := S.at hj
      rw [ea] at e1; cases e1
      rw [eb] at e2; cases e2
      have hne : x ≠ y := fun q => by subst q; exact hij (nodup_inj S.nd ea eb)
      have u2 : A.in1.in1.units + 64 < cLine := by have := hr.line 66 (by (first | lia | omega)); show A.units + 1 + 1 + 64 < cLine; (first | lia | omega)
      have u1 : A.in1.units < cLine := by have := hr.line 1 (by (first | lia | omega)); exact this
      have hd : SeqAt.EqAt A.in1 s (.ref x) (.ref y) (la.length == lb.length && hitsB lb la) := SeqAt.EqAt.of_refs hne fun prog' w' E Q q =>
        keq_eq (prog := prog') (w := w') (knd := intKind prog' w') (S.notSys ea) (S.notSys eb) (dictOf_free Da) (dictOf_free Db) u1 (fun _ => keq_hits rfl hkb r' u2 la ka hka r) (by rw [dlen hka, dlen hkb]; exact q)
      refine TV.here (d := .bool (!((la.length == lb.length && hitsB lb la) && (a == b)))) S (.bool _) p fun E Q q => SeqAt.RcNeAt.tuples (items := #[.ref x, .bool a]) (items2 := #[.ref y, .bool b]) (e := fun j => if j = 0 then (la.length == lb.length && hitsB lb la) else (a == b)) ⟨_, e, rfl, m, rfl⟩ ⟨_, e', rfl, k, rfl⟩ hr.u0 (fun j h1 h2 => ?_) prog w E Q ?_
      · match j, h1 with
        | 0, _ => exact hd
        | 1, _ => exact SeqAt.EqAt.bool_bool a b
      · have e : (!((List.range (min (#[Value.ref x, .bool a] : Array Value).size (#[Value.ref y, .bool b] : Array Value).size)).all (fun j => if j = 0 then (la.length == lb.length && hitsB lb la) else (a == b)) && (#[Value.ref x, .bool a] : Array Value).size == (#[Value.ref y, .bool b] : Array Value).size)) = (!((la.length == lb.length && hitsB lb la) && (a == b))) := by
          simp [List.range_succ]
        rw [e]; exact q
end
theorem list_no_keys : typeLookup (.type "list") (Str.ofString "keys") = pure none := by rw [typeLookup_type, builtinLookup_eq_fast]; kernel_rfl

theorem codeAny_meets {prog : Program} {w : World} {A : Around} {s : Shared} {R : Result → Shared → Prop} {T : String} {name : Str} {id : String} {B : Builtin} {self : Value} {rest : List Value} {S : PySem.Spec} (slot : Slot T name id) (hT : s.TypeIs self T)
    (entry : entryFor table id = some B) (args : argsOk id ⟨self :: rest, []⟩) (g : Meets (B ⟨self :: rest, []⟩) S) (h : S A R s) : codeAny (model prog w) A (.call (.builtin id) ⟨self :: rest, []⟩) R s :=
  codeAny_call_builtin slot.plain entry (slot.check _ _ _ _ _ _ _ _ hT args (g prog w A R s h))

theorem getAttr?_list_keys {prog : Program} {w : World} {A : Around} {E : Value → Shared → Prop} {s : Shared} {a : Addr} {xs : Array Value} {k : Nat} {Q : Option Value → Shared → Prop}
    (hx : s.heap.get? a = some (W.listOf xs k)) (hA : A.handled = none)
    (h : ∀ h' tk, (∀ b o, s.heap.get? b = some o → h'.get? b = some o) → Q none { s with heap := h', toks := tk }) :
    wpAny (model prog w) A (getAttr? (.ref a) (Str.ofString "keys")) Q E s := by
  obtain ⟨hp, g, d, tk, os⟩ := s
  have hT : ∀ tk', (⟨hp, g, d, tk', os⟩ : Shared).TypeIs (.ref a) "list" := fun _ => ⟨_, hx, rfl⟩
  have f1 := sub_AttributeError
  have f3 := PySem.F.slot_list_getattribute.lookup
  have f4 := PySem.F.slot_list_getattribute.bind (.ref a)
  have f5 := am_list_getattr_none
  have hname : (["__module__", "__name__", "__qualname__", "__doc__", "__annotations__"] : List Str).contains (Str.ofString "keys") = false := by decide +kernel
  unfold getAttr? getAttrBy? getAttrBy
  repeat (any_goals (first | assumption | exact hT _ | wp_step))
  refine codeAny_meets (self := .ref a) (rest := [.str (Str.ofString "keys") tk]) PySem.F.slot_list_getattribute (hT _) am_entry_list_getattribute (PySem.F.args_list_getattribute_2 _ _) (meets_getattribute_miss_list a xs k #[] (Str.ofString "keys") tk list_no_keys hname (by rw [PySem.ofString_length, sizeLine_eq]; decide)) ⟨hx, hA, fun h' tk' e hx' => ?_⟩
  obtain ⟨t', u', he⟩ := hx'.there
  have hk := hx'.keeps
  show wpAny _ _ (getattributeRaised _ _ _ _ _ _ _) _ _ _
  unfold getattributeRaised
  repeat (any_goals (first | assumption | wp_step))
  all_goals exact h _ _ hk
theorem entry_upd_loop : entryFor table "dict.update.loop" = some Builtin.«dict.update.loop» := entryFor_of_tree (by kernel_rfl)
theorem plain_upd_loop : plainId "dict.update.loop" = true := by decide +kernel

def PairAt (h : Heap) (v : Value) (p : Int × Value) : Prop := ∃ t n tok, v = .ref t ∧ h.get? t = some { cls := .type "tuple", data := .seq #[.int p.1 tok, p.2] n }
inductive PairsAt (h : Heap) : List Value → List (Int × Value) → Prop
  | nil : PairsAt h [] []
  | cons {v : Value} {p : Int × Value} {vs : List Value} {ps : List (Int × Value)} : PairAt h v p → PairsAt h vs ps → PairsAt h (v :: vs) (p :: ps)
theorem PairsAt.mono {h h' : Heap} (k : TupK h h') {vs : List Value} {ps : List (Int × Value)} (x : PairsAt h vs ps) : PairsAt h' vs ps := by
  induction x with
  | nil => exact .nil
  | cons a _ ih =>
    obtain ⟨t, n, tok, e, g⟩ := a
    exact .cons ⟨t, n, tok, e, k _ _ g (isTup_of rfl rfl)⟩ ih
theorem PairsAt.length {h : Heap} {vs : List Value} {ps : List (Int × Value)} (x : PairsAt h vs ps) : vs.length = ps.length := by
  induction x with
  | nil => rfl
  | cons _ _ ih => simp [ih]

section
variable {prog : Program} {w : World} {A : Around} {R : Result → Shared → Prop}
theorem dict_loop {d l I : Addr} {res : Value} {xs : List Value} {m : Nat} (hh : A.handled = none) (hdl : d ≠ l) (hdI : d ≠ I) (hIl : I ≠ l) : ∀ (vs : List Value) (ps : List (Int × Value)) (i : Nat) (kvs : List (Int × Value)) (s : Shared), xs.drop i = vs → i ≤ xs.length → s.heap.IsListIter I l i → s.heap.get? l = some (W.listOf xs.toArray m) →
    s.heap.DictOf (intKind prog w) d kvs → PairsAt s.heap vs ps → kvs.length + vs.length ≤ 1000000 →
    (∀ h' tk, h'.DictOf (intKind prog w) d (ps.foldl (fun acc p => stored acc p.1 p.2) kvs) → (∀ b o, b ≠ d → b ≠ I → s.heap.get? b = some o → h'.get? b = some o) → R (.ok (.ret res)) { s with heap := h', toks := tk }) →
    codeAny (model prog w) A (.builtin "dict.update.loop" ⟨[.ref d, .ref I, rawInt i, res], []⟩) R s := by
  intro vs
  induction vs with
  | nil =>
    intro ps i kvs s hd hi hit hl hD hp hz hR
    cases hp
    refine codeAny_builtin entry_upd_loop ?_
    rw [Around.under_plainId plain_upd_loop _]
    show wpAny _ A.in1 (pyNext (.ref I) >>= _) _ _ s
    have hn : xs.toArray[i]? = none := by
      have := List.drop_eq_nil_iff.mp hd
      simp; (first | lia | omega)
    refine wpAny_bind (wpAny_pyNext_list_end hh hit ⟨_, hl, rfl, m, rfl⟩ hn fun h' hx => ?_)
    show wpAny _ _ (Builtin.Dict.addKeywords d [] >>= _) _ _ _
    refine wpAny_bind (wpAny_pure (wpAny_pure ?_))
    exact hR h' s.toks (hD.at fun o e => hx d o hdI e) fun b o _ hb e => hx b o hb e
  | cons v vs ih =>
    intro ps i kvs s hd hi hit hl hD hp hz hR
    cases hp with
    | @cons _ p _ ps hv hp =>
    obtain ⟨t, n, tok, rfl, ht⟩ := hv
    have hlt : i < xs.length := by
      rcases Nat.lt_or_ge i xs.length with h | h
      · exact h
      · rw [List.drop_eq_nil_iff.mpr h] at hd; cases hd
    rw [List.drop_eq_getElem_cons hlt] at hd
    injection hd with hd1 hd2
    refine codeAny_builtin entry_upd_loop ?_
    rw [Around.under_plainId plain_upd_loop _]
    show wpAny _ A.in1 (pyNext (.ref I) >>= _) _ _ s
    refine wpAny_bind (wpAny_pyNext_list_item hit ⟨_, hl, rfl, m, rfl⟩ (x := .ref t) (by simp [List.getElem?_eq_getElem hlt, hd1]) fun h1 hit1 hs1 => ?_)
    obtain ⟨oI, eI, _, hdI'⟩ := hit
    have tk1 : TupK s.heap h1 := TupK.of_same hs1 eI (noTup_fields hdI')
    have ht1 := tk1 _ _ ht (isTup_of rfl rfl)
    have hl1 : h1.get? l = some (W.listOf xs.toArray m) := (hs1.2 l (Ne.symm hIl)).trans hl
    have hD1 : h1.DictOf (intKind prog w) d kvs := hD.at fun o e => (hs1.2 d hdI).trans e
    refine wpAny_bind (wpAny_holding (wpAny_bind (wpAny_tryCatch ?_)))
    unfold Builtin.Dict.pairItems
    refine wpAny_bind (wpAny_typeOf (T := "tuple") ⟨_, ht1, rfl⟩ ?_)
    rw [if_pos (by decide)]
    refine wpAny_bind (wpAny_seqItems ht1 rfl (wpAny_pure ?_))
    show wpAny _ _ (holding [.int p.1 tok, p.2] (dictSet d (.int p.1 tok) p.2)) _ _ _
    refine wpAny_holding (wpAny_dictSet_pairs (intKind_is _ _ _ _) hD1 (fun h2 hD2 hs2 => ?_) (by rw [sizeLine_eq]; simp at hz; (first | lia | omega)))
    obtain ⟨oD, esD, epD, eD, _, hdD, _⟩ := id hD1
    have tk2 : TupK h1 h2 := TupK.of_same hs2 eD (noTup_dict hdD)
    show wpAny _ _ (again (.builtin "dict.update.loop" ⟨[.ref d, .ref I, rawInt ((i : Int) + 1), res], []⟩)) _ _ _
    have e1 : rawInt ((i : Int) + 1) = rawInt ((i + 1 : Nat) : Int) := rfl
    rw [e1]
    refine wpAny_pure ⟨plainId_quiet plain_upd_loop _, ?_⟩
    have hst := stored_length_le kvs p.1 p.2
    refine ih ps (i + 1) (stored kvs p.1 p.2) _ hd2 hlt (hit1.at fun o e => (hs2.2 I (Ne.symm hdI)).trans e) ((hs2.2 l (Ne.symm hdl)).trans hl1) hD2 (hp.mono (tk1.trans tk2)) (by simp at hz; (first | lia | omega)) fun h' tk hD' hk => ?_
    exact hR h' tk hD' fun b o hb hbI e => hk b o hb hbI ((hs2.2 b hb).trans ((hs1.2 b hbI).trans e))
end
section
variable {prog : Program} {w : World} {A : Around} {E : Value → Shared → Prop} {s : Shared}
theorem sub_list_dict : (Value.type "list" != Value.type "dict") = true := by decide
/-- dict(a list of pairs) -/
theorem call_dict_pairs {l : Addr} {xs : List Value} {ps : List (Int × Value)} {m : Nat} {Q : Value → Shared → Prop} (hh : A.handled = none) (hl : s.heap.get? l = some (W.listOf xs.toArray m)) (hp : PairsAt s.heap xs ps) (hz : xs.length ≤ 1000000)
    (h : ∀ h' tk, h'.DictOf (intKind prog w) s.heap.objs.size (ps.foldl (fun acc p => stored acc p.1 p.2) []) → (∀ b o, s.heap.get? b = some o → h'.get? b = some o) → Q (.ref s.heap.objs.size) { s with heap := h', toks := tk }) :
    wpAny (model prog w) A (call (.type "dict") [.ref l]) Q E s := by
  refine callType_codes (Q₁ := fun obj s₁ => obj = .ref s.heap.objs.size ∧ s₁ = { s with heap := s.heap.push { cls := .type "dict", data := .dict #[] } }) PySem.F.kt_called_dict (PySem.F.kt_typeCall_dict_1 _) PySem.F.entry_dict_init (kt_code_dict_new _ ⟨rfl, rfl⟩) ?_
  rintro obj s₁ ⟨rfl, rfl⟩
  have hnew : (s.heap.push { cls := .type "dict", data := .dict #[] }).DictOf (intKind prog w) s.heap.objs.size [] := Heap.DictOf.new s.heap
  have k1 := fun b o' (e : s.heap.get? b = some o') => Heap.get?_push_of_some ({ cls := .type "dict", data := .dict #[] } : Obj) e
  have hl1 := k1 _ _ hl
  have hne : ∀ b o, s.heap.get? b = some o → b ≠ s.heap.objs.size := fun b o e => Nat.ne_of_lt (Heap.lt_size e)
  refine ⟨hnew.typeIs, PySem.F.args_dict_init_2 _ _, ?_⟩
  unfold Builtin.«dict.__init__»
  refine wpAny_bind ?_
  unfold Builtin.Dict.selfAndRest
  refine wpAny_bind (wpAny_notOrdered_dict hnew.typeIs ?_)
  show wpAny _ _ (pure (s.heap.objs.size, [Value.ref l])) _ _ _
  refine wpAny_pure ?_
  show wpAny _ _ (Builtin.Dict.updateFrom "dict.__init__" s.heap.objs.size (.ref l) [] .none) _ _ _
  unfold Builtin.Dict.updateFrom
  refine wpAny_bind (wpAny_typeOf (T := "list") ⟨_, hl1, rfl⟩ ?_)
  rw [if_pos (by decide)]
  refine wpAny_bind (getAttr?_list_keys hl1 hh fun h2 tk k2 => ?_)
  rw [if_pos (by rfl)]
  refine wpAny_bind (wpAny_rule ?_)
  have hl2 := k2 _ _ hl1
  refine wpAny_bind (wpAny_pyIter_list (items := xs.toArray) ⟨_, hl2, rfl, m, rfl⟩ ?_)
  have k3 := fun b o' (e : h2.get? b = some o') => Heap.get?_push_of_some ({ cls := .type "list_iterator", data := .fields #[.ref l, .int 0 0] } : Obj) e
  have hD2 : h2.DictOf (intKind prog w) s.heap.objs.size [] := hnew.at fun o e => k2 _ o e
  obtain ⟨oD, _, _, eD, _⟩ := id hD2
  have dI : s.heap.objs.size ≠ h2.objs.size := Nat.ne_of_lt (Heap.lt_size eD)
  have hIl : h2.objs.size ≠ l := Nat.ne_of_gt (Heap.lt_size hl2)
  refine wpAny_pure ⟨plainId_quiet plain_upd_loop _, ?_⟩
  refine dict_loop (xs := xs) (m := m) (l := l) (A := A.in1) hh (hne _ _ hl).symm dI hIl xs ps 0 [] _ rfl (Nat.zero_le _) ⟨_, Heap.get?_push_size _ rfl, rfl, rfl⟩ (k3 _ _ hl2) (hD2.at fun o e => k3 _ o e)
    (hp.mono ((TupK.of_keeps k1).trans ((TupK.of_keeps k2).trans (TupK.of_keeps k3)))) (by simpa using hz) fun h' tk' hD' hk => ?_
  exact ⟨rfl, h h' tk' hD' fun b o e => hk b o (hne b o e) (fun q => by
    have := k2 _ _ (k1 _ _ e)
    subst q; rw [Heap.size_fresh] at this; cases this) (k3 _ _ (k2 _ _ (k1 _ _ e)))⟩
end

def pairP (p : Int × PV) : PV := .tup [.int p.1, p.2]
def mkD (l : List (Int × PV)) : List (Int × PV) := l.foldl (fun acc p => putK acc p.1 p.2) []

section
variable {prog : Program} {w : World} {h₀ : Heap} {n : Nat} {sc : Scope} {ρ : List (Str × PV)} {σ : List AO} {P : PV → List AO → Prop} {A : Around} {s : Shared} {α : List Addr}

/-- what is at the address of a new object of ours -/
theorem QV.grow {ao : AO} {hp : Heap} {a : Addr} {Q : Value → Shared → Prop} (tk : Nat) (S : St prog w h₀ α σ s.heap) (k : ∀ b o, s.heap.get? b = some o → hp.get? b = some o) (hn : s.heap.get? a = none) (hlo : sysModules < a) (r : ObjRep prog w (α ++ [a]) hp a ao) (p : P (.obj σ.length) (σ ++ [ao]))
    (hQ : ∀ v d s' α' σ', Go [] α α' s s' → St prog w h₀ α' σ' s'.heap → Rep α' s'.heap v d → P d σ' → Q v s') : Q (.ref a) { s with heap := hp, toks := tk } := by
  refine hQ _ (.obj σ.length) _ (α ++ [a]) (σ ++ [ao]) (Go.new k hn) (S.new k hn r hlo) (.obj ?_) p
  rw [← S.len]; simp

theorem pairs_rep {h : Heap} {vs : List Value} {l : List (Int × PV)} (r : RepL α h vs (l.map pairP)) : ∃ ps : List (Int × Value), PairsAt h vs ps ∧ ps.map (·.1) = l.map (·.1) ∧ RepL α h (ps.map (·.2)) (l.map (·.2)) := by
  induction l generalizing vs with
  | nil => cases r; exact ⟨[], .nil, rfl, .nil⟩
  | cons x l ih =>
    cases r with
    | cons y r =>
      obtain ⟨ps, h1, h2, h3⟩ := ih r
      obtain ⟨a, ws, m, rfl, e, q⟩ := y.tup'
      · skip
        cases q with
        | cons qa q =>
        obtain ⟨t, rfl⟩ := qa.int'
        cases q with
        | @cons v _ _ _ qb q =>
        cases q
        exact ⟨(x.1, v) :: ps, .cons ⟨a, m, t, rfl, e⟩ h1, by simp [h2], .cons qb h3⟩
theorem fold_rep {h : Heap} : ∀ (ps : List (Int × Value)) (l : List (Int × PV)) (kvs : List (Int × Value)) (acc : List (Int × PV)), ps.map (·.1) = l.map (·.1) → RepL α h (ps.map (·.2)) (l.map (·.2)) → kvs.map (·.1) = acc.map (·.1) → RepL α h (kvs.map (·.2)) (acc.map (·.2)) →
    (ps.foldl (fun acc p => stored acc p.1 p.2) kvs).map (·.1) = (l.foldl (fun acc p => putK acc p.1 p.2) acc).map (·.1) ∧ RepL α h ((ps.foldl (fun acc p => stored acc p.1 p.2) kvs).map (·.2)) ((l.foldl (fun acc p => putK acc p.1 p.2) acc).map (·.2))
  | [], [], _, _, _, _, e, r => ⟨e, r⟩
  | [], _ :: _, _, _, e, _, _, _ => by simp at e
  | _ :: _, [], _, _, e, _, _, _ => by simp at e
  | p :: ps, x :: l, kvs, acc, e, r, e', r' => by
    simp only [List.map_cons, List.cons.injEq] at e r
    cases r with
    | cons r1 r2 =>
      obtain ⟨q1, q2⟩ := dl_put e' r' p.1 r1
      have := fold_rep ps l (stored kvs p.1 p.2) (putK acc p.1 x.2) e.2 r2 q1 q2
      rw [List.foldl_cons, List.foldl_cons, ← e.1]
      exact this
theorem call_dict {j : Nat} {l : List (Int × PV)} (hj : σ[j]? = some (.list (l.map pairP))) (hz : l.length ≤ 1000) (p : P (.obj σ.length) (σ ++ [.idict (mkD l)])) : CallV prog w h₀ n (.type "dict") [.obj j] σ P := by
  intro A s α vs hr S r
  cases r with
  | cons ra r =>
    cases r
    obtain ⟨x, rfl, ea⟩ := ra.obj'
    · skip
      obtain ⟨x', e1, xs, m, e, r⟩ := S.at hj
      rw [ea] at e1; cases e1
      have hl := r.length
      obtain ⟨ps, h1, h2, h3⟩ := pairs_rep r
      intro E Q hQ
      refine call_dict_pairs hr.handled e h1 (by simp at hl; (first | lia | omega)) fun h' tk D k => ?_
      obtain ⟨q1, q2⟩ := fold_rep ps l [] [] h2 h3 rfl .nil
      exact QV.grow tk S k (Heap.size_fresh _) S.loSize (ao := .idict (mkD l)) ⟨_, D, q1, q2.mono (List.prefix_append _ _) (TupK.of_keeps k)⟩ p hQ
theorem call_list_l {j : Nat} {l : List PV} (hj : σ[j]? = some (.list l)) (hz : l.length ≤ 1000000) (p : P (.obj σ.length) (σ ++ [.list l])) : CallV prog w h₀ n (.type "list") [.obj j] σ P := by
  intro A s α vs hr S r
  cases r with
  | cons ra r =>
    cases r
    obtain ⟨x, rfl, ea⟩ := ra.obj'
    · skip
      obtain ⟨x', e1, xs, m, e, r⟩ := S.at hj
      rw [ea] at e1; cases e1
      have hl := r.length
      intro E Q hQ
      refine call_list_seq x (T := "list") (.inl rfl) e rfl rfl (fun h' c' k e' => ?_) (by simp [sizeLine_eq]; (first | lia | omega))
      exact QV.grow s.toks S k (Heap.size_fresh _) S.loSize (ao := .list l) ⟨xs, c', e', r.mono (List.prefix_append _ _) (TupK.of_keeps k)⟩ p hQ
theorem call_tuple_l {j : Nat} {l : List PV} (hj : σ[j]? = some (.list l)) (hz : l.length ≤ 1000000) (p : P (.tup l) σ) : CallV prog w h₀ n (.type "tuple") [.obj j] σ P := by
  intro A s α vs hr S r
  cases r with
  | cons ra r =>
    cases r
    obtain ⟨x, rfl, ea⟩ := ra.obj'
    · skip
      obtain ⟨x', e1, xs, m, e, r⟩ := S.at hj
      rw [ea] at e1; cases e1
      have hl := r.length
      intro E Q hQ
      refine call_tuple_list (items := xs.toArray) ⟨_, e, rfl, m, rfl⟩ (fun h' k => ?_) (by simp [sizeLine_eq]; (first | lia | omega))
      have k' := fun b o (e : s.heap.get? b = some o) => Heap.get?_push_of_some ({ cls := .type "tuple", data := .seq xs.toArray } : Obj) (k b o e)
      exact hQ _ (.tup l) { s with heap := h'.push { cls := .type "tuple", data := .seq xs.toArray } } α σ (Go.keeps (tk := s.toks) k') (S.keeps k') (.tup (Heap.get?_push_size _ rfl) (r.mono (List.prefix_refl _) (TupK.of_keeps k'))) p

/-- sorted(x) of ints, as the collected values go -/
theorem sorted_core {v : Value} {ns : List Int} {E : Value → Shared → Prop} {Q : Value → Shared → Prop} (S : St prog w h₀ α σ s.heap) (h64 : ns.length < 64)
    (hc : ∀ (E : Value → Shared → Prop) (R : List Value → Shared → Prop), (∀ (h' : Heap) (tk : Nat) (vs : List Value), (∀ b o, s.heap.get? b = some o → h'.get? b = some o) → IntsAre vs ns → R vs { s with heap := h', toks := tk }) → wpAny (model prog w) A.in1 (collect v) R E s)
    (p : ∀ ns' : List Int, ns'.Perm ns → ns'.Pairwise (· ≤ ·) → P (.obj σ.length) (σ ++ [.list (iL ns')]))
    (hQ : ∀ v d s' α' σ', Go [] α α' s s' → St prog w h₀ α' σ' s'.heap → Rep α' s'.heap v d → P d σ' → Q v s') : wpAny (model prog w) A (call (.builtin "sorted") [v]) Q E s := by
  refine call_function_entry kind_sorted plain_sorted entry_sorted (args_sorted1 _) ?_
  unfold Builtin.«sorted»
  refine wpAny_bind (m := checkCount "sorted" 1 1 _) (wpAny_pure ?_)
  refine wpAny_bind (hc _ _ fun h' tk vs k hi => ?_)
  have hl := hi.length
  refine wpAny_bind (wpAny_newList ?_ (by rw [hl, sizeLine_eq]; (first | lia | omega)))
  have ho : (h'.push { cls := .type "list", data := .seq vs.toArray }).get? h'.objs.size = some (seqObj "list" vs.toArray 0) := Heap.get?_push_size _ rfl
  refine wpAny_bind (wpAny_holding (wpAny_call_entry slot_list_sort ⟨_, ho, rfl⟩ entry_list_sort (list_sort_tree ho hi (by (first | lia | omega)) fun out ns' a1 a2 a3 => ⟨_, rfl, ?_⟩) (args_list_sort _)))
  obtain ⟨e, he⟩ := sortedHeap_at (out := out) ho
  have kk : ∀ b o, s.heap.get? b = some o → (sortedHeap (h'.push { cls := .type "list", data := .seq vs.toArray }) h'.objs.size vs out).get? b = some o := fun b o e => by
    have h1 := k b o e
    rw [sortedHeap_old (Nat.ne_of_lt (Heap.lt_size h1)) (by rw [size_push']; exact Nat.lt_succ_of_lt (Heap.lt_size h1))]
    exact Heap.get?_push_of_some _ h1
  have hn : s.heap.get? h'.objs.size = none := by
    cases q : s.heap.get? h'.objs.size with
    | none => rfl
    | some o => have := k _ _ q; rw [Heap.size_fresh] at this; cases this
  refine wpAny_pure ⟨_, rfl, ?_⟩
  exact QV.grow (s := s) tk S kk hn (S.keeps k).loSize (ao := .list (iL ns')) ⟨out.toList, e, by rw [he], intsAre_rep a1⟩ (p ns' a2 a3) hQ
theorem call_sorted_t {l : List Int} (h64 : l.length < 64) (p : ∀ ns' : List Int, ns'.Perm l → ns'.Pairwise (· ≤ ·) → P (.obj σ.length) (σ ++ [.list (iL ns')])) : CallV prog w h₀ n (.builtin "sorted") [tI l] σ P := by
  intro A s α vs hr S r E Q hQ
  cases r with
  | cons ra r =>
    cases r
    obtain ⟨x, xs, m, rfl, e, r⟩ := ra.tup'
    · skip
      have hi := iL_intsAre r
      have hl := hi.length
      refine sorted_core S h64 (fun E R h => wpAny_collect_seq x (T := "tuple") (.inr rfl) e rfl rfl (fun h' k => h h' s.toks _ k (by simpa using hi)) (by simp [sizeLine_eq]; (first | lia | omega))) p hQ
theorem call_sorted_d {j : Nat} {l : List (Int × PV)} (hj : σ[j]? = some (.idict l)) (h64 : l.length < 64) (p : ∀ ns' : List Int, ns'.Perm (l.map (·.1)) → ns'.Pairwise (· ≤ ·) → P (.obj σ.length) (σ ++ [.list (iL ns')])) : CallV prog w h₀ n (.builtin "sorted") [.obj j] σ P := by
  intro A s α vs hr S r E Q hQ
  cases r with
  | cons ra r =>
    cases r
    obtain ⟨x, rfl, ea⟩ := ra.obj'
    · skip
      obtain ⟨x', e1, kvs, D, hk, r⟩ := S.at hj
      rw [ea] at e1; cases e1
      have hl : kvs.length = l.length := by have := congrArg List.length hk; simpa using this
      obtain ⟨o, es, ep, ho, hx, hd, hke, hpa, hnd⟩ := D
      have At : s.heap.DictAt (intKind prog w) x kvs ep := ⟨o, es, ho, hx, hd, hke, hpa, hnd⟩
      refine sorted_core (ns := l.map (·.1)) S (by simpa using h64) (fun E R h => kdu_collect (kdl_dict (ep := ep) (S.notSys ea)) hr.handled At (by rw [sizeLine_eq]; (first | lia | omega)) fun h' tk acc k hacc => h h' tk _ k ?_) p hQ
      rw [← hk]
      have h1 := hacc.1
      have h2 := hacc.2
      have key : ∀ (kvs : List (Int × Value)) (vs : List Value), vs.length = kvs.length → (∀ (i : Nat) (v : Value), vs[i]? = some v → ∃ k x, kvs[i]? = some (k, x) ∧ (intKind prog w).is k v = true) → IntsAre vs (kvs.map (·.1)) := by
        intro kvs
        induction kvs with
        | nil => intro vs e _; cases vs with
          | nil => exact .nil
          | cons _ _ => simp at e
        | cons p kvs ih => intro vs e hh; cases vs with
          | nil => simp at e
          | cons v vs =>
            obtain ⟨k, x, e1, e2⟩ := hh 0 v rfl
            simp at e1; subst e1
            obtain ⟨t, rfl⟩ := Value.isInt_shape e2
            exact .cons k t (ih vs (by simpa using e) fun i v hv => by simpa using hh (i + 1) v (by simpa using hv))
      exact key kvs acc.toList (by simpa using h1) fun i v hv => h2 i v (by simpa using hv)
end
section
variable (prog : Program) (w : World) (h₀ : Heap)
/-- list(e), e a value that is no PV -/
def EvLst (n : Nat) (sc : Scope) (e : Expr) (ρ : List (Str × PV)) (σ : List AO) (P : PV → List AO → Prop) : Prop :=
  ∀ (env : Env) (A : Around) (s : Shared) (α : List Addr), env.scope = sc → Room n A → Fm h₀ env ρ α s.heap → St prog w h₀ α σ s.heap →
    ∀ (E : Value → Shared → Prop) (Q : Value → Shared → Prop), (∀ v s' α' σ', Go [] α α' s s' → St prog w h₀ α' σ' s'.heap → TV prog w h₀ A (call (.type "list") [v]) α' s' P → Q v s') → wpAny (model prog w) A (eval e env) Q E s
end
section
variable {prog : Program} {w : World} {h₀ : Heap} {n : Nat} {sc : Scope} {ρ : List (Str × PV)} {σ : List AO} {P : PV → List AO → Prop} {A : Around} {s : Shared} {α : List Addr}

theorem ev_list_of {fl : List (Str × Addr)} {bl : List Str} {e : Expr} {np pos : Pos} (B : Base h₀ fl bl) (hx : Str.ofString "list" ∈ bl) (hk : sc.names.lookup (Str.ofString "list") = some .globalImplicit) (h : EvLst prog w h₀ n sc e ρ σ P)
    (he : ∀ env, starEach [e] env = [(false, eval e env)] := by intro _; with_unfolding_all rfl) : Ev prog w h₀ n sc (.Call (.Name (Str.ofString "list") np) [e] [] pos) ρ σ P := by
  intro env A s α hsc hr F S E Q hQ
  obtain ⟨mg, mb, hg, hb, _, _, hbl⟩ := B.names
  refine Call_ (wpAny_Name (ks_loadName_global F.fn (by unfold Env.kindOf; rw [hsc]; exact hk) (Calls.loadGlobal_builtin (mg := mg) (mb := mb) (v := .type "list") (by rw [F.gl]; exact hg.keeps S.keep) (hbl _ hx).1 (by rw [F.bl]; exact hb.keeps S.keep) ((hbl _ hx).2.trans (by decide +kernel)) ?_)) (by decide))
  refine PyProof.Rows.callWith_type1 (rest := []) (spliced_more (h env A s α hsc hr F S _ _ fun v s₁ α₁ σ₁ g₁ S₁ p₁ => spliced_none ?_) (he env)) (he env)
  exact p₁ _ _ fun v d s' α' σ' g S r p => hQ v d s' α' σ' (g₁.trans g) S r p
theorem itemsOf_rng {b : Int} {acc : Array Value} {n : Nat} {h : Heap} (e : n = b.toNat) (x : ItemsOf (fun i v => ∃ t, v = .int (0 + i * 1) t) acc n) : RepL α h acc.toList (rng 0 b) := by
  have key : ∀ (m : Nat) (vs : List Value) (k : Nat), vs.length = m → (∀ (i : Nat) (v : Value), vs[i]? = some v → ∃ t, v = .int ((k + i : Nat) : Int) t) → RepL α h vs ((List.range' k m).map fun (i : Nat) => PV.int (i : Int)) := by
    intro m
    induction m with
    | zero => intro vs k hl _; cases vs with
      | nil => exact .nil
      | cons _ _ => simp at hl
    | succ m ih => intro vs k hl hv; cases vs with
      | nil => simp at hl
      | cons v vs =>
        obtain ⟨t, rfl⟩ := hv 0 v rfl
        rw [List.range'_succ]
        exact .cons (.int _ t) (ih vs (k + 1) (by simpa using hl) fun i v hi => by
          obtain ⟨t, e⟩ := hv (i + 1) v (by simpa using hi)
          exact ⟨t, by rw [e]; congr 1; (first | lia | omega)⟩)
  have := key n acc.toList 0 (by simpa using x.1) fun i v hi => by
    obtain ⟨t, e⟩ := x.2 i v (by simpa using hi)
    exact ⟨t, by rw [e]; congr 1; (first | lia | omega)⟩
  subst e
  unfold rng
  rw [List.range_eq_range']
  have e2 : (b - 0).toNat = b.toNat := by (first | lia | omega)
  rw [e2]
  simpa using this
theorem evlst_range {fl : List (Str × Addr)} {bl : List Str} {e : Expr} {np pos : Pos} (B : Base h₀ fl bl) (hx : Str.ofString "range" ∈ bl) (hk : sc.names.lookup (Str.ofString "range") = some .globalImplicit)
    (h : Ev prog w h₀ n sc e ρ σ fun d σ₁ => ∃ b : Int, d = .int b ∧ 0 ≤ b ∧ b ≤ 1000 ∧ P (.obj σ₁.length) (σ₁ ++ [.list (rng 0 b)]))
    (he : ∀ env, starEach [e] env = [(false, eval e env)] := by intro _; with_unfolding_all rfl) : EvLst prog w h₀ n sc (.Call (.Name (Str.ofString "range") np) [e] [] pos) ρ σ P := by
  intro env A s α hsc hr F S E Q hQ
  obtain ⟨mg, mb, hg, hb, _, _, hbl⟩ := B.names
  refine Call_ (wpAny_Name (ks_loadName_global F.fn (by unfold Env.kindOf; rw [hsc]; exact hk) (Calls.loadGlobal_builtin (mg := mg) (mb := mb) (v := .type "range") (by rw [F.gl]; exact hg.keeps S.keep) (hbl _ hx).1 (by rw [F.bl]; exact hb.keeps S.keep) ((hbl _ hx).2.trans (by decide +kernel)) ?_)) (by decide))
  refine PyProof.Rows.callWith_type1 (rest := []) (spliced_more (h env A s α hsc hr F S _ _ fun v d s₁ α₁ σ₁ g₁ S₁ r₁ p₁ => spliced_none ?_) (he env)) (he env)
  obtain ⟨b, rfl, b1, b2, p⟩ := p₁
  obtain ⟨t, rfl⟩ := r₁.int'
  · skip
    refine call_range_1 ?_
    have k := fun b' o (e : s₁.heap.get? b' = some o) => Heap.get?_push_of_some ({ cls := .type "range", data := .fields #[.int 0 s₁.toks, .int b t, .int 1 (s₁.toks + 1)] } : Obj) e
    refine hQ _ { s₁ with heap := s₁.heap.push { cls := .type "range", data := .fields #[.int 0 s₁.toks, .int b t, .int 1 (s₁.toks + 1)] }, toks := s₁.toks + 1 + 1 } α₁ σ₁ (g₁.trans (Go.keeps k)) (S₁.keeps k) fun E' Q' hQ' => ?_
    refine call_list_range (n := b.toNat) hr.handled (IsRange.new _ _ _ _ _ _ _) (small_one (by (first | lia | omega)) (by (first | lia | omega)) (by (first | lia | omega)) (by (first | lia | omega))) (by have := rangeSize_nat 0 b; simpa using this) (by (first | lia | omega)) fun h' tk acc' c' k' e' hacc => ?_
    exact QV.grow tk (s := { s₁ with heap := s₁.heap.push { cls := .type "range", data := .fields #[.int 0 s₁.toks, .int b t, .int 1 (s₁.toks + 1)] }, toks := s₁.toks + 1 + 1 }) (S₁.keeps k) k' (Heap.size_fresh _) (S₁.keeps k).loSize (ao := .list (rng 0 b)) ⟨acc'.toList, c', e', itemsOf_rng rfl hacc⟩ p hQ'
theorem evlst_items {o : Expr} {apos pos : Pos}
    (h : Ev prog w h₀ n sc o ρ σ fun a σ₁ => ∃ j l, a = .obj j ∧ σ₁[j]? = some (.idict l) ∧ l.length ≤ 1000 ∧ P (.obj σ₁.length) (σ₁ ++ [.list (l.map pairP)]))
    (pl : Env → Sem Bool)
    (hm : ∀ env, eval (.Call (.Attribute o (Str.ofString "items") apos) [] [] pos) env = (do
      let ov ← eval o env
      standAt apos.atName
      let (f, first) ← holding [ov] (getMethod ov (Str.ofString "items") (pl env))
      callWith pos f first (backTo pos (starEach [] env)) []) := by intro _; with_unfolding_all rfl) :
    EvLst prog w h₀ n sc (.Call (.Attribute o (Str.ofString "items") apos) [] [] pos) ρ σ P := by
  intro env A s α hsc hr F S E Q hQ
  refine MethodCall_ (pl := pl env) (h env A s α hsc hr F S _ _ fun va a s₁ α₁ σ₁ g₁ S₁ r₁ p₁ => ?_) (hm env)
  obtain ⟨j, l, rfl, hj, hz, p⟩ := p₁
  refine mget_idict hj PySem.F.slot_dict_items PySem.F.type_dict_items A s₁ α₁ va (pl env) E _ S₁ r₁ ?_
  refine callWith_method0 ?_
  obtain ⟨x, rfl, ea⟩ := r₁.obj'
  · skip
    obtain ⟨x', e1, kvs, D, hk, r⟩ := S₁.at hj
    rw [ea] at e1; cases e1
    have hl : kvs.length = l.length := by have := congrArg List.length hk; simpa using this
    refine call_meetsIn PySem.F.slot_dict_items D.typeIs PySem.F.entry_dict_items (PySem.F.args_dict_items_1 _) (meets_dict_items (intKind prog w) x (S₁.notSys ea)) ⟨⟨kvs, D⟩, ?_⟩
    have k := fun b' o (e : s₁.heap.get? b' = some o) => Heap.get?_push_of_some ({ cls := .type "dict_items", data := .fields #[.ref x] } : Obj) e
    refine hQ _ { s₁ with heap := s₁.heap.push { cls := .type "dict_items", data := .fields #[.ref x] } } α₁ σ₁ (g₁.trans (Go.keeps (tk := s₁.toks) k)) (S₁.keeps k) fun E' Q' hQ' => ?_
    obtain ⟨o, es, ep, ho, hx, hd, hke, hpa, hnd⟩ := D
    have At : (s₁.heap.push { cls := .type "dict_items", data := .fields #[.ref x] }).DictAt (intKind prog w) x kvs ep := ⟨o, es, k _ _ ho, hx, hd, hke, hpa, hnd⟩
    refine kdx_call (s := { s₁ with heap := s₁.heap.push { cls := .type "dict_items", data := .fields #[.ref x] } }) (d := x) hr.handled ⟨_, Heap.get?_push_size _ rfl, rfl, rfl⟩ At (by rw [sizeLine_eq]; (first | lia | omega)) fun h' tk acc c as k' e' hlen hG hacc => ?_
    refine QV.grow tk (s := { s₁ with heap := s₁.heap.push { cls := .type "dict_items", data := .fields #[.ref x] } }) (S₁.keeps k) k' (Heap.size_fresh _) (S₁.keeps k).loSize (ao := .list (l.map pairP)) ⟨as.map .ref, c, by rw [e', ← hacc], ?_⟩ p hQ'
    have r' := r.mono (α' := α₁ ++ [(s₁.heap.push { cls := .type "dict_items", data := .fields #[.ref x] }).objs.size]) (h' := h') (List.prefix_append _ _) (TupK.of_keeps fun b o e => k' b o (k b o e))
    have key : ∀ (kvs : List (Int × Value)) (l : List (Int × PV)) (as : List Addr) {α' : List Addr}, kvs.map (·.1) = l.map (·.1) → RepL α' h' (kvs.map (·.2)) (l.map (·.2)) → as.length = kvs.length →
        (∀ (j : Nat) (a : Addr), as[j]? = some a → ∃ key k x, kvs[j]? = some (k, x) ∧ (intKind prog w).is k key = true ∧ h'.get? a = some { cls := .type "tuple", data := .seq #[key, x] }) → RepL α' h' (as.map .ref) (l.map pairP) := by
      intro kvs
      induction kvs with
      | nil => intro l as α' e _ hl _; cases l with
        | nil => cases as with
          | nil => exact .nil
          | cons _ _ => simp at hl
        | cons _ _ => simp at e
      | cons p kvs ih => intro l as α' e r hl hh; cases l with
        | nil => simp at e
        | cons y l => cases as with
          | nil => simp at hl
          | cons a as =>
            simp only [List.map_cons, List.cons.injEq] at e r
            cases r with
            | cons r1 r2 =>
              obtain ⟨key, k, x, e1, e2, e3⟩ := hh 0 a rfl
              simp at e1; subst e1
              obtain ⟨t, rfl⟩ := Value.isInt_shape e2
              simp only [List.map_cons]
              refine .cons ?_ (ih l as e.2 r2 (by simpa using hl) fun j a hj => by simpa using hh (j + 1) a (by simpa using hj))
              have e4 : k = y.1 := e.1
              refine .tup (vs := [.int k t, x]) e3 (.cons ?_ (.cons r1 .nil))
              rw [e4]; exact .int _ _
    exact key kvs l as hk r' hlen hG.pairs
end
section
variable {prog : Program} {w : World} {A : Around} {E : Value → Shared → Prop} {s : Shared}
/-- an empty StopIteration, made and raised -/
theorem stops {β : Type} {Q : β → Shared → Prop} (hh : A.handled = none)
    (k : ∀ h' e, (∀ b o, s.heap.get? b = some o → h'.get? b = some o) → (∃ o, h'.get? e = some o ∧ o.cls = .type "StopIteration") → E (.ref e) { s with heap := h' }) :
    wpAny (model prog w) A (Builtin.SmallTypes.stopIteration : Sem β) Q E s := by
  unfold Builtin.SmallTypes.stopIteration newExc newTuple
  refine wpAny_bind (wpAny_bind (wpAny_newObj_type (wpAny_bind (m := firstArgMember _ _) (wpAny_of_eq (a := Value.none) rfl (wpAny_newObj_type (wpAny_raiseNew_none hh ?_) (by size_fits)))) (by size_fits)))
  exact k _ _ (fun b o e => Heap.get?_push_of_some _ (Heap.get?_push_of_some _ e)) ⟨_, Heap.get?_push_size _ rfl, rfl⟩
/-- one draw from a tuple's iterator: the item at its place, or its end -/
theorem nextOf_tuple {it t : Addr} {i : Nat} {items : Array Value} {Q : Value → Shared → Prop} (hh : A.handled = none) (hit : s.heap.IsTupleIter it t i) (ht : s.heap.IsTuple t items)
    (kSome : ∀ x h', items[i]? = some x → h'.IsTupleIter it t (i + 1) → Heap.SameBut it s.heap h' → Q x { s with heap := h' })
    (kNone : ∀ h' e, items[i]? = none → Heap.ExtBut it s.heap h' → (∃ o, h'.get? e = some o ∧ o.cls = .type "StopIteration") → E (.ref e) { s with heap := h' }) : wpAny (model prog w) A (Builtin.SmallTypes.nextOf (.ref it)) Q E s := by
  have ty := hit.typeIs
  obtain ⟨o, ho, hc, hd⟩ := hit
  obtain ⟨_, hol, _, _, hdl⟩ := ht
  refine wpAny_bind (wpAny_callSpecial?_slot (name := Str.ofString "__next__") ty PySem.F.slot_tuple_iterator_next (wpAny_call_entry PySem.F.slot_tuple_iterator_next ty PySem.F.entry_tuple_iterator_next ?_ (PySem.F.args_tuple_iterator_next_1 _)))
  refine wpAny_bind (m := field (.ref it) 0) (wpAny_field ho hd (x := .ref t) rfl ?_)
  have live : (Value.ref t == Value.none) = false := rfl
  simp only [live, Bool.false_eq_true, if_false]
  refine wpAny_bind (m := field (.ref it) 1) (wpAny_field ho hd (x := .int i 0) rfl ?_)
  refine wpAny_bind (m := seqItems? (.ref t)) (wpAny_seqItems hol hdl ?_)
  rw [Int.toNat_natCast]
  cases hx : items[i]? with
  | some x =>
    simp only [hx]
    refine wpAny_bind (wpAny_setField ho hd (by simp) ?_)
    refine wpAny_pure ⟨x, rfl, wpAny_pure (kSome x _ hx ⟨_, Heap.get?_update_self _ ho ?_, ?_, ?_⟩ (Heap.SameBut.update ..))⟩
    · exact Obj.isFreed_of_fields (Obj.data_mapFields hd _)
    · rw [Obj.cls_mapFields]; exact hc
    · simp [Obj.data_mapFields hd, rawInt]
  | none =>
    simp only [hx]
    refine wpAny_bind (wpAny_rule (wpAny_bind (wpAny_setField ho hd (by simp) ?_)))
    refine stops hh fun h' e g q => kNone h' e hx (fun b o hb eb => g _ _ ?_) q
    exact ((Heap.SameBut.update ..).2 b hb).trans eb
end
theorem Draws.tuple {prog : Program} {w : World} {A : Around} (hh : A.handled = none) (it t : Addr) (hne : t ≠ it) (items : Array Value) :
    Draws prog w A it [it, t] items.size (fun i v => items[i]? = some v) (fun i h => h.IsTupleIter it t i ∧ h.IsTuple t items) where
  live := fun _ _ st => let ⟨o, ho, _⟩ := st.1; ⟨o, ho⟩
  frame := fun _ _ _ st hk => ⟨let ⟨o, ho, r⟩ := st.1; ⟨o, hk it (by simp) o ho, r⟩, let ⟨o, ho, r⟩ := st.2; ⟨o, hk t (by simp) o ho, r⟩⟩
  item := fun i s Q E hi st hQ => by
    have e : items[i]? = some items[i] := Array.getElem?_eq_getElem hi
    refine nextOf_tuple hh st.1 st.2 (fun x h' hx up but => hQ x h' _ hx ⟨up, st.2.extBut but.extBut hne⟩ but) fun _ _ q => ?_
    rw [e] at q; cases q
  done := fun s Q E st hE => nextOf_tuple hh st.1 st.2 (fun x _ q => absurd q (by simp)) fun h' e _ g q => hE h' e g q
theorem meets_enumerate_tuple (l : Addr) (items : Array Value) (n : Nat) :
    Meets (Builtin.«enumerate.__new__» ⟨[.type "enumerate", .ref l], []⟩) (fun _ R s => s.heap.get? l = some { cls := .type "tuple", data := .seq items n } ∧
      R (.ok (.ret (.ref (s.heap.push { cls := .type "tuple_iterator", data := .fields #[.ref l, .int 0 0] }).objs.size)))
        { s with heap := (s.heap.push { cls := .type "tuple_iterator", data := .fields #[.ref l, .int 0 0] }).push { cls := .type "enumerate", data := .fields #[.none, .bool false, .ref s.heap.objs.size, rawInt 0, .none, .none] } }) :=
  .of_wp fun prog w A R s h => by
    cases s
    have tup : Heap.IsTuple _ l items := ⟨_, h.1, rfl, n, rfl⟩
    have own := sub_enumerate
    wp_walk using AutoSeq1.wpAny_loadPart' h.1
    refine wpAny_stack_any fun _ => wpAny_pure ?_
    split
    rotate_left
    · wp_walk using AutoSeq1.wpAny_loadPart' h.1, wpAny_pyIter_tuple tup
      exact ⟨_, rfl, h.2⟩
    · next c _ _ _ _ _ =>
      cases (c == Value.type "enumerate") <;> (wp_walk using AutoSeq1.wpAny_loadPart' h.1, wpAny_pyIter_tuple tup; exact ⟨_, rfl, h.2⟩)
section
variable {prog : Program} {w : World} {A : Around} {E : Value → Shared → Prop} {s : Shared}
theorem call_enumerate_tuple {l : Addr} {items : Array Value} {n : Nat} {Q : Value → Shared → Prop} (hl : s.heap.get? l = some { cls := .type "tuple", data := .seq items n })
    (h : ∀ h', IsEnum h' (s.heap.objs.size + 1) s.heap.objs.size 0 .none → h'.IsTupleIter s.heap.objs.size l 0 → (∀ b o, s.heap.get? b = some o → h'.get? b = some o) → Q (.ref (s.heap.objs.size + 1)) { s with heap := h' }) :
    wpAny (model prog w) A (call (.type "enumerate") [.ref l]) Q E s := by
  refine callType_new PySem.F.called_enumerate (by decide) (PySem.F.typeCall_enumerate_1 _) (PySem.F.newCall_enumerate_1 _) (fun obj => PySem.F.args_object_init_2 obj _) PySem.F.entry_enumerate_new
    (meets_enumerate_tuple l items n) ⟨hl, ?_⟩
  have hz : (s.heap.push { cls := .type "tuple_iterator", data := .fields #[.ref l, .int 0 0] }).objs.size = s.heap.objs.size + 1 := Heap.size_push ..
  show _ ∧ _
  rw [hz]
  have he : IsEnum ((s.heap.push { cls := .type "tuple_iterator", data := .fields #[.ref l, .int 0 0] }).push
      { cls := .type "enumerate", data := .fields #[.none, .bool false, .ref s.heap.objs.size, rawInt 0, .none, .none] }) (s.heap.objs.size + 1) s.heap.objs.size 0 .none := by
    have := Heap.get?_push_size (s.heap.push { cls := .type "tuple_iterator", data := .fields #[.ref l, .int 0 0] })
      (o := { cls := .type "enumerate", data := .fields #[.none, .bool false, .ref s.heap.objs.size, rawInt 0, .none, .none] }) rfl
    rw [hz] at this; exact this
  exact ⟨⟨_, he, rfl⟩, h _ he ⟨_, Heap.get?_push_of_some _ (Heap.get?_push_size _ rfl), rfl, rfl⟩ fun b o x => Heap.get?_push_of_some _ (Heap.get?_push_of_some _ x)⟩
end

def enumL : Nat → List PV → List PV
  | _, [] => []
  | k, d :: r => .tup [.int k, d] :: enumL (k + 1) r
theorem enumL_length : ∀ (k : Nat) (l : List PV), (enumL k l).length = l.length
  | _, [] => rfl
  | k, d :: r => by simp [enumL, enumL_length (k + 1) r]
theorem enumL_get : ∀ (k : Nat) (l : List PV) (i : Nat), (enumL k l)[i]? = (l[i]?).map fun d => PV.tup [.int ((k + i : Nat) : Int), d]
  | _, [], i => by simp [enumL]
  | k, d :: r, 0 => by simp [enumL]
  | k, d :: r, i + 1 => by
    simp only [enumL, List.getElem?_cons_succ, enumL_get (k + 1) r i]
    congr 1; funext d; congr 3; (first | lia | omega)

section
variable {prog : Program} {w : World} {h₀ : Heap} {n : Nat} {sc : Scope} {ρ : List (Str × PV)} {σ : List AO} {A : Around} {s : Shared} {α : List Addr}
theorem iter_enum {elts : List Expr} {x1} {pos : Pos} {e it t : Addr} {l : List PV} {vs : List Value} {m : Nat} (hh : A.handled = none) (hne : e ≠ it) (het : e ≠ t) (hti : t ≠ it) (hlen : vs.length = l.length) :
    Iter prog w h₀ A (.Tuple elts x1 pos) (.ref e) α [e, it] (enumL 0 l) (fun _ => True) (fun i h => (∃ old, IsEnum h e it i old) ∧ h.IsTupleIter it t i ∧ h.get? t = some { cls := .type "tuple", data := .seq vs.toArray m } ∧ RepL α h vs l) where
  frame := fun i h h' st k tk => ⟨let ⟨old, a⟩ := st.1; ⟨old, k e (by simp) _ a⟩, let ⟨o, ho, r⟩ := st.2.1; ⟨o, k it (by simp) o ho, r⟩, tk _ _ st.2.2.1 (isTup_of rfl rfl), st.2.2.2.mono (List.prefix_refl _) tk⟩
  live := fun i h st b hb => by
    obtain ⟨⟨old, a⟩, ⟨o, ho, _, hd⟩, _⟩ := st
    simp at hb
    rcases hb with rfl | rfl
    · exact ⟨_, a, noTup_fields rfl⟩
    · exact ⟨o, ho, noTup_fields hd⟩
  item := fun i s α' σ d hd st S c ha hp E Q hQ => by
    obtain ⟨⟨old, he⟩, hit, ht, hr⟩ := st
    rw [enumL_get] at hd
    cases hl : l[i]? with
    | none => rw [hl] at hd; cases hd
    | some d' =>
      rw [hl] at hd
      simp at hd; subst hd
      obtain ⟨v, ev, rv⟩ := hr.get hl
      have D := Draws.tuple (prog := prog) (w := w) (A := A.in1) hh it t hti vs.toArray
      have hlt : i < vs.toArray.size := by have := (List.getElem?_eq_some_iff.mp ev).1; simpa using this
      refine wpAny_pyNext_enum_itemD D he ⟨hit, ⟨_, ht, rfl, m, rfl⟩⟩ hlt hne (by simp; exact ⟨hne, het⟩) fun x h' tk hx he' st' hT hz hk => ?_
      have ex : x = v := by
        have : vs.toArray[i]? = some x := hx
        rw [List.getElem?_toArray, ev] at this
        exact (Option.some.inj this).symm
      subst ex
      refine wpAny_letOwnedTupleGo_enum he' fun h'' he'' hs'' => ?_
      have kk : ∀ b o, b ∉ [e, it] → s.heap.get? b = some o → h''.get? b = some o := fun b o hb e' => by
        simp at hb
        exact (hs''.2 b hb.1).trans (hk b o hb.1 hb.2 e')
      have tk1 : TupK s.heap h'' := tupK_but kk fun b hb o e' => by
        simp at hb
        rcases hb with rfl | rfl
        · rw [he] at e'; cases e'; exact noTup_fields rfl
        · obtain ⟨o', ho', _, hd'⟩ := hit; rw [ho'] at e'; cases e'; exact noTup_fields hd'
      have hsz : e ≠ s.heap.objs.size := Nat.ne_of_lt (Heap.lt_size he)
      refine hQ (.ref s.heap.objs.size) h'' (tk + 1) ⟨⟨x, he''⟩, let ⟨o, ho, r⟩ := st'.1; ⟨o, (hs''.2 it (Ne.symm hne)).trans ho, r⟩, tk1 _ _ ht (isTup_of rfl rfl), hr.mono (List.prefix_refl _) tk1⟩ ?_ kk
      exact .tup (vs := [.int i tk, x]) ((hs''.2 _ (Ne.symm hsz)).trans hT) (.cons (by simpa using Rep.int (i : Int) tk) (.cons (rv.mono hp tk1) .nil))
  done := fun s α' σ st S c ha hp E Q hQ => by
    obtain ⟨⟨old, he⟩, hit, ht, hr⟩ := st
    have D := Draws.tuple (prog := prog) (w := w) (A := A.in1) hh it t hti vs.toArray
    have e1 : (enumL 0 l).length = vs.toArray.size := by simp [enumL_length, hlen]
    rw [e1] at he hit
    refine wpAny_pyNext_enum_endD D he ⟨hit, ⟨_, ht, rfl, m, rfl⟩⟩ fun h' hx => ?_
    exact hQ h' s.toks fun b o hb e' => hx b o (fun q => hb (q ▸ by simp)) e'
  self := fun s E Q st q => let ⟨old, he⟩ := st.1; wpAny_pyIter_enum he q
theorem src_enum {fl : List (Str × Addr)} {bl : List Str} {elts : List Expr} {x1} {tpos : Pos} {e : Expr} {np pos : Pos} {P : List PV → (List AO → Prop) → List AO → Prop} (B : Base h₀ fl bl) (hx : Str.ofString "enumerate" ∈ bl) (hk : sc.names.lookup (Str.ofString "enumerate") = some .globalImplicit)
    (h : Ev prog w h₀ n sc e ρ σ fun d σ₁ => ∃ l, d = .tup l ∧ P (enumL 0 l) (fun _ => True) σ₁)
    (he : ∀ env, starEach [e] env = [(false, eval e env)] := by intro _; with_unfolding_all rfl) : Src prog w h₀ n sc (.Tuple elts x1 tpos) (.Call (.Name (Str.ofString "enumerate") np) [e] [] pos) ρ σ P := by
  intro env A s α hsc hr F S E Q hQ
  obtain ⟨mg, mb, hg, hb, _, _, hbl⟩ := B.names
  refine Call_ (wpAny_Name (ks_loadName_global F.fn (by unfold Env.kindOf; rw [hsc]; exact hk) (Calls.loadGlobal_builtin (mg := mg) (mb := mb) (v := .type "enumerate") (by rw [F.gl]; exact hg.keeps S.keep) (hbl _ hx).1 (by rw [F.bl]; exact hb.keeps S.keep) ((hbl _ hx).2.trans (by decide +kernel)) ?_)) (by decide))
  refine PyProof.Rows.callWith_type1 (rest := []) (spliced_more (h env A s α hsc hr F S _ _ fun v d s₁ α₁ σ₁ g₁ S₁ r₁ p₁ => spliced_none ?_) (he env)) (he env)
  obtain ⟨l, rfl, p⟩ := p₁
  obtain ⟨t, vs, m, rfl, e, r⟩ := r₁.tup'
  · skip
    refine call_enumerate_tuple e fun h' he' hit' k => ?_
    refine wpAny_pyIter_enum he' ?_
    have g := g₁.trans (Go.keeps (tk := s₁.toks) k)
    have dead : ∀ b, s₁.heap.get? b = none → s.heap.get? b = none ∧ b ∉ α₁ := fun b hb => by
      refine ⟨?_, fun q => by obtain ⟨o, e, _⟩ := S₁.live q; rw [hb] at e; cases e⟩
      cases e0 : s.heap.get? b with
      | none => rfl
      | some o => obtain ⟨o', e'⟩ := g₁.live _ _ e0; rw [hb] at e'; cases e'
    have hlt := Heap.lt_size e
    refine hQ (.ref (s₁.heap.objs.size + 1)) [s₁.heap.objs.size + 1, s₁.heap.objs.size] _ _ _ { s₁ with heap := h' } α₁ σ₁ g (S₁.keeps k) (fun b hb => dead b ?_) ⟨⟨_, he'⟩, hit', k _ _ e, r.mono (List.prefix_refl _) (TupK.of_keeps k)⟩
      (iter_enum hr.handled (Nat.ne_of_gt (Nat.lt_succ_self _)) (Nat.ne_of_gt (Nat.lt_succ_of_lt hlt)) (Nat.ne_of_lt hlt) r.length) p
    simp at hb
    rcases hb with rfl | rfl
    · exact fresh_above _ 1
    · exact Heap.size_fresh _
end
theorem ofStr_inj {a b : String} (h : Str.ofString a = Str.ofString b) : a = b := by
  rw [PySem.Str.ofString_eq_toList, PySem.Str.ofString_eq_toList] at h
  have h1 : (a.toList.map Char.toNat) = (b.toList.map Char.toNat) := by
    have := congrArg (fun x : Str => x.cps.toList) h
    simpa using this
  have h2 : a.toList = b.toList := by
    have inj : ∀ (x y : List Char), x.map Char.toNat = y.map Char.toNat → x = y := by
      intro x
      induction x with
      | nil => intro y e; cases y with
        | nil => rfl
        | cons _ _ => simp at e
      | cons c x ih => intro y e; cases y with
        | nil => simp at e
        | cons d y =>
          simp only [List.map_cons, List.cons.injEq] at e
          rw [ih y e.2, Char.toNat_inj.mp e.1]
    exact inj _ _ h1
  exact String.toList_inj.mp h2
theorem lk_here {β : Type} {a : String} {d : β} {ρ : List (Str × β)} : ((Str.ofString a, d) :: ρ).lookup (Str.ofString a) = some d := by
  rw [List.lookup_cons, beq_self_eq_true]
theorem lk_skip {β : Type} {a b : String} {d d' : β} {ρ : List (Str × β)} (h : a ≠ b) (r : ρ.lookup (Str.ofString b) = some d) : ((Str.ofString a, d') :: ρ).lookup (Str.ofString b) = some d := by
  have : (Str.ofString b == Str.ofString a) = false := beq_eq_false_iff_ne.mpr fun e => h (ofStr_inj e).symm
  rw [List.lookup_cons, this]; exact r

def stm (k : Nat) : Stmt := match PySem.Challenge.pw_sj0170_01.main.body.drop k with | st :: _ => st | [] => .Pass default
def bodyOf : Stmt → List Stmt | .FunctionDef _ _ b _ _ _ _ _ _ _ => b | _ => []
def scopeOf : Stmt → Scope | .FunctionDef _ _ _ _ _ _ sc _ _ _ => sc | _ => default
theorem scope17 : (scopeOf (stm 17)).kind = .function := by kernel_rfl
theorem l17 : (scopeOf (stm 17)).names.lookup (Str.ofString "spot") = some .local := by kernel_rfl
theorem bnd_l {sc : Scope} {x : Str} (h : sc.names.lookup x = some .local) : Bound sc x := Or.inl h
theorem bnd_c {sc : Scope} {x : Str} (h : sc.names.lookup x = some .cell) : Bound sc x := Or.inr h
theorem free_of {scope sc : Scope} (h : (scope.names.all fun z => z.2 != .free || sc.names.lookup z.1 == some .cell) = true) : ∀ y, (y, NameKind.free) ∈ scope.names → sc.names.lookup y = some .cell := fun y hy => by
  have := List.all_eq_true.mp h _ hy
  simpa using this
theorem one_of {scope : Scope} {x : Str} {ρc : List (Str × PV)} (ks : List Str) (hk : ρc.map (·.1) = ks) (h : (scope.names.all fun z => z.2 != .local || z.1 == x || !(ks.contains z.1)) = true) : ∀ y, (y, NameKind.local) ∈ scope.names → y = x ∨ ρc.lookup y = none := fun y hy => by
  have := List.all_eq_true.mp h _ hy
  simp only [bne_self_eq_false, Bool.false_or, Bool.or_eq_true, beq_iff_eq] at this
  rcases this with h | h
  · exact .inl h
  · refine .inr ?_
    cases e : ρc.lookup y with
    | none => rfl
    | some d =>
      have hm := PySem.mem_of_lookup e
      have : y ∈ ks := hk ▸ List.mem_map.mpr ⟨_, hm, rfl⟩
      simp [this] at h
theorem cells_of {scope : Scope} (h : (scope.names.all fun z => z.2 != .cell) = true) : ∀ y ∈ scope.names, y.2 ≠ .cell := fun y hy => by
  have := List.all_eq_true.mp h _ hy
  simpa using this
theorem locals_of {scope : Scope} (h : (scope.names.all fun z => z.2 != .local || scope.names.lookup z.1 == some .local) = true) : ∀ y ∈ scope.names, y.2 = .local → scope.names.lookup y.1 = some .local := fun y hy e => by
  have := List.all_eq_true.mp h _ hy
  simpa [e] using this
def BL : List Str := [Str.ofString "len", Str.ofString "abs", Str.ofString "range", Str.ofString "list", Str.ofString "sorted", Str.ofString "dict", Str.ofString "enumerate", Str.ofString "tuple"]
abbrev FL : List (Str × Addr) := [(Str.ofString "check_problem", 51), (Str.ofString "path_of", 58), (Str.ofString "is_offered", 65), (Str.ofString "best_path", 72), (Str.ofString "unquiet_nodes", 77), (Str.ofString "is_stable", 84), (Str.ofString "activated", 91), (Str.ofString "all_activated", 96), (Str.ofString "no_paths", 101), (Str.ofString "run_row", 108), (Str.ofString "run_rounds", 115), (Str.ofString "_law_draw", 122), (Str.ofString "_law_sizes", 129), (Str.ofString "_law_ties", 136), (Str.ofString "_law_paths", 143), (Str.ofString "_law_problem", 148), (Str.ofString "_law_way", 155)]
theorem in_len : Str.ofString "len" ∈ BL := by decide +kernel
theorem in_abs : Str.ofString "abs" ∈ BL := by decide +kernel
theorem in_range : Str.ofString "range" ∈ BL := by decide +kernel
theorem in_list : Str.ofString "list" ∈ BL := by decide +kernel
theorem in_sorted : Str.ofString "sorted" ∈ BL := by decide +kernel
theorem in_dict : Str.ofString "dict" ∈ BL := by decide +kernel
theorem in_enumerate : Str.ofString "enumerate" ∈ BL := by decide +kernel
theorem in_tuple : Str.ofString "tuple" ∈ BL := by decide +kernel
section
variable {prog : Program} {w : World} {h₀ : Heap} {n : Nat} {sc : Scope} {ρ : List (Str × PV)} {σ : List AO} {P : PV → List AO → Prop}
theorem ev_len {e : Expr} {np pos : Pos} (B : Base h₀ FL BL := by assumption) (hk : sc.names.lookup (Str.ofString "len") = some .globalImplicit := by kernel_rfl) (h : Ev prog w h₀ n sc e ρ σ fun d σ' => CallV prog w h₀ n (.builtin "len") [d] σ' P)
    (he : ∀ env, starEach [e] env = [(false, eval e env)] := by intro _; with_unfolding_all rfl) : Ev prog w h₀ n sc (.Call (.Name (Str.ofString "len") np) [e] [] pos) ρ σ P :=
  ev_builtin B in_len PyProof.Rows.Boot.«len» hk (by kernel_rfl) (evl_cons (fun env A s α a b c d E Q q => h env A s α a b c d E Q fun v dd s' α' σ' g S r p => q v dd s' α' σ' g S r (evl_nil p)) he) he
theorem ev_abs {e : Expr} {np pos : Pos} (B : Base h₀ FL BL := by assumption) (hk : sc.names.lookup (Str.ofString "abs") = some .globalImplicit := by kernel_rfl) (h : Ev prog w h₀ n sc e ρ σ fun d σ' => CallV prog w h₀ n (.builtin "abs") [d] σ' P)
    (he : ∀ env, starEach [e] env = [(false, eval e env)] := by intro _; with_unfolding_all rfl) : Ev prog w h₀ n sc (.Call (.Name (Str.ofString "abs") np) [e] [] pos) ρ σ P :=
  ev_builtin B in_abs PyProof.Rows.Boot.«abs» hk (by kernel_rfl) (evl_cons (fun env A s α a b c d E Q q => h env A s α a b c d E Q fun v dd s' α' σ' g S r p => q v dd s' α' σ' g S r (evl_nil p)) he) he
theorem ev_sorted {e : Expr} {np pos : Pos} (B : Base h₀ FL BL := by assumption) (hk : sc.names.lookup (Str.ofString "sorted") = some .globalImplicit := by kernel_rfl) (h : Ev prog w h₀ n sc e ρ σ fun d σ' => CallV prog w h₀ n (.builtin "sorted") [d] σ' P)
    (he : ∀ env, starEach [e] env = [(false, eval e env)] := by intro _; with_unfolding_all rfl) : Ev prog w h₀ n sc (.Call (.Name (Str.ofString "sorted") np) [e] [] pos) ρ σ P :=
  ev_builtin B in_sorted PyProof.Rows.Boot.«sorted» hk (by kernel_rfl) (evl_cons (fun env A s α a b c d E Q q => h env A s α a b c d E Q fun v dd s' α' σ' g S r p => q v dd s' α' σ' g S r (evl_nil p)) he) he
theorem ev_dict {e : Expr} {np pos : Pos} (B : Base h₀ FL BL := by assumption) (hk : sc.names.lookup (Str.ofString "dict") = some .globalImplicit := by kernel_rfl) (h : Ev prog w h₀ n sc e ρ σ fun d σ' => CallV prog w h₀ n (.type "dict") [d] σ' P)
    (he : ∀ env, starEach [e] env = [(false, eval e env)] := by intro _; with_unfolding_all rfl) : Ev prog w h₀ n sc (.Call (.Name (Str.ofString "dict") np) [e] [] pos) ρ σ P :=
  ev_type B in_dict PyProof.Rows.Boot.«dict» hk (by kernel_rfl) (evl_cons (fun env A s α a b c d E Q q => h env A s α a b c d E Q fun v dd s' α' σ' g S r p => q v dd s' α' σ' g S r (evl_nil p)) he) he
theorem ev_tuple1 {e : Expr} {np pos : Pos} (B : Base h₀ FL BL := by assumption) (hk : sc.names.lookup (Str.ofString "tuple") = some .globalImplicit := by kernel_rfl) (h : Ev prog w h₀ n sc e ρ σ fun d σ' => CallV prog w h₀ n (.type "tuple") [d] σ' P)
    (he : ∀ env, starEach [e] env = [(false, eval e env)] := by intro _; with_unfolding_all rfl) : Ev prog w h₀ n sc (.Call (.Name (Str.ofString "tuple") np) [e] [] pos) ρ σ P :=
  ev_type B in_tuple PyProof.Rows.Boot.«tuple» hk (by kernel_rfl) (evl_cons (fun env A s α a b c d E Q q => h env A s α a b c d E Q fun v dd s' α' σ' g S r p => q v dd s' α' σ' g S r (evl_nil p)) he) he
end

section
variable {prog : Program} {w : World} {h₀ : Heap} {n : Nat} {sc : Scope} {ρ : List (Str × PV)} {σ : List AO} {P : PV → List AO → Prop}
theorem ev_listr {e : Expr} {np pos np' pos' : Pos} (B : Base h₀ FL BL := by assumption) (hk : sc.names.lookup (Str.ofString "list") = some .globalImplicit := by kernel_rfl) (hk' : sc.names.lookup (Str.ofString "range") = some .globalImplicit := by kernel_rfl)
    (h : Ev prog w h₀ n sc e ρ σ fun d σ₁ => ∃ b : Int, d = .int b ∧ 0 ≤ b ∧ b ≤ 1000 ∧ P (.obj σ₁.length) (σ₁ ++ [.list (rng 0 b)])) (he : ∀ env, starEach [e] env = [(false, eval e env)] := by intro _; with_unfolding_all rfl) :
    Ev prog w h₀ n sc (.Call (.Name (Str.ofString "list") np) [.Call (.Name (Str.ofString "range") np') [e] [] pos'] [] pos) ρ σ P :=
  ev_list_of B in_list hk (evlst_range B in_range hk' h he)
theorem ev_listi {o : Expr} {apos pos np pos' : Pos} {pl : Env → Sem Bool} (B : Base h₀ FL BL := by assumption) (hk : sc.names.lookup (Str.ofString "list") = some .globalImplicit := by kernel_rfl)
    (h : Ev prog w h₀ n sc o ρ σ fun a σ₁ => ∃ j l, a = .obj j ∧ σ₁[j]? = some (.idict l) ∧ l.length ≤ 1000 ∧ P (.obj σ₁.length) (σ₁ ++ [.list (l.map pairP)]))
    (hm : ∀ env, eval (.Call (.Attribute o (Str.ofString "items") apos) [] [] pos) env = (do
      let ov ← eval o env
      standAt apos.atName
      let (f, first) ← holding [ov] (getMethod ov (Str.ofString "items") (pl env))
      callWith pos f first (backTo pos (starEach [] env)) []) := by intro _; with_unfolding_all rfl) :
    Ev prog w h₀ n sc (.Call (.Name (Str.ofString "list") np) [.Call (.Attribute o (Str.ofString "items") apos) [] [] pos] [] pos') ρ σ P :=
  ev_list_of B in_list hk (evlst_items h pl hm)
theorem ev_list1 {e : Expr} {np pos : Pos} (B : Base h₀ FL BL := by assumption) (hk : sc.names.lookup (Str.ofString "list") = some .globalImplicit := by kernel_rfl) (h : Ev prog w h₀ n sc e ρ σ fun d σ' => CallV prog w h₀ n (.type "list") [d] σ' P)
    (he : ∀ env, starEach [e] env = [(false, eval e env)] := by intro _; with_unfolding_all rfl) : Ev prog w h₀ n sc (.Call (.Name (Str.ofString "list") np) [e] [] pos) ρ σ P :=
  ev_type B in_list PyProof.Rows.Boot.«list» hk (by kernel_rfl) (evl_cons (fun env A s α a b c d E Q q => h env A s α a b c d E Q fun v dd s' α' σ' g S r p => q v dd s' α' σ' g S r (evl_nil p)) he) he
theorem ex_swap {P : Fl → List (Str × PV) → List AO → Prop} {elts es : List Expr} {k k' : Nat} {tpos pos vpos : Pos} (names : List Str) (h : EvL prog w h₀ n sc es ρ σ fun ds σ₁ => ds.length ≤ 1000 ∧ ds.length = names.length ∧ P .next (names.zip ds ++ ρ) σ₁)
    (hb : ∀ x ∈ names, Bound sc x)
    (hs : ∀ env : Env, env.scope = sc → swapsWithSole [.Tuple elts k tpos] (.Tuple es k' vpos) pos.line env = pure false := by intro _ _; with_unfolding_all rfl)
    (hw : ∀ env : Env, env.scope = sc → swappedStores [.Tuple elts k tpos] (.Tuple es k' vpos) env = pure (some names) := by intro env h; cases env; cases h; with_unfolding_all rfl) : Ex prog w h₀ n sc (.Assign [.Tuple elts k tpos] (.Tuple es k' vpos) pos) ρ σ P :=
  ex_assign_swapped names (ev_tuple fun env A s α pos a b c d E Q q => h env A s α pos a b c d E Q fun vs ds s' α' σ' g S r p => q vs ds s' α' σ' g S r ⟨p.1, ds, rfl, p.2.1, p.2.2⟩) hb hs hw
theorem ev_append {o e : Expr} {apos pos : Pos} {pl : Env → Sem Bool}
    (h : Ev prog w h₀ n sc o ρ σ fun a σ₁ => ∃ j l, a = .obj j ∧ σ₁[j]? = some (.list l) ∧ Ev prog w h₀ n sc e ρ σ₁ fun d σ₂ => CallV prog w h₀ n (.builtin "list.append") [.obj j, d] σ₂ P)
    (hm : ∀ env, eval (.Call (.Attribute o (Str.ofString "append") apos) [e] [] pos) env = (do
      let ov ← eval o env
      standAt apos.atName
      let (f, first) ← holding [ov] (getMethod ov (Str.ofString "append") (pl env))
      callWith pos f first (backTo pos (starEach [e] env)) []) := by intro _; with_unfolding_all rfl)
    (he : ∀ env, starEach [e] env = [(false, eval e env)] := by intro _; with_unfolding_all rfl) :
    Ev prog w h₀ n sc (.Call (.Attribute o (Str.ofString "append") apos) [e] [] pos) ρ σ P := by
  refine ev_method "list.append" (fun env A s α a b c d E Q q => h env A s α a b c d E Q fun v dd s' α' σ' g S r p => q v dd s' α' σ' g S r ?_) pl hm he
  obtain ⟨j, l, rfl, hj, p⟩ := p
  exact ⟨mget_list hj PySem.F.slot_list_append PySem.F.type_list_append, evl_cons (fun env A s α a b c d E Q q => p env A s α a b c d E Q fun v dd s' α' σ' g S r p => q v dd s' α' σ' g S r (evl_nil p)) he⟩
theorem ev_pop {o e : Expr} {apos pos : Pos} {pl : Env → Sem Bool}
    (h : Ev prog w h₀ n sc o ρ σ fun a σ₁ => ∃ j l, a = .obj j ∧ σ₁[j]? = some (.list l) ∧ Ev prog w h₀ n sc e ρ σ₁ fun d σ₂ => CallV prog w h₀ n (.builtin "list.pop") [.obj j, d] σ₂ P)
    (hm : ∀ env, eval (.Call (.Attribute o (Str.ofString "pop") apos) [e] [] pos) env = (do
      let ov ← eval o env
      standAt apos.atName
      let (f, first) ← holding [ov] (getMethod ov (Str.ofString "pop") (pl env))
      callWith pos f first (backTo pos (starEach [e] env)) []) := by intro _; with_unfolding_all rfl)
    (he : ∀ env, starEach [e] env = [(false, eval e env)] := by intro _; with_unfolding_all rfl) :
    Ev prog w h₀ n sc (.Call (.Attribute o (Str.ofString "pop") apos) [e] [] pos) ρ σ P := by
  refine ev_method "list.pop" (fun env A s α a b c d E Q q => h env A s α a b c d E Q fun v dd s' α' σ' g S r p => q v dd s' α' σ' g S r ?_) pl hm he
  obtain ⟨j, l, rfl, hj, p⟩ := p
  exact ⟨mget_list hj PySem.F.slot_list_pop PySem.F.type_list_pop, evl_cons (fun env A s α a b c d E Q q => p env A s α a b c d E Q fun v dd s' α' σ' g S r p => q v dd s' α' σ' g S r (evl_nil p)) he⟩
theorem ev_get2 {o e e₂ : Expr} {apos pos : Pos} {pl : Env → Sem Bool}
    (h : Ev prog w h₀ n sc o ρ σ fun a σ₁ => ∃ j l, a = .obj j ∧ σ₁[j]? = some (.idict l) ∧ Ev prog w h₀ n sc e ρ σ₁ fun d σ₂ => Ev prog w h₀ n sc e₂ ρ σ₂ fun d₂ σ₃ => CallV prog w h₀ n (.builtin "dict.get") [.obj j, d, d₂] σ₃ P)
    (hm : ∀ env, eval (.Call (.Attribute o (Str.ofString "get") apos) [e, e₂] [] pos) env = (do
      let ov ← eval o env
      standAt apos.atName
      let (f, first) ← holding [ov] (getMethod ov (Str.ofString "get") (pl env))
      callWith pos f first (backTo pos (starEach [e, e₂] env)) []) := by intro _; with_unfolding_all rfl)
    (he : ∀ env, starEach [e, e₂] env = (false, eval e env) :: starEach [e₂] env := by intro _; with_unfolding_all rfl) (he₂ : ∀ env, starEach [e₂] env = [(false, eval e₂ env)] := by intro _; with_unfolding_all rfl)
    (hp : ∀ env pos, (backTo pos (starEach [e₂] env)).any (·.1) = false := by intro _ _; with_unfolding_all rfl) :
    Ev prog w h₀ n sc (.Call (.Attribute o (Str.ofString "get") apos) [e, e₂] [] pos) ρ σ P := by
  refine ev_method "dict.get" (fun env A s α a b c d E Q q => h env A s α a b c d E Q fun v dd s' α' σ' g S r p => q v dd s' α' σ' g S r ?_) pl hm he hp
  obtain ⟨j, l, rfl, hj, p⟩ := p
  refine ⟨mget_idict hj PySem.F.slot_dict_get PySem.F.type_dict_get, evl_cons (fun env A s α a b c d E Q q => p env A s α a b c d E Q fun v dd s' α' σ' g S r p => q v dd s' α' σ' g S r ?_) he⟩
  exact evl_cons (fun env A s α a b c d E Q q => p env A s α a b c d E Q fun v dd s' α' σ' g S r p => q v dd s' α' σ' g S r (evl_nil p)) he₂
end

/-- the draw box: [cells, spot] -/
structure BoxAt (b c : Nat) (K : Int) (σ : List AO) : Prop where
  box : ∃ k : Int, σ[b]? = some (.list [.obj c, .int k]) ∧ 0 ≤ k ∧ k ≤ K
  cells : ∃ ns : List Int, σ[c]? = some (.list (iL ns)) ∧ ns.length ≤ 1000
  ne : b ≠ c
/-- all but the box stays -/
def Same (b : Nat) (σ σ' : List AO) : Prop := ∀ i x, i ≠ b → σ[i]? = some x → σ'[i]? = some x
theorem Same.refl (b : Nat) (σ : List AO) : Same b σ σ := fun _ _ _ e => e
theorem Same.trans {b : Nat} {σ σ' σ'' : List AO} (x : Same b σ σ') (y : Same b σ' σ'') : Same b σ σ'' := fun i z h e => y i z h (x i z h e)
theorem Same.push {b : Nat} {σ : List AO} (x : AO) : Same b σ (σ ++ [x]) := fun i z h e => by rw [List.getElem?_append_left (List.getElem?_eq_some_iff.mp e).1]; exact e
theorem BoxAt.push {b c : Nat} {K : Int} {σ : List AO} (X : BoxAt b c K σ) (x : AO) : BoxAt b c K (σ ++ [x]) := by
  obtain ⟨⟨k, hb, q⟩, ⟨ns, hc, q'⟩, hne⟩ := X
  exact ⟨⟨k, by rw [List.getElem?_append_left (List.getElem?_eq_some_iff.mp hb).1]; exact hb, q⟩, ⟨ns, by rw [List.getElem?_append_left (List.getElem?_eq_some_iff.mp hc).1]; exact hc, q'⟩, hne⟩
theorem BoxAt.le {b c : Nat} {K K' : Int} {σ : List AO} (X : BoxAt b c K σ) (h : K ≤ K') : BoxAt b c K' σ := by
  obtain ⟨⟨k, hb, q1, q2⟩, r, r'⟩ := X
  exact ⟨⟨k, hb, q1, by omega⟩, r, r'⟩
theorem get_push {σ : List AO} {j : Nat} {x y : AO} (h : σ[j]? = some x) : (σ ++ [y])[j]? = some x := by rw [List.getElem?_append_left (List.getElem?_eq_some_iff.mp h).1]; exact h
theorem get_set {σ : List AO} {i j : Nat} {x y : AO} (n : i ≠ j) (h : σ[j]? = some x) : (σ.set i y)[j]? = some x := by rw [List.getElem?_set_ne n]; exact h
theorem last_get {σ : List AO} {x : AO} : (σ ++ [x])[σ.length]? = some x := by simp
theorem BoxAt.put {b c j : Nat} {K : Int} {σ : List AO} (X : BoxAt b c K σ) (x : AO) (hb : j ≠ b) (hc : j ≠ c) : BoxAt b c K (σ.set j x) := by
  obtain ⟨⟨k, h1, q⟩, ⟨ns, h2, q'⟩, hne⟩ := X
  exact ⟨⟨k, by rw [List.getElem?_set_ne hb]; exact h1, q⟩, ⟨ns, by rw [List.getElem?_set_ne hc]; exact h2, q'⟩, hne⟩
theorem BoxAt.lt {b c : Nat} {K : Int} {σ : List AO} (X : BoxAt b c K σ) : b < σ.length ∧ c < σ.length := by
  obtain ⟨⟨k, h1, q⟩, ⟨ns, h2, q'⟩, hne⟩ := X
  exact ⟨(List.getElem?_eq_some_iff.mp h1).1, (List.getElem?_eq_some_iff.mp h2).1⟩
theorem Same.set {b j : Nat} {σ σ' : List AO} (x : Same b σ σ') (y : AO) (h : σ.length ≤ j) : Same b σ (σ'.set j y) := fun i z hi e => by
  have hl := (List.getElem?_eq_some_iff.mp e).1
  rw [List.getElem?_set_ne (by omega)]; exact x i z hi e
theorem Same.to {b : Nat} {σ σ' σ'' : List AO} (x : Same b σ σ') (y : Same b σ' σ'') : Same b σ σ'' := x.trans y
theorem Same.len {b c : Nat} {K : Int} {σ σ' : List AO} (x : Same b σ σ') (X : BoxAt b c K σ') : σ.length ≤ σ'.length := by
  rcases Nat.lt_or_ge σ'.length σ.length with h | h
  · have hb := X.lt
    have := x (σ.length - 1) _ (by omega) (List.getElem?_eq_getElem (by omega))
    have := (List.getElem?_eq_some_iff.mp this).1
    omega
  · exact h
theorem set_same {j : Nat} {σ : List AO} {x y : AO} (h : σ[j]? = some y) : (σ.set j x)[j]? = some x := List.getElem?_set_self (List.getElem?_eq_some_iff.mp h).1

/-- what the top has laid -/
structure Given (h₀ : Heap) : Prop where
  base : Base h₀ FL BL
  fCheck : FnAt h₀ 51 [Str.ofString "problem"] (bodyOf (stm 5)) (scopeOf (stm 5))
  fPathOf : FnAt h₀ 58 [Str.ofString "state", Str.ofString "node"] (bodyOf (stm 6)) (scopeOf (stm 6))
  fOffered : FnAt h₀ 65 [Str.ofString "state", Str.ofString "path"] (bodyOf (stm 7)) (scopeOf (stm 7))
  fBest : FnAt h₀ 72 [Str.ofString "problem", Str.ofString "state", Str.ofString "node"] (bodyOf (stm 8)) (scopeOf (stm 8))
  fUnquiet : FnAt h₀ 77 [Str.ofString "problem", Str.ofString "state"] (bodyOf (stm 9)) (scopeOf (stm 9))
  fStable : FnAt h₀ 84 [Str.ofString "problem", Str.ofString "state"] (bodyOf (stm 10)) (scopeOf (stm 10))
  fActivated : FnAt h₀ 91 [Str.ofString "problem", Str.ofString "state", Str.ofString "node"] (bodyOf (stm 11)) (scopeOf (stm 11))
  fAll : FnAt h₀ 96 [Str.ofString "problem", Str.ofString "state"] (bodyOf (stm 12)) (scopeOf (stm 12))
  fNo : FnAt h₀ 101 [Str.ofString "problem"] (bodyOf (stm 13)) (scopeOf (stm 13))
  fRow : FnAt h₀ 108 [Str.ofString "problem", Str.ofString "state", Str.ofString "row"] (bodyOf (stm 14)) (scopeOf (stm 14))
  fRounds : FnAt h₀ 115 [Str.ofString "problem", Str.ofString "state", Str.ofString "most"] (bodyOf (stm 15)) (scopeOf (stm 15))
  fDraw : FnAt h₀ 122 [Str.ofString "box", Str.ofString "many"] (bodyOf (stm 17)) (scopeOf (stm 17))
  fSizes : FnAt h₀ 129 [Str.ofString "box", Str.ofString "many"] (bodyOf (stm 18)) (scopeOf (stm 18))
  fTies : FnAt h₀ 136 [Str.ofString "box", Str.ofString "sizes"] (bodyOf (stm 19)) (scopeOf (stm 19))
  fPaths : FnAt h₀ 143 [Str.ofString "ties", Str.ofString "many"] (bodyOf (stm 20)) (scopeOf (stm 20))
  fProblem : FnAt h₀ 148 [Str.ofString "box", Str.ofString "ties", Str.ofString "many"] (bodyOf (stm 21)) (scopeOf (stm 21))
  fWay : FnAt h₀ 155 [Str.ofString "box", Str.ofString "nodes", Str.ofString "many"] (bodyOf (stm 22)) (scopeOf (stm 22))
theorem Given.lim {h₀ : Heap} (G : Given h₀) : h₀.NoLimit := G.base.lim
local macro_rules | `(tactic| wtm_at "lk") => `(tactic| with_reducible first | exact lk_here | assumption | exact lk_skip (by decide) (by wtm_at "lk"))
local macro_rules | `(tactic| wtm_at "sd") => `(tactic| decide +kernel)
local macro_rules | `(tactic| wtm_at "nm") => `(tactic| (show Ev _ _ _ _ _ (Expr.Name _ _) _ _ _; first | refine ev_local (by wtm_at "lk") ?_ (by wtm_at "sd") | refine ev_cell (by wtm_at "lk") ?_ (by wtm_at "sd") | refine ev_origin (p := ?_)))
local macro_rules | `(tactic| wtm_at "bd") => `(tactic| first | exact bnd_l (by wtm_at "sd") | exact bnd_c (by wtm_at "sd"))
local macro_rules | `(tactic| wtm_at "zip") => `(tactic| simp only [List.zip_cons_cons, List.zip_nil_left, List.zip_nil_right, List.cons_append, List.nil_append])
local macro_rules | `(tactic| wtm_at "call") => `(tactic| (show Ev _ _ _ _ _ (Expr.Call _ _ _ _) _ _ _; first | refine ev_len (h := ?_) | refine ev_abs (h := ?_) | refine ev_sorted (h := ?_) | refine ev_dict (h := ?_) | refine ev_tuple1 (h := ?_) | refine ev_listr (h := ?_) | refine ev_listi (h := ?_) | refine ev_list1 (h := ?_) | refine ev_append ?_ | refine ev_pop ?_ | refine ev_get2 ?_ | refine ev_call (hx := by wtm_at "lk") (h := ?_)))
local macro_rules | `(tactic| wtm_at "g1") => `(tactic| with_reducible first
  | (show Ev _ _ _ _ _ _ _ _ _; first | wtm_at "nm" | refine ev_int ?_ | refine ev_str ?_ | refine ev_bool ?_ | wtm_at "call" | refine ev_slice3 ?_ | refine ev_slice ?_ | refine ev_sub ?_ | refine ev_binop ?_ | refine ev_tuple ?_ | refine ev_list ?_ | refine ev_cmp ?_ | refine ev_ifexp ?_)
  | refine evl_cons ?_ | refine evl_nil ?_ | refine exs_cons ?_ | refine exs_nil ?_
  | (show Ex _ _ _ _ _ _ _ _ _; first | refine ex_assign ?_ (by wtm_at "bd") | refine ex_assign_sub ?_ | refine ex_if ?_ | refine ex_return ?_ | refine ex_expr ?_)
  | refine tst_cmp ?_ | refine tst_not ?_
  | (show Cmp _ _ _ _ _ _ _ _ _; first | refine cmp_lt ?_ | refine cmp_gt ?_ | refine cmp_eq_int ?_ | refine cmp_ne_int ?_ | refine cmp_eq_str ?_ | refine cmp_eq_ti ?_ | refine cmp_ne_ti ?_)
  | refine bop_add ?_ | refine bop_sub ?_ | refine evp_none ?_ | refine evp_some ?_ | refine tgt_name ?_ (by wtm_at "bd") | refine tgt_sub ?_
  | (show List.length _ ≤ _ ∧ _; refine And.intro (by simp; done) ?_)
  | (show _ = _ ∧ _; refine And.intro rfl ?_))
local macro_rules | `(tactic| wtm_at "go") => `(tactic| repeat (wtm_at "g1"))
section
variable {prog : Program} {w : World} {h₀ : Heap} {n : Nat} {σ : List AO} {P : PV → List AO → Prop}
theorem draw_body {b c : Nat} {K : Int} {m : Int} (B : Base h₀ FL BL) (X : BoxAt b c K σ) (hK : K ≤ 1000000) (hm : 0 < m ∧ m ≤ 1000)
    (p : ∀ (v : Int) (σ' : List AO), 0 ≤ v → v < m → Same b σ σ' → BoxAt b c (K + 1) σ' → P (.int v) σ') :
    Exs prog w h₀ n (scopeOf (stm 17)) (bodyOf (stm 17)) [(Str.ofString "many", .int m), (Str.ofString "box", .obj b)] σ (fun fl ρ' σ' => match fl with | .next => P .none σ' | .ret d => P d σ') := by
  obtain ⟨⟨k, hb, hk0, hk1⟩, ⟨ns, hc, hns⟩, hne⟩ := X
  have S' : Same b σ (σ.set b (.list [.obj c, .int (k + 1)])) := fun i x h e => by rw [List.getElem?_set_ne (Ne.symm h)]; exact e
  have hb' : (σ.set b (.list [.obj c, .int (k + 1)]))[b]? = some (.list [.obj c, .int (k + 1)]) := by rw [List.getElem?_set_self (List.getElem?_eq_some_iff.mp hb).1]
  have hc' : (σ.set b (.list [.obj c, .int (k + 1)]))[c]? = some (.list (iL ns)) := S' c _ (Ne.symm hne) hc
  have X' : BoxAt b c (K + 1) (σ.set b (.list [.obj c, .int (k + 1)])) := ⟨⟨k + 1, hb', by (first | lia | omega), by (first | lia | omega)⟩, ⟨ns, hc', hns⟩, hne⟩
  have p' : ∀ (x : Int), P (.int (x.fmod m)) (σ.set b (.list [.obj c, .int (k + 1)])) := fun x => p _ _ (Int.fmod_nonneg_of_pos _ hm.1) (Int.fmod_lt_of_pos _ hm.1) S' X'
  refine exs_cons ?_
  wtm_at "go"
  refine itm_list hb (by decide) rfl (by simp) ?_
  wtm_at "go"
  refine set_list hb (by decide) (by simp) (by simp) ?_
  wtm_at "go"
  refine itm_list hb' (by decide) rfl (by simp) ?_
  refine call_len_l hc' (by simp [iL]; (first | lia | omega)) ?_
  wtm_at "go"
  refine ⟨_, rfl, fun h => ?_, fun h => ?_⟩
  · have hlt : k < ns.length := by simpa [iL] using h
    wtm_at "go"
    refine itm_list hb' (by decide) rfl (by simp) ?_
    wtm_at "go"
    obtain ⟨x, hx⟩ : ∃ x, ns[k.toNat]? = some x := ⟨_, List.getElem?_eq_getElem (by (first | lia | omega))⟩
    refine itm_list hc' hk0 (d := .int x) (by simp [iL, hx]) (by simp [iL]; (first | lia | omega)) ?_
    refine call_abs ?_
    wtm_at "go"
    refine bop_mod (by (first | lia | omega)) (p' _)
  · wtm_at "go"
    refine bop_mul (by decide) (by decide) ?_
    wtm_at "go"
    refine bop_mul (by (first | lia | omega)) (by (first | lia | omega)) ?_
    wtm_at "go"
    refine bop_fdiv (by decide) (by decide) ?_
    wtm_at "go"
    refine bop_mod (by (first | lia | omega)) (p' _)
theorem c_draw {b c : Nat} {K : Int} {m : Int} (G : Given h₀) (X : BoxAt b c K σ) (hK : K ≤ 1000000) (hm : 0 < m ∧ m ≤ 1000)
    (p : ∀ (v : Int) (σ' : List AO), 0 ≤ v → v < m → Same b σ σ' → BoxAt b c (K + 1) σ' → P (.int v) σ') : CallV prog w h₀ (n + 1) (.ref 122) [.obj b, .int m] σ P := by
  refine callF_of G.fDraw G.lim rfl (by kernel_rfl) (by kernel_rfl) (by kernel_rfl) (fun x hx => ?_) (draw_body G.base X hK hm p)
  simp only [List.mem_cons, List.not_mem_nil, or_false] at hx
  rcases hx with rfl | rfl <;> exact bnd_l (by kernel_rfl)
end
/-- 0 .. m-1 -/
def zr (m : Nat) : List Int := (List.range m).map fun (i : Nat) => (i : Int)
theorem rng_zr (m : Nat) : rng 0 (m : Int) = iL (zr m) := by
  unfold rng iL zr
  rw [List.map_map]
  have : ((m : Int) - 0).toNat = m := by (first | lia | omega)
  rw [this]
  apply List.map_congr_left
  intro a _
  simp
theorem zr_length (m : Nat) : (zr m).length = m := by simp [zr]
theorem iL_get {l : List Int} {i : Nat} {x : Int} (h : l[i]? = some x) : (iL l)[i]? = some (.int x) := by simp [iL, h]
theorem iL_erase (l : List Int) (i : Nat) : (iL l).eraseIdx i = iL (l.eraseIdx i) := by
  induction l generalizing i with
  | nil => rfl
  | cons a l ih => cases i with
    | zero => rfl
    | succ i => simp only [iL, List.map_cons, List.eraseIdx_cons_succ] at ih ⊢; rw [ih]
theorem iL_app (l : List Int) (x : Int) : iL l ++ [.int x] = iL (l ++ [x]) := by simp [iL]
theorem iL_length (l : List Int) : (iL l).length = l.length := by simp [iL]
theorem erase_perm {β : Type} {l : List β} {i : Nat} {x : β} (h : l[i]? = some x) : (x :: l.eraseIdx i).Perm l := by
  induction l generalizing i with
  | nil => simp at h
  | cons a l ih => cases i with
    | zero => simp at h; subst h; exact List.Perm.refl _
    | succ i =>
      have := ih (by simpa using h)
      exact (List.Perm.swap a x _).trans (List.Perm.cons a this)
theorem iL_empty (l : List Int) : (iL l).isEmpty = l.isEmpty := by cases l <;> rfl
abbrev sizesI (σ : List AO) (b : Nat) (c : Nat) (K : Int) (m : Nat) (k : Nat) (ρ' : List (Str × PV)) (σ' : List AO) : Prop :=
  ρ' = [(Str.ofString "left", .obj σ.length), (Str.ofString "found", .obj (σ.length + 1)), (Str.ofString "many", .int m), (Str.ofString "box", .obj b)] ∧
    ∃ l f : List Int, k = l.length ∧ σ'[σ.length]? = some (.list (iL l)) ∧ σ'[σ.length + 1]? = some (.list (iL f)) ∧ (f ++ l).Perm (zr m) ∧ Same b σ σ' ∧ BoxAt b c (K + f.length) σ'
section
variable {prog : Program} {w : World} {h₀ : Heap} {n : Nat} {σ : List AO} {P : PV → List AO → Prop}
theorem sizes_body {b c : Nat} {K : Int} {m : Nat} (G : Given h₀) (X : BoxAt b c K σ) (hK : K ≤ 900000) (hm : 0 < m ∧ m ≤ 1000)
    (p : ∀ (j : Nat) (q : List Int) (σ' : List AO), q.Perm (zr m) → Same b σ σ' → BoxAt b c (K + m) σ' → σ.length ≤ j → σ'[j]? = some (.list (iL q)) → P (.obj j) σ') :
    Exs prog w h₀ (n + 1) (scopeOf (stm 18)) (bodyOf (stm 18)) [(Str.ofString "many", .int m), (Str.ofString "box", .obj b)] σ (fun fl ρ' σ' => match fl with | .next => P .none σ' | .ret d => P d σ') := by
  have B := G.base
  refine exs_cons ?_
  refine ex_swap [Str.ofString "left", Str.ofString "found"] ?_ (fun x hx => ?_)
  rotate_left
  · simp only [List.mem_cons, List.not_mem_nil, or_false] at hx
    rcases hx with rfl | rfl <;> exact bnd_l (by kernel_rfl)
  wtm_at "go"
  refine ⟨_, rfl, by (first | lia | omega), by (first | lia | omega), ?_⟩
  wtm_at "go"
  wtm_at "zip"
  wtm_at "go"
  have hlt := X.lt
  refine ex_while (sizesI σ b c K m) ?_ m ⟨by simp, zr m, [], by simp [zr_length], ?_, ?_, by simp, ?_, ?_⟩
  · rintro k ρ' σ₁ ⟨rfl, l, f, rfl, hl, hf, hp, hs, hX⟩
    have hlen : f.length + l.length = m := by have := hp.length_eq; simpa [zr_length] using this
    wtm_at "go"
    refine cmp_ne_nil (l := iL l) (get_push hl) last_get ⟨_, rfl, fun hb => ?_, fun hb => ?_⟩
    · have hl' := get_push (y := .list []) hl
      have hf' := get_push (y := .list []) hf
      have hne : l ≠ [] := by rintro rfl; simp [iL] at hb
      have hpos : 0 < l.length := List.length_pos_iff.mpr hne
      wtm_at "go"
      refine ⟨_, _, rfl, hf', ?_⟩
      wtm_at "go"
      refine ⟨_, _, rfl, hl', ?_⟩
      wtm_at "go"
      refine call_len_l hl' (by simp [iL_length]; (first | lia | omega)) ?_
      wtm_at "go"
      rw [iL_length]
      refine c_draw G (hX.push _) (by (first | lia | omega)) (by (first | lia | omega)) fun v σ₂ v0 v1 s₂ X₂ => ?_
      have hl2 := s₂ _ _ (by (first | lia | omega)) hl'
      have hf2 := s₂ _ _ (by (first | lia | omega)) hf'
      have hs2 := (hs.trans (Same.push (.list []))).trans s₂
      obtain ⟨x, hx⟩ : ∃ x, l[v.toNat]? = some x := ⟨_, List.getElem?_eq_getElem (by (first | lia | omega))⟩
      refine call_pop hl2 v0 (iL_get hx) (by simp [iL_length]; (first | lia | omega)) ?_
      rw [iL_erase]
      have hf3 := get_set (i := σ.length) (y := .list (iL (l.eraseIdx v.toNat))) (by (first | lia | omega)) hf2
      refine call_append hf3 (by simp [iL_length]; (first | lia | omega)) ?_
      rw [iL_app]
      wtm_at "go"
      have hvl : v.toNat < l.length := by (first | lia | omega)
      refine ⟨l.length - 1, by (first | lia | omega), rfl, l.eraseIdx v.toNat, f ++ [x], by rw [List.length_eraseIdx]; simp [hvl], get_set (by (first | lia | omega)) (set_same hl2), set_same hf3, ?_, (hs2.set _ (Nat.le_refl _)).set _ (Nat.le_succ _), ?_⟩
      · refine List.Perm.trans ?_ hp
        rw [List.append_assoc]
        refine List.Perm.append_left f ?_
        exact erase_perm hx
      · refine ((X₂.put _ (by (first | lia | omega)) (by (first | lia | omega))).put _ (by (first | lia | omega)) (by (first | lia | omega))).le ?_
        simp; (first | lia | omega)
    · have e : l = [] := by cases l with
        | nil => rfl
        | cons _ _ => simp [iL] at hb
      subst e
      have hf' := get_push (y := .list []) hf
      wtm_at "go"
      refine p _ f _ (by simpa using hp) (hs.trans (Same.push _)) ((hX.push _).le (by simp at hlen; (first | lia | omega))) (Nat.le_succ _) hf'
  · rw [rng_zr]; exact get_push last_get
  · have := last_get (σ := σ ++ [.list (rng 0 (m : Int))]) (x := .list [])
    rw [List.length_append] at this
    exact this
  · exact (Same.push _).trans (Same.push _)
  · exact ((X.push _).push _).le (by simp)
theorem c_sizes {b c : Nat} {K : Int} {m : Nat} (G : Given h₀) (X : BoxAt b c K σ) (hK : K ≤ 900000) (hm : 0 < m ∧ m ≤ 1000)
    (p : ∀ (j : Nat) (q : List Int) (σ' : List AO), q.Perm (zr m) → Same b σ σ' → BoxAt b c (K + m) σ' → σ.length ≤ j → σ'[j]? = some (.list (iL q)) → P (.obj j) σ') : CallV prog w h₀ (n + 2) (.ref 129) [.obj b, .int m] σ P := by
  refine callF_of G.fSizes G.lim rfl (by kernel_rfl) (by kernel_rfl) (by kernel_rfl) (fun x hx => ?_) (sizes_body G X hK hm p)
  simp only [List.mem_cons, List.not_mem_nil, or_false] at hx
  rcases hx with rfl | rfl <;> exact bnd_l (by kernel_rfl)
end
def sPeer : PV := .str (Str.ofString "peer")
def sProv : PV := .str (Str.ofString "provider")
def sCust : PV := .str (Str.ofString "customer")
/-- the ties of the nodes in the order q -/
def TieOk (q : List Int) (T : List (List Int × PV)) : Prop := ∀ k d, T.lookup k = some d → ∃ (i j : Nat) (x y : Int), q[i]? = some x ∧ q[j]? = some y ∧ k = [x, y] ∧
  ((d = sPeer ∧ i ≠ j ∧ T.lookup [y, x] = some sPeer) ∨ (d = sProv ∧ i < j ∧ T.lookup [y, x] = some sCust) ∨ (d = sCust ∧ j < i ∧ T.lookup [y, x] = some sProv))
theorem lookup_map_put {K : Type} [BEq K] [LawfulBEq K] [DecidableEq K] (l : List (K × PV)) (k k' : K) (d : PV) : (l.map fun x => if x.1 = k then (x.1, d) else x).lookup k' = if k' = k then (l.lookup k').map (fun _ => d) else l.lookup k' := by
  induction l with
  | nil => simp
  | cons a l ih =>
    obtain ⟨a1, a2⟩ := a
    simp only [List.map_cons]
    by_cases h : a1 = k
    · subst h
      simp only [if_true, List.lookup_cons]
      by_cases h' : k' = a1
      · subst h'; simp
      · have : (k' == a1) = false := beq_eq_false_iff_ne.mpr h'
        simp only [this, ih, if_neg h']
    · simp only [if_neg h, List.lookup_cons]
      by_cases h' : k' = a1
      · subst h'; simp [h]
      · have : (k' == a1) = false := beq_eq_false_iff_ne.mpr h'
        simp only [this]; exact ih
theorem any_lookup {K : Type} [BEq K] [LawfulBEq K] [DecidableEq K] (l : List (K × PV)) (k : K) : l.any (fun x => x.1 = k) = (l.lookup k).isSome := by
  induction l with
  | nil => rfl
  | cons a l ih =>
    obtain ⟨a1, a2⟩ := a
    rw [List.any_cons, List.lookup_cons]
    by_cases h : a1 = k
    · subst h; simp
    · have : (k == a1) = false := beq_eq_false_iff_ne.mpr (Ne.symm h)
      simp only [this, ih, decide_eq_false h, Bool.false_or]
theorem lookup_put {K : Type} [BEq K] [LawfulBEq K] [DecidableEq K] (l : List (K × PV)) (k k' : K) (d : PV) : (putK l k d).lookup k' = if k' = k then some d else l.lookup k' := by
  unfold putK
  rw [any_lookup]
  cases h : l.lookup k with
  | some d' =>
    simp only [Option.isSome_some, if_true]
    rw [lookup_map_put]
    by_cases e : k' = k
    · subst e; simp [h]
    · simp [e]
  | none =>
    simp only [Option.isSome_none, Bool.false_eq_true, if_false]
    rw [List.lookup_append]
    by_cases e : k' = k
    · subst e; simp [h]
    · have : (k' == k) = false := beq_eq_false_iff_ne.mpr e
      simp [e, List.lookup_cons, this]
theorem put_length {K : Type} [DecidableEq K] (l : List (K × PV)) (k : K) (d : PV) : (putK l k d).length ≤ l.length + 1 := by
  unfold putK; split <;> simp
theorem tie_put {q : List Int} {T : List (List Int × PV)} (h : TieOk q T) (hq : q.Nodup) {i j : Nat} {x y : Int} (hij : i < j) (hx : q[i]? = some x) (hy : q[j]? = some y) {a b : PV} (hab : (a = sPeer ∧ b = sPeer) ∨ (a = sProv ∧ b = sCust)) :
    TieOk q (putK (putK T [x, y] a) [y, x] b) := by
  have hi : i < q.length := (List.getElem?_eq_some_iff.mp hx).1
  have hj : j < q.length := (List.getElem?_eq_some_iff.mp hy).1
  have hne : x ≠ y := by
    rintro rfl
    have e1 := (List.getElem?_eq_some_iff.mp hx).2
    have e2 := (List.getElem?_eq_some_iff.mp hy).2
    have := (List.pairwise_iff_getElem.mp hq) i j hi hj hij
    exact this (e1.trans e2.symm)
  have hne' : ([y, x] : List Int) ≠ [x, y] := fun e => hne (by simp at e; exact e.2)
  intro k d hk
  rw [lookup_put, lookup_put] at hk
  by_cases h1 : k = [y, x]
  · subst h1
    rw [if_pos rfl] at hk; cases hk
    refine ⟨j, i, y, x, hy, hx, rfl, ?_⟩
    rw [lookup_put, if_neg (Ne.symm hne'), lookup_put, if_pos rfl]
    rcases hab with ⟨rfl, rfl⟩ | ⟨rfl, rfl⟩
    · exact .inl ⟨rfl, by (first | lia | omega), rfl⟩
    · exact .inr (.inr ⟨rfl, hij, rfl⟩)
  · rw [if_neg h1] at hk
    by_cases h2 : k = [x, y]
    · subst h2
      rw [if_pos rfl] at hk; cases hk
      refine ⟨i, j, x, y, hx, hy, rfl, ?_⟩
      rw [lookup_put, if_pos rfl]
      rcases hab with ⟨rfl, rfl⟩ | ⟨rfl, rfl⟩
      · exact .inl ⟨rfl, by (first | lia | omega), rfl⟩
      · exact .inr (.inl ⟨rfl, hij, rfl⟩)
    · rw [if_neg h2] at hk
      obtain ⟨i', j', x', y', a1, a2, rfl, a3⟩ := h k d hk
      refine ⟨i', j', x', y', a1, a2, rfl, ?_⟩
      have e1 : ([y', x'] : List Int) ≠ [y, x] := fun e => h2 (by simp at e; rw [e.1, e.2])
      have e2 : ([y', x'] : List Int) ≠ [x, y] := fun e => h1 (by simp at e; rw [e.1, e.2])
      rw [lookup_put, if_neg e1, lookup_put, if_neg e2]
      exact a3
theorem tie_nil (q : List Int) : TieOk q [] := fun k d h => by simp at h

abbrev tiesJ (σ : List AO) (b : Nat) (c : Nat) (js : Nat) (K : Int) (q : List Int) (i : Nat) (ρ' : List (Str × PV)) (σ' : List AO) : Prop :=
  ρ'.lookup (Str.ofString "sizes") = some (.obj js) ∧ ρ'.lookup (Str.ofString "box") = some (.obj b) ∧ ρ'.lookup (Str.ofString "found") = some (.obj σ.length) ∧
    ∃ T, σ'[σ.length]? = some (.tdict T) ∧ TieOk q T ∧ T.length ≤ 10 * i ∧ Same b σ σ' ∧ BoxAt b c (K + 5 * i) σ'
abbrev tiesJ2 (σ : List AO) (b : Nat) (c : Nat) (js : Nat) (K : Int) (q : List Int) (i : Nat) (i' : Nat) (ρ' : List (Str × PV)) (σ' : List AO) : Prop :=
  ρ'.lookup (Str.ofString "sizes") = some (.obj js) ∧ ρ'.lookup (Str.ofString "box") = some (.obj b) ∧ ρ'.lookup (Str.ofString "found") = some (.obj σ.length) ∧ ρ'.lookup (Str.ofString "at") = some (.int i) ∧
      ∃ T, σ'[σ.length]? = some (.tdict T) ∧ TieOk q T ∧ T.length ≤ 10 * i + 2 * i' ∧ Same b σ σ' ∧ BoxAt b c (K + 5 * i + i') σ'
section
variable {prog : Program} {w : World} {h₀ : Heap} {n : Nat} {σ : List AO} {P : PV → List AO → Prop}
theorem ties_body {b c js : Nat} {K : Int} {q : List Int} (G : Given h₀) (X : BoxAt b c K σ) (hK : K ≤ 800000) (hj : σ[js]? = some (.list (iL q))) (hjb : js ≠ b) (hq : q.Nodup) (hl : q.length ≤ 5)
    (p : ∀ (j : Nat) (T : List (List Int × PV)) (σ' : List AO), TieOk q T → T.length ≤ 100 → Same b σ σ' → BoxAt b c (K + 25) σ' → σ.length ≤ j → σ'[j]? = some (.tdict T) → P (.obj j) σ') :
    Exs prog w h₀ (n + 1) (scopeOf (stm 19)) (bodyOf (stm 19)) [(Str.ofString "sizes", .obj js), (Str.ofString "box", .obj b)] σ (fun fl ρ' σ' => match fl with | .next => P .none σ' | .ret d => P d σ') := by
  have B := G.base
  have hlt := X.lt
  have hjl := (List.getElem?_eq_some_iff.mp hj).1
  refine exs_cons ?_
  refine ex_assign ?_ (by wtm_at "bd")
  refine ev_dictT ?_
  wtm_at "go"
  refine ex_for (src_range1 B in_range (by kernel_rfl) ?_)
  wtm_at "go"
  have hj1 := get_push (y := .tdict []) hj
  refine call_len_l hj1 (by simp [iL_length]; (first | lia | omega)) ⟨_, rfl, by (first | lia | omega), by simp [iL_length]; (first | lia | omega), ?_⟩
  rw [iL_length]
  refine ⟨tiesJ σ b c js K q, ?_, fun _ _ _ _ => trivial, ?_, ?_⟩
  · exact ⟨by wtm_at "lk", by wtm_at "lk", by wtm_at "lk", [], last_get, tie_nil q, by simp, Same.push _, (X.push _).le (by simp)⟩
  · rintro i d ρ' σ₁ hd ⟨h1, h2, h3, T, hT, hTo, hTl, hs, hX⟩
    obtain ⟨hi, rfl⟩ := rng_get hd
    have hi' : i < q.length := by (first | lia | omega)
    wtm_at "go"
    refine ex_for (src_range2 B in_range (by kernel_rfl) ?_)
    wtm_at "go"
    have hj2 := hs _ _ hjb hj
    refine call_len_l hj2 (by simp [iL_length]; (first | lia | omega)) ⟨_, _, rfl, rfl, by (first | lia | omega), by simp [iL_length]; (first | lia | omega), ?_⟩
    rw [iL_length]
    refine ⟨tiesJ2 σ b c js K q i, ?_, fun _ _ _ _ => trivial, ?_, ?_⟩
    · exact ⟨by wtm_at "lk", by wtm_at "lk", by wtm_at "lk", by simp, T, hT, hTo, by (first | lia | omega), hs, by simpa using hX⟩
    · rintro i' d ρ'' σ₂ hd' ⟨h1, h2, h3, h4, T, hT, hTo, hTl, hs, hX⟩
      obtain ⟨hi2, rfl⟩ := rng_get hd'
      wtm_at "go"
      refine ex_swap [Str.ofString "small", Str.ofString "great", Str.ofString "form"] ?_ (fun x hx => ?_)
      rotate_left
      · simp only [List.mem_cons, List.not_mem_nil, or_false] at hx
        rcases hx with rfl | rfl | rfl <;> exact bnd_l (by kernel_rfl)
      wtm_at "go"
      have hj3 := hs _ _ hjb hj
      obtain ⟨x, hx⟩ : ∃ x, q[i]? = some x := ⟨_, List.getElem?_eq_getElem (by (first | lia | omega))⟩
      obtain ⟨y, hy⟩ : ∃ y, q[i + 1 + i']? = some y := ⟨_, List.getElem?_eq_getElem (by (first | lia | omega))⟩
      refine itm_list (d := .int x) hj3 (by (first | lia | omega)) (by simpa using iL_get hx) (by simp [iL_length]; (first | lia | omega)) ?_
      wtm_at "go"
      refine itm_list (d := .int y) hj3 (by (first | lia | omega)) (by rw [show ((0 + (i : Int) + 1 + (i' : Int))).toNat = i + 1 + i' by (first | lia | omega)]; exact iL_get hy) (by simp [iL_length]; (first | lia | omega)) ?_
      wtm_at "go"
      refine c_draw G hX (by (first | lia | omega)) (by (first | lia | omega)) fun v σ₃ v0 v1 s₃ X₃ => ?_
      wtm_at "go"
      wtm_at "zip"
      wtm_at "go"
      have hT3 := s₃ _ _ (by (first | lia | omega)) hT
      have hs3 := hs.trans s₃
      have store : ∀ (σ₄ : List AO) (T₁ T₂ : List (List Int × PV)), σ₄ = (σ₃.set σ.length (.tdict T₁)).set σ.length (.tdict T₂) → σ₄[σ.length]? = some (.tdict T₂) ∧ Same b σ σ₄ ∧ BoxAt b c (K + 5 * i + ((i' + 1 : Nat) : Int)) σ₄ := by
        rintro σ₄ T₁ T₂ rfl
        refine ⟨set_same (set_same hT3), (hs3.set _ (Nat.le_refl _)).set _ (Nat.le_refl _), ((X₃.put _ (by (first | lia | omega)) (by (first | lia | omega))).put _ (by (first | lia | omega)) (by (first | lia | omega))).le (by (first | lia | omega))⟩
      refine ⟨_, rfl, fun h => ?_, fun h => ?_⟩
      · refine exs_cons ?_
        refine ex_assign_tuple ?_
        wtm_at "go"
        refine tgt_tuple ?_ rfl
        refine tgtl_cons ?_
        wtm_at "go"
        refine set_tdict (k := [x, y]) hT3 (by (first | lia | omega)) ?_
        refine tgtl_cons ?_
        wtm_at "go"
        have l1 := put_length T [x, y] (.str (Str.ofString "peer"))
        refine set_tdict (k := [y, x]) (set_same hT3) (by (first | lia | omega)) ?_
        refine tgtl_nil ?_
        wtm_at "go"
        have l2 := put_length (putK T [x, y] (.str (Str.ofString "peer"))) [y, x] (.str (Str.ofString "peer"))
        obtain ⟨q1, q2, q3⟩ := store _ _ _ rfl
        exact ⟨by wtm_at "lk", by wtm_at "lk", by wtm_at "lk", by wtm_at "lk", _, q1, tie_put hTo hq (by (first | lia | omega)) hx hy (.inl ⟨rfl, rfl⟩), by (first | lia | omega), q2, q3⟩
      · wtm_at "go"
        refine ⟨_, rfl, fun h => ?_, fun h => ?_⟩
        · refine exs_cons ?_
          refine ex_assign_tuple ?_
          wtm_at "go"
          refine tgt_tuple ?_ rfl
          refine tgtl_cons ?_
          wtm_at "go"
          refine set_tdict (k := [x, y]) hT3 (by (first | lia | omega)) ?_
          refine tgtl_cons ?_
          wtm_at "go"
          have l1 := put_length T [x, y] (.str (Str.ofString "provider"))
          refine set_tdict (k := [y, x]) (set_same hT3) (by (first | lia | omega)) ?_
          refine tgtl_nil ?_
          wtm_at "go"
          have l2 := put_length (putK T [x, y] (.str (Str.ofString "provider"))) [y, x] (.str (Str.ofString "customer"))
          obtain ⟨q1, q2, q3⟩ := store _ _ _ rfl
          exact ⟨by wtm_at "lk", by wtm_at "lk", by wtm_at "lk", by wtm_at "lk", _, q1, tie_put hTo hq (by (first | lia | omega)) hx hy (.inr ⟨rfl, rfl⟩), by (first | lia | omega), q2, q3⟩
        · wtm_at "go"
          exact ⟨by wtm_at "lk", by wtm_at "lk", by wtm_at "lk", by wtm_at "lk", T, hT3, hTo, by (first | lia | omega), hs3, X₃.le (by (first | lia | omega))⟩
    · rintro ρ'' σ₂ ⟨h1, h2, h3, h4, T, hT, hTo, hTl, hs, hX⟩
      rw [rng_length] at hTl hX
      wtm_at "go"
      exact ⟨h1, h2, h3, T, hT, hTo, by (first | lia | omega), hs, hX.le (by (first | lia | omega))⟩
  · rintro ρ'' σ₂ ⟨h1, h2, h3, T, hT, hTo, hTl, hs, hX⟩
    rw [rng_length] at hTl hX
    wtm_at "go"
    exact p _ T _ hTo (by (first | lia | omega)) hs (hX.le (by (first | lia | omega))) (Nat.le_refl _) hT
theorem c_ties {b c js : Nat} {K : Int} {q : List Int} (G : Given h₀) (X : BoxAt b c K σ) (hK : K ≤ 800000) (hj : σ[js]? = some (.list (iL q))) (hjb : js ≠ b) (hq : q.Nodup) (hl : q.length ≤ 5)
    (p : ∀ (j : Nat) (T : List (List Int × PV)) (σ' : List AO), TieOk q T → T.length ≤ 100 → Same b σ σ' → BoxAt b c (K + 25) σ' → σ.length ≤ j → σ'[j]? = some (.tdict T) → P (.obj j) σ') : CallV prog w h₀ (n + 2) (.ref 136) [.obj b, .obj js] σ P := by
  refine callF_of G.fTies G.lim rfl (by kernel_rfl) (by kernel_rfl) (by kernel_rfl) (fun x hx => ?_) (ties_body G X hK hj hjb hq hl p)
  simp only [List.mem_cons, List.not_mem_nil, or_false] at hx
  rcases hx with rfl | rfl <;> exact bnd_l (by kernel_rfl)
end
/-- goes to all: the origin's own path, a customer's path -/
def ForAll (T : List (List Int × PV)) (p : List Int) : Prop := p.length = 1 ∨ ∃ x y r, p = x :: y :: r ∧ T.lookup [x, y] = some sCust
inductive Pth (T : List (List Int × PV)) (m : Nat) : List Int → Prop
  | base : Pth T m [0]
  | step {o x : Int} {r : List Int} {d : PV} : Pth T m (x :: r) → 0 ≤ o → o < m → o ∉ x :: r → T.lookup [x, o] = some d → (ForAll T (x :: r) ∨ d = sCust) → Pth T m (o :: x :: r)
theorem Pth.pos {T : List (List Int × PV)} {m : Nat} {p : List Int} (h : Pth T m p) : ∃ x r, p = x :: r := by cases h <;> exact ⟨_, _, rfl⟩
theorem Pth.nodup {T : List (List Int × PV)} {m : Nat} {p : List Int} (h : Pth T m p) : p.Nodup := by
  induction h with
  | base => simp
  | step _ _ _ hn _ _ ih => exact List.nodup_cons.mpr ⟨hn, ih⟩
theorem Pth.mem {T : List (List Int × PV)} {m : Nat} {p : List Int} (hm : 0 < m) (h : Pth T m p) : ∀ x ∈ p, 0 ≤ x ∧ x < m := by
  induction h with
  | base => intro x hx; simp at hx; subst hx; (first | lia | omega)
  | step _ h0 h1 _ _ _ ih => intro x hx; rcases List.mem_cons.mp hx with rfl | hx
                             · exact ⟨h0, h1⟩
                             · exact ih x hx
theorem tie_sym {q : List Int} {T : List (List Int × PV)} (h : TieOk q T) {x y : Int} {d : PV} (e : T.lookup [x, y] = some d) : ∃ d', T.lookup [y, x] = some d' := by
  obtain ⟨i, j, x', y', _, _, e1, h1⟩ := h _ _ e
  simp at e1
  obtain ⟨rfl, rfl⟩ := e1
  rcases h1 with ⟨_, _, h⟩ | ⟨_, _, h⟩ | ⟨_, _, h⟩ <;> exact ⟨_, h⟩
theorem Pth.tie {q : List Int} {T : List (List Int × PV)} {m : Nat} {x y : Int} {r : List Int} (hT : TieOk q T) (h : Pth T m (x :: y :: r)) : ∃ d, T.lookup [x, y] = some d := by
  cases h with
  | step _ _ _ _ e _ => exact tie_sym hT e
theorem sub_length {β : Type} [DecidableEq β] : ∀ (p q : List β), p.Nodup → (∀ x ∈ p, x ∈ q) → p.length ≤ q.length
  | [], _, _, _ => Nat.zero_le _
  | x :: p, q, hn, hs => by
    have hx := hs x List.mem_cons_self
    have ih := sub_length p (q.erase x) (List.nodup_cons.mp hn).2 fun y hy => (List.mem_erase_of_ne (fun e => by subst e; exact (List.nodup_cons.mp hn).1 hy)).mpr (hs y (List.mem_cons_of_mem _ hy))
    have := List.length_erase_of_mem hx
    have hpos : 0 < q.length := List.length_pos_of_mem hx
    simp only [List.length_cons]
    (first | lia | omega)
/-- how many below o are not in p -/
def outs (p : List Int) (o : Nat) : Nat := ((List.range o).filter fun (i : Nat) => decide ((i : Int) ∉ p)).length
theorem outs_succ (p : List Int) (o : Nat) : outs p (o + 1) = outs p o + if (o : Int) ∉ p then 1 else 0 := by
  unfold outs
  rw [List.range_succ, List.filter_append, List.length_append]
  by_cases h : (o : Int) ∉ p <;> simp [h]
theorem outs_le {p : List Int} {m : Nat} (hn : p.Nodup) (hm : ∀ x ∈ p, 0 ≤ x ∧ x < (m : Int)) : outs p m + p.length ≤ m := by
  have h1 : ((List.range m).filter fun (i : Nat) => decide ((i : Int) ∉ p)).length + ((List.range m).filter fun (i : Nat) => !decide ((i : Int) ∉ p)).length = (List.range m).length := by
    generalize List.range m = l
    induction l with
    | nil => rfl
    | cons a l ih => by_cases h : (a : Int) ∈ p <;> simp [List.filter_cons, h] at ih ⊢ <;> (first | lia | omega)
  have h2 : p.length ≤ ((List.range m).filter fun (i : Nat) => !decide ((i : Int) ∉ p)).length := by
    have := sub_length p (((List.range m).filter fun (i : Nat) => !decide ((i : Int) ∉ p)).map fun (i : Nat) => (i : Int)) hn fun x hx => by
      obtain ⟨a, b⟩ := hm x hx
      refine List.mem_map.mpr ⟨x.toNat, List.mem_filter.mpr ⟨List.mem_range.mpr (by (first | lia | omega)), ?_⟩, by (first | lia | omega)⟩
      have : ((x.toNat : Nat) : Int) = x := by (first | lia | omega)
      simp [this, hx]
    simpa using this
  rw [List.length_range] at h1
  unfold outs
  (first | lia | omega)
def wgt : Nat → Nat | 0 => 0 | 1 => 65 | 2 => 16 | 3 => 5 | 4 => 2 | _ => 1
def wsum (F : List (List Int)) : Nat := (F.map fun p => wgt p.length).sum
theorem wsum_app (F G : List (List Int)) : wsum (F ++ G) = wsum F + wsum G := by simp [wsum]
theorem wsum_len {F : List (List Int)} (h : ∀ p ∈ F, 0 < p.length) : F.length ≤ wsum F := by
  induction F with
  | nil => exact Nat.zero_le _
  | cons a F ih =>
    have := ih fun p hp => h p (List.mem_cons_of_mem _ hp)
    have h1 : 1 ≤ wgt a.length := by
      have := h a List.mem_cons_self
      match e : a.length, this with
      | 1, _ => decide
      | 2, _ => decide
      | 3, _ => decide
      | 4, _ => decide
      | n + 5, _ => exact Nat.le_refl 1
    simp only [wsum, List.map_cons, List.sum_cons, List.length_cons] at this ⊢
    (first | lia | omega)
/-- children of a path weigh less than it -/
theorem wgt_down {L k : Nat} (h : 0 < L) (hk : k + L ≤ 5) : k * wgt (L + 1) + 1 ≤ wgt L := by
  match L, h with
  | 1, _ => show k * 16 + 1 ≤ 65; (first | lia | omega)
  | 2, _ => show k * 5 + 1 ≤ 16; (first | lia | omega)
  | 3, _ => show k * 2 + 1 ≤ 5; (first | lia | omega)
  | 4, _ => show k * 1 + 1 ≤ 2; (first | lia | omega)
  | n + 5, _ =>
    have : k = 0 := by (first | lia | omega)
    subst this
    show 0 * _ + 1 ≤ 1
    (first | lia | omega)
theorem wsum_const {C : List (List Int)} {L : Nat} (h : ∀ p ∈ C, p.length = L) : wsum C = C.length * wgt L := by
  induction C with
  | nil => simp [wsum]
  | cons a C ih =>
    have := ih fun p hp => h p (List.mem_cons_of_mem _ hp)
    simp only [wsum, List.map_cons, List.sum_cons, List.length_cons] at this ⊢
    rw [this, h a List.mem_cons_self, Nat.add_mul]
    (first | lia | omega)
/-- nothing old has turned -/
def Grow (σ σ' : List AO) : Prop := ∀ (i : Nat) (x : AO), σ[i]? = some x → σ'[i]? = some x
theorem Grow.refl (σ : List AO) : Grow σ σ := fun _ _ e => e
theorem Grow.trans {σ σ' σ'' : List AO} (x : Grow σ σ') (y : Grow σ' σ'') : Grow σ σ'' := fun i z e => y i z (x i z e)
theorem Grow.push {σ : List AO} (x : AO) : Grow σ (σ ++ [x]) := fun i z e => get_push e
theorem Grow.set {σ σ' : List AO} {j : Nat} (x : Grow σ σ') (y : AO) (h : σ.length ≤ j) : Grow σ (σ'.set j y) := fun i z e => by
  have hl := (List.getElem?_eq_some_iff.mp e).1
  rw [List.getElem?_set_ne (by (first | lia | omega))]; exact x i z e
theorem Grow.same {σ σ' : List AO} (x : Grow σ σ') (b : Nat) : Same b σ σ' := fun i z _ e => x i z e
theorem BoxAt.grow {b c : Nat} {K : Int} {σ σ' : List AO} (X : BoxAt b c K σ) (g : Grow σ σ') : BoxAt b c K σ' := by
  obtain ⟨⟨k, h1, q⟩, ⟨ns, h2, q'⟩, hne⟩ := X
  exact ⟨⟨k, g _ _ h1, q⟩, ⟨ns, g _ _ h2, q'⟩, hne⟩

/-- what the outer loop keeps -/
structure PInv (T : List (List Int × PV)) (m : Nat) (F : List (List Int)) (a : Nat) : Prop where
  ok : ∀ p ∈ F, Pth T m p
  nd : F.Nodup
  from_ : ∀ p ∈ F, p = [0] ∨ ∃ o r, p = o :: r ∧ r ∈ F.take a
  le : a ≤ F.length
theorem tts_get {F : List (List Int)} {i : Nat} {p : List Int} (h : F[i]? = some p) : (F.map tI)[i]? = some (tI p) := by simp [h]
theorem tts_app (F : List (List Int)) (p : List Int) : F.map tI ++ [tI p] = (F ++ [p]).map tI := by simp
theorem child_new {T : List (List Int × PV)} {m : Nat} {F C : List (List Int)} {a : Nat} {p : List Int} {o : Int} (I : PInv T m F a) (hp : F[a]? = some p) (hC : ∀ c ∈ C, ∃ o', c = o' :: p ∧ o' < o) : o :: p ∉ F ++ C := by
  intro h
  rcases List.mem_append.mp h with h | h
  · rcases I.from_ _ h with h | ⟨o', r, e, hr⟩
    · have hp0 := I.ok p (List.mem_of_getElem? hp)
      obtain ⟨x, r, rfl⟩ := hp0.pos
      cases h
    · cases e
      obtain ⟨i, hi, e⟩ := List.getElem_of_mem hr
      have hlt : i < a := by rw [List.length_take] at hi; (first | lia | omega)
      have hn := List.pairwise_iff_getElem.mp I.nd
      have ha := (List.getElem?_eq_some_iff.mp hp)
      rw [List.getElem_take] at e
      exact hn i a (by have := I.le; (first | lia | omega)) ha.1 hlt (e.trans ha.2.symm)
  · obtain ⟨o', e, hl⟩ := hC _ h
    cases e; (first | lia | omega)
abbrev pathsI (σ : List AO) (jt : Nat) (m : Nat) (T : List (List Int × PV)) (k : Nat) (ρ' : List (Str × PV)) (σ' : List AO) : Prop :=
  ∃ (F : List (List Int)) (a : Nat) (ai : Int), ai = a ∧ k = wsum (F.drop a) ∧ ρ'.lookup (Str.ofString "found") = some (.obj σ.length) ∧ ρ'.lookup (Str.ofString "at") = some (.int ai) ∧ ρ'.lookup (Str.ofString "many") = some (.int m) ∧ ρ'.lookup (Str.ofString "ties") = some (.obj jt) ∧
    σ'[σ.length]? = some (.list (F.map tI)) ∧ PInv T m F a ∧ a + wsum (F.drop a) ≤ 65 ∧ Grow σ σ'
abbrev pathsJ (σ : List AO) (jt : Nat) (m : Nat) (T : List (List Int × PV)) (a : Nat) (pp : List Int) (fa : Bool) (F : List (List Int)) (i : Nat) (ρ₁ : List (Str × PV)) (σ₁ : List AO) : Prop :=
  ρ₁.lookup (Str.ofString "found") = some (.obj σ.length) ∧ ρ₁.lookup (Str.ofString "at") = some (.int a) ∧ ρ₁.lookup (Str.ofString "many") = some (.int m) ∧ ρ₁.lookup (Str.ofString "ties") = some (.obj jt) ∧
        ρ₁.lookup (Str.ofString "path") = some (tI pp) ∧ ρ₁.lookup (Str.ofString "is_for_all") = some (.bool fa) ∧
        ∃ C : List (List Int), σ₁[σ.length]? = some (.list ((F ++ C).map tI)) ∧ (∀ c ∈ C, (∃ o : Int, c = o :: pp ∧ o < i) ∧ Pth T m c) ∧ C.Nodup ∧ C.length ≤ outs pp i ∧ Grow σ σ₁
section
variable {prog : Program} {w : World} {h₀ : Heap} {n : Nat} {σ : List AO} {P : PV → List AO → Prop}
theorem ev_conseq {sc : Scope} {e : Expr} {ρ : List (Str × PV)} {P' : PV → List AO → Prop} (h : Ev prog w h₀ n sc e ρ σ P') (k : ∀ d σ', P' d σ' → P d σ') : Ev prog w h₀ n sc e ρ σ P :=
  fun env A s α a b c d E Q q => h env A s α a b c d E Q fun v dd s' α' σ' g S r p => q v dd s' α' σ' g S r (k _ _ p)
theorem tst_conseq {sc : Scope} {e : Expr} {ρ : List (Str × PV)} {P P' : Bool → List AO → Prop} (h : Tst prog w h₀ n sc e ρ σ P') (k : ∀ d σ', P' d σ' → P d σ') : Tst prog w h₀ n sc e ρ σ P :=
  fun env A s α x y a b c d E Q q => h env A s α x y a b c d E Q fun v s' α' σ' g S p => q v s' α' σ' g S (k _ _ p)
theorem seq1 {n : Nat} (h : 1 < n) : seqIndex? 1 n = some 1 := by
  unfold seqIndex?
  dsimp only
  rw [if_neg (show ¬ (1 : Int) < 0 by (first | lia | omega)), if_pos (by simp; (first | lia | omega))]
  rfl
theorem sCust_eq {d : PV} {q : List Int} {T : List (List Int × PV)} (hT : TieOk q T) {k : List Int} (h : T.lookup k = some d) : ∃ s : Str, d = .str s ∧ ((s == Str.ofString "customer") = true ↔ d = sCust) := by
  obtain ⟨_, _, _, _, _, _, _, h1⟩ := hT _ _ h
  rcases h1 with ⟨rfl, _, _⟩ | ⟨rfl, _, _⟩ | ⟨rfl, _, _⟩
  · exact ⟨_, rfl, by constructor <;> intro h <;> exact absurd h (by first | (decide +kernel) | (intro h; injection h with h; exact absurd (ofStr_inj h) (by decide)))⟩
  · exact ⟨_, rfl, by constructor <;> intro h <;> exact absurd h (by first | (decide +kernel) | (intro h; injection h with h; exact absurd (ofStr_inj h) (by decide)))⟩
  · exact ⟨_, rfl, by simp [sCust]⟩
theorem paths_body {jt : Nat} {q : List Int} {T : List (List Int × PV)} {m : Nat} (G : Given h₀) (hj : σ[jt]? = some (.tdict T)) (hT : TieOk q T) (hm : 0 < m ∧ m ≤ 5)
    (p : ∀ (j : Nat) (F : List (List Int)) (σ' : List AO), (∀ p ∈ F, Pth T m p) → F.Nodup → F.length ≤ 65 → Grow σ σ' → σ.length ≤ j → σ'[j]? = some (.list (F.map tI)) → P (.obj j) σ') :
    Exs prog w h₀ (n + 1) (scopeOf (stm 20)) (bodyOf (stm 20)) [(Str.ofString "many", .int m), (Str.ofString "ties", .obj jt)] σ (fun fl ρ' σ' => match fl with | .next => P .none σ' | .ret d => P d σ') := by
  have B := G.base
  refine exs_cons ?_
  refine ex_swap [Str.ofString "found", Str.ofString "at"] ?_ (fun x hx => ?_)
  rotate_left
  · simp only [List.mem_cons, List.not_mem_nil, or_false] at hx
    rcases hx with rfl | rfl <;> exact bnd_l (by kernel_rfl)
  wtm_at "go"
  wtm_at "zip"
  wtm_at "go"
  refine ex_while (pathsI σ jt m T) ?_ 65 ⟨[[0]], 0, 0, rfl, by decide, by wtm_at "lk", by wtm_at "lk", by wtm_at "lk", by wtm_at "lk", last_get, ⟨?_, by simp, ?_, by simp⟩, by decide, Grow.push _⟩
  · rintro k ρ' σ₁ ⟨F, a, _, rfl, rfl, h1, h2, h3, h4, hF, I, hw, hg⟩
    have hpos : ∀ p ∈ F, 0 < p.length := fun p hp => by obtain ⟨x, r, rfl⟩ := (I.ok p hp).pos; simp
    have hlenF : F.length ≤ 65 := by
      have := wsum_len (F := F.drop a) fun p hp => hpos p (List.mem_of_mem_drop hp)
      rw [List.length_drop] at this
      (first | lia | omega)
    wtm_at "go"
    refine call_len_l hF (by simp; (first | lia | omega)) ?_
    rw [List.length_map]
    wtm_at "go"
    refine ⟨_, rfl, fun hb => ?_, fun hb => ?_⟩
    · have ha : a < F.length := by simpa using hb
      obtain ⟨pp, hp⟩ : ∃ pp, F[a]? = some pp := ⟨_, List.getElem?_eq_getElem ha⟩
      have hpp := I.ok pp (List.mem_of_getElem? hp)
      wtm_at "go"
      refine itm_list (d := tI pp) hF (by (first | lia | omega)) (by simpa using tts_get hp) (by simp; (first | lia | omega)) ?_
      wtm_at "go"
      obtain ⟨x, r, hxr⟩ := hpp.pos
      have hlp : pp.length ≤ 5 := by
        have := outs_le hpp.nodup (hpp.mem hm.1); (first | lia | omega)
      have hp0 : 0 < pp.length := by rw [hxr]; simp
      refine ev_conseq (P' := fun d σ' => ∃ fa : Bool, d = .bool fa ∧ (fa = true ↔ ForAll T pp) ∧ σ' = σ₁) ?_ ?_
      · refine ev_or ?_
        wtm_at "go"
        refine call_len_t (by simp [iL_length]; (first | lia | omega)) ?_
        rw [iL_length]
        wtm_at "go"
        refine ⟨_, rfl, fun hb => ?_, fun hb => ⟨true, rfl, by simp at hb; simp [ForAll]; left; (first | lia | omega), rfl⟩⟩
        have hne : pp.length ≠ 1 := by simp at hb; (first | lia | omega)
        obtain ⟨y, r', rfl⟩ : ∃ y r', r = y :: r' := by
          cases r with
          | nil => rw [hxr] at hne; simp at hne
          | cons y r' => exact ⟨y, r', rfl⟩
        subst hxr
        obtain ⟨d, hd⟩ := hpp.tie hT
        obtain ⟨s, rfl, hs⟩ := sCust_eq hT hd
        refine ev_boolop_one ?_
        wtm_at "go"
        refine itm_tup (d := .int x) (seqIndex?_zero (by simp [iL])) rfl (by decide) (by decide) ?_
        wtm_at "go"
        refine itm_tup (d := .int y) (seq1 (by simp [iL])) rfl (by decide) (by decide) ?_
        wtm_at "go"
        refine itm_tdict (k := [x, y]) (hg _ _ hj) hd ?_
        wtm_at "go"
        refine ⟨_, rfl, ?_, rfl⟩
        rw [hs]
        constructor
        · intro h
          exact .inr ⟨x, y, r', rfl, by rw [hd, h]⟩
        · rintro (h | ⟨x', y', r'', e, h⟩)
          · exact absurd h hne
          · cases e; rw [hd] at h; exact Option.some.inj h
      rintro d σ' ⟨fa, rfl, hfa, rfl⟩
      wtm_at "go"
      refine ex_for (src_range1 B in_range (by kernel_rfl) ?_)
      wtm_at "go"
      refine ⟨_, rfl, by (first | lia | omega), by (first | lia | omega), ?_⟩
      refine ⟨pathsJ σ jt m T a pp fa F, ?_, fun _ _ _ _ => trivial, ?_, ?_⟩
      · exact ⟨by wtm_at "lk", by wtm_at "lk", by wtm_at "lk", by wtm_at "lk", by wtm_at "lk", by wtm_at "lk", [], by simpa using hF, by simp, by simp, by simp, hg⟩
      · rintro i d ρ₁ σ₁ hd ⟨k1, k2, k3, k4, k5, k6, C, hC, hok, hnd, hcl, hg1⟩
        obtain ⟨hi, rfl⟩ := rng_get hd
        have hi' : i < m := by (first | lia | omega)
        have hz : (0 : Int) + (i : Int) = i := by (first | lia | omega)
        rw [hz]
        have stay : C.length ≤ outs pp (i + 1) := by rw [outs_succ]; (first | lia | omega)
        have hok' : ∀ c ∈ C, (∃ o : Int, c = o :: pp ∧ o < ((i + 1 : Nat) : Int)) ∧ Pth T m c := fun c hc => ⟨let ⟨o, e, h⟩ := (hok c hc).1; ⟨o, e, by (first | lia | omega)⟩, (hok c hc).2⟩
        wtm_at "go"
        refine tst_and ?_
        wtm_at "go"
        refine cmp_notin_ti ⟨_, rfl, fun hb => ?_, fun hb => ⟨fun h => absurd h (by decide), fun _ => ?_⟩⟩
        · have hnin : (i : Int) ∉ pp := by
            intro h
            simp only [Bool.not_eq_true', List.any_eq_false, beq_iff_eq] at hb
            exact hb _ h rfl
          refine tst_and ?_
          wtm_at "go"
          refine itm_tup (d := .int x) (seqIndex?_zero (by simp [iL_length]; (first | lia | omega))) (by rw [hxr]; rfl) (by decide) (by decide) ?_
          wtm_at "go"
          refine cmp_in_tdict (k := [x, i]) (hg1 _ _ hj) ⟨_, rfl, fun hb => tst_and_nil ⟨fun _ => ?_, fun h => absurd h (by decide)⟩, fun hb => ⟨fun h => absurd h (by decide), fun _ => ?_⟩⟩
          · obtain ⟨d, hd⟩ := Option.isSome_iff_exists.mp hb
            obtain ⟨s, rfl, hs⟩ := sCust_eq hT hd
            wtm_at "go"
            refine tst_conseq (P' := fun b σ' => σ' = σ₁ ∧ (b = true → ForAll T pp ∨ (PV.str s) = sCust)) ?_ ?_
            · refine tst_or (tst_val ?_)
              wtm_at "go"
              refine tru_bool ⟨fun hb => ?_, fun hb => ⟨rfl, fun _ => .inl (hfa.mp hb)⟩⟩
              refine tst_or ?_
              wtm_at "go"
              refine itm_tup (d := .int x) (seqIndex?_zero (by simp [iL_length]; (first | lia | omega))) (by rw [hxr]; rfl) (by decide) (by decide) ?_
              wtm_at "go"
              refine itm_tdict (k := [x, i]) (hg1 _ _ hj) hd ?_
              wtm_at "go"
              exact ⟨_, rfl, fun h => tst_or_nil ⟨rfl, fun h => absurd h (by decide)⟩, fun h => ⟨rfl, fun _ => .inr (hs.mp h)⟩⟩
            · rintro b σ₂ ⟨rfl, hb⟩
              refine ⟨fun h => ?_, fun h => ?_⟩
              · wtm_at "go"
                refine ⟨_, _, rfl, hC, ?_⟩
                wtm_at "go"
                refine bop_add_tup (by simp [iL_length]; (first | lia | omega)) ?_
                have hlen : (F ++ C).length ≤ 1000 := by
                  have := outs_le hpp.nodup (hpp.mem hm.1)
                  have h2 : outs pp i ≤ 5 := by
                    unfold outs
                    have := List.length_filter_le (fun (j : Nat) => decide ((j : Int) ∉ pp)) (List.range i)
                    rw [List.length_range] at this; (first | lia | omega)
                  rw [List.length_append]; (first | lia | omega)
                refine call_append hC (by simp at hlen ⊢; (first | lia | omega)) ?_
                have e0 : ([PV.int (i : Int)] ++ iL pp) = iL ((i : Int) :: pp) := rfl
                rw [e0]
                wtm_at "go"
                have hnew := child_new I hp (C := C) (o := (i : Int)) fun c hc => (hok c hc).1
                refine ⟨by wtm_at "lk", by wtm_at "lk", by wtm_at "lk", by wtm_at "lk", by wtm_at "lk", by wtm_at "lk", C ++ [(i : Int) :: pp], ?_, ?_, ?_, ?_, hg1.set _ (Nat.le_refl _)⟩
                · rw [set_same hC]
                  rw [tts_app, List.append_assoc]
                · intro c hc
                  rcases List.mem_append.mp hc with hc | hc
                  · exact hok' c hc
                  · simp at hc; subst hc
                    refine ⟨⟨_, rfl, by (first | lia | omega)⟩, ?_⟩
                    rw [hxr] at hpp hnin hb ⊢
                    exact .step hpp (by (first | lia | omega)) (by (first | lia | omega)) hnin hd (hb h)
                · rw [List.nodup_append]
                  refine ⟨hnd, by simp, fun c hc c' hc' e => ?_⟩
                  simp at hc'; subst hc'; subst e
                  exact hnew (List.mem_append_right _ hc)
                · rw [List.length_append, outs_succ, if_pos hnin]
                  simp; (first | lia | omega)
              · wtm_at "go"
                exact ⟨by wtm_at "lk", by wtm_at "lk", by wtm_at "lk", by wtm_at "lk", by wtm_at "lk", by wtm_at "lk", C, hC, hok', hnd, stay, hg1⟩
          · wtm_at "go"
            exact ⟨by wtm_at "lk", by wtm_at "lk", by wtm_at "lk", by wtm_at "lk", by wtm_at "lk", by wtm_at "lk", C, hC, hok', hnd, stay, hg1⟩
        · wtm_at "go"
          exact ⟨by wtm_at "lk", by wtm_at "lk", by wtm_at "lk", by wtm_at "lk", by wtm_at "lk", by wtm_at "lk", C, hC, hok', hnd, stay, hg1⟩
      · rintro ρ₁ σ₁ ⟨k1, k2, k3, k4, k5, k6, C, hC, hok, hnd, hcl, hg1⟩
        rw [rng_length] at hok hcl
        have hmm : ((m : Int) - 0).toNat = m := by (first | lia | omega)
        rw [hmm] at hok hcl
        wtm_at "go"
        have hout := outs_le hpp.nodup (hpp.mem hm.1)
        have hdrop : F.drop a = pp :: F.drop (a + 1) := by
          rw [List.drop_eq_getElem_cons ha, (List.getElem?_eq_some_iff.mp hp).2]
        have hw1 : wsum (F.drop a) = wgt pp.length + wsum (F.drop (a + 1)) := by rw [hdrop]; simp [wsum]
        have hw2 : wsum ((F ++ C).drop (a + 1)) = wsum (F.drop (a + 1)) + C.length * wgt (pp.length + 1) := by
          rw [List.drop_append_of_le_length (by (first | lia | omega)), wsum_app, wsum_const (C := C) (L := pp.length + 1) (fun c hc => by obtain ⟨o, e, _⟩ := (hok c hc).1; rw [e]; rfl)]
        have hw3 := wgt_down (k := C.length) hp0 (by (first | lia | omega))
        refine ⟨wsum ((F ++ C).drop (a + 1)), by (first | lia | omega), F ++ C, a + 1, (a : Int) + 1, by (first | lia | omega), rfl, by wtm_at "lk", by wtm_at "lk", by wtm_at "lk", by wtm_at "lk", hC, ⟨?_, ?_, ?_, by simp; (first | lia | omega)⟩, by (first | lia | omega), hg1⟩
        · intro p hp
          rcases List.mem_append.mp hp with hp | hp
          · exact I.ok p hp
          · exact (hok p hp).2
        · rw [List.nodup_append]
          refine ⟨I.nd, hnd, fun c hc c' hc' e => ?_⟩
          subst e
          obtain ⟨⟨o, e, _⟩, _⟩ := hok c hc'
          subst e
          exact child_new I hp (C := []) (o := o) (by simp) (by simpa using hc)
        · intro c hc
          have htake : (F ++ C).take (a + 1) = F.take (a + 1) := List.take_append_of_le_length (by (first | lia | omega))
          rw [htake]
          rcases List.mem_append.mp hc with hc | hc
          · rcases I.from_ c hc with h | ⟨o, r, e, h⟩
            · exact .inl h
            · exact .inr ⟨o, r, e, by rw [List.take_succ]; exact List.mem_append_left _ h⟩
          · obtain ⟨⟨o, e, _⟩, _⟩ := hok c hc
            exact .inr ⟨o, pp, e, by rw [List.take_succ, hp]; simp⟩
    · have ha : ¬ a < F.length := by simpa using hb
      wtm_at "go"
      exact p _ F _ I.ok I.nd hlenF hg (Nat.le_refl _) hF
  · intro p hp; simp at hp; subst hp; exact .base
  · intro p hp; simp at hp; exact .inl hp
theorem c_paths {jt : Nat} {q : List Int} {T : List (List Int × PV)} {m : Nat} (G : Given h₀) (hj : σ[jt]? = some (.tdict T)) (hT : TieOk q T) (hm : 0 < m ∧ m ≤ 5)
    (p : ∀ (j : Nat) (F : List (List Int)) (σ' : List AO), (∀ p ∈ F, Pth T m p) → F.Nodup → F.length ≤ 65 → Grow σ σ' → σ.length ≤ j → σ'[j]? = some (.list (F.map tI)) → P (.obj j) σ') : CallV prog w h₀ (n + 2) (.ref 143) [.obj jt, .int m] σ P := by
  refine callF_of G.fPaths G.lim rfl (by kernel_rfl) (by kernel_rfl) (by kernel_rfl) (fun x hx => ?_) (paths_body G hj hT hm p)
  simp only [List.mem_cons, List.not_mem_nil, or_false] at hx
  rcases hx with rfl | rfl <;> exact bnd_l (by kernel_rfl)
end
/-- the nodes but the origin -/
def nd (m : Nat) : List Int := (List.range (m - 1)).map fun (i : Nat) => (1 : Int) + (i : Int)
theorem nd_length (m : Nat) : (nd m).length = m - 1 := by simp [nd]
theorem rng_nd (m : Nat) : rng 1 (m : Int) = iL (nd m) := by
  unfold rng iL nd
  rw [List.map_map]
  have : ((m : Int) - 1).toNat = m - 1 := by (first | lia | omega)
  rw [this]
  rfl
theorem nd_mem {m : Nat} {x : Int} : x ∈ nd m ↔ 1 ≤ x ∧ x < m := by
  unfold nd
  rw [List.mem_map]
  constructor
  · rintro ⟨i, hi, rfl⟩; have := List.mem_range.mp hi; (first | lia | omega)
  · intro h; exact ⟨(x - 1).toNat, List.mem_range.mpr (by (first | lia | omega)), by (first | lia | omega)⟩
theorem nd_get {m i : Nat} (h : i < m - 1) : (nd m)[i]? = some (1 + (i : Int)) := by simp [nd, h]
theorem nd_nodup (m : Nat) : (nd m).Nodup := by
  unfold nd
  rw [List.nodup_iff_pairwise_ne, List.pairwise_map]
  exact List.Pairwise.imp (fun {a b} (h : a < b) => by (first | lia | omega)) List.pairwise_lt_range
def sortS : Nat → Str | 0 => Str.ofString "customer" | 1 => Str.ofString "peer" | _ => Str.ofString "provider"
/-- a path of v of the class k -/
def POk (T : List (List Int × PV)) (m : Nat) (v : Int) (k : Nat) (p : List Int) : Prop := Pth T m p ∧ ∃ y r, p = v :: y :: r ∧ T.lookup [v, y] = some (.str (sortS k))
structure RowOk (T : List (List Int × PV)) (m : Nat) (v : Int) (b : Nat) (kr : List (Nat × List Int)) : Prop where
  cls : ∀ x ∈ kr, x.1 < b ∧ POk T m v x.1 x.2
  sorted : kr.Pairwise fun x y => x.1 ≤ y.1
  nd : (kr.map (·.2)).Nodup
def sel (T : List (List Int × PV)) (v : Int) (ss : Str) (p : List Int) : Bool := match p with
  | x :: y :: _ => x == v && (match T.lookup [x, y] with | some (.str s') => s' == ss | _ => false)
  | _ => false
theorem sel_ok {T : List (List Int × PV)} {m k : Nat} {v : Int} {p : List Int} (h : Pth T m p) (hs : sel T v (sortS k) p = true) : POk T m v k p := by
  match p, hs with
  | x :: y :: r, hs =>
    simp only [sel, Bool.and_eq_true, beq_iff_eq] at hs
    obtain ⟨rfl, h2⟩ := hs
    refine ⟨h, y, r, rfl, ?_⟩
    split at h2
    · rename_i s' e; rw [e]; rw [beq_iff_eq] at h2; rw [h2]
    · cases h2
  | [x], hs => simp [sel] at hs
  | [], hs => simp [sel] at hs
theorem sortS_inj {k l : Nat} (hk : k < 3) (hl : l < 3) (h : sortS k = sortS l) : k = l := by
  match k, l, hk, hl with
  | 0, 0, _, _ => rfl
  | 1, 1, _, _ => rfl
  | 2, 2, _, _ => rfl
  | 0, 1, _, _ | 0, 2, _, _ | 1, 0, _, _ | 1, 2, _, _ | 2, 0, _, _ | 2, 1, _, _ => exact absurd (ofStr_inj h) (by decide)
theorem pok_inj {T : List (List Int × PV)} {m k l : Nat} {v : Int} {p : List Int} (hk : k < 3) (hl : l < 3) (h : POk T m v k p) (h' : POk T m v l p) : k = l := by
  obtain ⟨_, y, r, rfl, e⟩ := h
  obtain ⟨_, y', r', e', e2⟩ := h'
  cases e'
  rw [e] at e2
  injection e2 with e2
  injection e2 with e2
  exact sortS_inj hk hl e2
theorem put_new {l : List (Int × PV)} {k : Int} {d : PV} (h : k ∉ l.map (·.1)) : putK l k d = l ++ [(k, d)] := by
  unfold putK
  rw [if_neg]
  intro h'
  rw [List.any_eq_true] at h'
  obtain ⟨x, hx, e⟩ := h'
  simp at e
  exact h (List.mem_map.mpr ⟨x, hx, e⟩)
theorem sub_nil {ρ : List (Str × PV)} : ∀ y d, ([] : List (Str × PV)).lookup y = some d → ρ.lookup y = some d := fun y d h => by simp at h
theorem sub_cons {x : Str} {d₀ : PV} {ρc ρ : List (Str × PV)} (h : ρ.lookup x = some d₀) (r : ∀ y d, ρc.lookup y = some d → ρ.lookup y = some d) : ∀ y d, ((x, d₀) :: ρc).lookup y = some d → ρ.lookup y = some d := fun y d e => by
  rw [List.lookup_cons] at e
  by_cases q : y = x
  · subst q; rw [beq_self_eq_true] at e; cases e; exact h
  · rw [beq_eq_false_iff_ne.mpr q] at e; exact r y d e
theorem row_more {T : List (List Int × PV)} {m k : Nat} {v : Int} {kr : List (Nat × List Int)} {F new : List (List Int)} (hk : k < 3) (h : RowOk T m v k kr) (hF : ∀ p ∈ F, Pth T m p) (hn : F.Nodup) (hp : new.Perm (F.filter (sel T v (sortS k)))) :
    RowOk T m v (k + 1) (kr ++ new.map fun p => (k, p)) := by
  have hpok : ∀ p ∈ new, POk T m v k p := fun p h => by
    have := List.mem_filter.mp (hp.mem_iff.mp h)
    exact sel_ok (hF p this.1) this.2
  refine ⟨?_, ?_, ?_⟩
  · intro x hx
    rcases List.mem_append.mp hx with hx | hx
    · exact ⟨Nat.lt_succ_of_lt (h.cls x hx).1, (h.cls x hx).2⟩
    · obtain ⟨p, hp', rfl⟩ := List.mem_map.mp hx
      exact ⟨Nat.lt_succ_self _, hpok p hp'⟩
  · rw [List.pairwise_append]
    refine ⟨h.sorted, ?_, fun x hx y hy => ?_⟩
    · rw [List.pairwise_map]
      exact List.pairwise_iff_getElem.mpr fun i j _ _ _ => Nat.le_refl _
    · obtain ⟨p, hp', rfl⟩ := List.mem_map.mp hy
      exact Nat.le_of_lt (h.cls x hx).1
  · rw [List.map_append, List.map_map]
    have e : (new.map ((fun x : Nat × List Int => x.2) ∘ fun p => (k, p))) = new := by
      have : ((fun x : Nat × List Int => x.2) ∘ fun p => (k, p)) = id := rfl
      rw [this, List.map_id]
    rw [e, List.nodup_append]
    refine ⟨h.nd, hp.nodup_iff.mpr (hn.sublist List.filter_sublist), fun a ha b hb e => ?_⟩
    subst e
    obtain ⟨x, hx, rfl⟩ := List.mem_map.mp ha
    have := pok_inj (by have := (h.cls x hx).1; (first | lia | omega)) hk (h.cls x hx).2 (hpok _ hb)
    have := (h.cls x hx).1
    (first | lia | omega)
def rowPV (x : Int × List (Nat × List Int)) : Int × PV := (x.1, .tup ((x.2.map (·.2)).map tI))
abbrev problemJ (σ : List AO) (b : Nat) (c : Nat) (jp : Nat) (jt : Nat) (K : Int) (T : List (List Int × PV)) (m : Nat) (F : List (List Int)) (i : Nat) (ρ' : List (Str × PV)) (σ' : List AO) : Prop :=
  ρ'.lookup (Str.ofString "found") = some (.obj σ.length) ∧ ρ'.lookup (Str.ofString "paths") = some (.obj jp) ∧ ρ'.lookup (Str.ofString "ties") = some (.obj jt) ∧ ρ'.lookup (Str.ofString "box") = some (.obj b) ∧
    ∃ acc : List (Int × List (Nat × List Int)), acc.map (·.1) = (nd m).take i ∧ (∀ x ∈ acc, RowOk T m x.1 3 x.2 ∧ x.2.length ≤ 200) ∧ σ'[σ.length]? = some (.idict (acc.map rowPV)) ∧ σ'[jp]? = some (.list (F.map tI)) ∧ Same b σ σ' ∧ BoxAt b c (K + 195 * i) σ'
abbrev problemJ2 (σ : List AO) (σ₂ : List AO) (b : Nat) (c : Nat) (jp : Nat) (jt : Nat) (K : Int) (T : List (List Int × PV)) (m : Nat) (i : Nat) (v : Int) (k : Nat) (ρ' : List (Str × PV)) (σ' : List AO) : Prop :=
  ρ'.lookup (Str.ofString "found") = some (.obj σ.length) ∧ ρ'.lookup (Str.ofString "paths") = some (.obj jp) ∧ ρ'.lookup (Str.ofString "ties") = some (.obj jt) ∧ ρ'.lookup (Str.ofString "box") = some (.obj b) ∧
      ρ'.lookup (Str.ofString "node") = some (.int v) ∧ ρ'.lookup (Str.ofString "row") = some (.obj σ₂.length) ∧
      ∃ kr : List (Nat × List Int), σ'[σ₂.length]? = some (.list ((kr.map (·.2)).map tI)) ∧ RowOk T m v k kr ∧ kr.length ≤ 65 * k ∧ Same b σ₂ σ' ∧ BoxAt b c (K + 195 * i + 65 * k) σ'
abbrev problemC (σ₃ : List AO) (F : List (List Int)) (T : List (List Int × PV)) (v : Int) (k : Nat) (d : PV) (σ₄ : List AO) : Prop :=
  ∃ l : List (List Int), d = .obj σ₃.length ∧ l = F.filter (sel T v (sortS k)) ∧ σ₄[σ₃.length]? = some (.list (l.map tI)) ∧ Grow σ₃ σ₄
abbrev problemA (σ₃ : List AO) (jp : Nat) (F : List (List Int)) (T : List (List Int × PV)) (v : Int) (k : Nat) (i : Nat) (acc : List PV) (σ : List AO) : Prop :=
  σ[jp]? = some (.list (F.map tI)) ∧ σ[σ₃.length]? = some (.list acc) ∧ acc = ((F.take i).filter (sel T v (sortS k))).map tI ∧ Grow σ₃ σ
abbrev problemI (σ₂ : List AO) (σ₃ : List AO) (b : Nat) (c : Nat) (K : Int) (T : List (List Int × PV)) (F : List (List Int)) (i : Nat) (v : Int) (k : Nat) (kr : List (Nat × List Int)) (ρ₃ : List (Str × PV)) (k' : Nat) (ρ' : List (Str × PV)) (σ' : List AO) : Prop :=
  ρ' = (Str.ofString "some", PV.obj σ₃.length) :: (Str.ofString "sort", PV.str (sortS k)) :: ρ₃ ∧
          ∃ l new : List (List Int), k' = l.length ∧ σ'[σ₃.length]? = some (.list (l.map tI)) ∧ σ'[σ₂.length]? = some (.list (((kr ++ new.map fun p => (k, p)).map (·.2)).map tI)) ∧ (new ++ l).Perm (F.filter (sel T v (sortS k))) ∧
            Same b σ₂ σ' ∧ BoxAt b c (K + 195 * i + 65 * k + new.length) σ'
section
variable {prog : Program} {w : World} {h₀ : Heap} {n : Nat} {σ : List AO} {P : PV → List AO → Prop}
theorem problem_body {b c jt : Nat} {K : Int} {q : List Int} {T : List (List Int × PV)} {m : Nat} (G : Given h₀) (X : BoxAt b c K σ) (hK : K ≤ 700000) (hj : σ[jt]? = some (.tdict T)) (hjb : jt ≠ b) (hT : TieOk q T) (hm : 0 < m ∧ m ≤ 5)
    (p : ∀ (j : Nat) (acc : List (Int × List (Nat × List Int))) (σ' : List AO), acc.map (·.1) = nd m → (∀ x ∈ acc, RowOk T m x.1 3 x.2 ∧ x.2.length ≤ 200) → Same b σ σ' → BoxAt b c (K + 1000) σ' → σ.length ≤ j → σ'[j]? = some (.idict (acc.map rowPV)) → P (.obj j) σ') :
    Exs prog w h₀ (n + 2) (scopeOf (stm 21)) (bodyOf (stm 21)) [(Str.ofString "many", .int m), (Str.ofString "ties", .obj jt), (Str.ofString "box", .obj b)] σ (fun fl ρ' σ' => match fl with | .next => P .none σ' | .ret d => P d σ') := by
  have B := G.base
  have hlt := X.lt
  have hjl := (List.getElem?_eq_some_iff.mp hj).1
  refine exs_cons ?_
  refine ex_swap [Str.ofString "found", Str.ofString "paths"] ?_ (fun x hx => ?_)
  rotate_left
  · simp only [List.mem_cons, List.not_mem_nil, or_false] at hx
    rcases hx with rfl | rfl <;> exact bnd_l (by kernel_rfl)
  refine evl_cons ?_
  refine ev_dictI ?_
  wtm_at "go"
  refine c_paths G (get_push hj) hT hm fun jp F σ₁ hF hFn hFl hg hjp hσp => ?_
  wtm_at "go"
  wtm_at "zip"
  wtm_at "go"
  have gf : Grow σ σ₁ := (Grow.push _).trans hg
  have hf1 := hg _ _ (last_get (σ := σ) (x := .idict []))
  have hjp' : σ.length + 1 ≤ jp := by simpa using hjp
  refine ex_for (src_range2 B in_range (by kernel_rfl) ?_)
  wtm_at "go"
  refine ⟨_, _, rfl, rfl, by decide, by (first | lia | omega), ?_⟩
  rw [rng_nd]
  refine ⟨problemJ σ b c jp jt K T m F, ?_, fun _ _ _ _ => trivial, ?_, ?_⟩
  · exact ⟨by wtm_at "lk", by wtm_at "lk", by wtm_at "lk", by wtm_at "lk", [], by simp, by simp, hf1, hσp, gf.same b, (X.grow gf).le (by simp)⟩
  · rintro i d ρ' σ₂ hd ⟨h1, h2, h3, h4, acc, ha1, ha2, hfd, hp2, hs, hX⟩
    have hi : i < m - 1 := by have := (List.getElem?_eq_some_iff.mp hd).1; rw [iL_length, nd_length] at this; exact this
    have ed : d = .int (1 + (i : Int)) := by
      have := iL_get (nd_get hi); rw [this] at hd; exact (Option.some.inj hd).symm
    subst ed
    generalize hv : (1 + (i : Int)) = v
    wtm_at "go"
    have hv1 : 1 ≤ v ∧ v < m := by (first | lia | omega)
    have hnew : v ∉ acc.map (·.1) := by
      rw [ha1, ← hv]
      intro h
      have hn := nd_nodup m
      obtain ⟨k, hk, e⟩ := List.getElem_of_mem h
      rw [List.length_take] at hk
      rw [List.getElem_take] at e
      have e2 := (List.getElem?_eq_some_iff.mp (nd_get hi))
      exact (List.pairwise_iff_getElem.mp hn) k i (by omega) e2.1 (by omega) (e.trans e2.2.symm)
    have hlt2 := hX.lt
    have hle2 := hs.len hX
    have hjp2 := (List.getElem?_eq_some_iff.mp hp2).1
    refine ex_for (src_tuple ?_)
    wtm_at "go"
    refine ⟨_, rfl, ?_⟩
    refine ⟨problemJ2 σ σ₂ b c jp jt K T m i v, ?_, fun _ _ _ _ => trivial, ?_, ?_⟩
    · exact ⟨by wtm_at "lk", by wtm_at "lk", by wtm_at "lk", by wtm_at "lk", by wtm_at "lk", by wtm_at "lk", [], last_get, ⟨by simp, by simp, by simp⟩, by simp, Same.push _, (hX.push _).le (by simp)⟩
    · rintro k d ρ₃ σ₃ hd ⟨k1, k2, k3, k4, k5, k6, kr, hkr, hro, hkl, hs3, hX3⟩
      have hk : k < 3 := by have := (List.getElem?_eq_some_iff.mp hd).1; simpa using this
      have ed : d = .str (sortS k) := by
        match k, hk with
        | 0, _ => simp at hd; exact hd.symm
        | 1, _ => simp at hd; exact hd.symm
        | 2, _ => simp at hd; exact hd.symm
      subst ed
      have hp3 := hs3 _ _ (by (first | lia | omega)) hp2
      have hj3 := hs3 _ _ hjb (hs _ _ hjb hj)
      have hle3 := hs3.len hX3
      have hkr3 := (List.getElem?_eq_some_iff.mp hkr).1
      wtm_at "go"
      refine ex_assign_comp [(Str.ofString "ties", .obj jt), (Str.ofString "node", .int v), (Str.ofString "sort", .str (sortS k))] (P := problemC σ₃ F T v k)
        (src_list ?_) (by kernel_rfl) (cells_of (by kernel_rfl)) (locals_of (by kernel_rfl)) (by kernel_rfl) ?_ (one_of [Str.ofString "ties", Str.ofString "node", Str.ofString "sort"] rfl (by kernel_rfl)) (free_of (by kernel_rfl)) (hk := by wtm_at "bd") (hP := ?_) (hsw := by intro env h; cases env; cases h; kernel_rfl)
      · wtm_at "go"
        refine ⟨jp, _, rfl, hp3, ?_⟩
        refine ⟨problemA σ₃ jp F T v k, ⟨get_push hp3, last_get, by simp, Grow.push _⟩, fun i acc σ h => ⟨h.1, h.2.1⟩, by simp; (first | lia | omega), ?_, ?_⟩
        · rintro i d acc σ₄ hd ⟨hp4, hacc, rfl, hg4⟩
          obtain ⟨pp, hpp, rfl⟩ : ∃ pp, F[i]? = some pp ∧ d = tI pp := by
            rw [List.getElem?_map] at hd
            obtain ⟨pp, h1, h2⟩ := Option.map_eq_some_iff.mp hd
            exact ⟨pp, h1, h2.symm⟩
          have hok := hF pp (List.mem_of_getElem? hpp)
          obtain ⟨x, r, hxr⟩ := hok.pos
          have htk : ∀ f : List Int → Bool, (F.take (i + 1)).filter f = (F.take i).filter f ++ (if f pp then [pp] else []) := fun f => by
            rw [List.take_add_one, hpp, List.filter_append]
            by_cases h : f pp <;> simp [h]
          show Tst _ _ _ _ _ _ _ _ _
          refine tst_conseq (P' := fun b σ' => b = sel T v (sortS k) pp ∧ σ' = σ₄) ?_ ?_
          · refine tst_and ?_
            wtm_at "go"
            refine itm_tup (d := .int x) (seqIndex?_zero (by rw [iL_length, hxr]; simp)) (by rw [hxr]; rfl) (by decide) (by decide) ?_
            wtm_at "go"
            refine ⟨_, rfl, fun hb => ?_, fun hb => ⟨by rw [hxr]; cases r <;> simp at hb <;> simp [sel, hb], rfl⟩⟩
            have hxv : x = v := by simpa using hb
            obtain ⟨y, r', rfl⟩ : ∃ y r', r = y :: r' := by
              cases r with
              | nil => rw [hxr] at hok; cases hok; (first | lia | omega)
              | cons y r' => exact ⟨y, r', rfl⟩
            rw [hxr] at hok
            obtain ⟨d, hd⟩ := hok.tie hT
            obtain ⟨s, rfl, _⟩ := sCust_eq hT hd
            refine tst_and ?_
            wtm_at "go"
            refine itm_tup (d := .int y) (seq1 (by rw [iL_length, hxr]; simp)) (by rw [hxr]; rfl) (by decide) (by decide) ?_
            wtm_at "go"
            refine itm_tdict (k := [v, y]) (hg4 _ _ hj3) (hxv ▸ hd) ?_
            wtm_at "go"
            have hsel : sel T v (sortS k) pp = (s == sortS k) := by rw [hxr]; simp [sel, hxv, hxv ▸ hd]
            refine ⟨_, rfl, fun hb => tst_and_nil ⟨by rw [hsel, hb], rfl⟩, fun hb => ⟨by rw [hsel, hb], rfl⟩⟩
          · rintro b σ₅ ⟨rfl, rfl⟩
            refine ⟨fun hb => ?_, fun hb => ⟨hp4, hacc, by rw [htk, hb]; simp, hg4⟩⟩
            wtm_at "go"
            exact ⟨hacc, get_set (by (first | lia | omega)) hp4, set_same hacc, by rw [htk, hb]; simp, hg4.set _ (Nat.le_refl _)⟩
        · rintro acc σ₄ ⟨hp4, hacc, rfl, hg4⟩
          rw [List.length_map, List.take_length] at hacc
          exact ⟨_, rfl, rfl, hacc, hg4⟩
      · exact sub_cons (by wtm_at "lk") (sub_cons (by wtm_at "lk") (sub_cons (by wtm_at "lk") sub_nil))
      · rintro d σ₄ ⟨l, rfl, rfl, hl4, hg4⟩
        wtm_at "go"
        refine ex_while (problemI σ₂ σ₃ b c K T F i v k kr ρ₃) ?_ (F.filter (sel T v (sortS k))).length
          ⟨rfl, F.filter (sel T v (sortS k)), [], rfl, hl4, by simpa using hg4 _ _ hkr, by simp, hs3.trans (hg4.same b), (hX3.grow hg4).le (by simp)⟩
        rintro k' ρ' σ₅ ⟨rfl, l, new, rfl, hl, hr5, hp, hs5, hX5⟩
        have hlen : new.length + l.length ≤ 65 := by
          have h1 := hp.length_eq
          rw [List.length_append] at h1
          have h2 := List.length_filter_le (sel T v (sortS k)) F
          (first | lia | omega)
        wtm_at "go"
        refine cmp_ne_nil (l := l.map tI) (get_push hl) last_get ⟨_, rfl, fun hb => ?_, fun hb => ?_⟩
        · have hl' := get_push (y := .list []) hl
          have hr' := get_push (y := .list []) hr5
          have hne : l ≠ [] := by rintro rfl; simp at hb
          have hpos : 0 < l.length := List.length_pos_iff.mpr hne
          wtm_at "go"
          refine ⟨_, _, rfl, hr', ?_⟩
          wtm_at "go"
          refine ⟨_, _, rfl, hl', ?_⟩
          wtm_at "go"
          refine call_len_l hl' (by simp; (first | lia | omega)) ?_
          rw [List.length_map]
          wtm_at "go"
          refine c_draw G (hX5.push _) (by (first | lia | omega)) (by (first | lia | omega)) fun u σ₆ u0 u1 s₆ X₆ => ?_
          have hl6 := s₆ _ _ (by (first | lia | omega)) hl'
          have hr6 := s₆ _ _ (by (first | lia | omega)) hr'
          have hs6 := (hs5.trans (Same.push (.list []))).trans s₆
          obtain ⟨x, hx⟩ : ∃ x, l[u.toNat]? = some x := ⟨_, List.getElem?_eq_getElem (by (first | lia | omega))⟩
          refine call_pop hl6 u0 (tts_get hx) (by simp; (first | lia | omega)) ?_
          have er : (l.map tI).eraseIdx u.toNat = (l.eraseIdx u.toNat).map tI := by
            clear hl hl' hl6 hp hlen hb hne hpos u1 hx
            generalize u.toNat = z
            induction l generalizing z with
            | nil => rfl
            | cons a l ih => cases z with
              | zero => rfl
              | succ z => simp [ih]
          rw [er]
          have hr7 := get_set (i := σ₃.length) (y := .list ((l.eraseIdx u.toNat).map tI)) (by (first | lia | omega)) hr6
          refine call_append hr7 (by simp; (first | lia | omega)) ?_
          rw [tts_app]
          wtm_at "go"
          have hul : u.toNat < l.length := by (first | lia | omega)
          refine ⟨l.length - 1, by (first | lia | omega), rfl, l.eraseIdx u.toNat, new ++ [x], by rw [List.length_eraseIdx]; simp [hul], get_set (by (first | lia | omega)) (set_same hl6), by rw [set_same hr7]; simp, ?_, (hs6.set _ (by (first | lia | omega))).set _ (Nat.le_refl _), ?_⟩
          · refine List.Perm.trans ?_ hp
            rw [List.append_assoc]
            exact List.Perm.append_left new (erase_perm hx)
          · refine ((X₆.put _ (by (first | lia | omega)) (by (first | lia | omega))).put _ (by (first | lia | omega)) (by (first | lia | omega))).le ?_
            simp; (first | lia | omega)
        · have e : l = [] := by cases l with
            | nil => rfl
            | cons _ _ => simp at hb
          subst e
          wtm_at "go"
          refine ⟨by wtm_at "lk", by wtm_at "lk", by wtm_at "lk", by wtm_at "lk", by wtm_at "lk", by wtm_at "lk", _, get_push hr5, row_more hk hro hF hFn (by simpa using hp), ?_, hs5.trans (Same.push _), (hX5.push _).le (by simp at hlen; (first | lia | omega))⟩
          simp at hlen ⊢
          (first | lia | omega)
    · rintro ρ₃ σ₃ ⟨k1, k2, k3, k4, k5, k6, kr, hkr, hro, hkl, hs3, hX3⟩
      have e3 : ([PV.str (Str.ofString "customer"), .str (Str.ofString "peer"), .str (Str.ofString "provider")] : List PV).length = 3 := rfl
      rw [e3] at hro hkl hX3
      have hfd3 := hs3 _ _ (by (first | lia | omega)) hfd
      wtm_at "go"
      refine call_tuple_l hkr (by simp; (first | lia | omega)) ?_
      wtm_at "go"
      refine set_idict hfd3 ?_ ?_
      · have := congrArg List.length ha1
        simp at this ⊢
        (first | lia | omega)
      · have e4 : putK (acc.map rowPV) v (PV.tup ((kr.map (·.2)).map tI)) = (acc ++ [(v, kr)]).map rowPV := by
          rw [put_new]
          · simp [rowPV]
          · rw [List.map_map]; exact hnew
        rw [e4]
        wtm_at "go"
        refine ⟨by wtm_at "lk", by wtm_at "lk", by wtm_at "lk", by wtm_at "lk", acc ++ [(v, kr)], ?_, ?_, set_same hfd3, get_set (by (first | lia | omega)) (hs3 _ _ (by (first | lia | omega)) hp2), (hs.trans hs3).set _ (Nat.le_refl _), ?_⟩
        · rw [List.map_append, ha1, List.take_add_one, nd_get hi, hv]; rfl
        · intro x hx
          rcases List.mem_append.mp hx with hx | hx
          · exact ha2 x hx
          · simp at hx; subst hx; exact ⟨hro, by show kr.length ≤ 200; (first | lia | omega)⟩
        · exact (hX3.put _ (by (first | lia | omega)) (by (first | lia | omega))).le (by (first | lia | omega))
  · rintro ρ' σ₂ ⟨h1, h2, h3, h4, acc, ha1, ha2, hfd, hp2, hs, hX⟩
    rw [iL_length, nd_length] at ha1 hX
    wtm_at "go"
    refine p _ acc _ ?_ ha2 hs (hX.le (by (first | lia | omega))) (Nat.le_refl _) hfd
    rw [ha1, List.take_of_length_le (by rw [nd_length]; (first | lia | omega))]
theorem c_problem {b c jt : Nat} {K : Int} {q : List Int} {T : List (List Int × PV)} {m : Nat} (G : Given h₀) (X : BoxAt b c K σ) (hK : K ≤ 700000) (hj : σ[jt]? = some (.tdict T)) (hjb : jt ≠ b) (hT : TieOk q T) (hm : 0 < m ∧ m ≤ 5)
    (p : ∀ (j : Nat) (acc : List (Int × List (Nat × List Int))) (σ' : List AO), acc.map (·.1) = nd m → (∀ x ∈ acc, RowOk T m x.1 3 x.2 ∧ x.2.length ≤ 200) → Same b σ σ' → BoxAt b c (K + 1000) σ' → σ.length ≤ j → σ'[j]? = some (.idict (acc.map rowPV)) → P (.obj j) σ') :
    CallV prog w h₀ (n + 3) (.ref 148) [.obj b, .obj jt, .int m] σ P := by
  refine callF_of G.fProblem G.lim rfl (by kernel_rfl) (by kernel_rfl) (by kernel_rfl) (fun x hx => ?_) (problem_body G X hK hj hjb hT hm p)
  simp only [List.mem_cons, List.not_mem_nil, or_false] at hx
  rcases hx with rfl | rfl | rfl <;> wtm_at "bd"
end
/-- a way: before each node of u some nodes more -/
inductive Way (m : Nat) : List Int → List Int → Prop
  | nil : Way m [] []
  | snoc {u w ex : List Int} {x : Int} : Way m u w → (∀ y ∈ ex, y ∈ nd m) → Way m (u ++ [x]) (w ++ ex ++ [x])
abbrev wayJ (σ : List AO) (b : Nat) (c : Nat) (ju : Nat) (K : Int) (m : Nat) (u : List Int) (i : Nat) (ρ' : List (Str × PV)) (σ' : List AO) : Prop :=
  ρ'.lookup (Str.ofString "found") = some (.obj σ.length) ∧ ρ'.lookup (Str.ofString "many") = some (.int m) ∧ ρ'.lookup (Str.ofString "box") = some (.obj b) ∧
    σ'[ju]? = some (.list (iL u)) ∧ ∃ wy, σ'[σ.length]? = some (.list (iL wy)) ∧ Way m (u.take i) wy ∧ wy.length ≤ 2 * i ∧ Same b σ σ' ∧ BoxAt b c (K + 2 * i) σ'
abbrev wayJ2 (σ : List AO) (b : Nat) (c : Nat) (ju : Nat) (K : Int) (m : Nat) (u : List Int) (x : Int) (wy : List Int) (i : Nat) (k : Nat) (ρ' : List (Str × PV)) (σ' : List AO) : Prop :=
  ρ'.lookup (Str.ofString "found") = some (.obj σ.length) ∧ ρ'.lookup (Str.ofString "many") = some (.int m) ∧ ρ'.lookup (Str.ofString "box") = some (.obj b) ∧ ρ'.lookup (Str.ofString "node") = some (.int x) ∧
      σ'[ju]? = some (.list (iL u)) ∧ ∃ ex, σ'[σ.length]? = some (.list (iL (wy ++ ex))) ∧ (∀ y ∈ ex, y ∈ nd m) ∧ ex.length = k ∧ Same b σ σ' ∧ BoxAt b c (K + 2 * i + 1 + k) σ'
section
variable {prog : Program} {w : World} {h₀ : Heap} {n : Nat} {σ : List AO} {P : PV → List AO → Prop}
theorem way_body {b c ju : Nat} {K : Int} {m : Nat} {u : List Int} (G : Given h₀) (X : BoxAt b c K σ) (hK : K ≤ 600000) (hj : σ[ju]? = some (.list (iL u))) (hjb : ju ≠ b) (hm : 2 ≤ m ∧ m ≤ 5) (hu : u.length ≤ 5)
    (p : ∀ (j : Nat) (wy : List Int) (σ' : List AO), Way m u wy → wy.length ≤ 10 → Same b σ σ' → BoxAt b c (K + 10) σ' → σ.length ≤ j → σ'[j]? = some (.list (iL wy)) → P (.obj j) σ') :
    Exs prog w h₀ (n + 1) (scopeOf (stm 22)) (bodyOf (stm 22)) [(Str.ofString "many", .int m), (Str.ofString "nodes", .obj ju), (Str.ofString "box", .obj b)] σ (fun fl ρ' σ' => match fl with | .next => P .none σ' | .ret d => P d σ') := by
  have B := G.base
  have hlt := X.lt
  have hjl := (List.getElem?_eq_some_iff.mp hj).1
  refine exs_cons ?_
  wtm_at "go"
  refine ex_for (src_list ?_)
  wtm_at "go"
  refine ⟨ju, _, rfl, get_push hj, ?_⟩
  refine ⟨wayJ σ b c ju K m u, ?_, fun _ _ _ h => h.2.2.2.1, ?_, ?_⟩
  · exact ⟨by wtm_at "lk", by wtm_at "lk", by wtm_at "lk", get_push hj, [], last_get, by simpa using Way.nil, by simp, Same.push _, (X.push _).le (by simp)⟩
  · rintro i d ρ' σ₁ hd ⟨h1, h2, h3, hj1, wy, hw, hW, hwl, hs, hX⟩
    obtain ⟨x, hx, rfl⟩ : ∃ x, u[i]? = some x ∧ d = .int x := by
      unfold iL at hd
      rw [List.getElem?_map] at hd
      obtain ⟨x, h1, h2⟩ := Option.map_eq_some_iff.mp hd
      exact ⟨x, h1, h2.symm⟩
    have hi := (List.getElem?_eq_some_iff.mp hx).1
    wtm_at "go"
    refine ex_for (src_range1 B in_range (by kernel_rfl) ?_)
    wtm_at "go"
    refine c_draw G hX (by (first | lia | omega)) (by (first | lia | omega)) fun v σ₂ v0 v1 s₂ X₂ => ⟨v, rfl, by (first | lia | omega), by (first | lia | omega), ?_⟩
    have hw2 := s₂ _ _ (by (first | lia | omega)) hw
    have hj2 := s₂ _ _ hjb hj1
    have hs2 := hs.trans s₂
    refine ⟨wayJ2 σ b c ju K m u x wy i, ?_, fun _ _ _ _ => trivial, ?_, ?_⟩
    · exact ⟨by wtm_at "lk", by wtm_at "lk", by wtm_at "lk", by wtm_at "lk", hj2, [], by simpa using hw2, by simp, rfl, hs2, X₂.le (by simp)⟩
    · rintro k d ρ'' σ₃ hd ⟨h1, h2, h3, h4, hj3, ex, hw3, hex, hel, hs3, hX3⟩
      obtain ⟨hk, rfl⟩ := rng_get hd
      wtm_at "go"
      refine ⟨_, _, rfl, hw3, ?_⟩
      wtm_at "go"
      refine c_draw G hX3 (by (first | lia | omega)) (by (first | lia | omega)) fun y σ₄ y0 y1 s₄ X₄ => ?_
      have hw4 := s₄ _ _ (by (first | lia | omega)) hw3
      wtm_at "go"
      refine call_append hw4 (by simp [iL_length]; (first | lia | omega)) ?_
      rw [iL_app]
      wtm_at "go"
      refine ⟨by wtm_at "lk", by wtm_at "lk", by wtm_at "lk", by wtm_at "lk", get_set (by (first | lia | omega)) (s₄ _ _ hjb hj3), ex ++ [1 + y], by rw [set_same hw4]; simp, ?_, by simp [hel], (hs3.trans s₄).set _ (Nat.le_refl _), (X₄.put _ (by (first | lia | omega)) (by (first | lia | omega))).le (by (first | lia | omega))⟩
      intro z hz
      rcases List.mem_append.mp hz with hz | hz
      · exact hex z hz
      · simp at hz; subst hz; exact nd_mem.mpr (by (first | lia | omega))
    · rintro ρ'' σ₃ ⟨h1, h2, h3, h4, hj3, ex, hw3, hex, hel, hs3, hX3⟩
      rw [rng_length] at hel hX3
      wtm_at "go"
      refine ⟨_, _, rfl, hw3, ?_⟩
      wtm_at "go"
      refine call_append hw3 (by simp [iL_length]; (first | lia | omega)) ?_
      rw [iL_app]
      wtm_at "go"
      refine ⟨by wtm_at "lk", by wtm_at "lk", by wtm_at "lk", get_set (by (first | lia | omega)) hj3, wy ++ ex ++ [x], set_same hw3, ?_, by simp; (first | lia | omega), hs3.set _ (Nat.le_refl _), (hX3.put _ (by (first | lia | omega)) (by (first | lia | omega))).le (by (first | lia | omega))⟩
      rw [List.take_add_one, hx]
      exact .snoc hW hex
  · rintro ρ' σ₁ ⟨h1, h2, h3, hj1, wy, hw, hW, hwl, hs, hX⟩
    rw [iL_length] at hW hwl hX
    wtm_at "go"
    exact p _ wy _ (by simpa using hW) (by (first | lia | omega)) hs (hX.le (by (first | lia | omega))) (Nat.le_refl _) hw
theorem c_way {b c ju : Nat} {K : Int} {m : Nat} {u : List Int} (G : Given h₀) (X : BoxAt b c K σ) (hK : K ≤ 600000) (hj : σ[ju]? = some (.list (iL u))) (hjb : ju ≠ b) (hm : 2 ≤ m ∧ m ≤ 5) (hu : u.length ≤ 5)
    (p : ∀ (j : Nat) (wy : List Int) (σ' : List AO), Way m u wy → wy.length ≤ 10 → Same b σ σ' → BoxAt b c (K + 10) σ' → σ.length ≤ j → σ'[j]? = some (.list (iL wy)) → P (.obj j) σ') :
    CallV prog w h₀ (n + 2) (.ref 155) [.obj b, .obj ju, .int m] σ P := by
  refine callF_of G.fWay G.lim rfl (by kernel_rfl) (by kernel_rfl) (by kernel_rfl) (fun x hx => ?_) (way_body G X hK hj hjb hm hu p)
  simp only [List.mem_cons, List.not_mem_nil, or_false] at hx
  rcases hx with rfl | rfl | rfl <;> wtm_at "bd"
end
def pI (m : Nat) (R : Int → List (List Int)) : List (Int × PV) := (nd m).map fun v => (v, .tup ((R v).map tI))
def sI (m : Nat) (S : Int → List Int) : List (Int × PV) := dI ((nd m).map fun v => (v, S v))
theorem lookup_map {β γ : Type} (f : Int → γ) (l : List Int) (v : Int) : (l.map fun v => (v, f v)).lookup v = if v ∈ l then some (f v) else none := by
  induction l with
  | nil => simp
  | cons a l ih =>
    rw [List.map_cons, List.lookup_cons]
    by_cases h : v = a
    · subst h; simp
    · have : (v == a) = false := beq_eq_false_iff_ne.mpr h
      rw [this]; simp only [ih, List.mem_cons, h, false_or]
theorem sI_eq (m : Nat) (S : Int → List Int) : sI m S = (nd m).map fun v => (v, tI (S v)) := by simp [sI, dI]
theorem sI_lookup {m : Nat} {S : Int → List Int} {v : Int} (h : v ∈ nd m) : (sI m S).lookup v = some (tI (S v)) := by
  rw [sI_eq, lookup_map (β := Unit), if_pos h]
theorem pI_lookup {m : Nat} {R : Int → List (List Int)} {v : Int} (h : v ∈ nd m) : (pI m R).lookup v = some (.tup ((R v).map tI)) := by
  rw [pI, lookup_map (β := Unit), if_pos h]
def pathOf (S : Int → List Int) (v : Int) : List Int := if v = 0 then [0] else S v
def offered (S : Int → List Int) : List Int → Bool
  | _ :: y :: r => decide (pathOf S y = y :: r)
  | _ => false
def best (R : Int → List (List Int)) (S : Int → List Int) (v : Int) : List Int := ((R v).find? (offered S)).getD []
/-- the problem's rows, as far as the walks ask -/
structure RowsOk (m : Nat) (R : Int → List (List Int)) : Prop where
  shape : ∀ v ∈ nd m, ∀ p ∈ R v, ∃ y r, p = v :: y :: r ∧ (y = 0 ∨ y ∈ nd m) ∧ p.length ≤ 5
  len : ∀ v ∈ nd m, (R v).length ≤ 200
abbrev bestJ (σ : List AO) (js : Nat) (R : Int → List (List Int)) (S : Int → List Int) (v : Int) (i : Nat) (ρ' : List (Str × PV)) (σ' : List AO) : Prop :=
  σ' = σ ∧ ρ'.lookup (Str.ofString "state") = some (.obj js) ∧ (R v).find? (offered S) = ((R v).drop i).find? (offered S)
section
variable {prog : Program} {w : World} {h₀ : Heap} {n : Nat} {σ : List AO} {P : PV → List AO → Prop}
theorem pathOf_body {js m : Nat} {S : Int → List Int} {v : Int} (G : Given h₀) (hj : σ[js]? = some (.idict (sI m S))) (hv : v = 0 ∨ v ∈ nd m) (p : P (tI (pathOf S v)) σ) :
    Exs prog w h₀ n (scopeOf (stm 6)) (bodyOf (stm 6)) [(Str.ofString "node", .int v), (Str.ofString "state", .obj js)] σ (fun fl ρ' σ' => match fl with | .next => P .none σ' | .ret d => P d σ') := by
  have B := G.base
  refine exs_cons ?_
  wtm_at "go"
  refine ⟨_, rfl, fun hb => ?_, fun hb => ?_⟩
  · have e : v = 0 := by simpa using hb
    wtm_at "go"
    subst e
    exact p
  · have e : v ≠ 0 := by simpa using hb
    have hv' : v ∈ nd m := hv.resolve_left e
    wtm_at "go"
    refine ⟨_, _, rfl, hj, ?_⟩
    wtm_at "go"
    refine call_get2 hj ?_
    rw [sI_lookup hv']
    have : pathOf S v = S v := by simp [pathOf, e]
    rw [this] at p
    exact p
theorem c_pathOf {js m : Nat} {S : Int → List Int} {v : Int} (G : Given h₀) (hj : σ[js]? = some (.idict (sI m S))) (hv : v = 0 ∨ v ∈ nd m) (p : P (tI (pathOf S v)) σ) : CallV prog w h₀ (n + 1) (.ref 58) [.obj js, .int v] σ P := by
  refine callF_of G.fPathOf G.lim rfl (by kernel_rfl) (by kernel_rfl) (by kernel_rfl) (fun x hx => ?_) (pathOf_body G hj hv p)
  simp only [List.mem_cons, List.not_mem_nil, or_false] at hx
  rcases hx with rfl | rfl <;> wtm_at "bd"
theorem offered_body {js m : Nat} {S : Int → List Int} {v y : Int} {r : List Int} (G : Given h₀) (hj : σ[js]? = some (.idict (sI m S))) (hv : y = 0 ∨ y ∈ nd m) (hl : (v :: y :: r).length ≤ 1000) (p : P (.bool (decide (pathOf S y = y :: r))) σ) :
    Exs prog w h₀ (n + 1) (scopeOf (stm 7)) (bodyOf (stm 7)) [(Str.ofString "path", tI (v :: y :: r)), (Str.ofString "state", .obj js)] σ (fun fl ρ' σ' => match fl with | .next => P .none σ' | .ret d => P d σ') := by
  have B := G.base
  refine exs_cons ?_
  wtm_at "go"
  refine itm_tup (d := .int y) (seq1 (by rw [iL_length]; simp)) rfl (by decide) (by decide) ?_
  wtm_at "go"
  refine c_pathOf G hj hv ?_
  wtm_at "go"
  refine cut_from (a := 1) (by decide) (by rw [iL_length]; simp) (by rw [iL_length]; (first | lia | omega)) ?_
  have e : (iL (v :: y :: r)).drop 1 = iL (y :: r) := rfl
  rw [e]
  wtm_at "go"
  exact p
theorem c_offered {js m : Nat} {S : Int → List Int} {v y : Int} {r : List Int} (G : Given h₀) (hj : σ[js]? = some (.idict (sI m S))) (hv : y = 0 ∨ y ∈ nd m) (hl : (v :: y :: r).length ≤ 1000) (p : P (.bool (decide (pathOf S y = y :: r))) σ) : CallV prog w h₀ (n + 2) (.ref 65) [.obj js, tI (v :: y :: r)] σ P := by
  refine callF_of G.fOffered G.lim rfl (by kernel_rfl) (by kernel_rfl) (by kernel_rfl) (fun x hx => ?_) (offered_body G hj hv hl p)
  simp only [List.mem_cons, List.not_mem_nil, or_false] at hx
  rcases hx with rfl | rfl <;> wtm_at "bd"
theorem best_body {jp js m : Nat} {R : Int → List (List Int)} {S : Int → List Int} {v : Int} (G : Given h₀) (hR : RowsOk m R) (hp : σ[jp]? = some (.idict (pI m R))) (hj : σ[js]? = some (.idict (sI m S))) (hv : v ∈ nd m) (p : P (tI (best R S v)) σ) :
    Exs prog w h₀ (n + 2) (scopeOf (stm 8)) (bodyOf (stm 8)) [(Str.ofString "node", .int v), (Str.ofString "state", .obj js), (Str.ofString "problem", .obj jp)] σ (fun fl ρ' σ' => match fl with | .next => P .none σ' | .ret d => P d σ') := by
  have B := G.base
  refine exs_cons ?_
  refine ex_for (src_tuple ?_)
  wtm_at "go"
  refine itm_idict hp (pI_lookup hv) ⟨_, rfl, ?_⟩
  refine ⟨bestJ σ js R S v, ⟨rfl, by wtm_at "lk", by simp⟩, fun _ _ _ _ => trivial, ?_, ?_⟩
  · rintro i d ρ' σ' hd ⟨rfl, h1, h2⟩
    obtain ⟨pp, hpp, rfl⟩ : ∃ pp, (R v)[i]? = some pp ∧ d = tI pp := by
      rw [List.getElem?_map] at hd
      obtain ⟨pp, h1, h2⟩ := Option.map_eq_some_iff.mp hd
      exact ⟨pp, h1, h2.symm⟩
    obtain ⟨y, r, rfl, hy, hl⟩ := hR.shape v hv pp (List.mem_of_getElem? hpp)
    have hdrop : (R v).drop i = (v :: y :: r) :: (R v).drop (i + 1) := by
      obtain ⟨hi, e⟩ := List.getElem?_eq_some_iff.mp hpp
      rw [List.drop_eq_getElem_cons hi, e]
    wtm_at "go"
    refine tst_val ?_
    wtm_at "go"
    refine c_offered G hj hy (by (first | lia | omega)) (tru_bool ⟨fun hb => ?_, fun hb => ?_⟩)
    · wtm_at "go"
      have e : best R S v = v :: y :: r := by
        rw [best, h2, hdrop, List.find?_cons]
        simp only [offered, hb]; rfl
      rw [e] at p
      exact p
    · wtm_at "go"
      refine ⟨by wtm_at "lk", ?_⟩
      rw [h2, hdrop, List.find?_cons]
      simp only [offered, hb]
  · rintro ρ' σ' ⟨rfl, h1, h2⟩
    wtm_at "go"
    have e : best R S v = [] := by
      rw [best, h2, List.length_map, List.drop_length]; rfl
    rw [e] at p
    exact p
theorem c_best {jp js m : Nat} {R : Int → List (List Int)} {S : Int → List Int} {v : Int} (G : Given h₀) (hR : RowsOk m R) (hp : σ[jp]? = some (.idict (pI m R))) (hj : σ[js]? = some (.idict (sI m S))) (hv : v ∈ nd m) (p : P (tI (best R S v)) σ) :
    CallV prog w h₀ (n + 3) (.ref 72) [.obj jp, .obj js, .int v] σ P := by
  refine callF_of G.fBest G.lim rfl (by kernel_rfl) (by kernel_rfl) (by kernel_rfl) (fun x hx => ?_) (best_body G hR hp hj hv p)
  simp only [List.mem_cons, List.not_mem_nil, or_false] at hx
  rcases hx with rfl | rfl | rfl <;> wtm_at "bd"
end
theorem perm_sorted_eq : ∀ (l l' : List Int), l.Perm l' → l.Pairwise (· ≤ ·) → l'.Pairwise (· ≤ ·) → l = l'
  | [], l', h, _, _ => (List.nil_perm.mp h).symm ▸ rfl
  | a :: l, [], h, _, _ => by have := h.length_eq; simp at this
  | a :: l, b :: l', h, h1, h2 => by
    have hab : a = b := by
      have ha : a ∈ b :: l' := h.mem_iff.mp List.mem_cons_self
      have hb : b ∈ a :: l := h.mem_iff.mpr List.mem_cons_self
      have e1 : b ≤ a := by
        rcases List.mem_cons.mp ha with e | e
        · exact Int.le_of_eq e.symm
        · exact (List.pairwise_cons.mp h2).1 a e
      have e2 : a ≤ b := by
        rcases List.mem_cons.mp hb with e | e
        · exact Int.le_of_eq e.symm
        · exact (List.pairwise_cons.mp h1).1 b e
      omega
    subst hab
    rw [perm_sorted_eq l l' (List.Perm.cons_inv h) (List.pairwise_cons.mp h1).2 (List.pairwise_cons.mp h2).2]
theorem nd_sorted (m : Nat) : (nd m).Pairwise (· ≤ ·) := by
  unfold nd
  rw [List.pairwise_map]
  exact List.Pairwise.imp (fun {a b} (h : a < b) => by omega) List.pairwise_lt_range
theorem mkD_id : ∀ (l acc : List (Int × PV)), ((acc ++ l).map (·.1)).Nodup → l.foldl (fun acc p => putK acc p.1 p.2) acc = acc ++ l
  | [], acc, _ => by simp
  | p :: l, acc, h => by
    rw [List.foldl_cons, put_new, mkD_id l (acc ++ [p]) (by simpa using h)]
    · simp
    · intro hm
      rw [List.map_append, List.nodup_append] at h
      exact h.2.2 _ hm _ (by simp) rfl
theorem mkD_sI (m : Nat) (S : Int → List Int) : mkD (sI m S) = sI m S := by
  unfold mkD
  rw [mkD_id (sI m S) []]
  · rfl
  · rw [sI_eq, List.nil_append, List.map_map]
    have : ((fun x : Int × PV => x.1) ∘ fun v => (v, tI (S v))) = id := rfl
    rw [this, List.map_id]; exact nd_nodup m
def upd (S : Int → List Int) (v : Int) (b : List Int) : Int → List Int := fun u => if u = v then b else S u
theorem put_sI {m : Nat} {S : Int → List Int} {v : Int} {b : List Int} (h : v ∈ nd m) : putK (sI m S) v (tI b) = sI m (upd S v b) := by
  unfold putK
  rw [if_pos]
  · rw [sI_eq, sI_eq, List.map_map]
    apply List.map_congr_left
    intro u _
    simp only [Function.comp, upd]
    split <;> simp_all
  · rw [sI_eq, List.any_map, List.any_eq_true]
    exact ⟨v, h, by simp⟩
def unq (m : Nat) (R : Int → List (List Int)) (S : Int → List Int) : List Int := (nd m).filter fun v => !decide (best R S v = S v)
theorem pathOf_nd {m : Nat} {S : Int → List Int} {v : Int} (h : v ∈ nd m) : pathOf S v = S v := by
  have := nd_mem.mp h
  unfold pathOf
  rw [if_neg (by omega)]
theorem sI_length (m : Nat) (S : Int → List Int) : (sI m S).length = m - 1 := by rw [sI_eq, List.length_map, nd_length]
theorem pI_length (m : Nat) (R : Int → List (List Int)) : (pI m R).length = m - 1 := by rw [pI, List.length_map, nd_length]
theorem pI_keys (m : Nat) (R : Int → List (List Int)) : (pI m R).map (·.1) = nd m := by
  rw [pI, List.map_map]
  have : ((fun x : Int × PV => x.1) ∘ fun v => (v, PV.tup ((R v).map tI))) = id := rfl
  rw [this, List.map_id]
abbrev unqA (σ : List AO) (m : Nat) (R : Int → List (List Int)) (S : Int → List Int) (i : Nat) (acc : List PV) (σ' : List AO) : Prop :=
  σ'[σ.length]? = some (.list (iL (nd m))) ∧ σ'[(σ ++ [AO.list (iL (nd m))]).length]? = some (.list acc) ∧ acc = iL (((nd m).take i).filter fun v => !decide (best R S v = S v)) ∧ Grow σ σ'
section
variable {prog : Program} {w : World} {h₀ : Heap} {n : Nat} {σ : List AO} {P : PV → List AO → Prop}
theorem call_sorted_p {jp m : Nat} {R : Int → List (List Int)} (hm : m ≤ 5) (hp : σ[jp]? = some (.idict (pI m R))) (p : P (.obj σ.length) (σ ++ [.list (iL (nd m))])) : CallV prog w h₀ n (.builtin "sorted") [.obj jp] σ P := by
  refine call_sorted_d hp (by rw [pI_length]; omega) fun ns' h1 h2 => ?_
  rw [pI_keys] at h1
  rw [perm_sorted_eq _ _ h1 h2 (nd_sorted m)]
  exact p
theorem unquiet_body {jp js m : Nat} {R : Int → List (List Int)} {S : Int → List Int} (G : Given h₀) (hm : m ≤ 5) (hR : RowsOk m R) (hp : σ[jp]? = some (.idict (pI m R))) (hj : σ[js]? = some (.idict (sI m S)))
    (p : ∀ j σ', Grow σ σ' → σ'[j]? = some (.list (iL (unq m R S))) → P (.obj j) σ') :
    Exs prog w h₀ (n + 3) (scopeOf (stm 9)) (bodyOf (stm 9)) [(Str.ofString "state", .obj js), (Str.ofString "problem", .obj jp)] σ (fun fl ρ' σ' => match fl with | .next => P .none σ' | .ret d => P d σ') := by
  have B := G.base
  refine exs_cons ?_
  refine ex_return ?_
  refine ev_comp [(Str.ofString "problem", .obj jp), (Str.ofString "state", .obj js)] (src_list ?_) (by kernel_rfl) (cells_of (by kernel_rfl)) (locals_of (by kernel_rfl)) (by kernel_rfl) (sub_cons (by wtm_at "lk") (sub_cons (by wtm_at "lk") sub_nil)) (one_of [Str.ofString "problem", Str.ofString "state"] rfl (by kernel_rfl)) (free_of (by kernel_rfl))
  wtm_at "go"
  refine call_sorted_p hm hp ⟨_, _, rfl, last_get, ?_⟩
  refine ⟨unqA σ m R S, ⟨get_push last_get, last_get, by simp [iL], (Grow.push _).trans (Grow.push _)⟩, fun i acc σ h => ⟨h.1, h.2.1⟩, by rw [iL_length, nd_length]; omega, ?_, ?_⟩
  · rintro i d acc σ₁ hd ⟨hs1, hacc, rfl, hg⟩
    obtain ⟨v, hv, rfl⟩ : ∃ v, (nd m)[i]? = some v ∧ d = .int v := by
      unfold iL at hd
      rw [List.getElem?_map] at hd
      obtain ⟨x, h1, h2⟩ := Option.map_eq_some_iff.mp hd
      exact ⟨x, h1, h2.symm⟩
    have hvn := List.mem_of_getElem? hv
    have htk : ∀ f : Int → Bool, ((nd m).take (i + 1)).filter f = ((nd m).take i).filter f ++ (if f v then [v] else []) := fun f => by
      rw [List.take_add_one, hv, List.filter_append]
      by_cases h : f v <;> simp [h]
    show Tst _ _ _ _ _ _ _ _ _
    wtm_at "go"
    refine c_best G hR (hg _ _ hp) (hg _ _ hj) hvn ?_
    wtm_at "go"
    refine c_pathOf G (hg _ _ hj) (.inr hvn) ?_
    rw [pathOf_nd hvn]
    wtm_at "go"
    refine ⟨_, rfl, fun hb => ?_, fun hb => ⟨hs1, hacc, by rw [htk]; simp only [hb]; simp, hg⟩⟩
    wtm_at "go"
    refine ⟨hacc, get_set (by simp) hs1, set_same hacc, by rw [htk]; simp only [hb]; simp [iL], hg.set _ (by simp)⟩
  · rintro acc σ₁ ⟨hs1, hacc, rfl, hg⟩
    rw [iL_length, List.take_length] at hacc
    exact p _ _ hg hacc
theorem c_unquiet {jp js m : Nat} {R : Int → List (List Int)} {S : Int → List Int} (G : Given h₀) (hm : m ≤ 5) (hR : RowsOk m R) (hp : σ[jp]? = some (.idict (pI m R))) (hj : σ[js]? = some (.idict (sI m S)))
    (p : ∀ j σ', Grow σ σ' → σ'[j]? = some (.list (iL (unq m R S))) → P (.obj j) σ') : CallV prog w h₀ (n + 4) (.ref 77) [.obj jp, .obj js] σ P := by
  refine callF_of G.fUnquiet G.lim rfl (by kernel_rfl) (by kernel_rfl) (by kernel_rfl) (fun x hx => ?_) (unquiet_body G hm hR hp hj p)
  simp only [List.mem_cons, List.not_mem_nil, or_false] at hx
  rcases hx with rfl | rfl <;> wtm_at "bd"
theorem stable_body {jp js m : Nat} {R : Int → List (List Int)} {S : Int → List Int} (G : Given h₀) (hm : m ≤ 5) (hR : RowsOk m R) (hp : σ[jp]? = some (.idict (pI m R))) (hj : σ[js]? = some (.idict (sI m S)))
    (p : ∀ σ', Grow σ σ' → P (.bool (unq m R S).isEmpty) σ') :
    Exs prog w h₀ (n + 4) (scopeOf (stm 10)) (bodyOf (stm 10)) [(Str.ofString "state", .obj js), (Str.ofString "problem", .obj jp)] σ (fun fl ρ' σ' => match fl with | .next => P .none σ' | .ret d => P d σ') := by
  have B := G.base
  refine exs_cons ?_
  wtm_at "go"
  refine c_unquiet G hm hR hp hj fun j σ' hg hl => ?_
  wtm_at "go"
  refine cmp_eq_nil (get_push hl) last_get ?_
  rw [iL_empty]
  exact p _ (hg.trans (Grow.push _))
theorem c_stable {jp js m : Nat} {R : Int → List (List Int)} {S : Int → List Int} (G : Given h₀) (hm : m ≤ 5) (hR : RowsOk m R) (hp : σ[jp]? = some (.idict (pI m R))) (hj : σ[js]? = some (.idict (sI m S)))
    (p : ∀ σ', Grow σ σ' → P (.bool (unq m R S).isEmpty) σ') : CallV prog w h₀ (n + 5) (.ref 84) [.obj jp, .obj js] σ P := by
  refine callF_of G.fStable G.lim rfl (by kernel_rfl) (by kernel_rfl) (by kernel_rfl) (fun x hx => ?_) (stable_body G hm hR hp hj p)
  simp only [List.mem_cons, List.not_mem_nil, or_false] at hx
  rcases hx with rfl | rfl <;> wtm_at "bd"
theorem activated_body {jp js m : Nat} {R : Int → List (List Int)} {S : Int → List Int} {v : Int} (G : Given h₀) (hm : m ≤ 5) (hR : RowsOk m R) (hp : σ[jp]? = some (.idict (pI m R))) (hj : σ[js]? = some (.idict (sI m S))) (hv : v ∈ nd m)
    (p : ∀ j σ', Grow σ σ' → σ.length ≤ j → σ'[j]? = some (.idict (sI m (upd S v (best R S v)))) → P (.obj j) σ') :
    Exs prog w h₀ (n + 3) (scopeOf (stm 11)) (bodyOf (stm 11)) [(Str.ofString "node", .int v), (Str.ofString "state", .obj js), (Str.ofString "problem", .obj jp)] σ (fun fl ρ' σ' => match fl with | .next => P .none σ' | .ret d => P d σ') := by
  have B := G.base
  refine exs_cons ?_
  wtm_at "go"
  refine ⟨_, _, rfl, hj, by rw [sI_length]; omega, ?_⟩
  refine call_dict last_get (by rw [sI_length]; omega) ?_
  rw [mkD_sI]
  have g1 : Grow σ (σ ++ [AO.list ((sI m S).map pairP)] ++ [AO.idict (sI m S)]) := (Grow.push _).trans (Grow.push _)
  wtm_at "go"
  refine c_best G hR (g1 _ _ hp) (g1 _ _ hj) hv ?_
  wtm_at "go"
  refine set_idict last_get (by rw [sI_length]; omega) ?_
  rw [put_sI hv]
  wtm_at "go"
  exact p _ _ (g1.set _ (by simp)) (by simp) (set_same last_get)
theorem c_activated {jp js m : Nat} {R : Int → List (List Int)} {S : Int → List Int} {v : Int} (G : Given h₀) (hm : m ≤ 5) (hR : RowsOk m R) (hp : σ[jp]? = some (.idict (pI m R))) (hj : σ[js]? = some (.idict (sI m S))) (hv : v ∈ nd m)
    (p : ∀ j σ', Grow σ σ' → σ.length ≤ j → σ'[j]? = some (.idict (sI m (upd S v (best R S v)))) → P (.obj j) σ') : CallV prog w h₀ (n + 4) (.ref 91) [.obj jp, .obj js, .int v] σ P := by
  refine callF_of G.fActivated G.lim rfl (by kernel_rfl) (by kernel_rfl) (by kernel_rfl) (fun x hx => ?_) (activated_body G hm hR hp hj hv p)
  simp only [List.mem_cons, List.not_mem_nil, or_false] at hx
  rcases hx with rfl | rfl | rfl <;> wtm_at "bd"
end
theorem iL_getd {l : List Int} {i : Nat} {d : PV} (hd : (iL l)[i]? = some d) : ∃ v, l[i]? = some v ∧ d = .int v := by
  unfold iL at hd
  rw [List.getElem?_map] at hd
  obtain ⟨x, h1, h2⟩ := Option.map_eq_some_iff.mp hd
  exact ⟨x, h1, h2.symm⟩
section
variable {prog : Program} {w : World} {h₀ : Heap} {n : Nat} {σ : List AO} {P : PV → List AO → Prop}
theorem all_body {jp js m : Nat} {R : Int → List (List Int)} {S : Int → List Int} (G : Given h₀) (hm : m ≤ 5) (hR : RowsOk m R) (hp : σ[jp]? = some (.idict (pI m R))) (hj : σ[js]? = some (.idict (sI m S)))
    (p : ∀ j σ', Grow σ σ' → σ'[j]? = some (.idict (sI m (best R S))) → P (.obj j) σ') :
    Exs prog w h₀ (n + 3) (scopeOf (stm 12)) (bodyOf (stm 12)) [(Str.ofString "state", .obj js), (Str.ofString "problem", .obj jp)] σ (fun fl ρ' σ' => match fl with | .next => P .none σ' | .ret d => P d σ') := by
  have B := G.base
  refine exs_cons ?_
  wtm_at "go"
  refine ev_comp [(Str.ofString "problem", .obj jp), (Str.ofString "state", .obj js)] (src_list ?_) (by kernel_rfl) (cells_of (by kernel_rfl)) (locals_of (by kernel_rfl)) (by kernel_rfl) (sub_cons (by wtm_at "lk") (sub_cons (by wtm_at "lk") sub_nil)) (one_of [Str.ofString "problem", Str.ofString "state"] rfl (by kernel_rfl)) (free_of (by kernel_rfl))
  wtm_at "go"
  refine call_sorted_p hm hp ⟨_, _, rfl, last_get, ?_⟩
  refine ⟨fun i acc σ' => σ'[σ.length]? = some (.list (iL (nd m))) ∧ σ'[(σ ++ [AO.list (iL (nd m))]).length]? = some (.list acc) ∧ acc = ((nd m).take i).map (fun v => pairP (v, tI (best R S v))) ∧ Grow σ σ', ⟨get_push last_get, last_get, by simp, (Grow.push _).trans (Grow.push _)⟩, fun i acc σ h => ⟨h.1, h.2.1⟩, by rw [iL_length, nd_length]; omega, ?_, ?_⟩
  · rintro i d acc σ₁ hd ⟨hs1, hacc, rfl, hg⟩
    obtain ⟨v, hv, rfl⟩ := iL_getd hd
    have hvn := List.mem_of_getElem? hv
    refine And.intro (fun _ => ?_) (fun h => absurd h (by decide))
    wtm_at "go"
    refine c_best G hR (hg _ _ hp) (hg _ _ hj) hvn ?_
    wtm_at "go"
    refine ⟨hacc, get_set (by simp) hs1, set_same hacc, ?_, hg.set _ (by simp)⟩
    rw [List.take_add_one, hv, List.map_append]
    rfl
  · rintro acc σ₁ ⟨hs1, hacc, rfl, hg⟩
    rw [iL_length, List.take_length] at hacc
    have e : (nd m).map (fun v => pairP (v, tI (best R S v))) = (sI m (best R S)).map pairP := by rw [sI_eq, List.map_map]; rfl
    rw [e] at hacc
    refine call_dict hacc (by rw [sI_length]; omega) ?_
    rw [mkD_sI]
    exact p _ _ (hg.trans (Grow.push _)) last_get
theorem c_all {jp js m : Nat} {R : Int → List (List Int)} {S : Int → List Int} (G : Given h₀) (hm : m ≤ 5) (hR : RowsOk m R) (hp : σ[jp]? = some (.idict (pI m R))) (hj : σ[js]? = some (.idict (sI m S)))
    (p : ∀ j σ', Grow σ σ' → σ'[j]? = some (.idict (sI m (best R S))) → P (.obj j) σ') : CallV prog w h₀ (n + 4) (.ref 96) [.obj jp, .obj js] σ P := by
  refine callF_of G.fAll G.lim rfl (by kernel_rfl) (by kernel_rfl) (by kernel_rfl) (fun x hx => ?_) (all_body G hm hR hp hj p)
  simp only [List.mem_cons, List.not_mem_nil, or_false] at hx
  rcases hx with rfl | rfl <;> wtm_at "bd"
theorem no_body {jp m : Nat} {R : Int → List (List Int)} (G : Given h₀) (hm : m ≤ 5) (hp : σ[jp]? = some (.idict (pI m R)))
    (p : ∀ j σ', Grow σ σ' → σ'[j]? = some (.idict (sI m fun _ => [])) → P (.obj j) σ') :
    Exs prog w h₀ n (scopeOf (stm 13)) (bodyOf (stm 13)) [(Str.ofString "problem", .obj jp)] σ (fun fl ρ' σ' => match fl with | .next => P .none σ' | .ret d => P d σ') := by
  have B := G.base
  refine exs_cons ?_
  wtm_at "go"
  refine ev_comp [] (src_list ?_) (by kernel_rfl) (cells_of (by kernel_rfl)) (locals_of (by kernel_rfl)) (by kernel_rfl) sub_nil (one_of [] rfl (by kernel_rfl)) (free_of (by kernel_rfl))
  wtm_at "go"
  refine call_sorted_p hm hp ⟨_, _, rfl, last_get, ?_⟩
  refine ⟨fun i acc σ' => σ'[σ.length]? = some (.list (iL (nd m))) ∧ σ'[(σ ++ [AO.list (iL (nd m))]).length]? = some (.list acc) ∧ acc = ((nd m).take i).map (fun v => pairP (v, tI [])) ∧ Grow σ σ', ⟨get_push last_get, last_get, by simp, (Grow.push _).trans (Grow.push _)⟩, fun i acc σ h => ⟨h.1, h.2.1⟩, by rw [iL_length, nd_length]; omega, ?_, ?_⟩
  · rintro i d acc σ₁ hd ⟨hs1, hacc, rfl, hg⟩
    obtain ⟨v, hv, rfl⟩ := iL_getd hd
    refine And.intro (fun _ => ?_) (fun h => absurd h (by decide))
    wtm_at "go"
    refine ⟨hacc, get_set (by simp) hs1, set_same hacc, ?_, hg.set _ (by simp)⟩
    rw [List.take_add_one, hv, List.map_append]
    rfl
  · rintro acc σ₁ ⟨hs1, hacc, rfl, hg⟩
    rw [iL_length, List.take_length] at hacc
    have e : (nd m).map (fun v => pairP (v, tI [])) = (sI m fun _ => []).map pairP := by rw [sI_eq, List.map_map]; rfl
    rw [e] at hacc
    refine call_dict hacc (by rw [sI_length]; omega) ?_
    rw [mkD_sI]
    exact p _ _ (hg.trans (Grow.push _)) last_get
theorem c_no {jp m : Nat} {R : Int → List (List Int)} (G : Given h₀) (hm : m ≤ 5) (hp : σ[jp]? = some (.idict (pI m R)))
    (p : ∀ j σ', Grow σ σ' → σ'[j]? = some (.idict (sI m fun _ => [])) → P (.obj j) σ') : CallV prog w h₀ (n + 1) (.ref 101) [.obj jp] σ P := by
  refine callF_of G.fNo G.lim rfl (by kernel_rfl) (by kernel_rfl) (by kernel_rfl) (fun x hx => ?_) (no_body G hm hp p)
  simp only [List.mem_cons, List.not_mem_nil, or_false] at hx
  subst hx; wtm_at "bd"
end

theorem Grow.len {σ σ' : List AO} (g : Grow σ σ') : σ.length ≤ σ'.length := by
  rcases Nat.lt_or_ge σ'.length σ.length with h | h
  · have := g (σ.length - 1) _ (List.getElem?_eq_getElem (by omega))
    have := (List.getElem?_eq_some_iff.mp this).1
    omega
  · exact h
/-- one activation; what it changes is counted -/
def stepC (R : Int → List (List Int)) (x : (Int → List Int) × Int) (v : Int) : (Int → List Int) × Int := (upd x.1 v (best R x.1 v), x.2 + if best R x.1 v = x.1 v then 0 else 1)
def runC (R : Int → List (List Int)) (S : Int → List Int) (wy : List Int) : (Int → List Int) × Int := wy.foldl (stepC R) (S, 0)
theorem hits_all (m : Nat) (S S' : Int → List Int) : ((((nd m).map fun v => (v, S' v)).length == ((nd m).map fun v => (v, S v)).length) && hitsB ((nd m).map fun v => (v, S v)) ((nd m).map fun v => (v, S' v))) = (nd m).all fun v => decide (S' v = S v) := by
  simp only [List.length_map, beq_self_eq_true, Bool.true_and, hitsB, List.all_map]
  rw [Bool.eq_iff_iff, List.all_eq_true, List.all_eq_true]
  constructor <;> intro h v hv <;> have := h v hv <;> simp only [Function.comp, lookup_map (β := Unit), if_pos hv] at this ⊢ <;> exact this
theorem hits_upd {m : Nat} {S : Int → List Int} {v : Int} {b : List Int} (h : v ∈ nd m) : ((nd m).all fun u => decide (upd S v b u = S u)) = decide (b = S v) := by
  rw [Bool.eq_iff_iff, List.all_eq_true, decide_eq_true_iff]
  constructor
  · intro h'
    have := h' v h
    simpa [upd] using this
  · intro e u _
    by_cases h' : u = v
    · subst h'; simp [upd, e]
    · simp [upd, h']
abbrev rowJ (σ : List AO) (jp : Nat) (m : Nat) (R : Int → List (List Int)) (S : Int → List Int) (wy : List Int) (i : Nat) (ρ' : List (Str × PV)) (σ' : List AO) : Prop :=
  ∃ j, ρ'.lookup (Str.ofString "problem") = some (.obj jp) ∧ ρ'.lookup (Str.ofString "state") = some (.obj j) ∧ ρ'.lookup (Str.ofString "changes") = some (.int (runC R S (wy.take i)).2) ∧
    σ'[j]? = some (.idict (sI m (runC R S (wy.take i)).1)) ∧ Grow σ σ' ∧ (wy.take i ≠ [] → σ.length ≤ j)
section
variable {prog : Program} {w : World} {h₀ : Heap} {n : Nat} {σ : List AO} {P : PV → List AO → Prop}
theorem row_body {jp js jr m : Nat} {R : Int → List (List Int)} {S : Int → List Int} {wy : List Int} (G : Given h₀) (hm : m ≤ 5) (hR : RowsOk m R) (hp : σ[jp]? = some (.idict (pI m R))) (hj : σ[js]? = some (.idict (sI m S))) (hr : σ[jr]? = some (.list (iL wy))) (hw : ∀ v ∈ wy, v ∈ nd m)
    (p : ∀ j σ', Grow σ σ' → (wy ≠ [] → σ.length ≤ j) → σ'[j]? = some (.idict (sI m (runC R S wy).1)) → P (.tup [.obj j, .int (runC R S wy).2]) σ') :
    Exs prog w h₀ (n + 4) (scopeOf (stm 14)) (bodyOf (stm 14)) [(Str.ofString "row", .obj jr), (Str.ofString "state", .obj js), (Str.ofString "problem", .obj jp)] σ (fun fl ρ' σ' => match fl with | .next => P .none σ' | .ret d => P d σ') := by
  have B := G.base
  refine exs_cons ?_
  wtm_at "go"
  refine ex_for (src_list ?_)
  wtm_at "go"
  refine ⟨_, _, rfl, hr, ?_⟩
  refine ⟨rowJ σ jp m R S wy, ⟨js, by wtm_at "lk", by wtm_at "lk", (show _ = some (PV.int 0) by wtm_at "lk"), hj, Grow.refl _, by simp⟩, fun i ρ' σ' h => by obtain ⟨j, _, _, _, _, g, _⟩ := h; exact g _ _ hr, ?_, ?_⟩
  · rintro i d ρ' σ₁ hd ⟨j, h1, h2, h3, hj1, hg, hne⟩
    obtain ⟨v, hv, rfl⟩ := iL_getd hd
    have hvn := hw v (List.mem_of_getElem? hv)
    have hrun : runC R S (wy.take (i + 1)) = stepC R (runC R S (wy.take i)) v := by
      rw [List.take_add_one, hv]
      simp [runC, List.foldl_append]
    wtm_at "go"
    refine c_activated G hm hR (hg _ _ hp) hj1 hvn fun j' σ₂ hg2 hl hj2 => ?_
    wtm_at "go"
    show Ex _ _ _ _ _ (Stmt.AugAssign _ _ _ _) _ _ _
    refine ex_aug (d := .int (runC R S (wy.take i)).2) (by wtm_at "lk") (by kernel_rfl) ?_
    wtm_at "go"
    refine cmp_ne_d hj2 (hg2 _ _ hj1) ?_
    rw [hits_all, hits_upd hvn]
    refine iop_add_bool ?_
    wtm_at "go"
    refine ⟨j', by wtm_at "lk", by wtm_at "lk", ?_, ?_, hg.trans hg2, fun _ => Nat.le_trans (Grow.len hg) hl⟩
    · rw [hrun]
      have e : (runC R S (wy.take i)).2 + (if (!decide (best R (runC R S (wy.take i)).1 v = (runC R S (wy.take i)).1 v)) = true then (1 : Int) else 0) = (stepC R (runC R S (wy.take i)) v).2 := by
        simp only [stepC]
        by_cases h : best R (runC R S (wy.take i)).1 v = (runC R S (wy.take i)).1 v <;> simp [h]
      rw [← e]
      wtm_at "lk"
    · rw [hrun]; exact hj2
  · rintro ρ' σ₁ ⟨j, h1, h2, h3, hj1, hg, hne⟩
    rw [iL_length, List.take_length] at h3 hj1 hne
    wtm_at "go"
    exact p j _ hg hne hj1
theorem c_row {jp js jr m : Nat} {R : Int → List (List Int)} {S : Int → List Int} {wy : List Int} (G : Given h₀) (hm : m ≤ 5) (hR : RowsOk m R) (hp : σ[jp]? = some (.idict (pI m R))) (hj : σ[js]? = some (.idict (sI m S))) (hr : σ[jr]? = some (.list (iL wy))) (hw : ∀ v ∈ wy, v ∈ nd m)
    (p : ∀ j σ', Grow σ σ' → (wy ≠ [] → σ.length ≤ j) → σ'[j]? = some (.idict (sI m (runC R S wy).1)) → P (.tup [.obj j, .int (runC R S wy).2]) σ') : CallV prog w h₀ (n + 5) (.ref 108) [.obj jp, .obj js, .obj jr] σ P := by
  refine callF_of G.fRow G.lim rfl (by kernel_rfl) (by kernel_rfl) (by kernel_rfl) (fun x hx => ?_) (row_body G hm hR hp hj hr hw p)
  simp only [List.mem_cons, List.not_mem_nil, or_false] at hx
  rcases hx with rfl | rfl | rfl <;> wtm_at "bd"
end
theorem upd_same (S : Int → List Int) (v : Int) : upd S v (S v) = S := by
  funext u
  unfold upd
  split
  · rename_i h; rw [h]
  · rfl
theorem runC_fix {R : Int → List (List Int)} {S : Int → List Int} : ∀ (wy : List Int), (∀ v ∈ wy, best R S v = S v) → runC R S wy = (S, 0) := by
  intro wy
  unfold runC
  induction wy with
  | nil => intro _; rfl
  | cons v wy ih =>
    intro h
    rw [List.foldl_cons]
    have e : stepC R (S, 0) v = (S, 0) := by
      have := h v List.mem_cons_self
      simp only [stepC, this, if_true, upd_same, Int.add_zero]
    rw [e]
    exact ih fun u hu => h u (List.mem_cons_of_mem _ hu)
section
variable {prog : Program} {w : World} {h₀ : Heap} {n : Nat} {σ : List AO} {P : PV → List AO → Prop}
theorem rounds_body {jp js m : Nat} {R : Int → List (List Int)} {S : Int → List Int} (G : Given h₀) (hm : 2 ≤ m ∧ m ≤ 5) (hR : RowsOk m R) (hp : σ[jp]? = some (.idict (pI m R))) (hj : σ[js]? = some (.idict (sI m S))) (hq : ∀ v ∈ nd m, best R S v = S v)
    (p : ∀ j σ', Grow σ σ' → σ.length ≤ j → σ'[j]? = some (.idict (sI m S)) → P (.tup [.obj j, .bool true]) σ') :
    Exs prog w h₀ (n + 5) (scopeOf (stm 15)) (bodyOf (stm 15)) [(Str.ofString "most", .int 1), (Str.ofString "state", .obj js), (Str.ofString "problem", .obj jp)] σ (fun fl ρ' σ' => match fl with | .next => P .none σ' | .ret d => P d σ') := by
  have B := G.base
  have hnil : nd m ≠ [] := by
    intro e
    have := nd_length m
    rw [e] at this
    simp at this
    (first | lia | omega)
  refine exs_cons ?_
  refine ex_for (src_range1 B in_range (by kernel_rfl) ?_)
  wtm_at "go"
  refine ⟨_, rfl, by decide, by decide, ?_⟩
  refine ⟨fun i ρ' σ' => i = 0 ∧ σ' = σ ∧ ρ'.lookup (Str.ofString "problem") = some (.obj jp) ∧ ρ'.lookup (Str.ofString "state") = some (.obj js), ⟨rfl, rfl, by wtm_at "lk", by wtm_at "lk"⟩, fun _ _ _ _ => trivial, ?_, ?_⟩
  · rintro i d ρ' σ' hd ⟨rfl, rfl, h1, h2⟩
    wtm_at "go"
    refine ex_assign_tuple ?_
    wtm_at "go"
    refine call_sorted_p hm.2 hp ?_
    wtm_at "go"
    refine c_row G hm.2 hR (get_push hp) (get_push hj) last_get (fun v h => h) fun j σ₁ hg hl hj1 => ?_
    rw [runC_fix _ hq] at hj1 ⊢
    refine tgt_tuple ?_ rfl
    refine tgtl_cons ?_
    wtm_at "go"
    refine tgtl_cons ?_
    wtm_at "go"
    refine tgtl_nil ?_
    wtm_at "go"
    refine ⟨_, rfl, fun _ => ?_, fun h => absurd h (by show ¬ (((0 : Int) == 0) = false); decide)⟩
    wtm_at "go"
    exact p j _ ((Grow.push _).trans hg) (by have := hl hnil; simp at this; (first | lia | omega)) hj1
  · rintro ρ' σ' ⟨h0, rfl, h1, h2⟩
    rw [rng_length] at h0
    exact absurd h0 (by decide)
theorem c_rounds {jp js m : Nat} {R : Int → List (List Int)} {S : Int → List Int} (G : Given h₀) (hm : 2 ≤ m ∧ m ≤ 5) (hR : RowsOk m R) (hp : σ[jp]? = some (.idict (pI m R))) (hj : σ[js]? = some (.idict (sI m S))) (hq : ∀ v ∈ nd m, best R S v = S v)
    (p : ∀ j σ', Grow σ σ' → σ.length ≤ j → σ'[j]? = some (.idict (sI m S)) → P (.tup [.obj j, .bool true]) σ') : CallV prog w h₀ (n + 6) (.ref 115) [.obj jp, .obj js, .int 1] σ P := by
  refine callF_of G.fRounds G.lim rfl (by kernel_rfl) (by kernel_rfl) (by kernel_rfl) (fun x hx => ?_) (rounds_body G hm hR hp hj hq p)
  simp only [List.mem_cons, List.not_mem_nil, or_false] at hx
  rcases hx with rfl | rfl | rfl <;> wtm_at "bd"
end
/-- the rest of what check_problem asks -/
structure RowsGood (m : Nat) (R : Int → List (List Int)) : Prop where
  simp : ∀ v ∈ nd m, ∀ p ∈ R v, p.Nodup ∧ p.getLast? = some 0
  nd : ∀ v ∈ nd m, (R v).Nodup
abbrev checkJ (σ : List AO) (jp : Nat) (m : Nat) (i : Nat) (ρ' : List (Str × PV)) (σ' : List AO) : Prop :=
  ρ'.lookup (Str.ofString "problem") = some (.obj jp) ∧ σ'[σ.length]? = some (.list (iL (nd m))) ∧ Grow σ σ'
abbrev checkJ2 (σ₁ : List AO) (jp : Nat) (v : Int) (k : Nat) (ρ' : List (Str × PV)) (σ' : List AO) : Prop :=
  ρ'.lookup (Str.ofString "problem") = some (.obj jp) ∧ ρ'.lookup (Str.ofString "node") = some (.int v) ∧ Grow σ₁ σ'
abbrev checkA (σ₂ : List AO) (ns' : List Int) (pp : List Int) (i : Nat) (acc : List PV) (σ' : List AO) : Prop :=
  σ'[(σ₂ ++ [AO.list (iL ns')]).length]? = some (.list acc) ∧ acc = (pp.take i).map (fun i => pairP (i, .bool true)) ∧ Grow σ₂ σ'
section
variable {prog : Program} {w : World} {h₀ : Heap} {n : Nat} {sc : Scope} {ρ : List (Str × PV)} {σ : List AO} {P : PV → List AO → Prop}
theorem ev_neg {e : Expr} {pos : Pos} (h : Ev prog w h₀ n sc e ρ σ fun d σ' => ∃ i : Int, d = .int i ∧ P (.int (-i)) σ') : Ev prog w h₀ n sc (.UnaryOp .USub e pos) ρ σ P := by
  intro env A s α hsc hr F S E Q hQ
  refine UnaryOp_ (h env A s α hsc hr F S _ _ fun v d s₁ α₁ σ₁ g₁ S₁ r₁ p₁ => ?_)
  obtain ⟨i, rfl, p⟩ := p₁
  cases r₁
  exact PySem.P.neg_int (hQ _ (.int (-i)) { s₁ with toks := s₁.toks + 1 } α₁ σ₁ (g₁.trans Go.toks) S₁ (.int _ _) p)
theorem mkD_true : ∀ (l : List Int), l.Nodup → mkD (l.map fun i => (i, PV.bool true)) = l.map fun i => (i, PV.bool true) := by
  intro l h
  unfold mkD
  rw [mkD_id _ []]
  · rfl
  · rw [List.nil_append, List.map_map]
    have : ((fun x : Int × PV => x.1) ∘ fun i => (i, PV.bool true)) = id := rfl
    rw [this, List.map_id]; exact h
theorem check_body {jp m : Nat} {R : Int → List (List Int)} (G : Given h₀) (hm : m ≤ 5) (hR : RowsOk m R) (hG : RowsGood m R) (hp : σ[jp]? = some (.idict (pI m R)))
    (p : ∀ σ', Grow σ σ' → P .none σ') :
    Exs prog w h₀ (n + 1) (scopeOf (stm 5)) (bodyOf (stm 5)) [(Str.ofString "problem", .obj jp)] σ (fun fl ρ' σ' => match fl with | .next => P .none σ' | .ret d => P d σ') := by
  have B := G.base
  refine exs_cons ?_
  refine ex_for (src_list ?_)
  wtm_at "go"
  refine call_sorted_p hm hp ⟨_, _, rfl, last_get, ?_⟩
  refine ⟨checkJ σ jp m, ⟨by wtm_at "lk", last_get, Grow.push _⟩, fun i ρ' σ' h => h.2.1, ?_, ?_⟩
  · rintro i d ρ' σ₁ hd ⟨h1, hs1, hg⟩
    obtain ⟨v, hv, rfl⟩ := iL_getd hd
    have hvn := List.mem_of_getElem? hv
    have hv0 := nd_mem.mp hvn
    wtm_at "go"
    refine ⟨_, rfl, fun hb => absurd hb (by simp; (first | lia | omega)), fun _ => ?_⟩
    wtm_at "go"
    refine ex_for (src_enum B in_enumerate (by kernel_rfl) ?_)
    wtm_at "go"
    refine itm_idict (hg _ _ hp) (pI_lookup hvn) ⟨_, rfl, ?_⟩
    refine ⟨checkJ2 σ₁ jp v, ⟨by wtm_at "lk", by wtm_at "lk", Grow.refl _⟩, fun _ _ _ _ => trivial, ?_, ?_⟩
    · rintro k d ρ₂ σ₂ hd ⟨k1, k2, hg2⟩
      rw [enumL_get] at hd
      obtain ⟨d', hd', rfl⟩ := Option.map_eq_some_iff.mp hd
      rw [List.getElem?_map] at hd'
      obtain ⟨pp, hpp, rfl⟩ := Option.map_eq_some_iff.mp hd'
      have hmem := List.mem_of_getElem? hpp
      obtain ⟨y, r, hsh, hy, hl⟩ := hR.shape v hvn pp hmem
      obtain ⟨hnd, hlast⟩ := hG.simp v hvn pp hmem
      have hk := (List.getElem?_eq_some_iff.mp hpp).1
      have hlen := hR.len v hvn
      have h2 : 2 ≤ pp.length := by rw [hsh]; simp
      refine tgt_tuple ?_ rfl
      refine tgtl_cons ?_
      wtm_at "go"
      refine tgtl_cons ?_
      wtm_at "go"
      refine tgtl_nil ?_
      wtm_at "go"
      refine tst_or ?_
      wtm_at "go"
      refine call_len_t (by rw [iL_length]; (first | lia | omega)) ?_
      rw [iL_length]
      wtm_at "go"
      refine ⟨_, rfl, fun _ => ?_, fun hb => absurd hb (by simp; (first | lia | omega))⟩
      refine tst_or ?_
      wtm_at "go"
      refine itm_tup (d := .int v) (seqIndex?_zero (by rw [iL_length]; (first | lia | omega))) (by rw [hsh]; rfl) (by decide) (by decide) ?_
      wtm_at "go"
      refine ⟨_, rfl, fun _ => ?_, fun hb => absurd hb (by simp)⟩
      refine tst_or ?_
      wtm_at "go"
      refine ev_neg ?_
      wtm_at "go"
      refine ⟨_, rfl, ?_⟩
      refine itm_tup (d := .int 0) (seqIndex?_neg_one (by rw [iL_length]; (first | lia | omega))) (by rw [iL_length]; rw [List.getLast?_eq_getElem?] at hlast; exact iL_get hlast) (by decide) (by decide) ?_
      wtm_at "go"
      refine ⟨_, rfl, fun _ => tst_or_nil ⟨fun h => absurd h (by decide), fun _ => ?_⟩, fun hb => absurd hb (by simp)⟩
      wtm_at "go"
      refine tst_or ?_
      wtm_at "go"
      refine call_sorted_t (by (first | lia | omega)) fun ns' hperm _ => ?_
      wtm_at "go"
      have hnl := hperm.length_eq
      refine call_len_l last_get (by rw [iL_length]; (first | lia | omega)) ?_
      rw [iL_length]
      wtm_at "go"
      refine ev_comp [] (src_tuple ?_) (by kernel_rfl) (cells_of (by kernel_rfl)) (locals_of (by kernel_rfl)) (by kernel_rfl) sub_nil (one_of [] rfl (by kernel_rfl)) (free_of (by kernel_rfl))
      wtm_at "go"
      refine ⟨_, rfl, ?_⟩
      refine ⟨checkA σ₂ ns' pp, ⟨last_get, by simp, (Grow.push _).trans (Grow.push _)⟩, fun i acc σ h => ⟨trivial, h.1⟩, by rw [iL_length]; (first | lia | omega), ?_, ?_⟩
      · rintro i d acc σ₃ hd ⟨hacc, rfl, hg3⟩
        obtain ⟨x, hx, rfl⟩ := iL_getd hd
        refine And.intro (fun _ => ?_) (fun h => absurd h (by decide))
        wtm_at "go"
        refine ⟨hacc, set_same hacc, ?_, hg3.set _ (by simp)⟩
        rw [List.take_add_one, hx, List.map_append]
        rfl
      · rintro acc σ₃ ⟨hacc, rfl, hg3⟩
        rw [iL_length, List.take_length] at hacc
        have e : pp.map (fun i => pairP (i, .bool true)) = (pp.map fun i => (i, PV.bool true)).map pairP := by rw [List.map_map]; rfl
        rw [e] at hacc
        refine call_dict hacc (by rw [List.length_map]; (first | lia | omega)) ?_
        rw [mkD_true pp hnd]
        refine call_len_d last_get (by rw [List.length_map]; (first | lia | omega)) ?_
        rw [List.length_map]
        wtm_at "go"
        refine ⟨_, rfl, fun _ => ?_, fun hb => absurd hb (by rw [hnl]; simp)⟩
        have hg4 : Grow σ₁ (σ₃ ++ [AO.idict (pp.map fun i => (i, PV.bool true))]) := (hg2.trans hg3).trans (Grow.push _)
        refine tst_or ?_
        wtm_at "go"
        refine itm_idict (hg4 _ _ (hg _ _ hp)) (pI_lookup hvn) ?_
        wtm_at "go"
        refine cut_to (b := 0 + k) (by rw [List.length_map]; (first | lia | omega)) (by rw [List.length_map]; (first | lia | omega)) ?_
        rw [← List.map_take]
        refine cmp_in_tt ⟨_, rfl, fun _ => tst_or_nil ⟨fun h => absurd h (by decide), fun _ => ?_⟩, fun hb => ?_⟩
        · wtm_at "go"
          exact ⟨by wtm_at "lk", by wtm_at "lk", hg4⟩
        · exfalso
          rw [List.any_eq_true] at hb
          obtain ⟨z, hz, e⟩ := hb
          have e : z = pp := by simpa using e
          subst e
          obtain ⟨i, hi, e⟩ := List.getElem_of_mem hz
          rw [List.length_take] at hi
          rw [List.getElem_take] at e
          have h3 := List.getElem?_eq_some_iff.mp hpp
          exact (List.pairwise_iff_getElem.mp (hG.nd v hvn)) i k (by (first | lia | omega)) h3.1 (by (first | lia | omega)) (e.trans h3.2.symm)
    · rintro ρ₂ σ₂ ⟨k1, k2, hg2⟩
      wtm_at "go"
      exact ⟨k1, hg2 _ _ hs1, hg.trans hg2⟩
  · rintro ρ' σ₁ ⟨h1, hs1, hg⟩
    wtm_at "go"
    exact p _ hg
theorem c_check {jp m : Nat} {R : Int → List (List Int)} (G : Given h₀) (hm : m ≤ 5) (hR : RowsOk m R) (hG : RowsGood m R) (hp : σ[jp]? = some (.idict (pI m R)))
    (p : ∀ σ', Grow σ σ' → P .none σ') : CallV prog w h₀ (n + 2) (.ref 51) [.obj jp] σ P := by
  refine callF_of G.fCheck G.lim rfl (by kernel_rfl) (by kernel_rfl) (by kernel_rfl) (fun x hx => ?_) (check_body G hm hR hG hp p)
  simp only [List.mem_cons, List.not_mem_nil, or_false] at hx
  subst hx; wtm_at "bd"
end
/-- all that the plain law needs of the problem -/
structure Prob (m : Nat) (q : List Int) (T : List (List Int × PV)) (R : Int → List (List Int)) : Prop where
  m2 : 2 ≤ m ∧ m ≤ 5
  perm : q.Perm (zr m)
  tie : TieOk q T
  rows : ∀ v ∈ nd m, ∃ kr, R v = kr.map (·.2) ∧ RowOk T m v 3 kr ∧ kr.length ≤ 200
def pos (q : List Int) (v : Int) : Nat := q.idxOf v
def Cust (T : List (List Int × PV)) (p : List Int) : Prop := ∃ x y r, p = x :: y :: r ∧ T.lookup [x, y] = some sCust
theorem zr_nodup (m : Nat) : (zr m).Nodup := by
  unfold zr
  rw [List.nodup_iff_pairwise_ne, List.pairwise_map]
  exact List.Pairwise.imp (fun {a b} (h : a < b) => by (first | lia | omega)) List.pairwise_lt_range
theorem Prob.qnd {m : Nat} {q : List Int} {T : List (List Int × PV)} {R : Int → List (List Int)} (H : Prob m q T R) : q.Nodup := H.perm.nodup_iff.mpr (zr_nodup m)
theorem pos_at {q : List Int} (h : q.Nodup) : ∀ {i : Nat} {x : Int}, q[i]? = some x → pos q x = i := by
  unfold pos
  induction q with
  | nil => intro i x e; simp at e
  | cons a q ih =>
    intro i x e
    obtain ⟨h1, h2⟩ := List.nodup_cons.mp h
    rw [List.idxOf_cons]
    cases i with
    | zero => simp at e; subst e; simp
    | succ i =>
      have e' : q[i]? = some x := by simpa using e
      have hne : (a == x) = false := beq_eq_false_iff_ne.mpr fun q => h1 (q ▸ List.mem_of_getElem? e')
      rw [hne, ih h2 e']; rfl
theorem Pth.last {T : List (List Int × PV)} {m : Nat} {p : List Int} (h : Pth T m p) : p.getLast? = some 0 := by
  induction h with
  | base => rfl
  | step _ _ _ _ _ _ ih => rw [List.getLast?_cons_cons]; exact ih
theorem Pth.zero {T : List (List Int × PV)} {m : Nat} {p : List Int} (h : Pth T m p) : (0 : Int) ∈ p := List.mem_of_getLast? h.last
theorem Pth.one {T : List (List Int × PV)} {m : Nat} {p : List Int} (h : Pth T m p) (e : p.length = 1) : p = [0] := by
  cases h with
  | base => rfl
  | step _ _ _ _ _ _ => simp at e
theorem sorts_ne : sCust ≠ sPeer ∧ sCust ≠ sProv ∧ sPeer ≠ sProv := by
  refine ⟨fun h => ?_, fun h => ?_, fun h => ?_⟩ <;> (injection h with h; exact absurd (ofStr_inj h) (by decide))
section
variable {m : Nat} {q : List Int} {T : List (List Int × PV)} {R : Int → List (List Int)}
/-- a path of two or more: its head is a node but the origin -/
theorem Pth.head_nd {x y : Int} {r : List Int} (h : Pth T m (x :: y :: r)) : x ∈ nd m := by
  cases h with
  | step h h0 h1 hn _ _ =>
    refine nd_mem.mpr ⟨?_, h1⟩
    have : x ≠ 0 := fun e => hn (e ▸ h.zero)
    (first | lia | omega)
theorem Pth.tail {x y : Int} {r : List Int} (h : Pth T m (x :: y :: r)) : Pth T m (y :: r) := by
  cases h with
  | step h _ _ _ _ _ => exact h
theorem Pth.next {x y : Int} {r : List Int} (hm : 0 < m) (h : Pth T m (x :: y :: r)) : y = 0 ∨ y ∈ nd m := by
  have := h.tail.mem hm y List.mem_cons_self
  by_cases e : y = 0
  · exact .inl e
  · exact .inr (nd_mem.mpr (by (first | lia | omega)))
/-- what the class of a path says of its tail and of the order -/
theorem path_facts (hT : TieOk q T) (hq : q.Nodup) {x y : Int} {r : List Int} {k : Nat} (h : Pth T m (x :: y :: r)) (hk : k < 3) (e : T.lookup [x, y] = some (.str (sortS k))) :
    (k < 2 → ForAll T (y :: r)) ∧ (k = 0 → pos q y < pos q x) ∧ (k = 2 → pos q x < pos q y) := by
  obtain ⟨i, j, x', y', hi, hj, e1, h1⟩ := hT _ _ e
  simp at e1
  obtain ⟨rfl, rfl⟩ := e1
  have p1 := pos_at hq hi
  have p2 := pos_at hq hj
  have htail : ∀ d, T.lookup [y, x] = some d → d ≠ sCust → ForAll T (y :: r) := by
    intro d e2 hd
    cases h with
    | step _ _ _ _ e3 h3 =>
      rcases h3 with h3 | h3
      · exact h3
      · rw [e2] at e3; cases e3; exact absurd h3 hd
  obtain ⟨n1, n2, n3⟩ := sorts_ne
  have s0 : PV.str (sortS 0) = sCust := rfl
  have s1 : PV.str (sortS 1) = sPeer := rfl
  have s2 : PV.str (sortS 2) = sProv := rfl
  match k, hk with
  | 0, _ =>
    rw [s0] at h1
    rcases h1 with ⟨h, _, _⟩ | ⟨h, _, _⟩ | ⟨_, hl, h⟩
    · exact absurd h n1
    · exact absurd h n2
    · exact ⟨fun _ => htail _ h n2.symm, fun _ => by (first | lia | omega), fun h => by (first | lia | omega)⟩
  | 1, _ =>
    rw [s1] at h1
    rcases h1 with ⟨_, _, h⟩ | ⟨h, _, _⟩ | ⟨h, _, _⟩
    · exact ⟨fun _ => htail _ h n1.symm, fun h => by (first | lia | omega), fun h => by (first | lia | omega)⟩
    · exact absurd h n3
    · exact absurd h.symm n1
  | 2, _ =>
    rw [s2] at h1
    rcases h1 with ⟨h, _, _⟩ | ⟨_, hl, h⟩ | ⟨h, _, _⟩
    · exact absurd h.symm n3
    · exact ⟨fun h => by (first | lia | omega), fun h => by (first | lia | omega), fun _ => by (first | lia | omega)⟩
    · exact absurd h.symm n2
end
section
variable {m : Nat} {q : List Int} {T : List (List Int × PV)} {R : Int → List (List Int)}
open Classical in
/-- the customers' paths alone -/
noncomputable def bestC (T : List (List Int × PV)) (R : Int → List (List Int)) (S : Int → List Int) (v : Int) : List Int := ((R v).find? fun p => decide (Cust T p) && offered S p).getD []
noncomputable def Cn (T : List (List Int × PV)) (R : Int → List (List Int)) : Nat → Int → List Int
  | 0, _ => []
  | k + 1, v => bestC T R (Cn T R k) v
theorem Prob.elem (H : Prob m q T R) {v : Int} (hv : v ∈ nd m) {p : List Int} (hp : p ∈ R v) : ∃ k, k < 3 ∧ POk T m v k p := by
  obtain ⟨kr, e, h, _⟩ := H.rows v hv
  rw [e] at hp
  obtain ⟨x, hx, rfl⟩ := List.mem_map.mp hp
  exact ⟨x.1, h.cls x hx⟩
theorem cust_of {v : Int} {k : Nat} {p : List Int} (hk : k < 3) (h : POk T m v k p) : Cust T p ↔ k = 0 := by
  obtain ⟨hp, y, r, rfl, e⟩ := h
  constructor
  · rintro ⟨x', y', r', e1, e2⟩
    cases e1
    rw [e] at e2
    exact sortS_inj hk (by decide) (by have := Option.some.inj e2; injection this)
  · rintro rfl
    exact ⟨_, _, _, rfl, e⟩
/-- the customer's paths stand first -/
theorem Prob.first (H : Prob m q T R) {v : Int} (hv : v ∈ nd m) {i j : Nat} {a b : List Int} (hij : i ≤ j) (ha : (R v)[i]? = some a) (hb : (R v)[j]? = some b) (h : Cust T b) : Cust T a := by
  obtain ⟨kr, e, hr, _⟩ := H.rows v hv
  rw [e, List.getElem?_map] at ha hb
  obtain ⟨x, hx, rfl⟩ := Option.map_eq_some_iff.mp ha
  obtain ⟨y, hy, rfl⟩ := Option.map_eq_some_iff.mp hb
  have cx := hr.cls x (List.mem_of_getElem? hx)
  have cy := hr.cls y (List.mem_of_getElem? hy)
  have h0 := (cust_of cy.1 cy.2).mp h
  refine (cust_of cx.1 cx.2).mpr ?_
  rcases Nat.lt_or_ge i j with hl | hl
  · obtain ⟨hi, ei⟩ := List.getElem?_eq_some_iff.mp hx
    obtain ⟨hj, ej⟩ := List.getElem?_eq_some_iff.mp hy
    have := (List.pairwise_iff_getElem.mp hr.sorted) i j hi hj hl
    rw [ei, ej] at this
    (first | lia | omega)
  · have : i = j := by (first | lia | omega)
    subst this
    rw [hx] at hy; cases hy; exact h0
def Ccor (T : List (List Int × PV)) (C S : Int → List Int) (v : Int) : Prop := (C v ≠ [] → S v = C v) ∧ (C v = [] → ¬ Cust T (S v))
theorem forAll_off {C S : Int → List Int} {y : Int} {r : List Int} (hp : Pth T m (y :: r)) (hf : ForAll T (y :: r)) (hc : y ∈ nd m → Ccor T C S y) : decide (pathOf S y = y :: r) = decide (pathOf C y = y :: r) := by
  rcases hf with h | ⟨x, z, r', e, h⟩
  · have := hp.one h
    injection this with e1 e2
    subst e1; subst e2
    rfl
  · have e' := e
    injection e' with e1 e2
    subst e1; subst e2
    have hy := hp.head_nd
    obtain ⟨h1, h2⟩ := hc hy
    rw [pathOf_nd hy, pathOf_nd hy]
    by_cases hC : C y = []
    · have a1 : S y ≠ y :: z :: r' := fun e => h2 hC (e ▸ ⟨y, z, r', rfl, h⟩)
      have a2 : C y ≠ y :: z :: r' := fun e => by rw [hC] at e; cases e
      simp [a1, a2]
    · rw [h1 hC]
theorem find_congr {β : Type} {l : List β} {f g : β → Bool} (h : ∀ x ∈ l, f x = g x) : l.find? f = l.find? g := by
  induction l with
  | nil => rfl
  | cons a l ih =>
    rw [List.find?_cons, List.find?_cons, h a List.mem_cons_self, ih fun x hx => h x (List.mem_cons_of_mem _ hx)]
theorem bestC_congr (H : Prob m q T R) {S S' : Int → List Int} {v : Int} (hv : v ∈ nd m) (h : ∀ y ∈ nd m, pos q y < pos q v → S y = S' y) : bestC T R S v = bestC T R S' v := by
  unfold bestC
  rw [find_congr]
  intro p hp
  obtain ⟨k, hk, hok⟩ := H.elem hv hp
  by_cases hc : Cust T p
  · have k0 := (cust_of hk hok).mp hc
    obtain ⟨hpth, y, r, rfl, e⟩ := hok
    have pf := (path_facts H.tie H.qnd hpth hk e).2.1 k0
    have : offered S (v :: y :: r) = offered S' (v :: y :: r) := by
      simp only [offered]
      rcases hpth.next (by have := H.m2; (first | lia | omega)) with rfl | hy
      · rfl
      · rw [pathOf_nd hy, pathOf_nd hy, h y hy pf]
    rw [this]
  · simp [hc]
theorem cn_stable (H : Prob m q T R) : ∀ (k : Nat) (v : Int), v ∈ nd m → pos q v < k → Cn T R (k + 1) v = Cn T R k v := by
  intro k
  induction k with
  | zero => intro v _ h; (first | lia | omega)
  | succ k ih =>
    intro v hv h
    show bestC T R (Cn T R (k + 1)) v = bestC T R (Cn T R k) v
    exact bestC_congr H hv fun y hy hl => ih y hy (by (first | lia | omega))
theorem pos_lt (H : Prob m q T R) {v : Int} (hv : v ∈ nd m) : pos q v < m := by
  have hm : v ∈ q := H.perm.mem_iff.mpr (by
    have := nd_mem.mp hv
    unfold zr
    exact List.mem_map.mpr ⟨v.toNat, List.mem_range.mpr (by (first | lia | omega)), by (first | lia | omega)⟩)
  have := List.idxOf_lt_length_of_mem hm
  have hl := H.perm.length_eq
  rw [zr_length] at hl
  unfold pos; (first | lia | omega)
noncomputable def CC (T : List (List Int × PV)) (R : Int → List (List Int)) (m : Nat) : Int → List Int := Cn T R m
theorem cc_fix (H : Prob m q T R) {v : Int} (hv : v ∈ nd m) : bestC T R (CC T R m) v = CC T R m v := cn_stable H m v hv (pos_lt H hv)
theorem best_mem {S : Int → List Int} {v : Int} (h : best R S v ≠ []) : best R S v ∈ R v ∧ offered S (best R S v) = true := by
  unfold best at h ⊢
  cases e : (R v).find? (offered S) with
  | none => rw [e] at h; exact absurd rfl h
  | some p => exact ⟨List.mem_of_find?_eq_some e, List.find?_some e⟩
/-- Lemma A: where the lower nodes are right about customers' paths, an activation is -/
theorem lemA (H : Prob m q T R) {S : Int → List Int} {v : Int} (hv : v ∈ nd m) (hA : ∀ y ∈ nd m, pos q y < pos q v → Ccor T (CC T R m) S y) : (CC T R m v ≠ [] → best R S v = CC T R m v) ∧ (CC T R m v = [] → ¬ Cust T (best R S v)) := by
  have hoff : ∀ p ∈ R v, Cust T p → offered S p = offered (CC T R m) p := by
    intro p hp hc
    obtain ⟨k, hk, hok⟩ := H.elem hv hp
    have k0 := (cust_of hk hok).mp hc
    obtain ⟨hpth, y, r, rfl, e⟩ := hok
    obtain ⟨f1, f2, _⟩ := path_facts H.tie H.qnd hpth hk e
    exact forAll_off hpth.tail (f1 (by (first | lia | omega))) fun hy => hA y hy (f2 k0)
  have hfix := cc_fix H hv
  unfold bestC at hfix
  cases hf : (R v).find? (fun p => @decide (Cust T p) (Classical.propDecidable _) && offered (CC T R m) p) with
  | none =>
    rw [hf] at hfix
    have hCnil : CC T R m v = [] := hfix.symm
    refine ⟨fun h => absurd hCnil h, fun _ hc => ?_⟩
    have hne : best R S v ≠ [] := by rintro e; rw [e] at hc; obtain ⟨_, _, _, e1, _⟩ := hc; cases e1
    obtain ⟨h1, h2⟩ := best_mem hne
    rw [List.find?_eq_none] at hf
    have := hf _ h1
    rw [hoff _ h1 hc] at h2
    simp [hc, h2] at this
  | some p =>
    rw [hf] at hfix
    have hCp : CC T R m v = p := hfix.symm
    obtain ⟨hp1, as, bs, hsplit, hbef⟩ := List.find?_eq_some_iff_append.mp hf
    simp only [Bool.and_eq_true, decide_eq_true_eq] at hp1
    have hpm : p ∈ R v := List.mem_of_find?_eq_some hf
    have hbest : best R S v = p := by
      unfold best
      have : (R v).find? (offered S) = some p := by
        rw [List.find?_eq_some_iff_append]
        refine ⟨by rw [hoff p hpm hp1.1]; exact hp1.2, as, bs, hsplit, fun a ha => ?_⟩
        obtain ⟨i, hi, e⟩ := List.getElem_of_mem ha
        have ga : (R v)[i]? = some a := by rw [hsplit, List.getElem?_append_left hi, List.getElem?_eq_getElem hi, e]
        have gp : (R v)[as.length]? = some p := by rw [hsplit]; simp
        have hca := H.first hv (Nat.le_of_lt hi) ga gp hp1.1
        have := hbef a ha
        simp only [hca, decide_true, Bool.true_and] at this
        rw [hoff a (List.mem_of_getElem? ga) hca]
        exact this
      rw [this]; rfl
    refine ⟨fun _ => hbest.trans hCp.symm, fun h => ?_⟩
    obtain ⟨x, y, r, e, _⟩ := hp1.1
    rw [hCp, e] at h; cases h
/-- Lemma B: right about customers' paths, and alike above -/
theorem lemB (H : Prob m q T R) {S S' : Int → List Int} {v : Int} (hv : v ∈ nd m) (hS : ∀ y ∈ nd m, Ccor T (CC T R m) S y) (hS' : ∀ y ∈ nd m, Ccor T (CC T R m) S' y) (h : ∀ y ∈ nd m, pos q v < pos q y → S y = S' y) : best R S v = best R S' v := by
  unfold best
  rw [find_congr]
  intro p hp
  obtain ⟨k, hk, hpth, y, r, rfl, e⟩ := H.elem hv hp
  obtain ⟨f1, _, f3⟩ := path_facts H.tie H.qnd hpth hk e
  by_cases k2 : k = 2
  · simp only [offered]
    rcases hpth.next (by have := H.m2; (first | lia | omega)) with rfl | hy
    · rfl
    · rw [pathOf_nd hy, pathOf_nd hy, h y hy (f3 k2)]
  · have hf := f1 (by (first | lia | omega))
    show decide (pathOf S y = y :: r) = decide (pathOf S' y = y :: r)
    rw [forAll_off hpth.tail hf fun hy => hS y hy, forAll_off hpth.tail hf fun hy => hS' y hy]
end
def act (R : Int → List (List Int)) (S : Int → List Int) (v : Int) : Int → List Int := upd S v (best R S v)
theorem runC_fst (R : Int → List (List Int)) : ∀ (w : List Int) (S : Int → List Int) (c : Int), (w.foldl (stepC R) (S, c)).1 = w.foldl (act R) S
  | [], _, _ => rfl
  | v :: w, S, c => by
    rw [List.foldl_cons, List.foldl_cons]
    exact runC_fst R w _ _
def run (R : Int → List (List Int)) (S : Int → List Int) (w : List Int) : Int → List Int := w.foldl (act R) S
theorem runC_run (R : Int → List (List Int)) (S : Int → List Int) (w : List Int) : (runC R S w).1 = run R S w := runC_fst R w S 0
theorem run_app (R : Int → List (List Int)) (S : Int → List Int) (a b : List Int) : run R S (a ++ b) = run R (run R S a) b := by unfold run; rw [List.foldl_append]
theorem act_self {R : Int → List (List Int)} {S : Int → List Int} {v : Int} : act R S v v = best R S v := by simp [act, upd]
theorem act_ne {R : Int → List (List Int)} {S : Int → List Int} {v y : Int} (h : y ≠ v) : act R S v y = S y := by simp [act, upd, h]
section
variable {m : Nat} {R : Int → List (List Int)} (lt : Int → Int → Prop) (I : (Int → List Int) → Prop) (G : Int → List Int → Prop) {L : List Int}
/-- what a pass through L settles -/
structure Pass (m : Nat) (R : Int → List (List Int)) (lt : Int → Int → Prop) (I : (Int → List Int) → Prop) (G : Int → List Int → Prop) (L : List Int) : Prop where
  asym : ∀ a b, lt a b → ¬ lt b a
  step : ∀ S v, v ∈ nd m → I S → (∀ y ∈ nd m, lt y v → G y (S y)) → G v (best R S v)
  act : ∀ S v, v ∈ nd m → I S → I (act R S v)
  all : ∀ S, I S → I (best R S)
  pw : L.Pairwise lt
  mem : ∀ y, y ∈ L ↔ y ∈ nd m
variable {lt I G}
theorem Pass.low (h : Pass m R lt I G L) {u tl : List Int} {x y : Int} (e : u ++ x :: tl = L) (hy : y ∈ nd m) (hl : lt y x) : y ∈ u := by
  have hm := (h.mem y).mpr hy
  have hp := h.pw
  rw [← e] at hm hp
  rcases List.mem_append.mp hm with hm | hm
  · exact hm
  · exfalso
    rcases List.mem_cons.mp hm with rfl | hm
    · exact h.asym _ _ hl hl
    · exact h.asym _ _ hl ((List.pairwise_cons.mp (List.pairwise_append.mp hp).2.1).1 y hm)
theorem Pass.low' (h : Pass m R lt I G L) {u tl : List Int} {x y : Int} (e : u ++ tl = L) (hx : x ∈ u) (hy : y ∈ nd m) (hl : lt y x) : y ∈ u := by
  have hm := (h.mem y).mpr hy
  have hp := h.pw
  rw [← e] at hm hp
  rcases List.mem_append.mp hm with hm | hm
  · exact hm
  · exact absurd ((List.pairwise_append.mp hp).2.2 x hx y hm) (h.asym _ _ hl)
theorem Pass.keep (h : Pass m R lt I G L) {u tl : List Int} (e : u ++ tl = L) : ∀ (ex : List Int) (S : Int → List Int), (∀ y ∈ ex, y ∈ nd m) → I S → (∀ y ∈ u, G y (S y)) → I (run R S ex) ∧ ∀ y ∈ u, G y (run R S ex y)
  | [], S, _, hi, hg => ⟨hi, hg⟩
  | v :: ex, S, hx, hi, hg => by
    have hv := hx v List.mem_cons_self
    refine h.keep e ex (Mine.act R S v) (fun y hy => hx y (List.mem_cons_of_mem _ hy)) (h.act S v hv hi) fun y hy => ?_
    by_cases q : y = v
    · subst q
      rw [act_self]
      exact h.step S y hv hi fun z hz hl => hg z (h.low' e hy hz hl)
    · rw [act_ne q]; exact hg y hy
theorem Pass.conv (h : Pass m R lt I G L) {S : Int → List Int} (hi : I S) {u w : List Int} (hw : Way m u w) : ∀ tl, u ++ tl = L → I (run R S w) ∧ ∀ y ∈ u, G y (run R S w y) := by
  induction hw with
  | nil => intro _ _; exact ⟨hi, fun y hy => by cases hy⟩
  | @snoc u w ex x hw hex ih =>
    intro tl e
    have e' : u ++ x :: tl = L := by rw [← e]; simp
    obtain ⟨i1, g1⟩ := ih (x :: tl) e'
    rw [run_app, run_app]
    obtain ⟨i2, g2⟩ := h.keep e' ex _ hex i1 g1
    have hx : x ∈ nd m := (h.mem x).mp (by rw [← e']; simp)
    refine ⟨h.act _ x hx i2, fun y hy => ?_⟩
    show G y (Mine.act R _ x y)
    by_cases q : y = x
    · subst q
      rw [act_self]
      exact h.step _ y hx i2 fun z hz hl => g2 z (h.low e' hz hl)
    · rw [act_ne q]
      rcases List.mem_append.mp hy with hy | hy
      · exact g2 y hy
      · exact absurd (by simpa using hy) q
theorem Pass.done (h : Pass m R lt I G L) {S : Int → List Int} (hi : I S) {w : List Int} (hw : Way m L w) : I (run R S w) ∧ ∀ y ∈ nd m, G y (run R S w y) := by
  obtain ⟨a, b⟩ := h.conv hi hw [] (by simp)
  exact ⟨a, fun y hy => b y ((h.mem y).mpr hy)⟩
def iter (R : Int → List (List Int)) (S : Int → List Int) : Nat → Int → List Int
  | 0 => S
  | k + 1 => best R (iter R S k)
theorem iter_add (R : Int → List (List Int)) (S : Int → List Int) (a : Nat) : ∀ b, iter R S (a + b) = iter R (iter R S a) b
  | 0 => rfl
  | b + 1 => by show best R (iter R S (a + b)) = best R _; rw [iter_add R S a b]
theorem Pass.iter (h : Pass m R lt I G L) {S : Int → List Int} (hi : I S) : ∀ k, I (iter R S k) ∧ ∀ y ∈ L.take k, G y (iter R S k y)
  | 0 => ⟨hi, fun y hy => by simp at hy⟩
  | k + 1 => by
    obtain ⟨i1, g1⟩ := h.iter hi k
    refine ⟨h.all _ i1, fun y hy => ?_⟩
    obtain ⟨i, hil, e⟩ := List.getElem_of_mem hy
    rw [List.length_take] at hil
    rw [List.getElem_take] at e
    have hyn : y ∈ nd m := (h.mem y).mp (e ▸ List.getElem_mem _)
    refine h.step _ y hyn i1 fun z hz hl => g1 z ?_
    have e' : L.take i ++ y :: L.drop (i + 1) = L := by
      conv => rhs; rw [← List.take_append_drop i L, List.drop_eq_getElem_cons (by (first | lia | omega)), e]
    have := h.low e' hz hl
    exact List.take_subset_take_left L (by (first | lia | omega)) this
theorem Pass.iter_done (h : Pass m R lt I G L) {S : Int → List Int} (hi : I S) {k : Nat} (hk : L.length ≤ k) : I (Mine.iter R S k) ∧ ∀ y ∈ nd m, G y (Mine.iter R S k y) := by
  obtain ⟨a, b⟩ := h.iter hi k
  rw [List.take_of_length_le hk] at b
  exact ⟨a, fun y hy => b y ((h.mem y).mpr hy)⟩
end
theorem Way.self {m : Nat} (l : List Int) : Way m l l := by
  have : ∀ l : List Int, Way m l.reverse l.reverse := by
    intro l
    induction l with
    | nil => exact .nil
    | cons a l ih =>
      rw [List.reverse_cons]
      have := Way.snoc (x := a) (ex := []) ih (fun y hy => by cases hy)
      simpa using this
  have h := this l.reverse
  rwa [List.reverse_reverse] at h
theorem Way.len {m : Nat} {u w : List Int} (h : Way m u w) : u.length ≤ w.length := by
  induction h with
  | nil => exact Nat.le_refl _
  | snoc hw hex ih => simp only [List.length_append, List.length_cons, List.length_nil]; (first | lia | omega)
theorem Way.nd {m : Nat} {u w : List Int} (h : Way m u w) (hu : ∀ y ∈ u, y ∈ nd m) : ∀ y ∈ w, y ∈ Mine.nd m := by
  induction h with
  | nil => exact fun y hy => by cases hy
  | snoc hw hex ih =>
    intro y hy
    rcases List.mem_append.mp hy with hy | hy
    · rcases List.mem_append.mp hy with hy | hy
      · exact ih (fun z hz => hu z (List.mem_append_left _ hz)) y hy
      · exact hex y hy
    · exact hu y (List.mem_append_right _ hy)
section
variable {m : Nat} {q : List Int} {T : List (List Int × PV)} {R : Int → List (List Int)}
def upL (q : List Int) : List Int := q.filter fun v => !(v == 0)
theorem Prob.upmem (H : Prob m q T R) (y : Int) : y ∈ upL q ↔ y ∈ nd m := by
  unfold upL
  rw [List.mem_filter, H.perm.mem_iff, nd_mem]
  unfold zr
  rw [List.mem_map]
  constructor
  · rintro ⟨⟨i, hi, rfl⟩, h⟩
    have := List.mem_range.mp hi
    have h : ¬ ((i : Int) = 0) := by simpa using h
    (first | lia | omega)
  · intro h
    exact ⟨⟨y.toNat, List.mem_range.mpr (by (first | lia | omega)), by (first | lia | omega)⟩, by simp; (first | lia | omega)⟩
theorem Prob.uppw (H : Prob m q T R) : (upL q).Pairwise fun a b => pos q a < pos q b := by
  unfold upL
  apply List.Pairwise.filter
  rw [List.pairwise_iff_getElem]
  intro i j hi hj hl
  rw [pos_at H.qnd (List.getElem?_eq_getElem hi), pos_at H.qnd (List.getElem?_eq_getElem hj)]
  exact hl
theorem Prob.uplen (H : Prob m q T R) : (upL q).length = m - 1 := by
  have hn : (upL q).Nodup := H.qnd.filter _
  have h1 := sub_length _ _ hn fun x hx => (H.upmem x).mp hx
  have h2 := sub_length _ _ (nd_nodup m) fun x hx => (H.upmem x).mpr hx
  rw [nd_length] at h1 h2
  (first | lia | omega)
def In (m : Nat) (R : Int → List (List Int)) (S : Int → List Int) : Prop := ∀ v ∈ nd m, S v = [] ∨ S v ∈ R v
def AllC (m : Nat) (T : List (List Int × PV)) (R : Int → List (List Int)) (S : Int → List Int) : Prop := ∀ v ∈ nd m, Ccor T (CC T R m) S v
theorem best_in {S : Int → List Int} {v : Int} : best R S v = [] ∨ best R S v ∈ R v := by
  by_cases h : best R S v = []
  · exact .inl h
  · exact .inr (best_mem h).1
theorem Prob.pass_up (H : Prob m q T R) : Pass m R (fun a b => pos q a < pos q b) (In m R) (fun v p => (CC T R m v ≠ [] → p = CC T R m v) ∧ (CC T R m v = [] → ¬ Cust T p)) (upL q) where
  asym := fun a b h h' => by (first | lia | omega)
  step := fun S v hv hi hl => lemA H hv hl
  act := fun S v hv hi y hy => by
    by_cases e : y = v
    · subst e; rw [act_self]; exact best_in
    · rw [act_ne e]; exact hi y hy
  all := fun S hi y hy => best_in
  pw := H.uppw
  mem := H.upmem
noncomputable def SS (T : List (List Int × PV)) (R : Int → List (List Int)) (m : Nat) : Int → List Int := iter R (CC T R m) m
theorem Prob.allC_best (H : Prob m q T R) {S : Int → List Int} (h : AllC m T R S) : AllC m T R (best R S) := fun v hv => lemA H hv fun y hy _ => h y hy
theorem Prob.allC_act (H : Prob m q T R) {S : Int → List Int} (h : AllC m T R S) {v : Int} (hv : v ∈ nd m) : AllC m T R (Mine.act R S v) := fun y hy => by
  by_cases e : y = v
  · subst e
    show (_ → Mine.act R S y y = _) ∧ (_ → ¬ Cust T (Mine.act R S y y))
    rw [act_self]; exact lemA H hv fun y hy _ => h y hy
  · show (_ → Mine.act R S v y = _) ∧ (_ → ¬ Cust T (Mine.act R S v y))
    rw [act_ne e]; exact h y hy
theorem Prob.allC_cc (H : Prob m q T R) : AllC m T R (CC T R m) := fun v hv => ⟨fun _ => rfl, fun h => by rw [h]; rintro ⟨_, _, _, e, _⟩; cases e⟩
theorem Prob.allC_iter (H : Prob m q T R) : ∀ k, AllC m T R (iter R (CC T R m) k)
  | 0 => H.allC_cc
  | k + 1 => H.allC_best (H.allC_iter k)
theorem Prob.iter_stable (H : Prob m q T R) : ∀ (k : Nat) (v : Int), v ∈ nd m → m ≤ k + pos q v → iter R (CC T R m) (k + 1) v = iter R (CC T R m) k v
  | 0, v, hv, h => by have := pos_lt H hv; (first | lia | omega)
  | k + 1, v, hv, h => by
    show best R (iter R (CC T R m) (k + 1)) v = best R (iter R (CC T R m) k) v
    exact lemB H hv (H.allC_iter _) (H.allC_iter _) fun y hy hl => H.iter_stable k y hy (by (first | lia | omega))
theorem Prob.ss_fix (H : Prob m q T R) {v : Int} (hv : v ∈ nd m) : best R (SS T R m) v = SS T R m v := H.iter_stable m v hv (by (first | lia | omega))
theorem Prob.ss_allC (H : Prob m q T R) : AllC m T R (SS T R m) := H.allC_iter m
theorem Prob.pass_down (H : Prob m q T R) : Pass m R (fun a b => pos q b < pos q a) (AllC m T R) (fun v p => p = SS T R m v) (upL q).reverse where
  asym := fun a b h h' => by (first | lia | omega)
  step := fun S v hv hi hl => (lemB H hv hi H.ss_allC hl).trans (H.ss_fix hv)
  act := fun S v hv hi => H.allC_act hi hv
  all := fun S hi => H.allC_best hi
  pw := List.pairwise_reverse.mpr H.uppw
  mem := fun y => by rw [List.mem_reverse]; exact H.upmem y
/-- after the way up -/
theorem Prob.mid (H : Prob m q T R) {S : Int → List Int} (hi : In m R S) {w : List Int} (hw : Way m (upL q) w) : In m R (run R S w) ∧ AllC m T R (run R S w) := by
  obtain ⟨a, b⟩ := H.pass_up.done hi hw
  exact ⟨a, b⟩
/-- after the way down -/
theorem Prob.rest (H : Prob m q T R) {S : Int → List Int} (hi : AllC m T R S) {w : List Int} (hw : Way m (upL q).reverse w) : ∀ v ∈ nd m, run R S w v = SS T R m v := (H.pass_down.done hi hw).2
/-- all at once -/
theorem Prob.once (H : Prob m q T R) {S : Int → List Int} (hi : In m R S) : ∀ v ∈ nd m, iter R S (2 * (m - 1)) v = SS T R m v := by
  obtain ⟨_, b⟩ := H.pass_up.iter_done hi (k := m - 1) (by rw [H.uplen]; exact Nat.le_refl _)
  obtain ⟨_, d⟩ := H.pass_down.iter_done (S := iter R S (m - 1)) b (k := m - 1) (by rw [List.length_reverse, H.uplen]; exact Nat.le_refl _)
  rw [Nat.two_mul, iter_add]
  exact d
theorem Prob.plain (H : Prob m q T R) : ∀ v ∈ nd m, run R (fun _ => []) (upL q ++ (upL q).reverse) v = SS T R m v := by
  rw [run_app]
  exact H.rest (H.mid (fun _ _ => .inl rfl) (Way.self _)).2 (Way.self _)
theorem Prob.ss_in (H : Prob m q T R) {v : Int} (hv : v ∈ nd m) : SS T R m v = [] ∨ SS T R m v ∈ R v := by
  rw [← H.ss_fix hv]; exact best_in
/-- what has a customer's path at rest has it once up -/
theorem Prob.early (H : Prob m q T R) {S : Int → List Int} (h : AllC m T R S) {v : Int} (hv : v ∈ nd m) : (Cust T (SS T R m v) → S v = SS T R m v) ∧ (¬ Cust T (SS T R m v) → ¬ Cust T (S v)) := by
  obtain ⟨a, b⟩ := h v hv
  obtain ⟨c, d⟩ := H.ss_allC v hv
  by_cases e : CC T R m v = []
  · exact ⟨fun h => absurd h (d e), fun _ => b e⟩
  · rw [a e, c e]; exact ⟨fun _ => rfl, id⟩
theorem ndlen {p : List Int} (hm : 0 < m) (h : Pth T m p) : p.length ≤ m := by
  have := outs_le h.nodup (h.mem hm)
  (first | lia | omega)
theorem Prob.rowsOk (H : Prob m q T R) : RowsOk m R where
  shape := fun v hv p hp => by
    obtain ⟨k, hk, hpth, y, r, rfl, e⟩ := H.elem hv hp
    have := ndlen (by have := H.m2; (first | lia | omega)) hpth
    exact ⟨y, r, rfl, hpth.next (by have := H.m2; (first | lia | omega)), by have := H.m2; (first | lia | omega)⟩
  len := fun v hv => by
    obtain ⟨kr, e, _, h⟩ := H.rows v hv
    rw [e, List.length_map]; exact h
theorem Prob.rowsGood (H : Prob m q T R) : RowsGood m R where
  simp := fun v hv p hp => by
    obtain ⟨k, hk, hpth, _⟩ := H.elem hv hp
    exact ⟨hpth.nodup, hpth.last⟩
  nd := fun v hv => by
    obtain ⟨kr, e, h, _⟩ := H.rows v hv
    rw [e]; exact h.nd
/-- what the ties say of the first step of a path -/
theorem Prob.step_of (H : Prob m q T R) {v : Int} (hv : v ∈ nd m) {p : List Int} (h : p = [] ∨ p ∈ R v) : p = [] ∨ ∃ y r k, p = v :: y :: r ∧ k < 3 ∧ T.lookup [v, y] = some (.str (sortS k)) ∧ (Cust T p ↔ k = 0) := by
  rcases h with h | h
  · exact .inl h
  · obtain ⟨k, hk, hok⟩ := H.elem hv h
    have hc := cust_of hk hok
    obtain ⟨_, y, r, e, e2⟩ := hok
    exact .inr ⟨y, r, k, e, hk, e2, hc⟩
/-- the rows, out of the list that was built -/
def Rof (acc : List (Int × List (Nat × List Int))) (v : Int) : List (List Int) := ((acc.lookup v).getD []).map (·.2)
theorem look_of {β : Type} : ∀ (acc : List (Int × β)) (v : Int) (b : β), (acc.map (·.1)).Nodup → (v, b) ∈ acc → acc.lookup v = some b
  | (a, c) :: acc, v, b, hn, h => by
    obtain ⟨h1, h2⟩ := List.nodup_cons.mp hn
    rw [List.lookup_cons]
    rcases List.mem_cons.mp h with e | h
    · cases e; rw [beq_self_eq_true]
    · have : v ≠ a := fun e => h1 (e ▸ List.mem_map.mpr ⟨_, h, rfl⟩)
      rw [beq_eq_false_iff_ne.mpr this]
      exact look_of acc v b h2 h
theorem rof_pI {acc : List (Int × List (Nat × List Int))} (h : acc.map (·.1) = nd m) : acc.map rowPV = pI m (Rof acc) := by
  unfold pI
  rw [← h, List.map_map]
  apply List.map_congr_left
  intro x hx
  have := look_of acc x.1 x.2 (h ▸ nd_nodup m) hx
  simp only [rowPV, Function.comp, Rof, this, Option.getD_some]
theorem prob_of (h2 : 2 ≤ m ∧ m ≤ 5) (hq : q.Perm (zr m)) (hT : TieOk q T) {acc : List (Int × List (Nat × List Int))} (h : acc.map (·.1) = nd m) (hr : ∀ x ∈ acc, RowOk T m x.1 3 x.2 ∧ x.2.length ≤ 200) : Prob m q T (Rof acc) where
  m2 := h2
  perm := hq
  tie := hT
  rows := fun v hv => by
    rw [← h] at hv
    obtain ⟨x, hx, rfl⟩ := List.mem_map.mp hv
    have := look_of acc x.1 x.2 (h ▸ nd_nodup m) hx
    exact ⟨x.2, by simp only [Rof, this, Option.getD_some], hr x hx⟩
theorem sI_congr {S S' : Int → List Int} (h : ∀ v ∈ nd m, S v = S' v) : sI m S = sI m S' := by
  rw [sI_eq, sI_eq]
  apply List.map_congr_left
  intro v hv
  rw [h v hv]
end
theorem iL_rev (l : List Int) : (iL l).reverse = iL l.reverse := by simp [iL]
theorem Prob.unq_nil {m : Nat} {q : List Int} {T : List (List Int × PV)} {R : Int → List (List Int)} (H : Prob m q T R) : (unq m R (SS T R m)).isEmpty = true := by
  rw [List.isEmpty_iff]
  unfold unq
  rw [List.filter_eq_nil_iff]
  intro v hv
  simp [H.ss_fix hv]
theorem iL_append (a b : List Int) : iL a ++ iL b = iL (a ++ b) := by simp [iL]
theorem all_same {m : Nat} {S S' : Int → List Int} (h : ∀ v ∈ nd m, S' v = S v) : ((nd m).all fun v => decide (S' v = S v)) = true := by
  rw [List.all_eq_true]
  intro v hv
  simp [h v hv]
theorem not_cust_nil {T : List (List Int × PV)} : ¬ Cust T [] := by rintro ⟨_, _, _, e, _⟩; cases e
theorem sort_cust {k : Nat} (h : k < 3) : (sortS k == Str.ofString "customer") = decide (k = 0) := by
  match k, h with
  | 0, _ => decide +kernel
  | 1, _ => decide +kernel
  | 2, _ => decide +kernel
abbrev upA (σ : List AO) (jq : Nat) (q : List Int) (i : Nat) (acc : List PV) (σ₁ : List AO) : Prop :=
  σ₁[jq]? = some (.list (iL q)) ∧ σ₁[σ.length]? = some (.list acc) ∧ acc = iL (upL (q.take i)) ∧ Grow σ σ₁
abbrev lawJ2 (σa : List AO) (jp : Nat) (js : Nat) (jt : Nat) (jr : Nat) (jm : Nat) (m : Nat) (i : Nat) (ρ' : List (Str × PV)) (σ' : List AO) : Prop :=
  σa = σ' ∧ ρ'.lookup (Str.ofString "problem") = some (.obj jp) ∧ ρ'.lookup (Str.ofString "state") = some (.obj js) ∧ ρ'.lookup (Str.ofString "ties") = some (.obj jt) ∧ ρ'.lookup (Str.ofString "many") = some (.int m) ∧ ρ'.lookup (Str.ofString "rest") = some (.obj jr) ∧ ρ'.lookup (Str.ofString "middle") = some (.obj jm)
abbrev lawJ3 (σa : List AO) (jp : Nat) (jr : Nat) (m : Nat) (R : Int → List (List Int)) (S : Int → List Int) (i : Nat) (ρ' : List (Str × PV)) (σ' : List AO) : Prop :=
  ∃ j, ρ'.lookup (Str.ofString "problem") = some (.obj jp) ∧ ρ'.lookup (Str.ofString "state") = some (.obj j) ∧ ρ'.lookup (Str.ofString "rest") = some (.obj jr) ∧ Grow σa σ' ∧ σ'[j]? = some (.idict (sI m (iter R S i)))
section
open Classical
variable {prog : Program} {w : World} {h₀ : Heap} {n : Nat} {σ : List AO} {P : PV → List AO → Prop}
theorem law_tail {ρ : List (Str × PV)} {m jp js jt jq : Nat} {q : List Int} {T : List (List Int × PV)} {R : Int → List (List Int)} {S : Int → List Int} {K : Int} (G : Given h₀) (H : Prob m q T R) (hS : In m R S) (hTl : T.length ≤ 100)
    (h1 : ρ.lookup (Str.ofString "problem") = some (.obj jp)) (h2 : ρ.lookup (Str.ofString "state") = some (.obj js)) (h3 : ρ.lookup (Str.ofString "ties") = some (.obj jt)) (h4 : ρ.lookup (Str.ofString "sizes") = some (.obj jq)) (h5 : ρ.lookup (Str.ofString "many") = some (.int m)) (h6 : ρ.lookup (Str.ofString "box") = some (.obj 2))
    (hj : σ[js]? = some (.idict (sI m S))) (hp : σ[jp]? = some (.idict (pI m R))) (hq : σ[jq]? = some (.list (iL q))) (ht : σ[jt]? = some (.tdict T)) (X : BoxAt 2 1 K σ) (hK : K ≤ 3000) (bp : jp ≠ 2) (bs : js ≠ 2) (bt : jt ≠ 2) (bq : jq ≠ 2)
    (p : ∀ σ', P (.bool true) σ') :
    Exs prog w h₀ (n + 10) (scopeOf (stm 23)) ((bodyOf (stm 23)).drop 7) ρ σ (fun fl ρ' σ' => match fl with | .next => P .none σ' | .ret d => P d σ') := by
  have B := G.base
  have hm := H.m2
  have hql : q.length = m := by rw [H.perm.length_eq, zr_length]
  have l0 := X.lt
  refine exs_cons ?_
  refine ex_assign_comp [] (P := fun d σ₁ => d = .obj σ.length ∧ σ₁[σ.length]? = some (.list (iL (upL q))) ∧ Grow σ σ₁)
    (src_list ?_) (by kernel_rfl) (cells_of (by kernel_rfl)) (locals_of (by kernel_rfl)) (by kernel_rfl) sub_nil (one_of [] rfl (by kernel_rfl)) (free_of (by kernel_rfl)) (hk := by wtm_at "bd") (hP := ?_) (hsw := by intro env h; cases env; cases h; kernel_rfl)
  · wtm_at "go"
    refine ⟨jq, _, rfl, hq, ?_⟩
    refine ⟨upA σ jq q, ⟨get_push hq, last_get, by simp [upL, iL], Grow.push _⟩, fun i acc σ h => ⟨h.1, h.2.1⟩, by rw [iL_length]; (first | lia | omega), ?_, ?_⟩
    · rintro i d acc σ₁ hd ⟨hq₁, hacc, rfl, hg⟩
      obtain ⟨x, hx, rfl⟩ := iL_getd hd
      have htk : upL (q.take (i + 1)) = upL (q.take i) ++ (if (!(x == 0)) = true then [x] else []) := by
        unfold upL
        rw [List.take_add_one, hx, List.filter_append]
        by_cases h : x = 0 <;> simp [h]
      show Tst _ _ _ _ _ _ _ _ _
      wtm_at "go"
      refine ⟨_, rfl, fun hb => ?_, fun hb => ⟨hq₁, hacc, by have e : x = 0 := (by simpa using hb); rw [htk, e]; simp, hg⟩⟩
      wtm_at "go"
      refine ⟨hacc, get_set (by have := (List.getElem?_eq_some_iff.mp hq).1; (first | lia | omega)) hq₁, set_same hacc, ?_, hg.set _ (Nat.le_refl _)⟩
      have e : x ≠ 0 := by simpa using hb
      rw [htk]
      simp [iL, e]
    · rintro acc σ₁ ⟨hq₁, hacc, rfl, hg⟩
      rw [iL_length, List.take_length] at hacc
      exact ⟨rfl, hacc, hg⟩
  · rintro d σ₁ ⟨rfl, hu₁, g₁⟩
    have hj₁ := g₁ _ _ hj
    have hp₁ := g₁ _ _ hp
    have ht₁ := g₁ _ _ ht
    have X₁ := X.grow g₁
    have bu : σ.length ≠ 2 := by (first | lia | omega)
    generalize σ.length = ju at hu₁ bu
    have hun : ∀ y ∈ upL q, y ∈ nd m := fun y hy => (H.upmem y).mp hy
    have hul := H.uplen
    wtm_at "go"
    refine c_way G X₁ (by (first | lia | omega)) hu₁ bu hm (by (first | lia | omega)) fun jw wy σ₂ hW hwl s₂ X₂ b₂ hw₂ => ?_
    wtm_at "go"
    have hu₂ := s₂ _ _ bu hu₁
    have hj₂ := s₂ _ _ bs hj₁
    have hp₂ := s₂ _ _ bp hp₁
    have ht₂ := s₂ _ _ bt ht₁
    refine c_row G hm.2 H.rowsOk hp₂ hj₂ hw₂ (hW.nd hun) fun jm σ₃ g₃ c₃ hm₃ => ?_
    rw [runC_run] at hm₃
    obtain ⟨mIn, mC⟩ := H.mid hS hW
    generalize run R S wy = M at hm₃ mIn mC
    wtm_at "go"
    refine itm_tup (d := .obj jm) (seqIndex?_zero (by simp)) rfl (by decide) (by decide) ?_
    wtm_at "go"
    have hu₃ := g₃ _ _ hu₂
    have hj₃ := g₃ _ _ hj₂
    have hp₃ := g₃ _ _ hp₂
    have ht₃ := g₃ _ _ ht₂
    have X₃ := X₂.grow g₃
    have n₃ := X₃.lt
    have bm : jm ≠ 2 := by
      have := X₂.lt
      have hne : wy ≠ [] := by
        rintro rfl
        have := hW.len
        rw [List.length_nil] at this
        (first | lia | omega)
      have := c₃ hne
      (first | lia | omega)
    have mm := hW
    refine ev_neg ?_
    wtm_at "go"
    refine ⟨_, rfl, ?_⟩
    refine cut_rev hu₃ (by rw [iL_length]; (first | lia | omega)) ?_
    wtm_at "go"
    rw [iL_rev]
    have hu₄ := get_push (y := .list (iL (upL q).reverse)) hu₃
    have hm₄ := get_push (y := .list (iL (upL q).reverse)) hm₃
    have hj₄ := get_push (y := .list (iL (upL q).reverse)) hj₃
    have hp₄ := get_push (y := .list (iL (upL q).reverse)) hp₃
    have ht₄ := get_push (y := .list (iL (upL q).reverse)) ht₃
    refine c_way G (X₃.push _) (by (first | lia | omega)) last_get (by (first | lia | omega)) hm (by rw [List.length_reverse]; (first | lia | omega)) fun jw₂ wy₂ σ₅ hW₂ hwl₂ s₅ X₅ b₅ hw₅ => ?_
    wtm_at "go"
    have hu₅ := s₅ _ _ bu hu₄
    have hm₅ := s₅ _ _ bm hm₄
    have hj₅ := s₅ _ _ bs hj₄
    have hp₅ := s₅ _ _ bp hp₄
    have ht₅ := s₅ _ _ bt ht₄
    refine c_row G hm.2 H.rowsOk hp₅ hm₅ hw₅ (hW₂.nd fun y hy => hun y (List.mem_reverse.mp hy)) fun jr σ₆ g₆ _ hr₆ => ?_
    rw [runC_run, sI_congr (H.rest mC hW₂)] at hr₆
    wtm_at "go"
    refine itm_tup (d := .obj jr) (seqIndex?_zero (by simp)) rfl (by decide) (by decide) ?_
    wtm_at "go"
    have hu₆ := g₆ _ _ hu₅
    have hm₆ := g₆ _ _ hm₅
    have hj₆ := g₆ _ _ hj₅
    have hp₆ := g₆ _ _ hp₅
    have ht₆ := g₆ _ _ ht₅
    refine tst_or ?_
    wtm_at "go"
    refine tst_val ?_
    wtm_at "go"
    refine c_stable G hm.2 H.rowsOk hp₆ hr₆ fun σ₇ g₇ => ?_
    rw [H.unq_nil]
    refine tru_bool ⟨fun _ => ?_, fun h => absurd h (by decide)⟩
    have hu₇ := g₇ _ _ hu₆
    have hm₇ := g₇ _ _ hm₆
    have hj₇ := g₇ _ _ hj₆
    have hp₇ := g₇ _ _ hp₆
    have ht₇ := g₇ _ _ ht₆
    have hr₇ := g₇ _ _ hr₆
    refine tst_or ?_
    wtm_at "go"
    refine c_rounds G hm H.rowsOk hp₇ hr₇ (fun v hv => H.ss_fix hv) fun jx σ₈ g₈ b₈ hx₈ => ?_
    wtm_at "go"
    have lr := (List.getElem?_eq_some_iff.mp hr₇).1
    refine cmp_ne_pair (by (first | lia | omega)) hx₈ (g₈ _ _ hr₇) ?_
    rw [hits_all, all_same fun v _ => rfl]
    refine ⟨_, rfl, fun _ => tst_or_nil ⟨fun h => absurd h (by decide), fun _ => ?_⟩, fun hb => absurd hb (by decide)⟩
    wtm_at "go"
    have hu₈ := g₈ _ _ hu₇
    have hm₈ := g₈ _ _ hm₇
    have hj₈ := g₈ _ _ hj₇
    have hp₈ := g₈ _ _ hp₇
    have ht₈ := g₈ _ _ ht₇
    have hr₈ := g₈ _ _ hr₇
    refine c_no G hm.2 hp₈ fun jn σ₉ g₉ hn₉ => ?_
    wtm_at "go"
    have hu₉ := g₉ _ _ hu₈
    refine ev_neg ?_
    wtm_at "go"
    refine ⟨_, rfl, ?_⟩
    refine cut_rev hu₉ (by rw [iL_length]; (first | lia | omega)) ?_
    rw [iL_rev]
    refine bop_add_list (get_push hu₉) last_get (by rw [iL_length, iL_length, List.length_reverse]; (first | lia | omega)) ?_
    rw [iL_append]
    wtm_at "go"
    have gg := ((g₉.trans (Grow.push (.list (iL (upL q).reverse)))).trans (Grow.push (.list (iL (upL q ++ (upL q).reverse)))))
    refine c_row G hm.2 H.rowsOk (gg _ _ hp₈) (get_push (get_push hn₉)) last_get (fun y hy => ?_) fun j₃ σa ga _ ha => ?_
    · rcases List.mem_append.mp hy with hy | hy
      · exact hun y hy
      · exact hun y (List.mem_reverse.mp hy)
    rw [runC_run, sI_congr H.plain] at ha
    wtm_at "go"
    refine itm_tup (d := .obj j₃) (seqIndex?_zero (by simp)) rfl (by decide) (by decide) ?_
    wtm_at "go"
    have gb := gg.trans ga
    have ma := gb _ _ hm₈
    have ja := gb _ _ hj₈
    have pa := gb _ _ hp₈
    have ta := gb _ _ ht₈
    have ra := gb _ _ hr₈
    have ua := gb _ _ hu₈
    refine cmp_ne_d ha ra ?_
    rw [hits_all, all_same fun v _ => rfl]
    wtm_at "go"
    refine ⟨_, rfl, fun hb => absurd hb (by decide), fun _ => ?_⟩
    wtm_at "go"
    clear hj₁ hp₁ ht₁ X₁ hu₁ g₁ s₂ X₂ b₂ hw₂ hu₂ hj₂ hp₂ ht₂ g₃ c₃ hm₃ hu₃ hj₃ hp₃ ht₃ X₃ n₃ hu₄ hm₄ hj₄ hp₄ ht₄ s₅ X₅ b₅ hw₅ hu₅ hm₅ hj₅ hp₅ ht₅ g₆ hr₆ hu₆ hm₆ hj₆ hp₆ ht₆ g₇ hu₇ hm₇ hj₇ hp₇ ht₇ hr₇ lr g₈ b₈ hx₈ hu₈ hm₈ hj₈ hp₈ ht₈ hr₈ g₉ hn₉ hu₉ gg ga ha gb hj hp hq ht X
    refine ex_for (src_list ?_)
    wtm_at "go"
    refine ⟨_, _, rfl, ua, ?_⟩
    refine ⟨lawJ2 σa jp js jt jr jm m,
      ⟨rfl, by wtm_at "lk", by wtm_at "lk", by wtm_at "lk", by wtm_at "lk", by wtm_at "lk", by wtm_at "lk"⟩, fun i ρ' σ' h => by rw [← h.1]; exact ua, ?_, ?_⟩
    · rintro i d ρ' σ' hd ⟨rfl, k1, k2, k3, k4, k5, k6⟩
      obtain ⟨v, hv, rfl⟩ := iL_getd hd
      have hvn := hun v (List.mem_of_getElem? hv)
      obtain ⟨e1, e2⟩ := H.early mC hvn
      have sR := H.step_of hvn (H.ss_in hvn)
      have sM := H.step_of hvn (mIn v hvn)
      wtm_at "go"
      refine ev_conseq (P' := fun d σ' => d = .bool (decide (Cust T (SS T R m v))) ∧ σa = σ') ?_ ?_
      · refine ev_and ?_
        wtm_at "go"
        refine itm_idict ra (sI_lookup hvn) ?_
        wtm_at "go"
        refine cmp_ne_ti (b := []) ⟨_, rfl, fun hb => ?_, fun hb => ?_⟩
        · rcases sR with h | ⟨y, r, k, e, hk, hl, hc⟩
          · rw [h] at hb; exact absurd hb (by simp)
          · refine ev_boolop_one ?_
            wtm_at "go"
            refine itm_idict ra (sI_lookup hvn) ?_
            wtm_at "go"
            rw [e]
            refine itm_tup (d := .int y) (seq1 (by rw [iL_length]; simp)) rfl (by decide) (by decide) ?_
            wtm_at "go"
            refine itm_tdict (k := [v, y]) ta hl ?_
            wtm_at "go"
            refine ⟨?_, rfl⟩
            rw [sort_cust hk, ← e]
            congr 1
            rw [decide_eq_decide]; exact hc.symm
        · rcases sR with h | ⟨y, r, k, e, hk, hl, hc⟩
          · rw [h]
            exact ⟨by rw [decide_eq_false not_cust_nil], rfl⟩
          · rw [e] at hb; exact absurd hb (by simp)
      · rintro d σ' ⟨rfl, rfl⟩
        show Exs _ _ _ _ _ _ _ _ _
        wtm_at "go"
        refine tst_conseq (P' := fun b σ' => b = false ∧ σa = σ') ?_ ?_
        · refine tst_and (tst_val ?_)
          wtm_at "go"
          refine tru_bool ⟨fun hb => ?_, fun _ => ⟨rfl, rfl⟩⟩
          have hc : Cust T (SS T R m v) := by simpa using hb
          refine tst_and ?_
          wtm_at "go"
          refine itm_idict ma (sI_lookup hvn) ?_
          wtm_at "go"
          refine itm_idict ra (sI_lookup hvn) ?_
          wtm_at "go"
          refine ⟨_, rfl, fun hb => ?_, fun _ => ⟨rfl, rfl⟩⟩
          rw [e1 hc] at hb
          exact absurd hb (by simp)
        · rintro b σ' ⟨rfl, rfl⟩
          refine ⟨fun h => (by cases h), fun _ => ?_⟩
          wtm_at "go"
          refine tst_conseq (P' := fun b σ' => b = false ∧ σa = σ') ?_ ?_
          · refine tst_and (tst_not (tst_val ?_))
            wtm_at "go"
            refine tru_bool ⟨fun hb => ?_, fun _ => ⟨rfl, rfl⟩⟩
            have hc : ¬ Cust T (SS T R m v) := by simpa using hb
            refine tst_and ?_
            wtm_at "go"
            refine itm_idict ma (sI_lookup hvn) ?_
            wtm_at "go"
            refine cmp_ne_ti (b := []) ⟨_, rfl, fun hb => ?_, fun hb => ⟨rfl, rfl⟩⟩
            rcases sM with h | ⟨y, r, k, e, hk, hl, hc'⟩
            · rw [h] at hb; exact absurd hb (by simp)
            · refine tst_and ?_
              wtm_at "go"
              refine itm_idict ma (sI_lookup hvn) ?_
              wtm_at "go"
              rw [e]
              refine itm_tup (d := .int y) (seq1 (by rw [iL_length]; simp)) rfl (by decide) (by decide) ?_
              wtm_at "go"
              refine itm_tdict (k := [v, y]) ta hl ?_
              wtm_at "go"
              refine ⟨_, rfl, fun hb => ?_, fun _ => ⟨rfl, rfl⟩⟩
              rw [sort_cust hk] at hb
              exact absurd (hc'.mpr (by simpa using hb)) (e2 hc)
          · rintro b σ' ⟨rfl, rfl⟩
            refine ⟨fun h => (by cases h), fun _ => ?_⟩
            wtm_at "go"
            exact ⟨by wtm_at "lk", by wtm_at "lk", by wtm_at "lk", by wtm_at "lk", by wtm_at "lk", by wtm_at "lk"⟩
    · rintro ρ' σ' ⟨rfl, k1, k2, k3, k4, k5, k6⟩
      show Exs _ _ _ _ _ _ _ _ _
      wtm_at "go"
      refine ex_for (src_range1 B in_range (by kernel_rfl) ?_)
      wtm_at "go"
      refine bop_mul (by (first | lia | omega)) (by (first | lia | omega)) ?_
      refine ⟨_, rfl, by (first | lia | omega), by (first | lia | omega), ?_⟩
      refine ⟨lawJ3 σa jp jr m R S,
        ⟨js, k1, k2, k5, Grow.refl _, ja⟩, fun _ _ _ _ => trivial, ?_, ?_⟩
      · rintro i d ρ₁ σ' hd ⟨j, h1, h2, h3, g, hj⟩
        wtm_at "go"
        refine c_all G hm.2 H.rowsOk (g _ _ pa) hj fun j' σ'' g' hj' => ?_
        wtm_at "go"
        exact ⟨j', by wtm_at "lk", by wtm_at "lk", by wtm_at "lk", g.trans g', hj'⟩
      · rintro ρ₁ σ' ⟨j, h1, h2, h3, g, hj⟩
        rw [rng_length] at hj
        have e : ((2 : Int) * ((m : Int) - 1) - 0).toNat = 2 * (m - 1) := by (first | lia | omega)
        rw [e, sI_congr (H.once hS)] at hj
        wtm_at "go"
        refine cmp_eq_d hj (g _ _ ra) ?_
        rw [hits_all, all_same fun v _ => rfl]
        exact p _
end
theorem seqAt {y : Int} {n : Nat} (h : 0 ≤ y) (h' : y.toNat < n) : seqIndex? y n = some y.toNat := by
  unfold seqIndex?
  dsimp only
  rw [if_neg (show ¬ y < 0 by (first | lia | omega)), if_pos (by simp; (first | lia | omega))]
theorem not_take {l : List Int} (hn : l.Nodup) {i : Nat} {x : Int} (h : l[i]? = some x) : x ∉ l.take i := by
  intro hm
  obtain ⟨k, hk, e⟩ := List.getElem_of_mem hm
  rw [List.length_take] at hk
  rw [List.getElem_take] at e
  obtain ⟨hi, e2⟩ := List.getElem?_eq_some_iff.mp h
  exact (List.pairwise_iff_getElem.mp hn) k i (by (first | lia | omega)) hi (by (first | lia | omega)) (e.trans e2.symm)
def Sof (l : List (Int × List Int)) (v : Int) : List Int := (l.lookup v).getD []
theorem sof_sI {m : Nat} {l : List (Int × List Int)} (h : l.map (·.1) = nd m) : dI l = sI m (Sof l) := by
  rw [sI_eq, ← h, List.map_map]
  apply List.map_congr_left
  intro x hx
  have := look_of l x.1 x.2 (h ▸ nd_nodup m) hx
  simp only [Function.comp, Sof, this, Option.getD_some]
abbrev lawJ (jp : Nat) (js : Nat) (jt : Nat) (jq : Nat) (m : Nat) (R : Int → List (List Int)) (q : List Int) (T : List (List Int × PV)) (i : Nat) (ρ' : List (Str × PV)) (σ' : List AO) : Prop :=
  ρ'.lookup (Str.ofString "problem") = some (.obj jp) ∧ ρ'.lookup (Str.ofString "state") = some (.obj js) ∧ ρ'.lookup (Str.ofString "ties") = some (.obj jt) ∧ ρ'.lookup (Str.ofString "sizes") = some (.obj jq) ∧ ρ'.lookup (Str.ofString "many") = some (.int m) ∧ ρ'.lookup (Str.ofString "box") = some (.obj 2) ∧
    ∃ l : List (Int × List Int), l.map (·.1) = (nd m).take i ∧ (∀ x ∈ l, x.2 = [] ∨ x.2 ∈ R x.1) ∧ σ'[js]? = some (.idict (dI l)) ∧ σ'[jp]? = some (.idict (pI m R)) ∧ σ'[jq]? = some (.list (iL q)) ∧ σ'[jt]? = some (.tdict T) ∧ BoxAt 2 1 (2000 + i) σ'
section
variable {prog : Program} {w : World} {h₀ : Heap} {n : Nat} {σ : List AO} {P : PV → List AO → Prop}
theorem law_body {a : Addr} {vs : List Value} {ns : List Int} (G : Given h₀) (hl : h₀.IsList a vs.toArray) (hi : IntsAre vs ns) (hz : ns.length ≤ 1000) (p : ∀ σ', P (.bool true) σ') :
    Exs prog w h₀ (n + 10) (scopeOf (stm 23)) (bodyOf (stm 23)) [(Str.ofString "script", .raw (.ref a))] [] (fun fl ρ' σ' => match fl with | .next => P .none σ' | .ret d => P d σ') := by
  have B := G.base
  refine exs_cons ?_
  wtm_at "go"
  refine cut_script hl hi (b := 48) (by (first | lia | omega)) ?_
  wtm_at "go"
  refine call_list_l last_get (by rw [iL_length, List.length_take]; (first | lia | omega)) ?_
  wtm_at "go"
  generalize hb : ([] ++ [AO.list (iL (List.take 48 ns))] ++ [AO.list (iL (List.take 48 ns))]).length = b
  generalize hc : ([] ++ [AO.list (iL (List.take 48 ns))]).length = c
  obtain rfl : 2 = b := hb
  obtain rfl : 1 = c := hc
  refine c_draw G (b := 2) (c := 1) (K := 0) ⟨⟨0, rfl, by decide, by decide⟩, ⟨ns.take 48, rfl, by rw [List.length_take]; (first | lia | omega)⟩, by decide⟩ (by decide) (by decide) fun v σ₁ v0 v1 _ X₁ => ?_
  obtain ⟨m, hm, em⟩ : ∃ m : Nat, (2 ≤ m ∧ m ≤ 5) ∧ 5 - v = (m : Int) := ⟨(5 - v).toNat, by (first | lia | omega), by (first | lia | omega)⟩
  wtm_at "go"
  rw [em]
  have hm0 : 0 < m ∧ m ≤ 5 := by (first | lia | omega)
  have l1 := X₁.lt
  refine c_sizes G X₁ (by decide) (by (first | lia | omega)) fun jq q σ₂ hq s₂ X₂ b₂ hq₂ => ?_
  wtm_at "go"
  have l2 := X₂.lt
  have hql : q.length = m := by rw [hq.length_eq, zr_length]
  refine c_ties G X₂ (by (first | lia | omega)) hq₂ (by (first | lia | omega)) (hq.nodup_iff.mpr (zr_nodup m)) (by (first | lia | omega)) fun jt T σ₃ hT hTl s₃ X₃ b₃ hT₃ => ?_
  wtm_at "go"
  have k2 := s₂.len X₂
  have k3 := s₃.len X₃
  have hq₃ := s₃ _ _ (by (first | lia | omega)) hq₂
  refine ex_swap [Str.ofString "problem", Str.ofString "state"] ?_ (fun x hx => ?_)
  rotate_left
  · simp only [List.mem_cons, List.not_mem_nil, or_false] at hx
    rcases hx with rfl | rfl <;> wtm_at "bd"
  wtm_at "go"
  refine c_problem G X₃ (by (first | lia | omega)) hT₃ (by (first | lia | omega)) hT hm0 fun jp acc σ₄ hacc hrows s₄ X₄ b₄ hp₄ => ?_
  wtm_at "go"
  refine ev_dictI ?_
  wtm_at "go"
  wtm_at "zip"
  wtm_at "go"
  have H := prob_of hm hq hT hacc hrows
  rw [rof_pI hacc] at hp₄
  have lp := (List.getElem?_eq_some_iff.mp hp₄).1
  generalize Rof acc = R at H hp₄
  have k4 := s₄.len X₄
  have lq := (List.getElem?_eq_some_iff.mp (s₄ _ _ (by (first | lia | omega)) hq₃)).1
  have lt := (List.getElem?_eq_some_iff.mp (s₄ _ _ (by (first | lia | omega)) hT₃)).1
  have hq₄ := get_push (y := .idict []) (s₄ _ _ (by (first | lia | omega)) hq₃)
  have hT₄ := get_push (y := .idict []) (s₄ _ _ (by (first | lia | omega)) hT₃)
  have hp₄ := get_push (y := .idict []) hp₄
  have X₄ := X₄.push (.idict [])
  have hj₄ := last_get (σ := σ₄) (x := .idict [])
  generalize hσ : σ₄ ++ [AO.idict []] = σ₅ at hq₄ hT₄ hp₄ X₄ hj₄
  refine c_check G hm.2 H.rowsOk H.rowsGood hp₄ fun σ₆ g₆ => ?_
  have hq₆ := g₆ _ _ hq₄
  have hT₆ := g₆ _ _ hT₄
  have hp₆ := g₆ _ _ hp₄
  have hj₆ := g₆ _ _ hj₄
  have X₆ := X₄.grow g₆
  wtm_at "go"
  refine ex_for (src_range2 B in_range (by kernel_rfl) ?_)
  wtm_at "go"
  refine ⟨_, _, rfl, rfl, by decide, by (first | lia | omega), ?_⟩
  rw [rng_nd]
  have b2q : jq ≠ 2 := by (first | lia | omega)
  have b2t : jt ≠ 2 := by (first | lia | omega)
  have b2p : jp ≠ 2 := by (first | lia | omega)
  have b2j : σ₄.length ≠ 2 := by (first | lia | omega)
  generalize hjs : σ₄.length = js at hj₆ b2j
  have bpj : jp ≠ js := by (first | lia | omega)
  have bqj : jq ≠ js := by (first | lia | omega)
  have btj : jt ≠ js := by (first | lia | omega)
  have bj1 : js ≠ 1 := by (first | lia | omega)
  refine ⟨lawJ jp js jt jq m R q T, ?_, fun _ _ _ _ => trivial, ?_, ?_⟩
  · refine ⟨by wtm_at "lk", by wtm_at "lk", by wtm_at "lk", by wtm_at "lk", by wtm_at "lk", by wtm_at "lk", [], by simp, by simp, hj₆, hp₆, hq₆, hT₆, X₆.le (by (first | lia | omega))⟩
  · rintro i d ρ' σ₇ hd ⟨h1, h2, h3, h4, h5, h6, l, hl1, hl2, hj₇, hp₇, hq₇, hT₇, X₇⟩
    have hi : i < m - 1 := by have := (List.getElem?_eq_some_iff.mp hd).1; rw [iL_length, nd_length] at this; exact this
    obtain ⟨x, hx, rfl⟩ := iL_getd hd
    have hxn := List.mem_of_getElem? hx
    wtm_at "go"
    refine itm_idict hp₇ (pI_lookup hxn) ?_
    have hlen := H.rowsOk.len x hxn
    refine bop_add_tup (by simp; (first | lia | omega)) ?_
    wtm_at "go"
    have e : ([PV.tup []] ++ (R x).map tI) = ([] :: R x).map tI := rfl
    rw [e]
    refine call_len_t (by simp; (first | lia | omega)) ?_
    wtm_at "go"
    refine c_draw G X₇ (by (first | lia | omega)) (by simp; (first | lia | omega)) fun y σ₈ y0 y1 s₈ X₈ => ?_
    rw [List.length_map] at y1
    obtain ⟨pp, hpp⟩ : ∃ pp, ([] :: R x)[y.toNat]? = some pp := ⟨_, List.getElem?_eq_getElem (by (first | lia | omega))⟩
    refine itm_tup (k := y.toNat) (d := tI pp) (seqAt y0 (by rw [List.length_map]; (first | lia | omega))) (by rw [List.getElem?_map, hpp]; rfl) (by (first | lia | omega)) (by simp at y1; (first | lia | omega)) ?_
    wtm_at "go"
    have hj₈ := s₈ _ _ b2j hj₇
    have hll : l.length = i := by have := congrArg List.length hl1; rw [List.length_map, List.length_take, nd_length] at this; (first | lia | omega)
    refine set_idict hj₈ (by simp [dI]; (first | lia | omega)) ?_
    wtm_at "go"
    have hput : putK (dI l) x (tI pp) = dI (l ++ [(x, pp)]) := by
      rw [put_new]
      · simp [dI]
      · have : (dI l).map (·.1) = l.map (·.1) := by simp [dI]
        rw [this, hl1]
        exact not_take (nd_nodup m) hx
    rw [hput]
    refine ⟨by wtm_at "lk", by wtm_at "lk", by wtm_at "lk", by wtm_at "lk", by wtm_at "lk", by wtm_at "lk", l ++ [(x, pp)], ?_, ?_, set_same hj₈, get_set (Ne.symm bpj) (s₈ _ _ b2p hp₇), get_set (Ne.symm bqj) (s₈ _ _ b2q hq₇), get_set (Ne.symm btj) (s₈ _ _ b2t hT₇), (X₈.put _ b2j bj1).le (by (first | lia | omega))⟩
    · rw [List.map_append, hl1, List.take_add_one, hx]; rfl
    · intro z hz
      rcases List.mem_append.mp hz with hz | hz
      · exact hl2 z hz
      · simp at hz; subst hz
        have := List.mem_of_getElem? hpp
        simpa using this
  · rintro ρ' σ₇ ⟨h1, h2, h3, h4, h5, h6, l, hl1, hl2, hj₇, hp₇, hq₇, hT₇, X₇⟩
    rw [iL_length, List.take_length] at hl1
    have hS : In m R (Sof l) := fun v hv => by
      have hv' : v ∈ l.map (·.1) := by rw [hl1]; exact hv
      obtain ⟨x, hx, rfl⟩ := List.mem_map.mp hv'
      have := look_of l x.1 x.2 (hl1 ▸ nd_nodup m) hx
      simp only [Sof, this, Option.getD_some]
      exact hl2 x hx
    rw [sof_sI hl1] at hj₇
    exact law_tail G H hS hTl h1 h2 h3 h4 h5 h6 hj₇ hp₇ hq₇ hT₇ X₇ (by rw [iL_length, nd_length]; (first | lia | omega)) b2p b2j b2t b2q p
end
theorem fnAt_of {K : Frag} {h : Heap} (X : K.In h) {f : Addr} {names : List Str} {body : List Stmt} {scope : Scope} {oc : Value} {od : Option Addr} {fd : FuncData} {osl : Array (Option Value)} (e : K.lookup f = some ⟨oc, od, .func fd, osl⟩)
    (h1 : fd.body = .stmts body) (h2 : fd.scope = scope) (h3 : fd.globals = mainGlobals) (h4 : fd.closure = []) (h5 : fd.builtins = builtinsNs) (hc : codeIn K fd.code fd.qualname = true)
    (hb : ∀ vs : List Value, vs.length = names.length → bindArgs fd ⟨vs, []⟩ = pure (names.zip vs)) : FnAt h f names body scope :=
  ⟨_, fd, X _ _ e, rfl, h1, h2, h3, h4, h5, codeRec_of X hc, hb⟩
theorem FnAt.live {h : Heap} {f : Addr} {names : List Str} {body : List Stmt} {scope : Scope} (x : FnAt h f names body scope) : ∃ o fd, h.get? f = some o ∧ o.data = .func fd := let ⟨o, fd, h1, h2, _⟩ := x; ⟨o, fd, h1, h2⟩
theorem bind1 {fd : FuncData} {x : Str} (h : ∀ a, bindArgs fd ⟨[a], []⟩ = pure [(x, a)]) : ∀ vs : List Value, vs.length = [x].length → bindArgs fd ⟨vs, []⟩ = pure ([x].zip vs) :=
  fun vs e => by obtain ⟨a, rfl⟩ := List.length_eq_one_iff.mp e; exact h a
theorem bind2 {fd : FuncData} {x y : Str} (h : ∀ a b, bindArgs fd ⟨[a, b], []⟩ = pure [(x, a), (y, b)]) : ∀ vs : List Value, vs.length = [x, y].length → bindArgs fd ⟨vs, []⟩ = pure ([x, y].zip vs) :=
  fun vs e => by obtain ⟨a, t, rfl⟩ := List.exists_cons_of_length_eq_add_one e; obtain ⟨b, rfl⟩ := List.length_eq_one_iff.mp (Nat.succ.inj e); exact h a b
theorem bind3 {fd : FuncData} {x y z : Str} (h : ∀ a b c, bindArgs fd ⟨[a, b, c], []⟩ = pure [(x, a), (y, b), (z, c)]) : ∀ vs : List Value, vs.length = [x, y, z].length → bindArgs fd ⟨vs, []⟩ = pure ([x, y, z].zip vs) :=
  fun vs e => by obtain ⟨a, t, rfl⟩ := List.exists_cons_of_length_eq_add_one e; obtain ⟨b, u, rfl⟩ := List.exists_cons_of_length_eq_add_one (Nat.succ.inj e); obtain ⟨c, rfl⟩ := List.length_eq_one_iff.mp (Nat.succ.inj (Nat.succ.inj e)); exact h a b c
/-- the names, as the top's part tells them -/
theorem fl_of {K : Frag} {h : Heap} {mg : Str → Option Value} (X : K.In h) (g : h.Ns mainGlobals mg) (e : ∀ p ∈ FL, nsIn K mainGlobals p.1 = some (some (.ref p.2))) : ∀ x f, FL.lookup x = some f → mg x = some (.ref f) :=
  fun x f hx => mg_of X g (e _ (PySem.mem_of_lookup hx))
theorem bl_of {K : Frag} {h : Heap} {mg mb : Str → Option Value} (X : K.In h) (g : h.Ns mainGlobals mg) (hb : ∀ x : Str, x ≠ "__name__" → mb x = bootBuiltins x) (e : ∀ x ∈ BL, nsIn K mainGlobals x = some none) : ∀ x ∈ BL, mg x = none ∧ mb x = bootBuiltins x :=
  fun x hx => ⟨mg_none_of X g (e x hx), hb x fun q => by subst q; exact absurd hx (by decide +kernel)⟩
theorem funs_of {K : Frag} {h : Heap} (X : K.In h) (L : ∀ p ∈ FL, ∃ o fd, h.get? p.2 = some o ∧ o.data = .func fd) : ∀ x f, FL.lookup x = some f → ∃ o fd, h.get? f = some o ∧ o.data = .func fd := fun x f hx => L _ (PySem.mem_of_lookup hx)
section
variable {prog : Program} {w : World} {h₀ : Heap}
theorem law_exec {A : Around} {env : Env} {a : Addr} {vs : List Value} {ns : List Int} {s : Shared} {m : Str → Option Value} {Q : Flow → Shared → Prop} {E : Value → Shared → Prop}
    (G : Given h₀) (hl : h₀.IsList a vs.toArray) (hi : IntsAre vs ns) (hz : ns.length ≤ 1000) (hsc : env.scope = scopeOf (stm 23)) (hgl : env.globals = mainGlobals) (hbl : env.builtins = builtinsNs) (hce : env.cells = []) (hr : Room 10 A)
    (F : Fr h₀ env.locals s.heap m) (hm : m (Str.ofString "script") = some (.ref a))
    (hQ : ∀ s' m', Fr h₀ env.locals s'.heap m' → s'.gens = s.gens → s'.os = s.os → Q (.ret (.bool true)) s') : wpAny (model prog w) A (execs (bodyOf (stm 23)) env) Q E s := by
  obtain ⟨mg, mb, hg, _⟩ := G.base.names
  obtain ⟨og, eg⟩ := ns_live hg
  have S : St prog w h₀ [] [] s.heap := ⟨rfl, List.nodup_nil, fun i ao a h => by simp at h, fun a h => by simp at h, F.keep, ⟨mainGlobals, og, by decide, eg⟩, fun a h => by simp at h⟩
  have nocell : ∀ x, env.kindOf x ≠ some .cell := fun x hx => by
    unfold Env.kindOf at hx
    rw [hsc] at hx
    exact cells_of (scope := scopeOf (stm 23)) (by kernel_rfl) _ (PySem.mem_of_lookup hx) rfl
  have FM : Fm h₀ env [(Str.ofString "script", .raw (.ref a))] [] s.heap := by
    refine ⟨by rw [hsc]; kernel_rfl, hgl, hbl, ?_, by simp, ⟨m, F.ns, fun x d h1 h2 => ?_⟩, fun x hx => absurd hx (nocell x), fun x y c h => by rw [hce] at h; simp at h⟩
    · cases e : h₀.get? env.locals with
      | none => rfl
      | some o => exact absurd (Heap.lt_size e) (Nat.not_lt.mpr F.above)
    · rw [List.lookup_cons] at h1
      by_cases q : x = Str.ofString "script"
      · subst q
        rw [beq_self_eq_true] at h1
        cases h1
        exact ⟨_, hm, .raw _⟩
      · rw [beq_eq_false_iff_ne.mpr q] at h1
        simp at h1
  refine law_body (n := 0) (P := fun d σ' => d = .bool true) G hl hi hz (fun _ => rfl) env A s [] hsc hr FM S E Q fun f fl ρ' s' α' σ' g F' S' r' p => ?_
  cases fl with
  | next => cases p
  | ret d =>
    have p : d = .bool true := p
    subst p
    cases f <;> simp only [FlRep] at r'
    cases r'
    obtain ⟨m', hm', _⟩ := F'.ns
    exact hQ s' m' ⟨hm', S'.keep, F.above⟩ g.gens g.os
end
end Mine
set_option maxRecDepth 100000 in
set_option maxHeartbeats 8000000 in
theorem PySem.Challenge.cw_sj0170_01_holds : PySem.Challenge.rw_sj0170_01.Holds := by
  refine Mine.hd ?_
  k_go0
  rename Top _ _ _ _ _ _ => T
  rename Frag.In _ _ => KX
  rename Fr _ _ _ _ => F
  rename Heap.IsList _ _ _ => hL
  rename IntsAre _ _ => hI
  rename Shared.gens _ = _ => hg
  rename ¬ ((63 : Int) < _) => hlen
  have fCheck : Mine.FnAt _ 51 [Str.ofString "problem"] (Mine.bodyOf (Mine.stm 5)) (Mine.scopeOf (Mine.stm 5)) := Mine.fnAt_of KX (by k_is) (by kernel_rfl) (by kernel_rfl) rfl rfl rfl (by k_is) (Mine.bind1 fun _ => by rfl)
  have fPathOf : Mine.FnAt _ 58 [Str.ofString "state", Str.ofString "node"] (Mine.bodyOf (Mine.stm 6)) (Mine.scopeOf (Mine.stm 6)) := Mine.fnAt_of KX (by k_is) (by kernel_rfl) (by kernel_rfl) rfl rfl rfl (by k_is) (Mine.bind2 fun _ _ => by rfl)
  have fOffered : Mine.FnAt _ 65 [Str.ofString "state", Str.ofString "path"] (Mine.bodyOf (Mine.stm 7)) (Mine.scopeOf (Mine.stm 7)) := Mine.fnAt_of KX (by k_is) (by kernel_rfl) (by kernel_rfl) rfl rfl rfl (by k_is) (Mine.bind2 fun _ _ => by rfl)
  have fBest : Mine.FnAt _ 72 [Str.ofString "problem", Str.ofString "state", Str.ofString "node"] (Mine.bodyOf (Mine.stm 8)) (Mine.scopeOf (Mine.stm 8)) := Mine.fnAt_of KX (by k_is) (by kernel_rfl) (by kernel_rfl) rfl rfl rfl (by k_is) (Mine.bind3 fun _ _ _ => by rfl)
  have fUnquiet : Mine.FnAt _ 77 [Str.ofString "problem", Str.ofString "state"] (Mine.bodyOf (Mine.stm 9)) (Mine.scopeOf (Mine.stm 9)) := Mine.fnAt_of KX (by k_is) (by kernel_rfl) (by kernel_rfl) rfl rfl rfl (by k_is) (Mine.bind2 fun _ _ => by rfl)
  have fStable : Mine.FnAt _ 84 [Str.ofString "problem", Str.ofString "state"] (Mine.bodyOf (Mine.stm 10)) (Mine.scopeOf (Mine.stm 10)) := Mine.fnAt_of KX (by k_is) (by kernel_rfl) (by kernel_rfl) rfl rfl rfl (by k_is) (Mine.bind2 fun _ _ => by rfl)
  have fActivated : Mine.FnAt _ 91 [Str.ofString "problem", Str.ofString "state", Str.ofString "node"] (Mine.bodyOf (Mine.stm 11)) (Mine.scopeOf (Mine.stm 11)) := Mine.fnAt_of KX (by k_is) (by kernel_rfl) (by kernel_rfl) rfl rfl rfl (by k_is) (Mine.bind3 fun _ _ _ => by rfl)
  have fAll : Mine.FnAt _ 96 [Str.ofString "problem", Str.ofString "state"] (Mine.bodyOf (Mine.stm 12)) (Mine.scopeOf (Mine.stm 12)) := Mine.fnAt_of KX (by k_is) (by kernel_rfl) (by kernel_rfl) rfl rfl rfl (by k_is) (Mine.bind2 fun _ _ => by rfl)
  have fNo : Mine.FnAt _ 101 [Str.ofString "problem"] (Mine.bodyOf (Mine.stm 13)) (Mine.scopeOf (Mine.stm 13)) := Mine.fnAt_of KX (by k_is) (by kernel_rfl) (by kernel_rfl) rfl rfl rfl (by k_is) (Mine.bind1 fun _ => by rfl)
  have fRow : Mine.FnAt _ 108 [Str.ofString "problem", Str.ofString "state", Str.ofString "row"] (Mine.bodyOf (Mine.stm 14)) (Mine.scopeOf (Mine.stm 14)) := Mine.fnAt_of KX (by k_is) (by kernel_rfl) (by kernel_rfl) rfl rfl rfl (by k_is) (Mine.bind3 fun _ _ _ => by rfl)
  have fRounds : Mine.FnAt _ 115 [Str.ofString "problem", Str.ofString "state", Str.ofString "most"] (Mine.bodyOf (Mine.stm 15)) (Mine.scopeOf (Mine.stm 15)) := Mine.fnAt_of KX (by k_is) (by kernel_rfl) (by kernel_rfl) rfl rfl rfl (by k_is) (Mine.bind3 fun _ _ _ => by rfl)
  have fDraw : Mine.FnAt _ 122 [Str.ofString "box", Str.ofString "many"] (Mine.bodyOf (Mine.stm 17)) (Mine.scopeOf (Mine.stm 17)) := Mine.fnAt_of KX (by k_is) (by kernel_rfl) (by kernel_rfl) rfl rfl rfl (by k_is) (Mine.bind2 fun _ _ => by rfl)
  have fSizes : Mine.FnAt _ 129 [Str.ofString "box", Str.ofString "many"] (Mine.bodyOf (Mine.stm 18)) (Mine.scopeOf (Mine.stm 18)) := Mine.fnAt_of KX (by k_is) (by kernel_rfl) (by kernel_rfl) rfl rfl rfl (by k_is) (Mine.bind2 fun _ _ => by rfl)
  have fTies : Mine.FnAt _ 136 [Str.ofString "box", Str.ofString "sizes"] (Mine.bodyOf (Mine.stm 19)) (Mine.scopeOf (Mine.stm 19)) := Mine.fnAt_of KX (by k_is) (by kernel_rfl) (by kernel_rfl) rfl rfl rfl (by k_is) (Mine.bind2 fun _ _ => by rfl)
  have fPaths : Mine.FnAt _ 143 [Str.ofString "ties", Str.ofString "many"] (Mine.bodyOf (Mine.stm 20)) (Mine.scopeOf (Mine.stm 20)) := Mine.fnAt_of KX (by k_is) (by kernel_rfl) (by kernel_rfl) rfl rfl rfl (by k_is) (Mine.bind2 fun _ _ => by rfl)
  have fProblem : Mine.FnAt _ 148 [Str.ofString "box", Str.ofString "ties", Str.ofString "many"] (Mine.bodyOf (Mine.stm 21)) (Mine.scopeOf (Mine.stm 21)) := Mine.fnAt_of KX (by k_is) (by kernel_rfl) (by kernel_rfl) rfl rfl rfl (by k_is) (Mine.bind3 fun _ _ _ => by rfl)
  have fWay : Mine.FnAt _ 155 [Str.ofString "box", Str.ofString "nodes", Str.ofString "many"] (Mine.bodyOf (Mine.stm 22)) (Mine.scopeOf (Mine.stm 22)) := Mine.fnAt_of KX (by k_is) (by kernel_rfl) (by kernel_rfl) rfl rfl rfl (by k_is) (Mine.bind3 fun _ _ _ => by rfl)
  have hfl := Mine.fl_of KX T.g (by
    intro p hp
    simp only [Mine.FL, List.mem_cons, List.not_mem_nil, or_false] at hp
    rcases hp with rfl | rfl | rfl | rfl | rfl | rfl | rfl | rfl | rfl | rfl | rfl | rfl | rfl | rfl | rfl | rfl | rfl <;> k_is)
  have hbl := Mine.bl_of KX T.g T.builtins (by
    intro x hx
    simp only [Mine.BL, List.mem_cons, List.not_mem_nil, or_false] at hx
    rcases hx with rfl | rfl | rfl | rfl | rfl | rfl | rfl | rfl <;> k_is)
  have hor := mg_of (n := Str.ofString "ORIGIN") KX T.g (by k_is)
  have hfun := Mine.funs_of KX (by
    intro p hp
    simp only [Mine.FL, List.mem_cons, List.not_mem_nil, or_false] at hp
    rcases hp with rfl | rfl | rfl | rfl | rfl | rfl | rfl | rfl | rfl | rfl | rfl | rfl | rfl | rfl | rfl | rfl | rfl
    · exact Mine.FnAt.live fCheck
    · exact Mine.FnAt.live fPathOf
    · exact Mine.FnAt.live fOffered
    · exact Mine.FnAt.live fBest
    · exact Mine.FnAt.live fUnquiet
    · exact Mine.FnAt.live fStable
    · exact Mine.FnAt.live fActivated
    · exact Mine.FnAt.live fAll
    · exact Mine.FnAt.live fNo
    · exact Mine.FnAt.live fRow
    · exact Mine.FnAt.live fRounds
    · exact Mine.FnAt.live fDraw
    · exact Mine.FnAt.live fSizes
    · exact Mine.FnAt.live fTies
    · exact Mine.FnAt.live fPaths
    · exact Mine.FnAt.live fProblem
    · exact Mine.FnAt.live fWay)
  have G : Mine.Given _ := {
    base := ⟨⟨_, _, T.g, T.b, hfl, ⟨_, hor⟩, hbl⟩, T.nolimit, hfun⟩
    fCheck := fCheck
    fPathOf := fPathOf
    fOffered := fOffered
    fBest := fBest
    fUnquiet := fUnquiet
    fStable := fStable
    fActivated := fActivated
    fAll := fAll
    fNo := fNo
    fRow := fRow
    fRounds := fRounds
    fDraw := fDraw
    fSizes := fSizes
    fTies := fTies
    fPaths := fPaths
    fProblem := fProblem
    fWay := fWay
  }
  refine Mine.law_exec (vs := _) G hL hI (by omega) (by kernel_rfl) rfl rfl rfl ⟨rfl, Nat.le_of_ble_eq_true rfl, Nat.le_of_ble_eq_true rfl⟩ F rfl fun s' m' F' hg' ho' => ?_
  refine goodW_bool F' (hg'.trans hg) (raisesW_false ?_) ?_ ho'
  · wrow_none_raised
  · wrow_post
