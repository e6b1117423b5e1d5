import PyProof.Rows.All
import Wide.All
import OpenK.AllK
import Wide.FinOn
import HandS.ForMost
import HandS.TupAny
import HandS.TupMul
import HandS.Deep
import HandS.IsInst
import HandS.SortInts
import HandS.Conv
import KE.SortData
import HandS.More
import HandS.SetFor
import HandS.Comp
import HandS.ForExc
import HandS.Strs
import HandS.Style
import HandS.WordsExc
import HandS.Ends
import PySem.Challenge.RW_stonebreath_k23_by_stones
set_option Elab.async false
set_option linter.all false
set_option maxRecDepth 100000
namespace MV
open PySem PySem.Spec PyProof.Rows L2

abbrev Frag := PySem.W.Frag
def Le (A B : Hp) : Prop := ∀ a o, A a = some o → B a = some o
theorem Le.refl (A : Hp) : Le A A := fun _ _ h => h
theorem Le.trans {A B C : Hp} (h : Le A B) (k : Le B C) : Le A C := fun a o e => k a o (h a o e)
theorem le_upd {A B : Hp} {p : Addr} {o : HO} (h : Le A B) : Le (upd A p o) (upd B p o) := fun a u e => by
  by_cases q : a = p
  · subst q; rw [upd_same] at e ⊢; exact e
  · rw [upd_ne q] at e ⊢; exact h a u e
theorem le_upd_new {A : Hp} {p : Addr} {o : HO} (h : A p = none) : Le A (upd A p o) := fun a u e => by
  by_cases q : a = p
  · subst q; rw [h] at e; cases e
  · rw [upd_ne q]; exact e
theorem le_into_upd {A B : Hp} {p : Addr} {o : HO} (h : Le A B) (hp : A p = none) : Le A (upd B p o) := fun a u e => by
  by_cases q : a = p
  · subst q; rw [hp] at e; cases e
  · rw [upd_ne q]; exact h a u e
theorem Le.none {A B : Hp} (h : Le A B) {a : Addr} (e : B a = none) : A a = none := by
  cases q : A a with
  | none => rfl
  | some o => rw [h a o q] at e; cases e

theorem Rd.mono {A B : Hp} (h : Le A B) {a : Addr} {u : HO} (r : Rd A a u) : Rd B a u := by
  rcases r with r | ⟨o, r⟩
  · exact .inl (h _ _ r)
  · exact .inr ⟨o, h _ _ r⟩
mutual
/-- data: as Dp, every list and tuple a tracked one -/
inductive Dq (H : Hp) : V → PyData → Prop
  | non : Dq H .non .none
  | bl (b : Bool) : Dq H (.bl b) (.bool b)
  | int (i : Int) : Dq H (.int i) (.int i)
  | str (x : Str) : Dq H (.str x) (.str x)
  | lst {a : Addr} {xs : List V} {ds : List PyData} : Rd H a (.lst xs) → DqAll H xs ds → Dq H (.ref a) (.list ds)
  | tup {a : Addr} {xs : List V} {ds : List PyData} : Rd H a (.tup xs) → DqAll H xs ds → Dq H (.ref a) (.tuple ds)
inductive DqAll (H : Hp) : List V → List PyData → Prop
  | nil : DqAll H [] []
  | cons {v : V} {vs : List V} {d : PyData} {ds : List PyData} : Dq H v d → DqAll H vs ds → DqAll H (v :: vs) (d :: ds)
end
mutual
theorem Dq.mono {A B : Hp} (h : Le A B) : ∀ {v : V} {x : PyData}, Dq A v x → Dq B v x
  | _, _, .non => .non
  | _, _, .bl b => .bl b
  | _, _, .int i => .int i
  | _, _, .str x => .str x
  | _, _, .lst s t => .lst (Rd.mono h s) (DqAll.mono h t)
  | _, _, .tup s t => .tup (Rd.mono h s) (DqAll.mono h t)
theorem DqAll.mono {A B : Hp} (h : Le A B) : ∀ {vs : List V} {xs : List PyData}, DqAll A vs xs → DqAll B vs xs
  | _, _, .nil => .nil
  | _, _, .cons s t => .cons (Dq.mono h s) (DqAll.mono h t)
end
mutual
theorem Dq.dp {K : Frag} {A : Hp} : ∀ {v : V} {x : PyData}, Dq A v x → Dp K A v x
  | _, _, .non => .non
  | _, _, .bl b => .bl b
  | _, _, .int i => .int i
  | _, _, .str x => .str x
  | _, _, .lst s t => .lst (.inl s) (DqAll.dp t)
  | _, _, .tup s t => .tup (.inl s) (DqAll.dp t)
theorem DqAll.dp {K : Frag} {A : Hp} : ∀ {vs : List V} {xs : List PyData}, DqAll A vs xs → DpAll K A vs xs
  | _, _, .nil => .nil
  | _, _, .cons s t => .cons (Dq.dp s) (DqAll.dp t)
end
theorem DqAll.len {A : Hp} : ∀ {vs : List V} {xs : List PyData}, DqAll A vs xs → vs.length = xs.length
  | _, _, .nil => rfl
  | _, _, .cons _ t => by rw [List.length_cons, List.length_cons, DqAll.len t]
theorem DqAll.append {A : Hp} : ∀ {vs us : List V} {xs ys : List PyData}, DqAll A vs xs → DqAll A us ys → DqAll A (vs ++ us) (xs ++ ys)
  | _, _, _, _, .nil, k => k
  | _, _, _, _, .cons s t, k => .cons s (DqAll.append t k)
theorem DqAll.get {A : Hp} : ∀ {vs : List V} {xs : List PyData} {i : Nat} {x : PyData}, DqAll A vs xs → xs[i]? = some x → ∃ v, vs[i]? = some v ∧ Dq A v x
  | _, _, _, _, .nil, e => by simp at e
  | _, _, 0, _, .cons s _, e => by simp at e; subst e; exact ⟨_, rfl, s⟩
  | _, _, i + 1, x, .cons _ t, e => by
    obtain ⟨v, h1, h2⟩ := DqAll.get (i := i) (x := x) t (by simpa using e)
    exact ⟨v, by simpa using h1, h2⟩
theorem DqAll.getV {A : Hp} : ∀ {vs : List V} {xs : List PyData} {i : Nat} {v : V}, DqAll A vs xs → vs[i]? = some v → ∃ x, xs[i]? = some x ∧ Dq A v x
  | _, _, _, _, .nil, e => by simp at e
  | _, _, 0, _, .cons s _, e => by simp at e; subst e; exact ⟨_, rfl, s⟩
  | _, _, i + 1, x, .cons _ t, e => by
    obtain ⟨v, h1, h2⟩ := DqAll.getV (i := i) (v := x) t (by simpa using e)
    exact ⟨v, by simpa using h1, h2⟩
theorem DqAll.set {A : Hp} {v : V} {x : PyData} (h : Dq A v x) : ∀ {vs : List V} {xs : List PyData} (i : Nat), DqAll A vs xs → DqAll A (vs.set i v) (xs.set i x)
  | _, _, _, .nil => .nil
  | _, _, 0, .cons _ t => .cons h t
  | _, _, i + 1, .cons s t => .cons s (DqAll.set h i t)
theorem DqAll.drop {A : Hp} : ∀ {vs : List V} {xs : List PyData} (n : Nat), DqAll A vs xs → DqAll A (vs.drop n) (xs.drop n)
  | _, _, 0, h => h
  | _, _, _ + 1, .nil => .nil
  | _, _, n + 1, .cons _ t => DqAll.drop n t
theorem DqAll.take {A : Hp} : ∀ {vs : List V} {xs : List PyData} (n : Nat), DqAll A vs xs → DqAll A (vs.take n) (xs.take n)
  | _, _, 0, _ => .nil
  | _, _, _ + 1, .nil => .nil
  | _, _, n + 1, .cons s t => .cons s (DqAll.take n t)
theorem DqAll.erase {A : Hp} : ∀ {vs : List V} {xs : List PyData} (n : Nat), DqAll A vs xs → DqAll A (vs.eraseIdx n) (xs.eraseIdx n)
  | _, _, _, .nil => .nil
  | _, _, 0, .cons _ t => t
  | _, _, n + 1, .cons s t => .cons s (DqAll.erase n t)
theorem DqAll.dropLast {A : Hp} {vs : List V} {xs : List PyData} (h : DqAll A vs xs) : DqAll A vs.dropLast xs.dropLast := by
  rw [List.dropLast_eq_take, List.dropLast_eq_take, h.len]
  exact h.take _
theorem DqAll.reverse {A : Hp} : ∀ {vs : List V} {xs : List PyData}, DqAll A vs xs → DqAll A vs.reverse xs.reverse
  | _, _, .nil => .nil
  | _, _, .cons s t => by
    rw [List.reverse_cons, List.reverse_cons]
    exact (DqAll.reverse t).append (.cons s .nil)
/-- read back: what stands there is one value -/
theorem DqAll.ints {A : Hp} : ∀ {vs : List V} {ns : List Int}, DqAll A vs (ns.map PyData.int) → vs = ns.map V.int
  | _, [], h => by cases h; rfl
  | _, n :: ns, h => by
    cases h with
    | cons s t =>
      cases s
      rw [DqAll.ints t]; rfl
theorem DqAll.of_ints {A : Hp} : ∀ (ns : List Int), DqAll A (ns.map V.int) (ns.map PyData.int)
  | [] => .nil
  | n :: ns => .cons (.int n) (DqAll.of_ints ns)
theorem DqAll.strs {A : Hp} : ∀ {vs : List V} {ns : List Str}, DqAll A vs (ns.map PyData.str) → vs = ns.map V.str
  | _, [], h => by cases h; rfl
  | _, n :: ns, h => by
    cases h with
    | cons s t =>
      cases s
      rw [DqAll.strs t]; rfl
theorem DqAll.bools {A : Hp} : ∀ {vs : List V} {ns : List Bool}, DqAll A vs (ns.map PyData.bool) → vs = ns.map V.bl
  | _, [], h => by cases h; rfl
  | _, n :: ns, h => by
    cases h with
    | cons s t =>
      cases s
      rw [DqAll.bools t]; rfl

/-- what a slot holds -/
inductive W where
  | d (x : PyData)
  | vl (xs : List PyData)
  | vd (kvs : List (Key × PyData))
  | ol (xs : List PyData)
  | od (kvs : List (Key × PyData))
  | vw (ws : List W)
  | ow (ws : List W)
  | tw (ws : List W)
  | ins (a C : Addr) (fs : List (Str × W))

/-- the world: what never changes from here on; what stands while this def runs; the heap -/
structure Wo where
  B : Hp
  L : Hp
  H : Hp

def KDp (B : Hp) (kvs : List (Key × V)) (xs : List (Key × PyData)) : Prop :=
  kvs.map (·.1) = xs.map (·.1) ∧ DqAll B (kvs.map (·.2)) (xs.map (·.2))
theorem KDp.mono {A B : Hp} (h : Le A B) {kvs : List (Key × V)} {xs : List (Key × PyData)} (r : KDp A kvs xs) : KDp B kvs xs := ⟨r.1, DqAll.mono h r.2⟩

mutual
inductive RW (ω : Wo) : V → W → List Addr → Prop where
  | d {v : V} {x : PyData} : Dq ω.B v x → RW ω v (.d x) []
  | vl {a : Addr} {vs : List V} {xs : List PyData} : Rd ω.L a (.lst vs) → DqAll ω.B vs xs → RW ω (.ref a) (.vl xs) []
  | vd {a : Addr} {vs : List (Key × V)} {xs : List (Key × PyData)} : Rd ω.L a (.dK vs) → KDp ω.B vs xs → RW ω (.ref a) (.vd xs) []
  | ol {a : Addr} {vs : List V} {xs : List PyData} : ω.H a = some (.lst vs) → DqAll ω.B vs xs → RW ω (.ref a) (.ol xs) [a]
  | od {a : Addr} {vs : List (Key × V)} {xs : List (Key × PyData)} : ω.H a = some (.dK vs) → KDp ω.B vs xs → RW ω (.ref a) (.od xs) [a]
  | vw {a : Addr} {vs : List V} {ws : List W} : Rd ω.L a (.lst vs) → RWs ω vs ws [] → RW ω (.ref a) (.vw ws) []
  | ow {a : Addr} {vs : List V} {ws : List W} {f : List Addr} : ω.H a = some (.lst vs) → RWs ω vs ws f → RW ω (.ref a) (.ow ws) (a :: f)
  | tw {a : Addr} {vs : List V} {ws : List W} {f : List Addr} : Rd ω.B a (.tup vs) → RWs ω vs ws f → RW ω (.ref a) (.tw ws) f
  | ins {a C dx : Addr} {fs : List (Str × V)} {gs : List (Str × W)} {f : List Addr} : ω.H a = some (.ins C dx fs) → ω.B dx = some (.own a) → fs.map (·.1) = gs.map (·.1) → RWs ω (fs.map (·.2)) (gs.map (·.2)) f →
      RW ω (.ref a) (.ins a C gs) (a :: f)
inductive RWs (ω : Wo) : List V → List W → List Addr → Prop where
  | nil : RWs ω [] [] []
  | cons {v : V} {w : W} {f g : List Addr} {vs : List V} {ws : List W} : RW ω v w f → RWs ω vs ws g → RWs ω (v :: vs) (w :: ws) (f ++ g)
end

abbrev WSt := List (Option W)
inductive RSs (ω : Wo) : List (Option V) → WSt → List Addr → Prop where
  | nil : RSs ω [] [] []
  | dead {ov : Option V} {σ : List (Option V)} {S : WSt} {f : List Addr} : RSs ω σ S f → RSs ω (ov :: σ) (none :: S) f
  | live {v : V} {w : W} {σ : List (Option V)} {S : WSt} {f g : List Addr} : RW ω v w f → RSs ω σ S g → RSs ω (some v :: σ) (some w :: S) (f ++ g)

structure Wd (ω : Wo) (fp : List Addr) : Prop where
  bl : Le ω.B ω.L
  lh : Le ω.L ω.H
  nd : fp.Nodup
  dis : ∀ a ∈ fp, ω.L a = none

structure Ext (ω : Wo) (fp : List Addr) (ω' : Wo) (fp' : List Addr) : Prop where
  wd : Wd ω' fp'
  bb : Le ω.B ω'.B
  ll : Le ω.L ω'.L
  keep : ∀ a o, ω.H a = some o → a ∉ fp → ω'.H a = some o
  nfp : ∀ a ∈ fp', a ∈ fp ∨ ω.H a = none
  nL : ∀ a, ω'.L a ≠ none → ω.L a ≠ none ∨ a ∈ fp ∨ ω.H a = none
  nB : ∀ a, ω'.B a ≠ none → ω.B a ≠ none ∨ a ∈ fp ∨ ω.H a = none

section
variable {ω ω' ω'' : Wo} {f g fp fp' fp'' : List Addr}
mutual
theorem RW.alloc : ∀ {v : V} {w : W} {f : List Addr}, RW ω v w f → ∀ a ∈ f, ω.H a ≠ none
  | _, _, _, .d _, _, h => nomatch h
  | _, _, _, .vl _ _, _, h => nomatch h
  | _, _, _, .vd _ _, _, h => nomatch h
  | _, _, _, .vw _ _, _, h => nomatch h
  | _, _, _, .ol e _, a, h => by
    have q := List.mem_singleton.mp h
    subst q; rw [e]; simp
  | _, _, _, .od e _, a, h => by
    have q := List.mem_singleton.mp h
    subst q; rw [e]; simp
  | _, _, _, .ow e r, a, h => by
    rcases List.mem_cons.mp h with q | q
    · subst q; rw [e]; simp
    · exact RWs.alloc r a q
  | _, _, _, .tw _ r, a, h => RWs.alloc r a h
  | _, _, _, .ins e _ _ r, a, h => by
    rcases List.mem_cons.mp h with q | q
    · subst q; rw [e]; simp
    · exact RWs.alloc r a q
theorem RWs.alloc : ∀ {vs : List V} {ws : List W} {f : List Addr}, RWs ω vs ws f → ∀ a ∈ f, ω.H a ≠ none
  | _, _, _, .nil, _, h => nomatch h
  | _, _, _, .cons r t, a, h => by
    rcases List.mem_append.mp h with q | q
    · exact RW.alloc r a q
    · exact RWs.alloc t a q
end
theorem RSs.alloc : ∀ {σ : List (Option V)} {S : WSt} {f : List Addr}, RSs ω σ S f → ∀ a ∈ f, ω.H a ≠ none
  | _, _, _, .nil, _, h => nomatch h
  | _, _, _, .dead t, a, h => RSs.alloc t a h
  | _, _, _, .live r t, a, h => by
    rcases List.mem_append.mp h with q | q
    · exact RW.alloc r a q
    · exact RSs.alloc t a q
mutual
theorem RW.mono (hB : Le ω.B ω'.B) (hL : Le ω.L ω'.L) : ∀ {v : V} {w : W} {f : List Addr}, RW ω v w f → (∀ a ∈ f, ω'.H a = ω.H a) → RW ω' v w f
  | _, _, _, .d h, _ => .d (Dq.mono hB h)
  | _, _, _, .vl h t, _ => .vl (Rd.mono hL h) (DqAll.mono hB t)
  | _, _, _, .vd h t, _ => .vd (Rd.mono hL h) (KDp.mono hB t)
  | _, _, _, .vw h t, _ => .vw (Rd.mono hL h) (RWs.mono hB hL t fun _ q => nomatch q)
  | _, _, _, .ol e t, k => .ol ((k _ (by simp)).trans e) (DqAll.mono hB t)
  | _, _, _, .od e t, k => .od ((k _ (by simp)).trans e) (KDp.mono hB t)
  | _, _, _, .ow e t, k => .ow ((k _ (by simp)).trans e) (RWs.mono hB hL t fun a q => k a (List.mem_cons_of_mem _ q))
  | _, _, _, .tw s t, k => .tw (Rd.mono hB s) (RWs.mono hB hL t k)
  | _, _, _, .ins e b n t, k => .ins ((k _ (by simp)).trans e) (hB _ _ b) n (RWs.mono hB hL t fun a q => k a (List.mem_cons_of_mem _ q))
theorem RWs.mono (hB : Le ω.B ω'.B) (hL : Le ω.L ω'.L) : ∀ {vs : List V} {ws : List W} {f : List Addr}, RWs ω vs ws f → (∀ a ∈ f, ω'.H a = ω.H a) → RWs ω' vs ws f
  | _, _, _, .nil, _ => .nil
  | _, _, _, .cons r t, k => .cons (RW.mono hB hL r fun a q => k a (List.mem_append_left _ q)) (RWs.mono hB hL t fun a q => k a (List.mem_append_right _ q))
end
theorem RSs.mono (hB : Le ω.B ω'.B) (hL : Le ω.L ω'.L) : ∀ {σ : List (Option V)} {S : WSt} {f : List Addr}, RSs ω σ S f → (∀ a ∈ f, ω'.H a = ω.H a) → RSs ω' σ S f
  | _, _, _, .nil, _ => .nil
  | _, _, _, .dead t, k => .dead (RSs.mono hB hL t k)
  | _, _, _, .live r t, k => .live (RW.mono hB hL r fun a q => k a (List.mem_append_left _ q)) (RSs.mono hB hL t fun a q => k a (List.mem_append_right _ q))

theorem Ext.refl (h : Wd ω fp) : Ext ω fp ω fp :=
  ⟨h, Le.refl _, Le.refl _, fun _ _ e _ => e, fun _ h => .inl h, fun _ h => .inl h, fun _ h => .inl h⟩
theorem Ext.trans (a : Ext ω fp ω' fp') (b : Ext ω' fp' ω'' fp'') : Ext ω fp ω'' fp'' := by
  have none_of : ∀ x, ω'.H x = none → x ∈ fp ∨ ω.H x = none := fun x h => by
    cases q : ω.H x with
    | none => exact .inr rfl
    | some o =>
      by_cases m : x ∈ fp
      · exact .inl m
      · rw [a.keep x o q m] at h; cases h
  refine ⟨b.wd, a.bb.trans b.bb, a.ll.trans b.ll, fun x o e n => ?_, fun x h => ?_, fun x h => ?_, fun x h => ?_⟩
  · refine b.keep x o (a.keep x o e n) fun m => ?_
    rcases a.nfp x m with q | q
    · exact n q
    · rw [e] at q; cases q
  · rcases b.nfp x h with q | q
    · exact a.nfp x q
    · exact none_of x q
  · rcases b.nL x h with q | q | q
    · exact a.nL x q
    · exact .inr (a.nfp x q)
    · exact .inr (none_of x q)
  · rcases b.nB x h with q | q | q
    · exact a.nB x q
    · exact .inr (a.nfp x q)
    · exact .inr (none_of x q)
theorem Ext.frame (a : Ext ω fp ω' fp') (nd : (fp ++ g).Nodup) (hL : ∀ x ∈ g, ω.L x = none) (al : ∀ x ∈ g, ω.H x ≠ none) : Ext ω (fp ++ g) ω' (fp' ++ g) ∧ ∀ x ∈ g, ω'.H x = ω.H x := by
  obtain ⟨nd1, nd2, nd3⟩ := List.nodup_append.mp nd
  have hn : ∀ x ∈ g, x ∉ fp := fun x h h' => nd3 x h' x h rfl
  refine ⟨⟨⟨a.wd.bl, a.wd.lh, List.nodup_append.mpr ⟨a.wd.nd, nd2, fun x h y h' e => ?_⟩, fun x h => ?_⟩, a.bb, a.ll, fun x o e n => a.keep x o e fun m => n (List.mem_append_left _ m), fun x h => ?_, fun x h => ?_, fun x h => ?_⟩, fun x h => ?_⟩
  · subst e
    rcases a.nfp x h with q | q
    · exact hn x h' q
    · exact al x h' q
  · rcases List.mem_append.mp h with h | h
    · exact a.wd.dis x h
    · cases q : ω'.L x with
      | none => rfl
      | some o =>
        rcases a.nL x (by rw [q]; simp) with z | z | z
        · exact absurd (hL x h) z
        · exact absurd z (hn x h)
        · exact absurd z (al x h)
  · rcases List.mem_append.mp h with h | h
    · exact (a.nfp x h).imp (List.mem_append_left _) id
    · exact .inl (List.mem_append_right _ h)
  · exact (a.nL x h).imp id fun z => z.imp (List.mem_append_left _) id
  · exact (a.nB x h).imp id fun z => z.imp (List.mem_append_left _) id
  · cases q : ω.H x with
    | none => exact absurd q (al x h)
    | some o => exact a.keep x o q (hn x h)
theorem Wd.perm (h : Wd ω fp) (p : fp.Perm fp') : Wd ω fp' := ⟨h.bl, h.lh, p.nodup_iff.mp h.nd, fun a m => h.dis a (p.mem_iff.mpr m)⟩
theorem Ext.perm (h : Ext ω fp ω' fp') (p : fp.Perm f) (q : fp'.Perm g) : Ext ω f ω' g :=
  ⟨h.wd.perm q, h.bb, h.ll, fun a o e n => h.keep a o e fun m => n (p.mem_iff.mp m), fun a m => (h.nfp a (q.mem_iff.mpr m)).imp p.mem_iff.mp id, fun a m => (h.nL a m).imp id fun z => z.imp p.mem_iff.mp id,
   fun a m => (h.nB a m).imp id fun z => z.imp p.mem_iff.mp id⟩
theorem Ext.permR (h : Ext ω fp ω' fp') (q : fp'.Perm g) : Ext ω fp ω' g := h.perm (List.Perm.refl _) q
theorem Ext.permL (h : Ext ω fp ω' fp') (q : fp.Perm g) : Ext ω g ω' fp' := h.perm q (List.Perm.refl _)
theorem Wd.sub (h : Wd ω fp) (s : fp'.Sublist fp) : Wd ω fp' := ⟨h.bl, h.lh, s.nodup h.nd, fun a m => h.dis a (s.subset m)⟩
theorem Ext.sub (h : Ext ω fp ω' fp') (s : g.Sublist fp') : Ext ω fp ω' g :=
  ⟨h.wd.sub s, h.bb, h.ll, h.keep, fun a m => h.nfp a (s.subset m), h.nL, h.nB⟩
theorem Ext.dropL (h : Ext ω fp ω' (f ++ g)) : Ext ω fp ω' g := h.sub (List.sublist_append_right _ _)
theorem Ext.dropR (h : Ext ω fp ω' (f ++ g)) : Ext ω fp ω' f := h.sub (List.sublist_append_left _ _)
/-- more of the footprint may be named ahead -/
theorem Ext.more (h : Ext ω fp ω' fp') (s : ∀ a ∈ fp, a ∈ g) : Ext ω g ω' fp' :=
  ⟨h.wd, h.bb, h.ll, fun a o e n => h.keep a o e fun m => n (s a m), fun a m => (h.nfp a m).imp (s a) id, fun a m => (h.nL a m).imp id fun z => z.imp (s a) id, fun a m => (h.nB a m).imp id fun z => z.imp (s a) id⟩

theorem Wd.H_none (h : Wd ω fp) {p : Addr} (e : ω.H p = none) : ω.L p = none ∧ ω.B p = none := ⟨h.lh.none e, h.bl.none (h.lh.none e)⟩
/-- a new object of one's own -/
theorem Ext.own (h : Wd ω fp) (al : ∀ a ∈ fp, ω.H a ≠ none) {p : Addr} {o : HO} (e : ω.H p = none) : Ext ω fp ⟨ω.B, ω.L, upd ω.H p o⟩ (p :: fp) := by
  obtain ⟨eL, eB⟩ := h.H_none e
  refine ⟨⟨h.bl, le_into_upd h.lh eL, List.nodup_cons.mpr ⟨fun m => al p m e, h.nd⟩, fun a m => ?_⟩, Le.refl _, Le.refl _, fun a u q n => ?_, fun a m => ?_, fun _ h => .inl h, fun _ h => .inl h⟩
  · rcases List.mem_cons.mp m with q | q
    · subst q; exact eL
    · exact h.dis a q
  · exact le_upd_new e a u q
  · rcases List.mem_cons.mp m with q | q
    · subst q; exact .inr e
    · exact .inl q
/-- a new object that never changes -/
theorem Ext.fz (h : Wd ω fp) (al : ∀ a ∈ fp, ω.H a ≠ none) {p : Addr} {o : HO} (e : ω.H p = none) : Ext ω fp ⟨upd ω.B p o, upd ω.L p o, upd ω.H p o⟩ fp := by
  obtain ⟨eL, eB⟩ := h.H_none e
  refine ⟨⟨(le_upd h.bl), (le_upd h.lh), h.nd, fun a m => ?_⟩, le_upd_new eB, le_upd_new eL, fun a u q n => le_upd_new e a u q, fun a m => .inl m, fun a m => ?_, fun a m => ?_⟩
  · rw [show (⟨upd ω.B p o, upd ω.L p o, upd ω.H p o⟩ : Wo).L a = ω.L a from upd_ne (fun q => al a m (by rw [q]; exact e))]
    exact h.dis a m
  · by_cases q : a = p
    · subst q; exact .inr (.inr e)
    · have m' : upd ω.L p o a ≠ none := m
      rw [upd_ne q] at m'; exact .inl m'
  · by_cases q : a = p
    · subst q; exact .inr (.inr e)
    · have m' : upd ω.B p o a ≠ none := m
      rw [upd_ne q] at m'; exact .inl m'
/-- an object of one's own is written -/
theorem Ext.put (h : Wd ω fp) {p : Addr} {o : HO} (m : p ∈ fp) : Ext ω fp ⟨ω.B, ω.L, upd ω.H p o⟩ fp :=
  ⟨⟨h.bl, le_into_upd h.lh (h.dis p m), h.nd, h.dis⟩, Le.refl _, Le.refl _, fun a u q n => by
    show upd ω.H p o a = some u
    rw [upd_ne (fun z => n (by rw [z]; exact m))]; exact q, fun _ h => .inl h, fun _ h => .inl h, fun _ h => .inl h⟩
/-- an object of one's own is frozen -/
theorem Ext.freeze {p : Addr} {o : HO} (h : Wd ω (p :: fp)) (e : ω.H p = some o) : Ext ω (p :: fp) ⟨upd ω.B p o, upd ω.L p o, ω.H⟩ fp := by
  have eL : ω.L p = none := h.dis p (by simp)
  have eB : ω.B p = none := h.bl.none eL
  obtain ⟨n1, n2⟩ := List.nodup_cons.mp h.nd
  refine ⟨⟨(le_upd h.bl), fun a u q => ?_, n2, fun a m => ?_⟩, le_upd_new eB, le_upd_new eL, fun a u q n => q, fun a m => .inl (List.mem_cons_of_mem _ m), fun a m => ?_, fun a m => ?_⟩
  · by_cases z : a = p
    · subst z
      have q' : upd ω.L a o a = some u := q
      rw [upd_same] at q'; exact e.trans q'
    · have q' : upd ω.L p o a = some u := q
      rw [upd_ne z] at q'; exact h.lh a u q'
  · show upd ω.L p o a = none
    rw [upd_ne (fun z => n1 (by rw [← z]; exact m))]; exact h.dis a (List.mem_cons_of_mem _ m)
  · by_cases q : a = p
    · subst q; exact .inr (.inl (by simp))
    · have m' : upd ω.L p o a ≠ none := m
      rw [upd_ne q] at m'; exact .inl m'
  · by_cases q : a = p
    · subst q; exact .inr (.inl (by simp))
    · have m' : upd ω.B p o a ≠ none := m
      rw [upd_ne q] at m'; exact .inl m'
end
end MV

namespace MV
open PySem PySem.Spec PyProof.Rows L2

/-! ### slots -/
def gt : WSt → Nat → Option W
  | [], _ => none
  | x :: _, 0 => x
  | _ :: r, n + 1 => gt r n
def st : WSt → Nat → Option W → WSt
  | [], _, _ => []
  | _ :: r, 0, w => w :: r
  | x :: r, n + 1, w => x :: st r n w
theorem st_len : ∀ (S : WSt) (i : Nat) (w : Option W), (st S i w).length = S.length
  | [], _, _ => rfl
  | _ :: _, 0, _ => rfl
  | _ :: r, n + 1, w => by show (st r n w).length + 1 = r.length + 1; rw [st_len r n w]

section
variable {ω ω' : Wo}
theorem RSs.len : ∀ {σ : List (Option V)} {S : WSt} {f : List Addr}, RSs ω σ S f → σ.length = S.length
  | _, _, _, .nil => rfl
  | _, _, _, .dead t => by rw [List.length_cons, List.length_cons, RSs.len t]
  | _, _, _, .live _ t => by rw [List.length_cons, List.length_cons, RSs.len t]
theorem RSs.split : ∀ {σ : List (Option V)} {S : WSt} {f : List Addr} {i : Nat} {w : W}, RSs ω σ S f → gt S i = some w →
    ∃ v f1 f2, σ[i]? = some (some v) ∧ RW ω v w f1 ∧ RSs ω σ (st S i none) f2 ∧ f.Perm (f1 ++ f2)
  | _, _, _, _, _, .nil, e => by cases e
  | _, _, _, 0, _, .dead t, e => by cases e
  | _, _, _, 0, _, .live r t, e => by
    obtain rfl := Option.some.inj e
    exact ⟨_, _, _, rfl, r, .dead t, List.Perm.refl _⟩
  | _, _, _, i + 1, w, .dead t, e => by
    obtain ⟨v, f1, f2, h1, h2, h3, h4⟩ := RSs.split (i := i) (w := w) t e
    exact ⟨v, f1, f2, by simpa using h1, h2, .dead h3, h4⟩
  | _, _, _, i + 1, w, @RSs.live _ v0 w0 _ _ f g r t, e => by
    obtain ⟨v, f1, f2, h1, h2, h3, h4⟩ := RSs.split (i := i) (w := w) t e
    refine ⟨v, f1, f ++ f2, by simpa using h1, h2, .live r h3, ?_⟩
    have p1 : (f ++ g).Perm (f ++ (f1 ++ f2)) := List.Perm.append_left _ h4
    have p2 : (f ++ (f1 ++ f2)).Perm (f1 ++ (f ++ f2)) := by
      rw [← List.append_assoc, ← List.append_assoc]
      exact List.Perm.append_right _ List.perm_append_comm
    exact p1.trans p2
/-- slot i gets w (its value v stands there) -/
theorem RSs.fill : ∀ {σ : List (Option V)} {S : WSt} {f g : List Addr} {i : Nat} {v : V} {w : W}, RSs ω σ S f → σ[i]? = some (some v) → RW ω v w g →
    ∃ h f', RSs ω σ (st S i (some w)) h ∧ h.Perm (g ++ f') ∧ f'.Sublist f
  | _, _, _, _, _, _, _, .nil, e, _ => by simp at e
  | _, _, _, g, 0, v, w, .dead t, e, r => by
    simp at e; subst e
    exact ⟨_, _, .live r t, List.Perm.refl _, List.Sublist.refl _⟩
  | _, _, _, g, 0, v, w, .live r0 t, e, r => by
    simp at e; subst e
    exact ⟨_, _, .live r t, List.Perm.refl _, List.sublist_append_right _ _⟩
  | _, _, _, g, i + 1, v, w, .dead t, e, r => by
    obtain ⟨h, f', h1, h2, h3⟩ := RSs.fill (i := i) t (by simpa using e) r
    exact ⟨h, f', .dead h1, h2, h3⟩
  | _, _, _, g, i + 1, v, w, @RSs.live _ v0 w0 _ _ f0 g0 r0 t, e, r => by
    obtain ⟨h, f', h1, h2, h3⟩ := RSs.fill (i := i) t (by simpa using e) r
    refine ⟨f0 ++ h, f0 ++ f', .live r0 h1, ?_, List.Sublist.append (List.Sublist.refl _) h3⟩
    have p1 : (f0 ++ h).Perm (f0 ++ (g ++ f')) := List.Perm.append_left _ h2
    have p2 : (f0 ++ (g ++ f')).Perm (g ++ (f0 ++ f')) := by
      rw [← List.append_assoc, ← List.append_assoc]
      exact List.Perm.append_right _ List.perm_append_comm
    exact p1.trans p2
/-- a name is stored -/
theorem RSs.store : ∀ {σ : List (Option V)} {S : WSt} {f g : List Addr} {i : Nat} {v : V} {w : W}, RSs ω σ S f → i < S.length → RW ω v w g →
    ∃ h f', RSs ω (σ.set i (some v)) (st S i (some w)) h ∧ h.Perm (g ++ f') ∧ f'.Sublist f
  | _, _, _, _, _, _, _, .nil, e, _ => by simp at e
  | _, _, _, g, 0, v, w, .dead t, e, r => ⟨_, _, .live r t, List.Perm.refl _, List.Sublist.refl _⟩
  | _, _, _, g, 0, v, w, .live r0 t, e, r => ⟨_, _, .live r t, List.Perm.refl _, List.sublist_append_right _ _⟩
  | _, _, _, g, i + 1, v, w, .dead t, e, r => by
    obtain ⟨h, f', h1, h2, h3⟩ := RSs.store (i := i) t (by simpa using e) r
    exact ⟨h, f', .dead h1, h2, h3⟩
  | _, _, _, g, i + 1, v, w, @RSs.live _ v0 w0 _ _ f0 g0 r0 t, e, r => by
    obtain ⟨h, f', h1, h2, h3⟩ := RSs.store (i := i) t (by simpa using e) r
    refine ⟨f0 ++ h, f0 ++ f', .live r0 h1, ?_, List.Sublist.append (List.Sublist.refl _) h3⟩
    have p1 : (f0 ++ h).Perm (f0 ++ (g ++ f')) := List.Perm.append_left _ h2
    have p2 : (f0 ++ (g ++ f')).Perm (g ++ (f0 ++ f')) := by
      rw [← List.append_assoc, ← List.append_assoc]
      exact List.Perm.append_right _ List.perm_append_comm
    exact p1.trans p2
/-- a slot is forgotten -/
theorem RSs.kill : ∀ {σ : List (Option V)} {S : WSt} {f : List Addr} (i : Nat), RSs ω σ S f → ∃ f', RSs ω σ (st S i none) f' ∧ f'.Sublist f
  | _, _, _, _, .nil => ⟨_, .nil, List.Sublist.refl _⟩
  | _, _, _, 0, .dead t => ⟨_, .dead t, List.Sublist.refl _⟩
  | _, _, _, 0, .live _ t => ⟨_, .dead t, List.sublist_append_right _ _⟩
  | _, _, _, i + 1, .dead t => by
    obtain ⟨f', h1, h2⟩ := RSs.kill i t
    exact ⟨f', .dead h1, h2⟩
  | _, _, _, i + 1, .live r t => by
    obtain ⟨f', h1, h2⟩ := RSs.kill i t
    exact ⟨_, .live r h1, List.Sublist.append (List.Sublist.refl _) h2⟩
end

/-! ### freezing -/
mutual
def fzW : W → Option PyData
  | .d x => some x
  | .ol xs => some (.list xs)
  | .ow ws => (fzWs ws).map PyData.list
  | .tw ws => (fzWs ws).map PyData.tuple
  | .vl _ => none
  | .vd _ => none
  | .vw _ => none
  | .od _ => none
  | .ins _ _ _ => none
def fzWs : List W → Option (List PyData)
  | [] => some []
  | w :: ws => match fzW w, fzWs ws with
    | some x, some xs => some (x :: xs)
    | _, _ => none
end
theorem fzWs_cons {w : W} {ws : List W} {ys : List PyData} (h : fzWs (w :: ws) = some ys) : ∃ x xs, fzW w = some x ∧ fzWs ws = some xs ∧ ys = x :: xs := by
  unfold fzWs at h
  cases h1 : fzW w with
  | none => rw [h1] at h; cases h
  | some x =>
    cases h2 : fzWs ws with
    | none => rw [h1, h2] at h; cases h
    | some xs =>
      rw [h1, h2] at h
      exact ⟨x, xs, rfl, rfl, (Option.some.inj h).symm⟩

theorem RW.samef {ω ω' : Wo} {g : List Addr} (x : ∀ a ∈ g, ω'.H a = ω.H a) {v : V} {w : W} (hB : Le ω.B ω'.B) (hL : Le ω.L ω'.L) (r : RW ω v w g) : RW ω' v w g := r.mono hB hL x

mutual
theorem RW.freeze : ∀ {v : V} {w : W} {f : List Addr} {ω : Wo}, RW ω v w f → ∀ {x : PyData}, fzW w = some x → ∀ {g : List Addr}, Wd ω (f ++ g) → (∀ a ∈ g, ω.H a ≠ none) →
    ∃ ω', ω'.H = ω.H ∧ Ext ω (f ++ g) ω' g ∧ Dq ω'.B v x
  | _, _, _, ω, .d h, x, e, g, wd, _ => by
    have e' : _ = x := Option.some.inj (by simpa [fzW] using e)
    subst e'
    exact ⟨ω, rfl, Ext.refl wd, h⟩
  | _, _, _, _, .vl _ _, _, e, _, _, _ => by simp [fzW] at e
  | _, _, _, _, .vd _ _, _, e, _, _, _ => by simp [fzW] at e
  | _, _, _, _, .vw _ _, _, e, _, _, _ => by simp [fzW] at e
  | _, _, _, _, .od _ _, _, e, _, _, _ => by simp [fzW] at e
  | _, _, _, _, .ins _ _ _ _, _, e, _, _, _ => by simp [fzW] at e
  | _, _, _, ω, .ol h t, x, e, g, wd, _ => by
    have e' : _ = x := Option.some.inj (by simpa [fzW] using e)
    subst e'
    have E := Ext.freeze (fp := g) (show Wd ω (_ :: g) from wd) h
    exact ⟨⟨upd ω.B _ (.lst _), upd ω.L _ (.lst _), ω.H⟩, rfl, E, .lst (.inl upd_same) (DqAll.mono E.bb t)⟩
  | _, _, _, ω, @RW.ow _ a vs ws f h t, x, e, g, wd, al => by
    simp only [fzW, Option.map_eq_some_iff] at e
    obtain ⟨xs, e1, e2⟩ := e
    subst e2
    have wd' : Wd ω (f ++ (a :: g)) := wd.perm (by simpa using (List.perm_middle (l₁ := f) (l₂ := g) (a := a)).symm)
    obtain ⟨ω1, hH, E1, D1⟩ := RWs.freeze t e1 wd' (fun b m => by
      rcases List.mem_cons.mp m with q | q
      · subst q; rw [h]; simp
      · exact al b q)
    have h1 : ω1.H a = some (.lst vs) := by rw [hH]; exact h
    have E2 := Ext.freeze E1.wd h1
    refine ⟨⟨upd ω1.B a (.lst vs), upd ω1.L a (.lst vs), ω1.H⟩, hH, (E1.permL ?_).trans E2, .lst (.inl upd_same) (DqAll.mono E2.bb D1)⟩
    simpa using (List.perm_middle (l₁ := f) (l₂ := g) (a := a))
  | _, _, _, ω, @RW.tw _ a vs ws f h t, x, e, g, wd, al => by
    simp only [fzW, Option.map_eq_some_iff] at e
    obtain ⟨xs, e1, e2⟩ := e
    subst e2
    obtain ⟨ω1, hH, E1, D1⟩ := RWs.freeze t e1 wd al
    exact ⟨ω1, hH, E1, .tup (Rd.mono E1.bb h) D1⟩
theorem RWs.freeze : ∀ {vs : List V} {ws : List W} {f : List Addr} {ω : Wo}, RWs ω vs ws f → ∀ {xs : List PyData}, fzWs ws = some xs → ∀ {g : List Addr}, Wd ω (f ++ g) → (∀ a ∈ g, ω.H a ≠ none) →
    ∃ ω', ω'.H = ω.H ∧ Ext ω (f ++ g) ω' g ∧ DqAll ω'.B vs xs
  | _, _, _, ω, .nil, xs, e, g, wd, _ => by
    have e' : [] = xs := Option.some.inj (by simpa [fzWs] using e)
    subst e'
    exact ⟨ω, rfl, Ext.refl wd, .nil⟩
  | _, _, _, ω, @RWs.cons _ v w f1 f2 vs ws r t, ys, e, g, wd, al => by
    obtain ⟨x, xs, e1, e2, rfl⟩ := fzWs_cons e
    have al2 : ∀ a ∈ f2 ++ g, ω.H a ≠ none := fun a m => (List.mem_append.mp m).elim (t.alloc a) (al a)
    rw [List.append_assoc] at wd
    obtain ⟨ω1, hH, E1, D1⟩ := RW.freeze r e1 wd al2
    have t1 : RWs ω1 vs ws f2 := t.mono E1.bb E1.ll fun a _ => by rw [hH]
    obtain ⟨ω2, hH2, E2, D2⟩ := RWs.freeze t1 e2 E1.wd (fun a m => by rw [hH]; exact al a m)
    exact ⟨ω2, hH2.trans hH, by rw [List.append_assoc]; exact E1.trans E2, .cons (Dq.mono E2.bb D1) D2⟩
end

/-! ### judgements -/
section
variable (X : Cx)
def wE (e : Expr) : TE := fun σ H Q => ∀ (pins : List (Addr × Obj)) (s : Shared), Inv X pins σ H s → wpAny (model X.prog X.w) X.A (eval e X.env) (EP X pins σ Q) X.xe s
def wT (e : Expr) : TT := fun σ H Q => ∀ (pins : List (Addr × Obj)) (s : Shared), Inv X pins σ H s → wpAny (model X.prog X.w) X.A (isTrue e X.env (eval e X.env)) (TP X pins σ Q) X.xe s
def wA (es : List Expr) : TA := fun σ H Q => ∀ (pos : Pos) (pins : List (Addr × Obj)) (s : Shared), Inv X pins σ H s → wpAny (model X.prog X.w) X.A (spliced (backTo pos (starEach es X.env))) (AP X pins σ Q) X.xe s
def wS (st : Stmt) : TS := fun D σ H => ∀ (pins : List (Addr × Obj)) (s : Shared), Inv X pins σ H s → wpAny (model X.prog X.w) X.A (exec st X.env) (SP X pins D) X.xe s
def wSs (st : List Stmt) : TS := fun D σ H => ∀ (pins : List (Addr × Obj)) (s : Shared), Inv X pins σ H s → wpAny (model X.prog X.w) X.A (execs st X.env) (SP X pins D) X.xe s
def wG (tg : Expr) : TG := fun v σ H Q => ∀ (pins : List (Addr × Obj)) (s : Shared) (u : Value), Inv X pins σ H s → RelV v u → wpAny (model X.prog X.w) X.A (assign tg X.env u) (fun _ s' => ∃ σ' H', Inv X pins σ' H' s' ∧ Q σ' H') X.xe s
end
section
variable {X : Cx}
theorem pE (e : Expr) : PE X e (wE X e) := ⟨fun pins s _ _ _ I h => h pins s I⟩
theorem pT (e : Expr) : PT X e (wT X e) := ⟨fun pins s _ _ _ I h => h pins s I⟩
theorem pA (es : List Expr) : PA X es (wA X es) := ⟨fun pos pins s _ _ _ I h => h pos pins s I⟩
theorem pS (s : Stmt) : PS X s (wS X s) := ⟨fun pins s _ _ _ I h => h pins s I⟩
theorem pSs (s : List Stmt) : PSs X s (wSs X s) := ⟨fun pins s _ _ _ I h => h pins s I⟩
theorem pG (tg : Expr) : PG X tg (wG X tg) := ⟨fun pins s _ _ _ u _ I r h => h pins s u I r⟩
theorem useE {e : Expr} {t : TE} (h : PE X e t) {σ : L2.St} {H : Hp} {Q : VK} (q : t σ H Q) : wE X e σ H Q := fun pins s I => h.run pins s σ H Q I q
theorem useT {e : Expr} {t : TT} (h : PT X e t) {σ : L2.St} {H : Hp} {Q : Bool → Hp → Prop} (q : t σ H Q) : wT X e σ H Q := fun pins s I => h.run pins s σ H Q I q
theorem useA {es : List Expr} {t : TA} (h : PA X es t) {σ : L2.St} {H : Hp} {Q : List V → Hp → Prop} (q : t σ H Q) : wA X es σ H Q := fun pos pins s I => h.run pos pins s σ H Q I q
theorem useS {e : Stmt} {t : TS} (h : PS X e t) {σ : L2.St} {H : Hp} {D : Ends} (q : t D σ H) : wS X e D σ H := fun pins s I => h.run pins s σ H D I q
theorem useSs {e : List Stmt} {t : TS} (h : PSs X e t) {σ : L2.St} {H : Hp} {D : Ends} (q : t D σ H) : wSs X e D σ H := fun pins s I => h.run pins s σ H D I q
theorem wE.mono {e : Expr} {σ : L2.St} {H : Hp} {Q Q' : VK} (h : wE X e σ H Q) (k : ∀ v H', Q v H' → Q' v H') : wE X e σ H Q' := fun pins s I =>
  thn (h pins s I) fun u s' ⟨v, H', I', r, q⟩ => ⟨v, H', I', r, k v H' q⟩
theorem wT.mono {e : Expr} {σ : L2.St} {H : Hp} {Q Q' : Bool → Hp → Prop} (h : wT X e σ H Q) (k : ∀ v H', Q v H' → Q' v H') : wT X e σ H Q' := fun pins s I =>
  thn (h pins s I) fun u s' ⟨H', I', q⟩ => ⟨H', I', k u H' q⟩
theorem wA.mono {e : List Expr} {σ : L2.St} {H : Hp} {Q Q' : List V → Hp → Prop} (h : wA X e σ H Q) (k : ∀ v H', Q v H' → Q' v H') : wA X e σ H Q' := fun pos pins s I =>
  thn (h pos pins s I) fun u s' ⟨v, H', I', r, q⟩ => ⟨v, H', I', r, k v H' q⟩
end

/-- where a def's body (or a try's) began: what is said of an exception is said from there -/
structure Og where
  ω : Wo
  fp : List Addr
abbrev In (o : Og) (ω : Wo) (fp : List Addr) : Prop := Ext o.ω o.fp ω fp
/-- the W-level readings -/
abbrev QW := W → WSt → Prop
abbrev TW := WSt → QW → Prop
abbrev QWs := List W → WSt → Prop
abbrev TWs := WSt → QWs → Prop
def PostE (ω : Wo) (fp : List Addr) (σ : L2.St) (Q : QW) : VK := fun v H' => ∃ w S' ω' fv fs, ω'.H = H' ∧ Ext ω fp ω' (fv ++ fs) ∧ RW ω' v w fv ∧ RSs ω' σ S' fs ∧ Q w S'
inductive RWl (ω : Wo) : List V → List W → Prop
  | nil : RWl ω [] []
  | cons {v : V} {w : W} {f : List Addr} {vs : List V} {ws : List W} : RW ω v w f → RWl ω vs ws → RWl ω (v :: vs) (w :: ws)
def PostA (ω : Wo) (fp : List Addr) (σ : L2.St) (Q : QWs) : List V → Hp → Prop := fun vs H' => ∃ ws S' ω' fg fs, ω'.H = H' ∧ Ext ω fp ω' (fg ++ fs) ∧ RWl ω' vs ws ∧ RSs ω' σ S' fs ∧ Q ws S'
def PostT (ω : Wo) (fp : List Addr) (σ : L2.St) (Q : Bool → WSt → Prop) : Bool → Hp → Prop := fun b H' => ∃ S' ω' fs, ω'.H = H' ∧ Ext ω fp ω' fs ∧ RSs ω' σ S' fs ∧ Q b S'
/-- an expression; its value is its receiver's own -/
def SE (X : Cx) (o : Og) (e : Expr) (t : TW) : Prop := ∀ σ S ω fp Q, In o ω fp → RSs ω σ S fp → t S Q → wE X e σ ω.H (PostE ω fp σ Q)
/-- operands: read where they stand, at the end -/
def SO (X : Cx) (o : Og) (es : List Expr) (t : TWs) : Prop := ∀ σ S ω fp Q, In o ω fp → RSs ω σ S fp → t S Q → wA X es σ ω.H (PostA ω fp σ Q)
/-- a test -/
def ST (X : Cx) (o : Og) (e : Expr) (t : WSt → (Bool → WSt → Prop) → Prop) : Prop := ∀ σ S ω fp Q, In o ω fp → RSs ω σ S fp → t S Q → wT X e σ ω.H (PostT ω fp σ Q)
/-- the heap has grown, no more -/
def Gr (H H' : Hp) : Prop := ∀ a o, H a = some o → H' a = some o
/-- what a fresh result is, beside what stood -/
def FR (ω : Wo) (fs : List Addr) (Q : W → Prop) : VK := fun v H' => ∃ w ω' fv, ω'.H = H' ∧ Ext ω fs ω' (fv ++ fs) ∧ Gr ω.H ω'.H ∧ RW ω' v w fv ∧ Q w
theorem FR.imm {ω : Wo} {fs : List Addr} {Q : W → Prop} (wd : Wd ω fs) {v : V} {x : PyData} (h : Dq ω.B v x) (q : Q (.d x)) : FR ω fs Q v ω.H := ⟨_, ω, [], rfl, Ext.refl wd, fun _ _ e => e, .d h, q⟩
/-- a new list of one's own -/
theorem FR.lst {ω : Wo} {fs : List Addr} {Q : W → Prop} (wd : Wd ω fs) (al : ∀ a ∈ fs, ω.H a ≠ none) {p : Addr} {vs : List V} {xs : List PyData} (hp : ω.H p = none) (h : DqAll ω.B vs xs) (q : Q (.ol xs)) : FR ω fs Q (.ref p) (upd ω.H p (.lst vs)) :=
  ⟨_, ⟨ω.B, ω.L, upd ω.H p (.lst vs)⟩, [p], rfl, Ext.own wd al hp, fun a o e => le_upd_new hp a o e, .ol upd_same h, q⟩
/-- a new tuple -/
theorem FR.tup {ω : Wo} {fs : List Addr} {Q : W → Prop} (wd : Wd ω fs) (al : ∀ a ∈ fs, ω.H a ≠ none) {p : Addr} {vs : List V} {xs : List PyData} (hp : ω.H p = none) (h : DqAll ω.B vs xs) (q : Q (.d (.tuple xs))) : FR ω fs Q (.ref p) (upd ω.H p (.tup vs)) := by
  have E := Ext.fz (o := .tup vs) wd al hp
  exact ⟨_, _, [], rfl, E, fun a o e => le_upd_new hp a o e, .d (.tup (.inl upd_same) (DqAll.mono E.bb h)), q⟩
/-- a new list of things that never change -/
theorem FR.own0 {ω : Wo} {fs : List Addr} {Q : W → Prop} (wd : Wd ω fs) (al : ∀ a ∈ fs, ω.H a ≠ none) {p : Addr} {vs : List V} {ws : List W} (hp : ω.H p = none) (h : RWs ω vs ws []) (q : Q (.ow ws)) : FR ω fs Q (.ref p) (upd ω.H p (.lst vs)) :=
  ⟨_, ⟨ω.B, ω.L, upd ω.H p (.lst vs)⟩, [p], rfl, Ext.own wd al hp, fun a o e => le_upd_new hp a o e, .ow (f := []) upd_same (h.mono (ω := ω) (ω' := ⟨ω.B, ω.L, upd ω.H p (.lst vs)⟩) (Le.refl _) (Le.refl _) fun _ m => nomatch m), q⟩
theorem Gr.same {H H' : Hp} (g : Gr H H') {f : List Addr} (al : ∀ a ∈ f, H a ≠ none) : ∀ a ∈ f, H' a = H a := fun a m => by
  cases z : H a with
  | none => exact absurd z (al a m)
  | some o => exact g a o z
theorem FR.post {ω ω1 : Wo} {fp fs fg : List Addr} {σ : L2.St} {S : WSt} {Q : QW} {v : V} {H' : Hp} (E : Ext ω fp ω1 (fg ++ fs)) (r : RSs ω1 σ S fs) (h : FR ω1 fs (fun w => Q w S) v H') : PostE ω fp σ Q v H' := by
  obtain ⟨w, ω', fv, e, E2, g, rw', q⟩ := h
  exact ⟨w, S, ω', fv, fs, e, E.dropL.trans E2, rw', r.mono E2.bb E2.ll (g.same r.alloc), q⟩
end MV

namespace MV
open PySem PySem.Spec PyProof.Rows L2

/-! ### canonical readings of operations by values -/
section
variable (X : Cx)
def rOp (f : Value → Value → Sem Value) : R2 := fun x y H Q => ∀ (pins : List (Addr × Obj)) (s : Shared) (σ : L2.St) (v u : Value), Inv X pins σ H s → RelV x v → RelV y u → wpAny (model X.prog X.w) X.A (f v u) (EP X pins σ Q) X.xe s
def rUn (f : Value → Sem Value) : V → Hp → VK → Prop := fun x H Q => ∀ (pins : List (Addr × Obj)) (s : Shared) (σ : L2.St) (v : Value), Inv X pins σ H s → RelV x v → wpAny (model X.prog X.w) X.A (f v) (EP X pins σ Q) X.xe s
def rCl (f : Value) : List V → Hp → VK → Prop := fun xs H Q => ∀ (pins : List (Addr × Obj)) (s : Shared) (σ : L2.St) (us : List Value), Inv X pins σ H s → Vals xs us → wpAny (model X.prog X.w) X.A (call f us) (EP X pins σ Q) X.xe s
def rIxC : R2 := fun x y H Q => ∀ (value slice : Expr) (pins : List (Addr × Obj)) (s : Shared) (σ : L2.St) (v u : Value), Inv X pins σ H s → RelV x v → RelV y u → subscripted slice false v u = operate [v, u] (getItem v u) → wpAny (model X.prog X.w) X.A (subscriptTail value slice v u) (EP X pins σ Q) X.xe s
def rMt (id : String) : V → List V → Hp → VK → Prop := fun x xs H Q => ∀ (pins : List (Addr × Obj)) (s : Shared) (σ : L2.St) (v : Value) (us : List Value), Inv X pins σ H s → RelV x v → Vals xs us → wpAny (model X.prog X.w) X.A (call (.builtin id) (v :: us)) (EP X pins σ Q) X.xe s
end
section
variable {X : Cx}
theorem opC (f : Value → Value → Sem Value) : OpR X f (rOp X f) := fun pins s σ H x y v u Q I rx ry h => h pins s σ v u I rx ry
theorem unC (f : Value → Sem Value) : UnR X f (rUn X f) := fun pins s σ H x v Q I rx h => h pins s σ v I rx
theorem clC (f : Value) : CallR X f (rCl X f) := fun pins s σ H xs us Q I r h => h pins s σ us I r
theorem ixC : IxR X (rIxC X) := fun value slice pins s σ H x y v u Q I rx ry h hs => h value slice pins s σ v u I rx ry hs
theorem mtC (id : String) : MtR X id (rMt X id) := fun pins s σ H x xs v us Q I rx r h => h pins s σ v us I rx r
theorem useOp {f : Value → Value → Sem Value} {r : R2} (h : OpR X f r) {x y : V} {H : Hp} {Q : VK} (q : r x y H Q) : rOp X f x y H Q := fun pins s σ v u I rx ry => h pins s σ H x y v u Q I rx ry q
theorem useCl {f : Value} {r : List V → Hp → VK → Prop} (h : CallR X f r) {xs : List V} {H : Hp} {Q : VK} (q : r xs H Q) : rCl X f xs H Q := fun pins s σ us I rx => h pins s σ H xs us Q I rx q
theorem useIx {r : R2} (h : IxR X r) {x y : V} {H : Hp} {Q : VK} (q : r x y H Q) : rIxC X x y H Q := fun value slice pins s σ v u I rx ry hs => h value slice pins s σ H x y v u Q I rx ry q hs
theorem useMt {id : String} {r : V → List V → Hp → VK → Prop} (h : MtR X id r) {x : V} {xs : List V} {H : Hp} {Q : VK} (q : r x xs H Q) : rMt X id x xs H Q := fun pins s σ v us I rx r' => h pins s σ H x xs v us Q I rx r' q
end

/-! ### reading a slot's value as data -/
mutual
def rdW : W → Option PyData
  | .d x => some x
  | .vl xs => some (.list xs)
  | .ol xs => some (.list xs)
  | .ow ws => (rdWs ws).map PyData.list
  | .vw ws => (rdWs ws).map PyData.list
  | .tw ws => (rdWs ws).map PyData.tuple
  | .vd _ => none
  | .od _ => none
  | .ins _ _ _ => none
def rdWs : List W → Option (List PyData)
  | [] => some []
  | w :: ws => match rdW w, rdWs ws with
    | some x, some xs => some (x :: xs)
    | _, _ => none
end
theorem rdWs_cons {w : W} {ws : List W} {ys : List PyData} (h : rdWs (w :: ws) = some ys) : ∃ x xs, rdW w = some x ∧ rdWs ws = some xs ∧ ys = x :: xs := by
  unfold rdWs at h
  cases h1 : rdW w with
  | none => rw [h1] at h; cases h
  | some x =>
    cases h2 : rdWs ws with
    | none => rw [h1, h2] at h; cases h
    | some xs =>
      rw [h1, h2] at h
      exact ⟨x, xs, rfl, rfl, (Option.some.inj h).symm⟩
theorem Wd.bh {ω : Wo} {f : List Addr} (h : Wd ω f) : Le ω.B ω.H := h.bl.trans h.lh
mutual
theorem RW.rd {ω : Wo} {g : List Addr} (wd : Wd ω g) : ∀ {v : V} {w : W} {f : List Addr}, RW ω v w f → ∀ {x : PyData}, rdW w = some x → Dq ω.H v x
  | _, _, _, .d h, x, e => by
    have e' : _ = x := Option.some.inj (by simpa [rdW] using e)
    subst e'; exact Dq.mono wd.bh h
  | _, _, _, .vl h t, x, e => by
    have e' : _ = x := Option.some.inj (by simpa [rdW] using e)
    subst e'; exact .lst (Rd.mono wd.lh h) (DqAll.mono wd.bh t)
  | _, _, _, .ol h t, x, e => by
    have e' : _ = x := Option.some.inj (by simpa [rdW] using e)
    subst e'; exact .lst (.inl h) (DqAll.mono wd.bh t)
  | _, _, _, .ow h t, x, e => by
    simp only [rdW, Option.map_eq_some_iff] at e
    obtain ⟨xs, e1, e2⟩ := e
    subst e2
    exact .lst (.inl h) (RWs.rd wd t e1)
  | _, _, _, .vw h t, x, e => by
    simp only [rdW, Option.map_eq_some_iff] at e
    obtain ⟨xs, e1, e2⟩ := e
    subst e2
    exact .lst (Rd.mono wd.lh h) (RWs.rd wd t e1)
  | _, _, _, .tw h t, x, e => by
    simp only [rdW, Option.map_eq_some_iff] at e
    obtain ⟨xs, e1, e2⟩ := e
    subst e2
    exact .tup (Rd.mono wd.bh h) (RWs.rd wd t e1)
  | _, _, _, .vd _ _, _, e => by simp [rdW] at e
  | _, _, _, .od _ _, _, e => by simp [rdW] at e
  | _, _, _, .ins _ _ _ _, _, e => by simp [rdW] at e
theorem RWs.rd {ω : Wo} {g : List Addr} (wd : Wd ω g) : ∀ {vs : List V} {ws : List W} {f : List Addr}, RWs ω vs ws f → ∀ {xs : List PyData}, rdWs ws = some xs → DqAll ω.H vs xs
  | _, _, _, .nil, xs, e => by
    have e' : [] = xs := Option.some.inj (by simpa [rdWs] using e)
    subst e'; exact .nil
  | _, _, _, .cons r t, ys, e => by
    obtain ⟨x, xs, e1, e2, rfl⟩ := rdWs_cons e
    exact .cons (RW.rd wd r e1) (RWs.rd wd t e2)
end
/-- a list whose items never change -/
def asL : W → Option (List PyData)
  | .d (.list xs) => some xs
  | .vl xs => some xs
  | .ol xs => some xs
  | _ => none
/-- a list or a tuple whose items never change -/
def asS : W → Option (List PyData)
  | .d (.list xs) => some xs
  | .d (.tuple xs) => some xs
  | .vl xs => some xs
  | .ol xs => some xs
  | _ => none
def asK : W → Option (List (Key × PyData))
  | .vd kvs => some kvs
  | .od kvs => some kvs
  | _ => none
theorem RW.asL {ω : Wo} {g : List Addr} (wd : Wd ω g) {v : V} {w : W} {f : List Addr} (r : RW ω v w f) {xs : List PyData} (e : asL w = some xs) : ∃ a vs, v = .ref a ∧ Rd ω.H a (.lst vs) ∧ DqAll ω.B vs xs := by
  cases r with
  | d h =>
    cases h with
    | lst h t =>
      simp only [MV.asL, Option.some.injEq] at e; subst e
      exact ⟨_, _, rfl, Rd.mono wd.bh h, t⟩
    | _ => simp [MV.asL] at e
  | vl h t =>
    simp only [MV.asL, Option.some.injEq] at e; subst e
    exact ⟨_, _, rfl, Rd.mono wd.lh h, t⟩
  | ol h t =>
    simp only [MV.asL, Option.some.injEq] at e; subst e
    exact ⟨_, _, rfl, .inl h, t⟩
  | _ => simp [MV.asL] at e
theorem RW.asS {ω : Wo} {g : List Addr} (wd : Wd ω g) {v : V} {w : W} {f : List Addr} (r : RW ω v w f) {xs : List PyData} (e : asS w = some xs) :
    ∃ a vs, v = .ref a ∧ ((MV.asL w = some xs ∧ Rd ω.H a (.lst vs)) ∨ (w = .d (.tuple xs) ∧ Rd ω.H a (.tup vs))) ∧ DqAll ω.B vs xs := by
  cases r with
  | d h =>
    cases h with
    | lst h t =>
      simp only [MV.asS, Option.some.injEq] at e; subst e
      exact ⟨_, _, rfl, .inl ⟨rfl, Rd.mono wd.bh h⟩, t⟩
    | tup h t =>
      simp only [MV.asS, Option.some.injEq] at e; subst e
      exact ⟨_, _, rfl, .inr ⟨rfl, Rd.mono wd.bh h⟩, t⟩
    | _ => simp [MV.asS] at e
  | vl h t =>
    simp only [MV.asS, Option.some.injEq] at e; subst e
    exact ⟨_, _, rfl, .inl ⟨rfl, Rd.mono wd.lh h⟩, t⟩
  | ol h t =>
    simp only [MV.asS, Option.some.injEq] at e; subst e
    exact ⟨_, _, rfl, .inl ⟨rfl, .inl h⟩, t⟩
  | _ => simp [MV.asS] at e
theorem RW.asK {ω : Wo} {g : List Addr} (wd : Wd ω g) {v : V} {w : W} {f : List Addr} (r : RW ω v w f) {xs : List (Key × PyData)} (e : asK w = some xs) : ∃ a vs, v = .ref a ∧ Rd ω.H a (.dK vs) ∧ KDp ω.B vs xs := by
  cases r with
  | vd h t =>
    simp only [MV.asK, Option.some.injEq] at e; subst e
    exact ⟨_, _, rfl, Rd.mono wd.lh h, t⟩
  | od h t =>
    simp only [MV.asK, Option.some.injEq] at e; subst e
    exact ⟨_, _, rfl, .inl h, t⟩
  | _ => simp [MV.asK] at e

/-! ### two-place operations -/
abbrev B2 := W → W → (W → Prop) → Prop
/-- an operation of two values, its W-level answer r -/
def OpS (X : Cx) (f : Value → Value → Sem Value) (r : B2) : Prop := ∀ ω fs v1 w1 f1 v2 w2 f2 Q, Wd ω fs → (∀ a ∈ fs, ω.H a ≠ none) → RW ω v1 w1 f1 → RW ω v2 w2 f2 → r w1 w2 Q → rOp X f v1 v2 ω.H (FR ω fs Q)
def addW : B2 := fun a b Q => match a, b with
  | .d (.int i), .d (.int j) => Q (.d (.int (i + j)))
  | .d (.str x), .d (.str y) => x.length + y.length ≤ sizeLine ∧ Q (.d (.str (x ++ y)))
  | .d (.tuple xs), .d (.tuple ys) => xs.length + ys.length ≤ sizeLine ∧ Q (.d (.tuple (xs ++ ys)))
  | a, b => ∃ xs ys, asL a = some xs ∧ asL b = some ys ∧ xs.length + ys.length ≤ sizeLine ∧ Q (.ol (xs ++ ys))
def subW : B2 := fun a b Q => match a, b with
  | .d (.int i), .d (.int j) => Q (.d (.int (i - j)))
  | _, _ => False
def mulW : B2 := fun a b Q => match a, b with
  | .d (.int i), .d (.int j) => CMul i j ∧ Q (.d (.int (i * j)))
  | .d (.tuple xs), .d (.int k) => xs ≠ [] ∧ 1 ≤ k ∧ k ≤ 1000 ∧ xs.length ≤ 1000 ∧ Q (.d (.tuple (List.replicate k.toNat xs).flatten))
  | .ol xs, .d (.int k) => xs.length ≤ 1000 ∧ -1000 ≤ k ∧ k ≤ 1000 ∧ Q (.ol (List.replicate k.toNat xs).flatten)
  | _, _ => False
def fdivW : B2 := fun a b Q => match a, b with
  | .d (.int i), .d (.int j) => CDiv i j ∧ Q (.d (.int (i / j)))
  | _, _ => False
def modW : B2 := fun a b Q => match a, b with
  | .d (.int i), .d (.int j) => 0 < j ∧ Q (.d (.int (i % j)))
  | _, _ => False
def powW : B2 := fun a b Q => match a, b with
  | .d (.int i), .d (.int j) => CPow i j ∧ Q (.d (.int (i ^ j.toNat)))
  | _, _ => False
section
variable {X : Cx}
/-- the list at a, by its object -/
theorem rd_lst {pins : List (Addr × Obj)} {σ : L2.St} {H : Hp} {s : Shared} {a : Addr} {vs : List V} (I : Inv X pins σ H s) (h : Rd H a (.lst vs)) :
    ∃ its n, Vals vs its ∧ s.heap.get? a = some { cls := .type "list", data := .seq its.toArray n } ∧ vs.length ≤ sizeLine := by
  obtain ⟨z, its, n, r, e⟩ := h.ok I.hok
  exact ⟨its, n, r, e, z⟩
def rCatR : R2 := fun x y H Q => ∃ l b xs zs, x = .ref l ∧ y = .ref b ∧ Rd H l (.lst xs) ∧ Rd H b (.lst zs) ∧ xs.length + zs.length ≤ sizeLine ∧ ∀ p, H p = none → Q (.ref p) (upd H p (.lst (xs ++ zs)))
theorem op_catR : OpR X (binaryOp .Add) rCatR := by
  intro pins s σ H x y v u Q I rx ry h
  obtain ⟨l, b, xs, zs, rfl, rfl, hH, hB, hz, q⟩ := h
  cases rx
  cases ry
  obtain ⟨its, n, r, e, z⟩ := rd_lst I hH
  obtain ⟨its2, n2, r2, e2, z2⟩ := rd_lst I hB
  have hl := r.length
  have hl2 := r2.length
  refine PySem.P.add_list e e2 ?_ (by rw [List.size_toArray, List.size_toArray]; omega)
  have ea : its.toArray ++ its2.toArray = (its ++ its2).toArray := by simp
  rw [ea]
  exact ⟨.ref _, _, I.lnew (t' := s.toks) (r.append r2) (by rw [List.length_append]; omega), rfl, q _ I.fresh⟩
theorem DqAll.ne {A : Hp} {vs : List V} {xs : List PyData} (h : DqAll A vs xs) (n : xs ≠ []) : vs ≠ [] := fun e => by
  subst e; cases h; exact n rfl
theorem op_addW : OpS X (binaryOp .Add) addW := by
  intro ω fs v1 w1 f1 v2 w2 f2 Q wd al r1 r2 h
  unfold addW at h
  split at h
  · cases r1 with | d d1 => cases r2 with | d d2 =>
      cases d1; cases d2
      exact useOp op_add ⟨_, _, rfl, rfl, FR.imm wd (.int _) h⟩
  · cases r1 with | d d1 => cases r2 with | d d2 =>
      cases d1; cases d2
      exact useOp op_add_str ⟨_, _, rfl, rfl, h.1, FR.imm wd (.str _) h.2⟩
  · cases r1 with | d d1 => cases r2 with | d d2 =>
      obtain ⟨hz, q⟩ := h
      cases d1 with | tup h1 t1 => cases d2 with | tup h2 t2 =>
        rename_i a vs b us
        refine useOp op_catA ⟨_, _, vs, us, rfl, rfl, .inl (Rd.mono wd.bh h1), .inl (Rd.mono wd.bh h2), by rw [t1.len, t2.len]; exact hz, fun e => ?_, fun _ e => ?_, fun _ _ p hp => ?_⟩
        · subst e; cases t1
          rw [List.nil_append] at q
          exact FR.imm wd (.tup h2 t2) q
        · subst e; cases t2
          rw [List.append_nil] at q
          exact FR.imm wd (.tup h1 t1) q
        · exact FR.tup wd al hp (t1.append t2) q
  · obtain ⟨xs, ys, e1, e2, hz, q⟩ := h
    obtain ⟨a, vs, rfl, h1, t1⟩ := r1.asL wd e1
    obtain ⟨b, us, rfl, h2, t2⟩ := r2.asL wd e2
    exact useOp op_catR ⟨a, b, vs, us, rfl, rfl, h1, h2, by rw [t1.len, t2.len]; exact hz, fun p hp => FR.lst wd al hp (t1.append t2) q⟩
theorem op_subW : OpS X (binaryOp .Sub) subW := by
  intro ω fs v1 w1 f1 v2 w2 f2 Q wd al r1 r2 h
  unfold subW at h
  split at h
  · cases r1 with | d d1 => cases r2 with | d d2 =>
      cases d1; cases d2
      exact useOp op_sub ⟨_, _, rfl, rfl, FR.imm wd (.int _) h⟩
  · exact h.elim
theorem DqAll.rep {A : Hp} {vs : List V} {xs : List PyData} (h : DqAll A vs xs) : ∀ n : Nat, DqAll A (List.replicate n vs).flatten (List.replicate n xs).flatten
  | 0 => .nil
  | n + 1 => by
    rw [List.replicate_succ, List.replicate_succ, List.flatten_cons, List.flatten_cons]
    exact h.append (h.rep n)
theorem tuple_mul1 (l : Addr) (items : Array Value) (n : Nat) (sl : Array (Option Value)) (u : Tok) (dd : Option Addr) :
    Meets (Builtin.«tuple.__mul__» ⟨[.ref l, .int 1 u], []⟩) (fun _ R s => s.heap.get? l = some { cls := .type "tuple", dict := dd, data := .seq items n, slots := sl } ∧ R (.ok (.ret (Value.ref l))) s) :=
  .of_wp fun prog w A R s h => by
    obtain ⟨hp, g, d, tk, os⟩ := s
    obtain ⟨hl, h⟩ := h
    have f1 := PySem.AutoSeq1.idx_int
    have c0 : (decide ((1 : Int) < -(2 ^ 63)) || decide ((1 : Int) ≥ 2 ^ 63)) = false := by decide
    have c1 : (items.isEmpty || (1 : Int) == 1) = true := by simp
    wp_walk using wpAny_loadPart' hl
    repeat (first
      | (refine wpAny_ite_false (decide_eq_false (by rw [c0]; exact Bool.false_ne_true)) ?_; wp_walk using wpAny_loadPart' hl)
      | (refine wpAny_ite_true (decide_eq_true c1) ?_; wp_walk using wpAny_loadPart' hl))
    exact ⟨_, rfl, h⟩
def rRep1 (K : Frag) : R2 := fun x y H Q => ∃ l xs, x = .ref l ∧ y = .int 1 ∧ SqT K H l xs ∧ Q (.ref l) H
theorem op_rep1 : OpR X (binaryOp .Mult) (rRep1 X.K) := by
  intro pins s σ H x y v u Q I rx ry h
  obtain ⟨l, xs, rfl, rfl, hT, q⟩ := h
  cases rx
  obtain ⟨t, rfl⟩ := ry
  obtain ⟨its, r, ⟨⟨cls, dd, data, sl⟩, ho, hc, n, hd⟩, hs⟩ := I.tuple hT
  simp only at hc hd
  subst hc hd
  exact wpAny_binaryOp_repeat_ref (T := "tuple") (U := "int") (by decide) ⟨_, ho, rfl⟩ (fun s' => typeIs_int s' 1 t) noFill_tuple_mul PySem.F.fills_int_mul PySem.F.slot_int_rmul repeat_tuple PySem.F.slot_int_index.lookup
    (call_meets PySem.F.slot_int_rmul (typeIs_int s 1 t) PySem.F.entry_int_rmul (PySem.F.args_int_rmul_2 _ _) (int_rmul_tuple 1 t l its.toArray n dd sl)
      ⟨ho, rfl, ⟨_, ho, rfl⟩, call_meets PySem.F.slot_tuple_mul ⟨_, ho, rfl⟩ PySem.F.entry_tuple_mul (PySem.F.args_tuple_mul_2 _ _) (tuple_mul1 l its.toArray n sl t dd) ⟨ho, .ref l, H, I, rfl, q⟩⟩)
theorem op_mulW : OpS X (binaryOp .Mult) mulW := by
  intro ω fs v1 w1 f1 v2 w2 f2 Q wd al r1 r2 h
  unfold mulW at h
  split at h
  · cases r1 with | d d1 => cases r2 with | d d2 =>
      cases d1; cases d2
      exact useOp op_mul ⟨_, _, rfl, rfl, h.1, FR.imm wd (.int _) h.2⟩
  · cases r1 with | d d1 => cases r2 with | d d2 =>
      cases d2
      cases d1 with | tup h1 t1 =>
        rename_i k a vs
        obtain ⟨hn, k1, k2, hz, q⟩ := h
        by_cases e : k = 1
        · subst e
          have e2 : ∀ xs : List PyData, (List.replicate (1 : Int).toNat xs).flatten = xs := fun xs => by simp
          rw [e2] at q
          exact useOp op_rep1 ⟨_, _, rfl, rfl, .inl (Rd.mono wd.bh h1), FR.imm wd (.tup h1 t1) q⟩
        · exact useOp op_repT ⟨_, _, _, rfl, rfl, .inl (Rd.mono wd.bh h1), t1.ne hn, by omega, k2, by rw [t1.len]; exact hz, fun p hp => FR.tup wd al hp (t1.rep _) q⟩
  · cases r2 with | d d2 =>
      cases d2
      cases r1 with | ol h1 t1 =>
      rename_i k a vs
      obtain ⟨hz, k1, k2, q⟩ := h
      refine useOp op_rep ⟨a, k, vs, rfl, rfl, h1, by omega, by omega, ?_, fun p hp => FR.lst wd al hp (t1.rep _) q⟩
      rw [t1.len]
      have a1 : _ * k.toNat ≤ 1000 * 1000 := Nat.mul_le_mul hz (by omega : k.toNat ≤ 1000)
      unfold sizeLine; omega
  · exact h.elim
theorem op_fdivW : OpS X (binaryOp .FloorDiv) fdivW := by
  intro ω fs v1 w1 f1 v2 w2 f2 Q wd al r1 r2 h
  unfold fdivW at h
  split at h
  · cases r1 with | d d1 => cases r2 with | d d2 =>
      cases d1; cases d2
      exact useOp op_fdiv ⟨_, _, rfl, rfl, h.1, FR.imm wd (.int _) h.2⟩
  · exact h.elim
theorem op_modW : OpS X (binaryOp .Mod) modW := by
  intro ω fs v1 w1 f1 v2 w2 f2 Q wd al r1 r2 h
  unfold modW at h
  split at h
  · cases r1 with | d d1 => cases r2 with | d d2 =>
      cases d1; cases d2
      exact useOp op_mod ⟨_, _, rfl, rfl, h.1, FR.imm wd (.int _) h.2⟩
  · exact h.elim
theorem op_powW : OpS X (binaryOp .Pow) powW := by
  intro ω fs v1 w1 f1 v2 w2 f2 Q wd al r1 r2 h
  unfold powW at h
  split at h
  · cases r1 with | d d1 => cases r2 with | d d2 =>
      cases d1; cases d2
      exact useOp op_pow ⟨_, _, rfl, rfl, h.1, FR.imm wd (.int _) h.2⟩
  · exact h.elim
/-! ### comparisons -/
def icmpW (p : Int → Int → Bool) : B2 := fun a b Q => match a, b with
  | .d (.int i), .d (.int j) => Q (.d (.bool (p i j)))
  | _, _ => False
theorem op_icmpW {op : CmpOp} {p : Int → Int → Bool} (ho : OpR X (compareOp op) (rI0 fun i j => .bl (p i j))) : OpS X (compareOp op) (icmpW p) := by
  intro ω fs v1 w1 f1 v2 w2 f2 Q wd al r1 r2 h
  unfold icmpW at h
  split at h
  · cases r1 with | d d1 => cases r2 with | d d2 =>
      cases d1; cases d2
      exact useOp ho ⟨_, _, rfl, rfl, FR.imm wd (.bl _) h⟩
  · exact h.elim
theorem decI (i j : Int) : decide (V.int i = V.int j) = decide (i = j) := by rw [dec_int, Bool.beq_eq_decide_eq]
/-- ints, without a look at their shape -/
def eqW : B2 := fun a b Q => match a, b with
  | .d (.int i), .d (.int j) => Q (.d (.bool (decide (i = j))))
  | a, b => ∃ x y, rdW a = some x ∧ rdW b = some y ∧ SeqAt.shaped x = true ∧ SeqAt.shaped y = true ∧ Q (.d (.bool (PyData.eqv x y)))
def neW : B2 := fun a b Q => match a, b with
  | .d (.int i), .d (.int j) => Q (.d (.bool (!decide (i = j))))
  | a, b => ∃ x y, rdW a = some x ∧ rdW b = some y ∧ SeqAt.shaped x = true ∧ SeqAt.shaped y = true ∧ Q (.d (.bool (!PyData.eqv x y)))
theorem op_eqW (hu : X.A.units + 64 < cLine) : OpS X (compareOp .Eq) eqW := by
  intro ω fs v1 w1 f1 v2 w2 f2 Q wd al r1 r2 h
  unfold eqW at h
  split at h
  · cases r1 with | d d1 => cases r2 with | d d2 =>
      cases d1; cases d2
      refine useOp op_eq ⟨rfl, FR.imm wd (.bl _) ?_⟩
      rw [decI]; exact h
  · obtain ⟨x, y, e1, e2, s1, s2, q⟩ := h
    exact useOp (op_eqD hu) ⟨x, y, Dq.dp (r1.rd wd e1), Dq.dp (r2.rd wd e2), s1, s2, FR.imm wd (.bl _) q⟩
theorem op_neW (hu : X.A.units + 64 < cLine) : OpS X (compareOp .NotEq) neW := by
  intro ω fs v1 w1 f1 v2 w2 f2 Q wd al r1 r2 h
  unfold neW at h
  split at h
  · cases r1 with | d d1 => cases r2 with | d d2 =>
      cases d1; cases d2
      refine useOp op_ne ⟨rfl, FR.imm wd (.bl _) ?_⟩
      rw [decI]; exact h
  · obtain ⟨x, y, e1, e2, s1, s2, q⟩ := h
    exact useOp (op_neD hu) ⟨x, y, Dq.dp (r1.rd wd e1), Dq.dp (r2.rd wd e2), s1, s2, FR.imm wd (.bl _) q⟩
end
end MV

namespace MV
open PySem PySem.Spec PyProof.Rows L2

section
variable (X : Cx)
/-- expressions one after the other, from the left -/
def wL : List Expr → TA
  | [] => fun _ H Q => Q [] H
  | e :: es => fun σ H Q => wE X e σ H fun v H1 => wL es σ H1 fun vs H2 => Q (v :: vs) H2
end
def noStar : Expr → Bool
  | .Starred _ _ => false
  | _ => true
theorem starE {e : Expr} {es : List Expr} {env : Env} (h : noStar e = true) : starEach (e :: es) env = (false, eval e env) :: starEach es env := by
  cases e <;> first | rfl | cases h
theorem backTo_any {pos : Pos} {es : List Expr} {env : Env} (h : es.all noStar = true) : (backTo pos (starEach es env)).any (·.1) = false := by
  induction es with
  | nil => rfl
  | cons e es ih =>
    rw [List.all_cons, Bool.and_eq_true] at h
    rw [starE h.1]
    show (false || (backTo pos (starEach es env)).any (·.1)) = false
    rw [ih h.2]; rfl
section
variable {X : Cx}
theorem pL : ∀ {es : List Expr}, es.all noStar = true → PA X es (wL X es)
  | [], _ => pa_nil
  | e :: es, h => by
    rw [List.all_cons, Bool.and_eq_true] at h
    exact pa_cons (pE e) (pL h.2) (starE h.1)
theorem wL.mono : ∀ {es : List Expr} {σ : L2.St} {H : Hp} {Q Q' : List V → Hp → Prop}, wL X es σ H Q → (∀ v H', Q v H' → Q' v H') → wL X es σ H Q'
  | [], _, _, _, _, h, k => k _ _ h
  | e :: es, _, _, _, _, h, k => wE.mono h fun v H1 h1 => wL.mono h1 fun vs H2 q => k _ _ q
end

/-- values of one's own, from the left -/
def PostX (ω : Wo) (fp : List Addr) (σ : L2.St) (Q : QWs) : List V → Hp → Prop := fun vs H' => ∃ ws S' ω' fv fs, ω'.H = H' ∧ Ext ω fp ω' (fv ++ fs) ∧ RWs ω' vs ws fv ∧ RSs ω' σ S' fs ∧ Q ws S'
def SX (X : Cx) (o : Og) (es : List Expr) (t : TWs) : Prop := ∀ σ S ω fp Q, In o ω fp → RSs ω σ S fp → t S Q → wL X es σ ω.H (PostX ω fp σ Q)
/-- operands -/
def SOl (X : Cx) (o : Og) (es : List Expr) (t : TWs) : Prop := ∀ σ S ω fp Q, In o ω fp → RSs ω σ S fp → t S Q → wL X es σ ω.H (PostA ω fp σ Q)

theorem RWl.mono {ω ω' : Wo} (hB : Le ω.B ω'.B) (hL : Le ω.L ω'.L) (g : Gr ω.H ω'.H) : ∀ {vs : List V} {ws : List W}, RWl ω vs ws → RWl ω' vs ws
  | _, _, .nil => .nil
  | _, _, .cons r t => .cons (r.mono hB hL (g.same r.alloc)) (RWl.mono hB hL g t)
section
variable {X : Cx} {o : Og} {e a b : Expr} {es : List Expr} {t u : TW} {us : TWs} {pos : Pos}
theorem se_int {i k} : SE X o (.Constant (.int i) k pos) (fun S Q => Q (.d (.int i)) S) := fun σ S ω fp Q wd rs h => useE pe_int ⟨_, S, ω, [], fp, rfl, Ext.refl wd.wd, .d (.int i), rs, h⟩
theorem se_bl {i k} : SE X o (.Constant (.bool i) k pos) (fun S Q => Q (.d (.bool i)) S) := fun σ S ω fp Q wd rs h => useE pe_bl ⟨_, S, ω, [], fp, rfl, Ext.refl wd.wd, .d (.bl i), rs, h⟩
theorem se_non {k} : SE X o (.Constant .none k pos) (fun S Q => Q (.d .none) S) := fun σ S ω fp Q wd rs h => useE pe_non ⟨_, S, ω, [], fp, rfl, Ext.refl wd.wd, .d .non, rs, h⟩
theorem se_str {x k} : SE X o (.Constant (.str x) k pos) (fun S Q => Q (.d (.str x)) S) := fun σ S ω fp Q wd rs h => useE pe_str ⟨_, S, ω, [], fp, rfl, Ext.refl wd.wd, .d (.str x), rs, h⟩
theorem st_st : ∀ (S : WSt) (i : Nat) (a b : Option W), st (st S i a) i b = st S i b
  | [], _, _, _ => rfl
  | _ :: _, 0, _, _ => rfl
  | x :: S, i + 1, a, b => congrArg (x :: ·) (st_st S i a b)
/-- a name whose value is kept elsewhere from here on: it is frozen -/
def varW (i : Nat) : TW := fun S Q => match gt S i with
  | some w => match fzW w with
    | some x => Q (.d x) (st S i (some (.d x)))
    | none => False
  | none => False
theorem se_var {i : Nat} {x : Expr} (hv : PE X x (tVar i)) : SE X o x (varW i) := by
  intro σ S ω fp Q wd rs h
  unfold varW at h
  cases hg : gt S i with
  | none => rw [hg] at h; exact h.elim
  | some w =>
    rw [hg] at h
    cases hz : fzW w with
    | none => simp only [hz] at h
    | some x =>
      simp only [hz] at h
      obtain ⟨v, f1, f2, hs, r, rs2, pm⟩ := rs.split hg
      have wd' := wd.wd.perm pm
      obtain ⟨ω', hH, E, D⟩ := r.freeze hz wd' rs2.alloc
      have rs3 : RSs ω' σ (st S i none) f2 := rs2.mono E.bb E.ll fun a _ => by rw [hH]
      obtain ⟨h', f', rs4, pm4, sb4⟩ := rs3.fill (i := i) hs (.d D)
      rw [st_st] at rs4
      have E' : Ext ω fp ω' h' := ((E.permL pm.symm).sub sb4).permR pm4.symm
      exact useE hv ⟨v, hs, _, _, ω', [], h', hH, E', .d D, rs4, h⟩
/-- a name whose value goes from it -/
def mvW (i : Nat) : TW := fun S Q => match gt S i with
  | some w => Q w (st S i none)
  | none => False
theorem se_mv {i : Nat} {x : Expr} (hv : PE X x (tVar i)) : SE X o x (mvW i) := by
  intro σ S ω fp Q wd rs h
  unfold mvW at h
  cases hg : gt S i with
  | none => rw [hg] at h; exact h.elim
  | some w =>
    rw [hg] at h
    obtain ⟨v, f1, f2, hs, r, rs2, pm⟩ := rs.split hg
    exact useE hv ⟨v, hs, w, _, ω, f1, f2, rfl, (Ext.refl wd.wd).permR pm, r, rs2, h⟩
theorem sx_nil : SX X o [] (fun S Q => Q [] S) := fun σ S ω fp Q wd rs h => ⟨[], S, ω, [], fp, rfl, Ext.refl wd.wd, .nil, rs, h⟩
theorem perm3 (a b c : List Addr) : ((b ++ c) ++ a).Perm ((a ++ b) ++ c) := by
  rw [List.append_assoc a b c]
  exact List.perm_append_comm
theorem sx_cons (h1 : SE X o e t) (h2 : SX X o es us) : SX X o (e :: es) (fun S Q => t S fun w S1 => us S1 fun ws S2 => Q (w :: ws) S2) := by
  intro σ S ω fp Q wd rs h
  refine wE.mono (h1 σ S ω fp _ wd rs h) ?_
  rintro v H1 ⟨w, S1, ω1, f1, s1, rfl, E1, r1, rs1, q1⟩
  have pm : (f1 ++ s1).Perm (s1 ++ f1) := List.perm_append_comm
  have wd1 := E1.wd.perm pm
  have wds : In o ω1 s1 := (wd.trans E1).sub (List.sublist_append_right _ _)
  refine wL.mono (h2 σ S1 ω1 s1 _ wds rs1 q1) ?_
  rintro vs H2 ⟨ws, S2, ω2, f2, s2, rfl, E2, r2, rs2, q2⟩
  obtain ⟨E3, k3⟩ := E2.frame (g := f1) wd1.nd (fun x m => E1.wd.dis x (List.mem_append_left _ m)) r1.alloc
  refine ⟨w :: ws, S2, ω2, f1 ++ f2, s2, rfl, (E1.permR pm).trans (E3.permR (perm3 _ _ _)), .cons (r1.mono E2.bb E2.ll k3) r2, rs2, q2⟩
theorem so_nil : SOl X o [] (fun S Q => Q [] S) := fun σ S ω fp Q wd rs h => ⟨[], S, ω, [], fp, rfl, Ext.refl wd.wd, .nil, rs, h⟩
theorem so_ex (h1 : SE X o e t) (h2 : SOl X o es us) : SOl X o (e :: es) (fun S Q => t S fun w S1 => us S1 fun ws S2 => Q (w :: ws) S2) := by
  intro σ S ω fp Q wd rs h
  refine wE.mono (h1 σ S ω fp _ wd rs h) ?_
  rintro v H1 ⟨w, S1, ω1, f1, s1, rfl, E1, r1, rs1, q1⟩
  have pm : (f1 ++ s1).Perm (s1 ++ f1) := List.perm_append_comm
  have wd1 := E1.wd.perm pm
  have wds : In o ω1 s1 := (wd.trans E1).sub (List.sublist_append_right _ _)
  refine wL.mono (h2 σ S1 ω1 s1 _ wds rs1 q1) ?_
  rintro vs H2 ⟨ws, S2, ω2, f2, s2, rfl, E2, r2, rs2, q2⟩
  obtain ⟨E3, k3⟩ := E2.frame (g := f1) wd1.nd (fun x m => E1.wd.dis x (List.mem_append_left _ m)) r1.alloc
  exact ⟨w :: ws, S2, ω2, f1 ++ f2, s2, rfl, (E1.permR pm).trans (E3.permR (perm3 _ _ _)), .cons (r1.mono E2.bb E2.ll k3) r2, rs2, q2⟩
/-- a name as an operand: read at the end -/
def plW (i : Nat) (us : TWs) : TWs := fun S Q => match gt S i with
  | none => False
  | some _ => us S fun ws S2 => match gt S2 i with
    | none => False
    | some w => Q (w :: ws) S2
theorem so_pl {i : Nat} (hv : PE X e (tVar i)) (h2 : SOl X o es us) : SOl X o (e :: es) (plW i us) := by
  intro σ S ω fp Q wd rs h
  unfold plW at h
  cases hg : gt S i with
  | none => rw [hg] at h; exact h.elim
  | some w0 =>
    rw [hg] at h
    obtain ⟨v, f1, f2, hs, r, _, _⟩ := rs.split hg
    refine useE hv ⟨v, hs, ?_⟩
    refine wL.mono (h2 σ S ω fp _ wd rs h) ?_
    rintro vs H2 ⟨ws, S2, ω2, fg, s2, rfl, E2, r2, rs2, q2⟩
    cases hg2 : gt S2 i with
    | none => simp only [hg2] at q2
    | some w =>
      simp only [hg2] at q2
      obtain ⟨v', g1, g2, hs', r', _, _⟩ := rs2.split hg2
      rw [hs] at hs'
      obtain rfl := Option.some.inj (Option.some.inj hs')
      exact ⟨w :: ws, S2, ω2, fg, s2, rfl, E2, .cons r' r2, rs2, q2⟩
/-- an item of an own list of things, as the last operand: x[e] -/
def piW (i : Nat) (t : TW) : TWs := fun S Q => match gt S i with
  | none => False
  | some _ => t S fun k S2 => match k, gt S2 i with
  | .d (.int n), some (.ow ws) => match atI ws n with
    | some w => Q [w] S2
    | none => False
  | .d (.int n), some (.vw ws) => match atI ws n with
    | some w => Q [w] S2
    | none => False
  | _, _ => False
theorem RWs.atI {ω : Wo} {n : Int} : ∀ {vs : List V} {ws : List W} {f : List Addr} {w : W}, RWs ω vs ws f → L2.atI ws n = some w → ∃ v g, L2.atI vs n = some v ∧ RW ω v w g := by
  intro vs ws f w r h
  have len : ∀ {vs : List V} {ws : List W} {f : List Addr}, RWs ω vs ws f → vs.length = ws.length := by
    intro vs ws f r
    induction vs generalizing ws f with
    | nil => cases r; rfl
    | cons v vs ih => cases r with | cons a b => rw [List.length_cons, List.length_cons, ih b]
  have get : ∀ {vs : List V} {ws : List W} {f : List Addr} {j : Nat} {w : W}, RWs ω vs ws f → ws[j]? = some w → ∃ v g, vs[j]? = some v ∧ RW ω v w g := by
    intro vs ws f j w r h
    induction vs generalizing ws f j with
    | nil => cases r; simp at h
    | cons v vs ih =>
      cases r with
      | cons a b =>
        cases j with
        | zero => simp at h; subst h; exact ⟨_, _, rfl, a⟩
        | succ j =>
          obtain ⟨v, g, h1, h2⟩ := ih b (j := j) (by simpa using h)
          exact ⟨v, g, by simpa using h1, h2⟩
  unfold L2.atI at h ⊢
  rw [len r]
  cases e : ixN ws.length n with
  | none => rw [e] at h; cases h
  | some j =>
    rw [e] at h
    obtain ⟨v, g, h1, h2⟩ := get r h
    exact ⟨v, g, h1, h2⟩
theorem so_pi {i : Nat} (hv : PE X a (tVar i)) (h1 : SE X o b t) (hix : PlainIx b) : SOl X o [.Subscript a b pos] (piW i t) := by
  intro σ S ω fp Q wd rs h
  unfold piW at h
  refine useE (pe_ix ixC (pE a) (pE b) hix) ?_
  cases hg : gt S i with
  | none => rw [hg] at h; exact h.elim
  | some w0 =>
    rw [hg] at h
    obtain ⟨v, _, _, hs, _, _, _⟩ := rs.split hg
    have h2 := h1 σ S ω fp _ wd rs h
    refine useE hv ⟨v, hs, wE.mono h2 ?_⟩
    rintro y H2 ⟨k, S2, ω2, f2, s2, rfl, E2, r2, rs2, q2⟩
    have fin : ∀ {ws : List W} {w : W} {n : Int} {vs : List V} {p : Addr} {g : List Addr}, k = .d (.int n) → v = .ref p → Rd ω2.H p (.lst vs) → RWs ω2 vs ws g → L2.atI ws n = some w → Q [w] S2 →
        rIxC X v y ω2.H fun v' H' => wL X [] σ H' fun vs' H3 => PostA ω fp σ Q (v' :: vs') H3 := by
      intro ws w n vs p g ek ev hp rw' ha q
      subst ek ev
      obtain ⟨v', g', h3, r3⟩ := RWs.atI rw' ha
      cases r2 with | d d2 =>
        cases d2
        exact useIx ix_list ⟨p, vs, n, v', rfl, rfl, .inl hp, h3, ⟨[w], S2, ω2, _, s2, rfl, E2, .cons r3 .nil, rs2, q⟩⟩
    split at q2
    · rename_i n ws e
      split at q2
      · rename_i w ha
        obtain ⟨v1, g1, g2, hs1, r1, _, _⟩ := rs2.split e
        rw [hs] at hs1
        obtain rfl := Option.some.inj (Option.some.inj hs1)
        cases r1 with | ow ho hr => exact fin rfl rfl (.inl ho) hr ha q2
      · exact q2.elim
    · rename_i n ws e
      split at q2
      · rename_i w ha
        obtain ⟨v1, g1, g2, hs1, r1, _, _⟩ := rs2.split e
        rw [hs] at hs1
        obtain rfl := Option.some.inj (Option.some.inj hs1)
        cases r1 with | vw ho hr => exact fin rfl rfl (Rd.mono E2.wd.lh ho) hr ha q2
      · exact q2.elim
    · exact q2.elim
end
end MV

namespace MV
open PySem PySem.Spec PyProof.Rows L2

/-! ### dicts -/
def lkp (kvs : List (Key × PyData)) (k : Key) : Option PyData := (kvs.find? fun kv => decide (kv.1 = k)).map (·.2)
def putP (kvs : List (Key × PyData)) (k : Key) (v : PyData) : List (Key × PyData) :=
  if (kvs.any fun kv => decide (kv.1 = k)) = true then kvs.map (fun kv => if kv.1 = k then (kv.1, v) else kv) else kvs ++ [(k, v)]
def keyD : PyData → Option Key
  | .int i => some (.inl i)
  | .str x => some (.inr x)
  | _ => none
def dKey : Key → PyData
  | .inl i => .int i
  | .inr x => .str x
theorem keyD_V {H : Hp} {v : V} {x : PyData} {k : Key} (d : Dq H v x) (e : keyD x = some k) : v = kV k := by
  cases d <;> simp only [keyD, Option.some.injEq, reduceCtorEq] at e
  · subst e; rfl
  · subst e; rfl
theorem KDp.lk {B : Hp} {k : Key} : ∀ {vs : List (Key × V)} {xs : List (Key × PyData)}, KDp B vs xs →
    (∀ x, lkp xs k = some x → ∃ v, valV vs k = some v ∧ Dq B v x) ∧ (lkp xs k = none → valV vs k = none)
  | [], [], _ => ⟨fun x h => by simp [lkp] at h, fun _ => valV_nil⟩
  | [], _ :: _, h => by simp [KDp] at h
  | _ :: _, [], h => by simp [KDp] at h
  | (k1, v1) :: vs, (k2, x2) :: xs, ⟨h1, h2⟩ => by
    rw [List.map_cons, List.map_cons] at h1 h2
    injection h1 with e1 e2
    have e1' : k1 = k2 := e1
    subst e1'
    cases h2 with
    | cons d t =>
      have ih := KDp.lk (k := k) (vs := vs) (xs := xs) ⟨e2, t⟩
      by_cases hk : k1 = k
      · refine ⟨fun x h => ⟨v1, valV_pos (p := (k1, v1)) hk, ?_⟩, fun h => ?_⟩
        · simp only [lkp, List.find?_cons, decide_eq_true hk, Option.map_some, Option.some.injEq] at h
          subst h; exact d
        · simp only [lkp, List.find?_cons, decide_eq_true hk, Option.map_some, reduceCtorEq] at h
      · have e3 : lkp ((k1, x2) :: xs) k = lkp xs k := by simp only [lkp, List.find?_cons, decide_eq_false hk]
        rw [e3, show valV ((k1, v1) :: vs) k = valV vs k from valV_neg (p := (k1, v1)) hk]
        exact ih
theorem KDp.isSome {B : Hp} {k : Key} {vs : List (Key × V)} {xs : List (Key × PyData)} (h : KDp B vs xs) : (valV vs k).isSome = (lkp xs k).isSome := by
  obtain ⟨a, b⟩ := h.lk (k := k)
  cases e : lkp xs k with
  | none => rw [b e]; rfl
  | some x => obtain ⟨v, e2, _⟩ := a x e; rw [e2]; rfl

theorem RWs.get0 {ω : Wo} {vs : List V} {ws : List W} {j : Nat} {w : W} (r : RWs ω vs ws []) (h : ws[j]? = some w) : ∃ v, vs[j]? = some v ∧ RW ω v w [] := by
  induction vs generalizing ws j with
  | nil => cases r; simp at h
  | cons v vs ih =>
    generalize hf : ([] : List Addr) = f at r
    cases r with
    | cons a b =>
      obtain ⟨e1, e2⟩ := List.append_eq_nil_iff.mp hf.symm
      subst e1 e2
      cases j with
      | zero => simp at h; subst h; exact ⟨_, rfl, a⟩
      | succ j =>
        obtain ⟨v, h1, h2⟩ := ih b (j := j) (by simpa using h)
        exact ⟨v, by simpa using h1, h2⟩
theorem RWs.len' {ω : Wo} : ∀ {vs : List V} {ws : List W} {f : List Addr}, RWs ω vs ws f → vs.length = ws.length
  | _, _, _, .nil => rfl
  | _, _, _, .cons _ b => by rw [List.length_cons, List.length_cons, RWs.len' b]
theorem RWs.atI0 {ω : Wo} {n : Int} {vs : List V} {ws : List W} {w : W} (r : RWs ω vs ws []) (h : L2.atI ws n = some w) : ∃ v, L2.atI vs n = some v ∧ RW ω v w [] := by
  unfold L2.atI at h ⊢
  rw [r.len']
  cases e : ixN ws.length n with
  | none => rw [e] at h; cases h
  | some j =>
    rw [e] at h
    exact r.get0 h
section
variable {X : Cx}
theorem ix_dict (hu : X.A.units + 1 < cLine) : IxR X (fun x y H Q => ∃ a v, x = .ref a ∧ DGet H a y (some v) ∧ Q v H) := by
  intro value slice pins s σ H x y v u Q I rx ry h hs
  obtain ⟨a, z, rfl, g, q⟩ := h
  obtain rfl : v = Value.ref a := rx
  exact tail_any (dict_typeIs I g) PySem.F.slot_dict_getitem.lookup (d_getItem hu I g ry fun w' s3 I3 rw' => ⟨z, H, I3, rw', q⟩) hs

/-- x[i], an item that never changes -/
def idxW : B2 := fun a b Q => match asS a, b with
  | some xs, .d (.int n) => (match L2.atI xs n with
    | some x => Q (.d x)
    | none => False)
  | _, _ => match asK a, rdW b with
    | some kvs, some y => (match keyD y with
      | some k => (match lkp kvs k with
        | some x => Q (.d x)
        | none => False)
      | none => False)
    | _, _ => match a, b with
      | .d (.str z), .d (.int n) => z.length ≤ sizeLine ∧ (match L2.atI z.cps.toList n with
        | some c => Q (.d (.str ⟨#[c]⟩))
        | none => False)
      | .tw ws, .d (.int n) => (match L2.atI ws n with
        | some (.d x) => Q (.d x)
        | _ => False)
      | .vw ws, .d (.int n) => (match L2.atI ws n with
        | some w => Q w
        | none => False)
      | _, _ => False
def IxS (X : Cx) (r : B2) : Prop := ∀ ω fs v1 w1 f1 v2 w2 f2 Q, Wd ω fs → (∀ a ∈ fs, ω.H a ≠ none) → RW ω v1 w1 f1 → RW ω v2 w2 f2 → r w1 w2 Q → rIxC X v1 v2 ω.H (FR ω fs Q)
theorem DqAll.atI {A : Hp} {vs : List V} {xs : List PyData} {n : Int} {x : PyData} (h : DqAll A vs xs) (e : L2.atI xs n = some x) : ∃ v, L2.atI vs n = some v ∧ Dq A v x := by
  unfold L2.atI at e ⊢
  rw [h.len]
  cases q : ixN xs.length n with
  | none => rw [q] at e; cases e
  | some j =>
    rw [q] at e
    exact h.get e
theorem ix_W (hu : X.A.units + 1 < cLine) : IxS X idxW := by
  intro ω fs v1 w1 f1 v2 w2 f2 Q wd al r1 r2 h
  unfold idxW at h
  split at h
  · rename_i xs n e
    split at h
    · rename_i x ex
      obtain ⟨a, vs, rfl, hh, t⟩ := r1.asS wd e
      cases r2 with | d d2 =>
      cases d2
      obtain ⟨v, ev, dv⟩ := t.atI ex
      rcases hh with ⟨_, hh⟩ | ⟨_, hh⟩
      · exact useIx ix_list ⟨a, vs, n, v, rfl, rfl, .inl hh, ev, FR.imm wd dv h⟩
      · exact useIx ix_tup ⟨a, vs, n, v, rfl, rfl, .inl hh, ev, FR.imm wd dv h⟩
    · exact h.elim
  · split at h
    · rename_i kvs y e1 e2
      split at h
      · rename_i k ek
        split at h
        · rename_i x ex
          obtain ⟨a, vs, rfl, hh, t⟩ := r1.asK wd e1
          have ey := keyD_V (r2.rd wd e2) ek
          obtain ⟨v, ev, dv⟩ := (t.lk (k := k)).1 x ex
          exact useIx (ix_dict hu) ⟨a, v, rfl, .inl ⟨vs, k, hh, ey, ev.symm⟩, FR.imm wd dv h⟩
        · exact h.elim
      · exact h.elim
    · split at h
      · rename_i z n _ _
        obtain ⟨hz, h⟩ := h
        split at h
        · rename_i c ec
          cases r1 with | d d1 => cases r2 with | d d2 =>
          cases d1; cases d2
          exact useIx ix_str ⟨z, n, c, rfl, rfl, hz, ec, FR.imm wd (.str _) h⟩
        · exact h.elim
      · rename_i ws n _ _
        split at h
        · rename_i x ex
          cases r1 with | tw hh t =>
          cases r2 with | d d2 =>
          cases d2
          obtain ⟨v, g, ev, rv⟩ := RWs.atI t ex
          cases rv with | d dv =>
          exact useIx ix_tup ⟨_, _, n, v, rfl, rfl, .inl (Rd.mono wd.bh hh), ev, FR.imm wd dv h⟩
        · exact h.elim
      · rename_i ws n _ _
        split at h
        · rename_i x ex
          cases r1 with | vw hh t =>
          cases r2 with | d d2 =>
          cases d2
          obtain ⟨v, ev, rv⟩ := RWs.atI0 t ex
          exact useIx ix_list ⟨_, _, n, v, rfl, rfl, .inl (Rd.mono wd.lh hh), ev, ⟨_, ω, [], rfl, Ext.refl wd, fun _ _ e => e, rv, h⟩⟩
        · exact h.elim
      · exact h.elim

/-! ### in -/
def inW (neg : Bool) : B2 := fun a b Q => match asK b with
  | some kvs => (match rdW a with
    | some y => (match keyD y with
      | some k => Q (.d (.bool (neg ^^ (lkp kvs k).isSome)))
      | none => False)
    | none => False)
  | none => match rdW a, rdW b with
    | some x, some (.list ys) => SeqAt.shaped x = true ∧ SeqAt.shaped (.list ys) = true ∧ Q (.d (.bool (neg ^^ (ys.any fun z => PyData.eqv z x))))
    | some x, some (.tuple ys) => SeqAt.shaped x = true ∧ SeqAt.shaped (.tuple ys) = true ∧ Q (.d (.bool (neg ^^ (ys.any fun z => PyData.eqv z x))))
    | some (.str c), some (.str z) => Q (.d (.bool (neg ^^ !(Builtin.Str.occurrences z c 0 z.length 1).isEmpty)))
    | _, _ => False
theorem op_inK (hu : X.A.units + 1 < cLine) : OpR X (compareOp .In) (fun x y H Q => ∃ a o, y = .ref a ∧ DGet H a x o ∧ Q (.bl o.isSome) H) := by
  intro pins s σ H x y v u Q I rx ry h
  obtain ⟨a, o, rfl, g, q⟩ := h
  obtain rfl : u = Value.ref a := ry
  exact d_in hu I g rx fun s3 I3 => ⟨.bl o.isSome, H, I3, rfl, q⟩
theorem op_notInK (hu : X.A.units + 1 < cLine) : OpR X (compareOp .NotIn) (fun x y H Q => ∃ a o, y = .ref a ∧ DGet H a x o ∧ Q (.bl (!o.isSome)) H) := by
  intro pins s σ H x y v u Q I rx ry h
  obtain ⟨a, o, rfl, g, q⟩ := h
  obtain rfl : u = Value.ref a := ry
  exact d_notIn hu I g rx fun s3 I3 => ⟨.bl (!o.isSome), H, I3, rfl, q⟩
theorem op_inT (hu : X.A.units + 65 < cLine) : OpR X (compareOp .In) (fun x y H Q => ∃ d ds, Dp X.K H x d ∧ Dp X.K H y (.tuple ds) ∧ SeqAt.shaped d = true ∧ SeqAt.shaped (.tuple ds) = true ∧ Q (.bl (ds.any fun z => PyData.eqv z d)) H) := by
  intro pins s σ H x y v u Q I rx ry h
  obtain ⟨d, ds, hd, he, sd, se, q⟩ := h
  obtain ⟨as, r1⟩ := Dp.reads I d x v hd rx
  obtain ⟨bs, r2⟩ := Dp.reads I (.tuple ds) y u he ry
  exact SeqAt.in_tuple_reads r2 r1 (SeqAt.canLay_of_shaped se) (SeqAt.canLay_of_shaped sd) (room_in_shaped sd hu) ⟨.bl _, H, I, rfl, q⟩
theorem op_notInT (hu : X.A.units + 65 < cLine) : OpR X (compareOp .NotIn) (fun x y H Q => ∃ d ds, Dp X.K H x d ∧ Dp X.K H y (.tuple ds) ∧ SeqAt.shaped d = true ∧ SeqAt.shaped (.tuple ds) = true ∧ Q (.bl (!ds.any fun z => PyData.eqv z d)) H) := by
  intro pins s σ H x y v u Q I rx ry h
  obtain ⟨d, ds, hd, he, sd, se, q⟩ := h
  obtain ⟨as, r1⟩ := Dp.reads I d x v hd rx
  obtain ⟨bs, r2⟩ := Dp.reads I (.tuple ds) y u he ry
  exact SeqAt.notIn_tuple_reads r2 r1 (SeqAt.canLay_of_shaped se) (SeqAt.canLay_of_shaped sd) (room_in_shaped sd hu) ⟨.bl _, H, I, rfl, q⟩
theorem op_inW (hu : X.A.units + 65 < cLine) : OpS X (compareOp .In) (inW false) := by
  intro ω fs v1 w1 f1 v2 w2 f2 Q wd al r1 r2 h
  unfold inW at h
  split at h
  · rename_i kvs e
    split at h
    · rename_i y ey
      split at h
      · rename_i k ek
        obtain ⟨a, vs, rfl, hh, t⟩ := r2.asK wd e
        have hv := keyD_V (r1.rd wd ey) ek
        subst hv
        rw [Bool.false_xor] at h
        exact useOp (op_inK (by omega)) ⟨a, valV vs k, rfl, .inl ⟨vs, k, hh, rfl, rfl⟩, FR.imm wd (.bl _) (by rw [t.isSome]; exact h)⟩
      · exact h.elim
    · exact h.elim
  · split at h
    · rename_i x ys e1 e2
      obtain ⟨s1, s2, q⟩ := h
      rw [Bool.false_xor] at q
      exact useOp (op_inD hu) ⟨x, ys, Dq.dp (r1.rd wd e1), Dq.dp (r2.rd wd e2), s1, s2, FR.imm wd (.bl _) q⟩
    · rename_i x ys e1 e2
      obtain ⟨s1, s2, q⟩ := h
      rw [Bool.false_xor] at q
      exact useOp (op_inT hu) ⟨x, ys, Dq.dp (r1.rd wd e1), Dq.dp (r2.rd wd e2), s1, s2, FR.imm wd (.bl _) q⟩
    · rename_i c z e1 e2
      rw [Bool.false_xor] at h
      have d1 := r1.rd wd e1
      have d2 := r2.rd wd e2
      cases d1; cases d2
      exact useOp op_in_str ⟨c, z, rfl, rfl, FR.imm wd (.bl _) h⟩
    · exact h.elim
theorem op_notInW (hu : X.A.units + 65 < cLine) : OpS X (compareOp .NotIn) (inW true) := by
  intro ω fs v1 w1 f1 v2 w2 f2 Q wd al r1 r2 h
  unfold inW at h
  split at h
  · rename_i kvs e
    split at h
    · rename_i y ey
      split at h
      · rename_i k ek
        obtain ⟨a, vs, rfl, hh, t⟩ := r2.asK wd e
        have hv := keyD_V (r1.rd wd ey) ek
        subst hv
        rw [Bool.true_xor] at h
        exact useOp (op_notInK (by omega)) ⟨a, valV vs k, rfl, .inl ⟨vs, k, hh, rfl, rfl⟩, FR.imm wd (.bl _) (by rw [t.isSome]; exact h)⟩
      · exact h.elim
    · exact h.elim
  · split at h
    · rename_i x ys e1 e2
      obtain ⟨s1, s2, q⟩ := h
      rw [Bool.true_xor] at q
      exact useOp (op_notInD hu) ⟨x, ys, Dq.dp (r1.rd wd e1), Dq.dp (r2.rd wd e2), s1, s2, FR.imm wd (.bl _) q⟩
    · rename_i x ys e1 e2
      obtain ⟨s1, s2, q⟩ := h
      rw [Bool.true_xor] at q
      exact useOp (op_notInT hu) ⟨x, ys, Dq.dp (r1.rd wd e1), Dq.dp (r2.rd wd e2), s1, s2, FR.imm wd (.bl _) q⟩
    · rename_i c z e1 e2
      rw [Bool.true_xor] at h
      have d1 := r1.rd wd e1
      have d2 := r2.rd wd e2
      cases d1; cases d2
      exact useOp op_notin_str ⟨c, z, rfl, rfl, FR.imm wd (.bl _) h⟩
    · exact h.elim
/-! ### is None -/
def isW (neg : Bool) : B2 := fun a b Q => match b with
  | .d .none => (match a with
    | .d .none => Q (.d (.bool !neg))
    | _ => Q (.d (.bool neg)))
  | .d (.bool k) => (match a with
    | .d (.bool j) => Q (.d (.bool (neg ^^ (j == k))))
    | _ => Q (.d (.bool neg)))
  | _ => False
theorem RW.isNon {ω : Wo} {v : V} {w : W} {f : List Addr} (r : RW ω v w f) : decide (v = .non) = (match w with | .d .none => true | _ => false) := by
  cases r with
  | d h => cases h <;> rfl
  | _ => rfl
theorem op_isBl (k : Bool) : OpR X (compareOp .Is) (fun x y H Q => y = .bl k ∧ Q (.bl (decide (x = .bl k))) H) := by
  intro pins s σ H x y v u Q I rx ry h
  obtain ⟨rfl, q⟩ := h
  cases ry
  have fin : ∀ b : Bool, b = decide (x = V.bl k) → EP X pins σ Q (.bool b) s := fun b e => ⟨V.bl b, H, I, rfl, e.symm ▸ q⟩
  cases x with
  | bl j =>
    cases rx
    exact wpAny_pure (fin _ (by cases j <;> cases k <;> rfl))
  | non => cases rx; exact wpAny_pure (fin _ rfl)
  | int i => obtain ⟨t, rfl⟩ := rx; exact wpAny_pure (fin _ rfl)
  | str i => obtain ⟨t, rfl⟩ := rx; exact wpAny_pure (fin _ rfl)
  | byt i => obtain ⟨t, rfl⟩ := rx; exact wpAny_pure (fin _ rfl)
  | flt i => obtain ⟨t, rfl⟩ := rx; exact wpAny_pure (fin _ rfl)
  | ref i => cases rx; exact wpAny_pure (fin _ rfl)
  | ty i => cases rx; exact wpAny_pure (fin _ rfl)
theorem op_isntBl (k : Bool) : OpR X (compareOp .IsNot) (fun x y H Q => y = .bl k ∧ Q (.bl (!decide (x = .bl k))) H) := by
  intro pins s σ H x y v u Q I rx ry h
  obtain ⟨rfl, q⟩ := h
  cases ry
  have fin : ∀ b : Bool, b = (!decide (x = V.bl k)) → EP X pins σ Q (.bool b) s := fun b e => ⟨V.bl b, H, I, rfl, e.symm ▸ q⟩
  cases x with
  | bl j =>
    cases rx
    exact wpAny_pure (fin _ (by cases j <;> cases k <;> rfl))
  | non => cases rx; exact wpAny_pure (fin _ rfl)
  | int i => obtain ⟨t, rfl⟩ := rx; exact wpAny_pure (fin _ rfl)
  | str i => obtain ⟨t, rfl⟩ := rx; exact wpAny_pure (fin _ rfl)
  | byt i => obtain ⟨t, rfl⟩ := rx; exact wpAny_pure (fin _ rfl)
  | flt i => obtain ⟨t, rfl⟩ := rx; exact wpAny_pure (fin _ rfl)
  | ref i => cases rx; exact wpAny_pure (fin _ rfl)
  | ty i => cases rx; exact wpAny_pure (fin _ rfl)
theorem RW.isBl {ω : Wo} {v : V} {w : W} {f : List Addr} {k : Bool} (r : RW ω v w f) : decide (v = .bl k) = (match w with | .d (.bool j) => j == k | _ => false) := by
  cases r with
  | d h => cases h <;> first | rfl | (rename_i b; cases b <;> cases k <;> rfl)
  | _ => rfl
theorem op_isW : OpS X (compareOp .Is) (isW false) := by
  intro ω fs v1 w1 f1 v2 w2 f2 Q wd al r1 r2 h
  unfold isW at h
  split at h
  · cases r2 with | d d2 =>
    cases d2
    refine useOp op_isN ⟨rfl, FR.imm wd (.bl _) ?_⟩
    rw [r1.isNon]
    split at h
    · exact h
    · rename_i hh
      split
      · exact (hh rfl).elim
      · exact h
  · cases r2 with | d d2 =>
    cases d2
    refine useOp (op_isBl _) ⟨rfl, FR.imm wd (.bl _) ?_⟩
    rw [r1.isBl]
    split at h
    · rw [Bool.false_xor] at h; exact h
    · rename_i hh
      split
      · exact (hh _ rfl).elim
      · exact h
  · exact h.elim
theorem op_isNotW : OpS X (compareOp .IsNot) (isW true) := by
  intro ω fs v1 w1 f1 v2 w2 f2 Q wd al r1 r2 h
  unfold isW at h
  split at h
  · cases r2 with | d d2 =>
    cases d2
    refine useOp op_notN ⟨rfl, FR.imm wd (.bl _) ?_⟩
    rw [r1.isNon]
    split at h
    · exact h
    · rename_i hh
      split
      · exact (hh rfl).elim
      · exact h
  · cases r2 with | d d2 =>
    cases d2
    refine useOp (op_isntBl _) ⟨rfl, FR.imm wd (.bl _) ?_⟩
    rw [r1.isBl]
    split at h
    · rw [Bool.true_xor] at h; exact h
    · rename_i hh
      split
      · exact (hh _ rfl).elim
      · exact h
  · exact h.elim
end
end MV

namespace MV
open PySem PySem.Spec PyProof.Rows L2

abbrev B1 := List W → (W → Prop) → Prop
def CallS (X : Cx) (f : Value) (r : B1) : Prop := ∀ ω fs vs ws Q, Wd ω fs → (∀ a ∈ fs, ω.H a ≠ none) → RWl ω vs ws → r ws Q → rCl X f vs ω.H (FR ω fs Q)

/-- sorted as the one list -/
def srtD (xs : List PyData) : List PyData := xs.mergeSort (PySem.W.dataLe false id)
def dKeys (kvs : List (Key × PyData)) : List PyData := kvs.map fun kv => dKey kv.1
def lenW : B1 := fun ws Q => match ws with
  | [w] => (match asS w with
    | some xs => Q (.d (.int xs.length))
    | none => match asK w with
      | some kvs => Q (.d (.int kvs.length))
      | none => match w with
        | .ow us => Q (.d (.int us.length))
        | .vw us => Q (.d (.int us.length))
        | .tw us => Q (.d (.int us.length))
        | .d (.str z) => z.length ≤ sizeLine ∧ Q (.d (.int z.length))
        | _ => False)
  | _ => False
def listW : B1 := fun ws Q => match ws with
  | [w] => (match asS w with
    | some xs => Q (.ol xs)
    | none => match w with
      | .od kvs => Q (.ol (dKeys kvs))
      | _ => False)
  | _ => False
def tupleW : B1 := fun ws Q => match ws with
  | [w] => (match asS w with
    | some xs => Q (.d (.tuple xs))
    | none => False)
  | _ => False
def sortedW : B1 := fun ws Q => match ws with
  | [w] => (match asL w with
    | some xs => PySem.W.AllAlike xs ∧ PySem.W.Sortable xs ∧ (∀ x ∈ xs, x.depth ≤ 64) ∧ Q (.ol (srtD xs))
    | none => match asK w with
      | some kvs => ∃ ks : List Int, kvs.map (·.1) = ks.map Sum.inl ∧ ks.length < 64 ∧ Q (.ol (srtD (ks.map PyData.int)))
      | none => match w with
        | .vw us => ∃ xs, rdWs us = some xs ∧ PySem.W.AllAlike xs ∧ PySem.W.Sortable xs ∧ (∀ x ∈ xs, x.depth ≤ 64) ∧ ∀ zs, rdWs zs = some (srtD xs) → (∀ z ∈ zs, z ∈ us) → Q (.ow zs)
        | _ => False)
  | _ => False
def sumW : B1 := fun ws Q => match ws with
  | [w] => (match asL w with
    | some xs => ∃ ns : List Int, xs = ns.map PyData.int ∧ Q (.d (.int ns.sum))
    | none => False)
  | _ => False
def maxW : B1 := fun ws Q => match ws with
  | [w] => (match asL w with
    | some xs => ∃ ns : List Int, xs = ns.map PyData.int ∧ ns ≠ [] ∧ ∀ m, m ∈ ns → (∀ y ∈ ns, y ≤ m) → Q (.d (.int m))
    | none => False)
  | [.d (.int i), .d (.int j)] => Q (.d (.int (if j > i then j else i)))
  | _ => False
def minW : B1 := fun ws Q => match ws with
  | [w] => (match asL w with
    | some xs => ∃ ns : List Int, xs = ns.map PyData.int ∧ ns ≠ [] ∧ ∀ m, m ∈ ns → (∀ y ∈ ns, m ≤ y) → Q (.d (.int m))
    | none => False)
  | [.d (.int i), .d (.int j)] => Q (.d (.int (if j < i then j else i)))
  | _ => False
def anyW : B1 := fun ws Q => match ws with
  | [w] => (match asL w with
    | some xs => ∃ bs : List Bool, xs = bs.map PyData.bool ∧ Q (.d (.bool (bs.any id)))
    | none => False)
  | _ => False
def allW : B1 := fun ws Q => match ws with
  | [w] => (match asL w with
    | some xs => ∃ bs : List Bool, xs = bs.map PyData.bool ∧ Q (.d (.bool (bs.all id)))
    | none => False)
  | _ => False
def intW : B1 := fun ws Q => match ws with
  | [.d (.int i)] => Q (.d (.int i))
  | [.d (.bool b)] => Q (.d (.int (if b then 1 else 0)))
  | [.d (.str a)] => ∃ n, PySem.intText? a = some n ∧ a.length ≤ 640 ∧ Q (.d (.int n))
  | _ => False
def strW : B1 := fun ws Q => match ws with
  | [.d (.int i)] => i.natAbs.log2 < 1920 ∧ Q (.d (.str (toString i)))
  | _ => False

theorem RWl.one {ω : Wo} {vs : List V} {w : W} (r : RWl ω vs [w]) : ∃ v f, vs = [v] ∧ RW ω v w f := by
  cases r with | cons a b => cases b; exact ⟨_, _, rfl, a⟩
theorem RWl.two {ω : Wo} {vs : List V} {w u : W} (r : RWl ω vs [w, u]) : ∃ v f v' f', vs = [v, v'] ∧ RW ω v w f ∧ RW ω v' u f' := by
  cases r with | cons a b => cases b with | cons c d => cases d; exact ⟨_, _, _, _, rfl, a, c⟩
theorem RWs.length {ω : Wo} : ∀ {vs : List V} {ws : List W} {f : List Addr}, RWs ω vs ws f → vs.length = ws.length := by
  intro vs ws f r
  induction vs generalizing ws f with
  | nil => cases r; rfl
  | cons v vs ih => cases r with | cons a b => rw [List.length_cons, List.length_cons, ih b]
theorem KDp.len {B : Hp} {vs : List (Key × V)} {xs : List (Key × PyData)} (h : KDp B vs xs) : vs.length = xs.length := by
  have := congrArg List.length h.1
  simpa using this
theorem dq_key {H : Hp} : ∀ k : Key, Dq H (kV k) (dKey k)
  | .inl i => .int i
  | .inr x => .str x
theorem DqAll.keys {H : Hp} : ∀ {vs : List (Key × V)} {xs : List (Key × PyData)}, vs.map (·.1) = xs.map (·.1) → DqAll H (vs.map fun kv => kV kv.1) (dKeys xs)
  | [], [], _ => .nil
  | [], _ :: _, h => by simp at h
  | _ :: _, [], h => by simp at h
  | v :: vs, x :: xs, h => by
    rw [List.map_cons, List.map_cons] at h
    injection h with e1 e2
    rw [List.map_cons]
    show DqAll H _ (dKey x.1 :: dKeys xs)
    rw [e1]
    exact .cons (dq_key _) (DqAll.keys e2)
theorem DqAll.each {B : Hp} : ∀ {vs : List V} {xs : List PyData}, DqAll B vs xs → ∀ {us : List Value}, Vals vs us → PySem.W.EachIs (fun u x => ∃ v, RelV v u ∧ Dq B v x) us xs
  | _, _, .nil, _, .nil => .nil
  | _, _, .cons d t, _, .cons r r' => .cons ⟨_, r, d⟩ (DqAll.each t r')
theorem of_each {B : Hp} : ∀ {us : List Value} {xs : List PyData}, PySem.W.EachIs (fun u x => ∃ v, RelV v u ∧ Dq B v x) us xs → ∃ vs, Vals vs us ∧ DqAll B vs xs
  | _, _, .nil => ⟨[], .nil, .nil⟩
  | _, _, .cons ⟨v, r, d⟩ t => by
    obtain ⟨vs, r', t'⟩ := of_each t
    exact ⟨v :: vs, .cons r r', .cons d t'⟩
section
variable {X : Cx}
theorem DqAll.reads {pins : List (Addr × Obj)} {σ : L2.St} {H B : Hp} {s : Shared} (I : Inv X pins σ H s) (hB : Le B H) : ∀ {vs : List V} {xs : List PyData}, DqAll B vs xs → ∀ {us : List Value}, Vals vs us →
    PySem.W.EachIs (fun u x => ∃ as, Reads s.heap u x as) us xs
  | _, _, .nil, _, .nil => .nil
  | _, _, .cons d t, _, .cons r r' => .cons (Dp.reads I _ _ _ (Dq.dp (d.mono hB)) r) (DqAll.reads I hB t r')
theorem DqAll.reads' {pins : List (Addr × Obj)} {σ : L2.St} {H : Hp} {s : Shared} (I : Inv X pins σ H s) : ∀ {vs : List V} {xs : List PyData}, DqAll H vs xs → ∀ {us : List Value}, Vals vs us → PySem.W.EachIs (fun u x => ∃ as, Reads s.heap u x as) us xs := by
  intro vs xs d us r
  exact DqAll.reads I (Le.refl H) d r
/-- sorted of data -/
theorem cr_sortedD {B : Hp} (hu : X.A.units + 200 < cLine) : CallR X (.builtin "sorted") (fun vs H Q => Le B H ∧ ∃ (a : Addr) (ys : List V) (xs : List PyData), vs = [V.ref a] ∧ Rd H a (.lst ys) ∧ DqAll B ys xs ∧ PySem.W.AllAlike xs ∧ PySem.W.Sortable xs ∧ (∀ x ∈ xs, x.depth ≤ 64) ∧
    ∀ p zs, H p = none → DqAll B zs (srtD xs) → Q (.ref p) (upd H p (.lst zs))) := by
  intro pins s σ H vs us Q I r h
  obtain ⟨hB, a, ys, xs, rfl, hs, hd, h1, h2, h3, q⟩ := h
  obtain ⟨its, n, rv, ho, hz⟩ := rd_lst I hs
  rw [Vals.ref1 r]
  refine PySem.W.sorted_data (vs := its) (bs := xs) (enc := id) ⟨_, ho, rfl, n, rfl⟩ (hd.each rv) (hd.reads I hB rv) (by rw [List.map_id]; exact h1) (by rw [List.map_id]; exact h2) (by rw [← hd.len]; exact hz)
    (fun b hb => by have := h3 b hb; show X.A.units + 2 + b.depth < cLine; omega) fun out hl ho => ?_
  obtain ⟨zs, r1, r2⟩ := of_each ho
  obtain ⟨ep, he'⟩ := PyProof.Rows.sortedAll_at s.heap its out.toArray
  have hlen : zs.length ≤ sizeLine := by rw [r1.length, hl, ← hd.len]; exact hz
  exact ⟨.ref _, upd H (s.heap.objs.size + 1) (.lst zs), I.laid (t' := s.toks) (fun _ _ => PyProof.Rows.sortedAll_old) (Nat.le_succ _) ⟨hlen, out, ep, r1, he'⟩, rfl, q _ _ (I.hok.fresh (Nat.le_succ _)) r2⟩
theorem RWs.each {ω : Wo} {f : List Addr} : ∀ {vs : List V} {ws : List W}, RWs ω vs ws f → f = [] → ∀ {xs : List PyData}, rdWs ws = some xs → ∀ {us : List Value}, Vals vs us → ∀ {T : List W}, (∀ w ∈ ws, w ∈ T) → PySem.W.EachIs (fun u x => ∃ v w, RelV v u ∧ RW ω v w [] ∧ rdW w = some x ∧ w ∈ T) us xs := by
  intro vs
  induction vs generalizing f with
  | nil =>
    intro ws r ef xs e us rv T hT
    cases r; cases rv
    obtain rfl : [] = xs := Option.some.inj e
    exact .nil
  | cons v vs ih =>
    intro ws r ef xs e us rv T hT
    cases r with
    | cons a b =>
      obtain ⟨e1, e2⟩ := List.append_eq_nil_iff.mp ef
      subst e1 e2
      obtain ⟨x, xs', h1, h2, rfl⟩ := rdWs_cons e
      cases rv with
      | cons r1 r2 => exact .cons ⟨_, _, r1, a, h1, hT _ (List.mem_cons_self)⟩ (ih b rfl h2 r2 fun w m => hT w (List.mem_cons_of_mem _ m))
theorem of_eachW {ω : Wo} {T : List W} : ∀ {us : List Value} {xs : List PyData}, PySem.W.EachIs (fun u x => ∃ v w, RelV v u ∧ RW ω v w [] ∧ rdW w = some x ∧ w ∈ T) us xs → ∃ vs ws, Vals vs us ∧ RWs ω vs ws [] ∧ rdWs ws = some xs ∧ ∀ w ∈ ws, w ∈ T
  | _, _, .nil => ⟨[], [], .nil, .nil, rfl, fun _ m => nomatch m⟩
  | _, _, .cons ⟨v, w, r, rw', e, m⟩ t => by
    obtain ⟨vs, ws, r', t', e', m'⟩ := of_eachW t
    refine ⟨v :: vs, w :: ws, .cons r r', .cons (f := []) (g := []) rw' t', ?_, fun z hz => ?_⟩
    · show (match rdW w, rdWs ws with
        | some x, some xs => some (x :: xs)
        | _, _ => none) = _
      rw [e, e']
    · rcases List.mem_cons.mp hz with rfl | hz
      · exact m
      · exact m' z hz
/-- sorted of things that never change -/
theorem cr_sortedW {ω : Wo} {f : List Addr} (wd : Wd ω f) (hu : X.A.units + 200 < cLine) : CallR X (.builtin "sorted") (fun vs H Q => H = ω.H ∧ ∃ (a : Addr) (ys : List V) (us : List W) (xs : List PyData), vs = [V.ref a] ∧ Rd H a (.lst ys) ∧ RWs ω ys us [] ∧ rdWs us = some xs ∧ PySem.W.AllAlike xs ∧ PySem.W.Sortable xs ∧ (∀ x ∈ xs, x.depth ≤ 64) ∧
    ∀ p zs ws, H p = none → RWs ω zs ws [] → rdWs ws = some (srtD xs) → (∀ z ∈ ws, z ∈ us) → Q (.ref p) (upd H p (.lst zs))) := by
  intro pins s σ H vs us Q I r h
  obtain ⟨rfl, a, ys, ws, xs, rfl, hs, hd, he, h1, h2, h3, q⟩ := h
  obtain ⟨its, n, rv, ho, hz⟩ := rd_lst I hs
  rw [Vals.ref1 r]
  have dq := hd.rd wd he
  refine PySem.W.sorted_data (vs := its) (bs := xs) (enc := id) ⟨_, ho, rfl, n, rfl⟩ (hd.each rfl he rv (T := ws) fun _ m => m) (DqAll.reads' I dq rv) (by rw [List.map_id]; exact h1) (by rw [List.map_id]; exact h2) (by rw [← dq.len]; exact hz)
    (fun b hb => by have := h3 b hb; show X.A.units + 2 + b.depth < cLine; omega) fun out hl ho => ?_
  obtain ⟨zs, ws', r1, r2, r3, r4⟩ := of_eachW ho
  obtain ⟨ep, he'⟩ := PyProof.Rows.sortedAll_at s.heap its out.toArray
  have hlen : zs.length ≤ sizeLine := by rw [r1.length, hl, ← dq.len]; exact hz
  exact ⟨.ref _, upd ω.H (s.heap.objs.size + 1) (.lst zs), I.laid (t' := s.toks) (fun _ _ => PyProof.Rows.sortedAll_old) (Nat.le_succ _) ⟨hlen, out, ep, r1, he'⟩, rfl, q _ _ _ (I.hok.fresh (Nat.le_succ _)) r2 r3 r4⟩
theorem call_lenK : CallR X (.builtin "len") (fun xs H Q => ∃ p kvs, xs = [.ref p] ∧ Rd H p (.dK kvs) ∧ Q (.int kvs.length) H) := by
  intro pins s σ H xs us Q I r h
  obtain ⟨p, kvs, rfl, hq, q⟩ := h
  rw [Vals.ref1 r]
  exact d_len I hq fun t s' I' => ⟨.int kvs.length, H, I', ⟨t, rfl⟩, q⟩
theorem cs_len : CallS X (.builtin "len") lenW := by
  intro ω fs vs ws Q wd al r h
  unfold lenW at h
  split at h
  · rename_i w
    obtain ⟨v, f, rfl, rw'⟩ := r.one
    split at h
    · rename_i xs e
      obtain ⟨a, us, rfl, hh, t⟩ := rw'.asS wd e
      rcases hh with ⟨_, hh⟩ | ⟨_, hh⟩
      · exact useCl call_len_seq ⟨a, us, rfl, .inl (.inl hh), by rw [t.len]; exact FR.imm wd (.int _) h⟩
      · exact useCl call_len_seq ⟨a, us, rfl, .inr (.inl hh), by rw [t.len]; exact FR.imm wd (.int _) h⟩
    · split at h
      · rename_i kvs e
        obtain ⟨a, us, rfl, hh, t⟩ := rw'.asK wd e
        exact useCl call_lenK ⟨a, us, rfl, hh, by rw [t.len]; exact FR.imm wd (.int _) h⟩
      · split at h
        · cases rw' with | ow hh t =>
          exact useCl call_len_seq ⟨_, _, rfl, .inl (.inl (.inl hh)), by rw [t.length]; exact FR.imm wd (.int _) h⟩
        · cases rw' with | vw hh t =>
          exact useCl call_len_seq ⟨_, _, rfl, .inl (.inl (Rd.mono wd.lh hh)), by rw [t.length]; exact FR.imm wd (.int _) h⟩
        · cases rw' with | tw hh t =>
          exact useCl call_len_seq ⟨_, _, rfl, .inr (.inl (Rd.mono wd.bh hh)), by rw [t.length]; exact FR.imm wd (.int _) h⟩
        · cases rw' with | d d1 =>
          cases d1
          exact useCl call_len_str ⟨_, rfl, h.1, FR.imm wd (.int _) h.2⟩
        · exact h.elim
  · exact h.elim
theorem cs_list (hc : X.calm = true) : CallS X (.type "list") listW := by
  intro ω fs vs ws Q wd al r h
  unfold listW at h
  split at h
  · rename_i w
    obtain ⟨v, f, rfl, rw'⟩ := r.one
    split at h
    · rename_i xs e
      obtain ⟨a, us, rfl, hh, t⟩ := rw'.asS wd e
      rcases hh with ⟨_, hh⟩ | ⟨_, hh⟩
      · exact useCl call_list_of ⟨a, us, rfl, .inl (.inl hh), fun p hp => FR.lst wd al hp t h⟩
      · exact useCl call_list_of ⟨a, us, rfl, .inr (.inl hh), fun p hp => FR.lst wd al hp t h⟩
    · split at h
      · cases rw' with | od hh t =>
        exact useCl (call_list_dK hc) ⟨_, _, rfl, hh, fun p hp => FR.lst wd al hp (DqAll.keys t.1) h⟩
      · exact h.elim
  · exact h.elim
theorem cs_tuple : CallS X (.type "tuple") tupleW := by
  intro ω fs vs ws Q wd al r h
  unfold tupleW at h
  split at h
  · rename_i w
    obtain ⟨v, f, rfl, rw'⟩ := r.one
    split at h
    · rename_i xs e
      obtain ⟨a, us, rfl, hh, t⟩ := rw'.asS wd e
      rcases hh with ⟨_, hh⟩ | ⟨e2, hh⟩
      · exact useCl call_tuple_of ⟨a, us, rfl, .inl ⟨.inl hh, fun p hp => FR.tup wd al hp t h⟩⟩
      · subst e2
        cases rw' with | d d1 =>
        exact useCl call_tuple_of ⟨a, us, rfl, .inr ⟨.inl hh, FR.imm wd d1 h⟩⟩
    · exact h.elim
  · exact h.elim
theorem DqAll.of_int {B : Hp} {vs : List V} {ns : List Int} (h : DqAll B vs (ns.map PyData.int)) : vs = ns.map V.int := DqAll.ints h
theorem srt_map (ns : List Int) : srtD (ns.map PyData.int) = (ns.mergeSort fun a b => decide (a ≤ b)).map PyData.int := by
  refine (List.map_mergeSort (f := PyData.int) fun a _ b _ => ?_).symm
  have e := congrFun (congrFun (PySem.W.dataLe_int (fun n : Int => n)) a) b
  exact e.symm
theorem srt_ints {ns ms : List Int} (p : ms.Perm ns) (s : ms.Pairwise (· ≤ ·)) : srtD (ns.map PyData.int) = ms.map PyData.int := by
  rw [srt_map]
  congr 1
  refine List.Perm.eq_of_pairwise (le := fun a b => a ≤ b) (fun a b _ _ h1 h2 => Int.le_antisymm h1 h2) ?_ s ((List.mergeSort_perm _ _).trans p.symm)
  have := List.pairwise_mergeSort (le := fun a b : Int => decide (a ≤ b)) (fun a b c h1 h2 => by simp at *; omega) (fun a b => by simp; omega) ns
  exact this.imp fun h => by simpa using h
theorem cs_sorted (hc : X.calm = true) (hu : X.A.units + 200 < cLine) : CallS X (.builtin "sorted") sortedW := by
  intro ω fs vs ws Q wd al r h
  unfold sortedW at h
  split at h
  · rename_i w
    obtain ⟨v, f, rfl, rw'⟩ := r.one
    split at h
    · rename_i xs e
      obtain ⟨h1, h2, h3, q⟩ := h
      obtain ⟨a, us, rfl, hh, t⟩ := rw'.asL wd e
      exact useCl (cr_sortedD (B := ω.B) hu) ⟨wd.bh, a, us, xs, rfl, hh, t, h1, h2, h3, fun p zs hp hz => FR.lst wd al hp hz q⟩
    · split at h
      · rename_i kvs e
        obtain ⟨ks, e1, e2, q⟩ := h
        obtain ⟨a, us, rfl, hh, t⟩ := rw'.asK wd e
        refine useCl (call_sortedDI hc) ⟨a, us, ks, rfl, hh, t.1.trans e1, e2, fun ys p pm hs hp => ?_⟩
        refine FR.lst wd al hp (xs := ys.map PyData.int) (DqAll.of_ints ys) ?_
        rw [← srt_ints pm hs]; exact q
      · split at h
        · rename_i us _ _
          obtain ⟨xs, e, h1, h2, h3, q⟩ := h
          cases rw' with | vw hh t =>
          exact useCl (cr_sortedW wd hu) ⟨rfl, _, _, us, xs, rfl, Rd.mono wd.lh hh, t, e, h1, h2, h3, fun p zs ws hp r1 r2 r3 => FR.own0 wd al hp r1 (q ws r2 r3)⟩
        · exact h.elim
  · exact h.elim
end
end MV

namespace MV
open PySem PySem.Spec PyProof.Rows L2

section
variable {X : Cx}
theorem cs_sum (hc : X.calm = true) : CallS X (.builtin "sum") sumW := by
  intro ω fs vs ws Q wd al r h
  unfold sumW at h
  split at h
  · rename_i w
    obtain ⟨v, f, rfl, rw'⟩ := r.one
    split at h
    · rename_i xs e
      obtain ⟨ns, rfl, q⟩ := h
      obtain ⟨a, us, rfl, hh, t⟩ := rw'.asL wd e
      have e2 := t.of_int
      subst e2
      exact useCl (cr_sum hc) ⟨a, ns, rfl, .inl hh, FR.imm wd (.int _) q⟩
    · exact h.elim
  · exact h.elim
theorem cs_max (hc : X.calm = true) : CallS X (.builtin "max") maxW := by
  intro ω fs vs ws Q wd al r h
  unfold maxW at h
  split at h
  · rename_i w
    obtain ⟨v, f, rfl, rw'⟩ := r.one
    split at h
    · rename_i xs e
      obtain ⟨ns, rfl, hn, q⟩ := h
      obtain ⟨a, us, rfl, hh, t⟩ := rw'.asL wd e
      have e2 := t.of_int
      subst e2
      exact useCl (cr_max hc) ⟨a, ns, rfl, .inl hh, List.length_pos_iff.mpr hn, fun m h1 h2 => FR.imm wd (.int _) (q m h1 h2)⟩
    · exact h.elim
  · obtain ⟨v, f, v', f', rfl, r1, r2⟩ := r.two
    cases r1 with | d d1 => cases r2 with | d d2 =>
    cases d1; cases d2
    exact useCl (call_max2 hc) ⟨_, _, rfl, FR.imm wd (.int _) h⟩
  · exact h.elim
theorem cs_min (hc : X.calm = true) : CallS X (.builtin "min") minW := by
  intro ω fs vs ws Q wd al r h
  unfold minW at h
  split at h
  · rename_i w
    obtain ⟨v, f, rfl, rw'⟩ := r.one
    split at h
    · rename_i xs e
      obtain ⟨ns, rfl, hn, q⟩ := h
      obtain ⟨a, us, rfl, hh, t⟩ := rw'.asL wd e
      have e2 := t.of_int
      subst e2
      exact useCl (cr_min hc) ⟨a, ns, rfl, .inl hh, List.length_pos_iff.mpr hn, fun m h1 h2 => FR.imm wd (.int _) (q m h1 h2)⟩
    · exact h.elim
  · obtain ⟨v, f, v', f', rfl, r1, r2⟩ := r.two
    cases r1 with | d d1 => cases r2 with | d d2 =>
    cases d1; cases d2
    exact useCl (call_min2 hc) ⟨_, _, rfl, FR.imm wd (.int _) h⟩
  · exact h.elim
theorem cs_any (hc : X.calm = true) : CallS X (.builtin "any") anyW := by
  intro ω fs vs ws Q wd al r h
  unfold anyW at h
  split at h
  · rename_i w
    obtain ⟨v, f, rfl, rw'⟩ := r.one
    split at h
    · rename_i xs e
      obtain ⟨ns, rfl, q⟩ := h
      obtain ⟨a, us, rfl, hh, t⟩ := rw'.asL wd e
      have e2 := t.bools
      subst e2
      exact useCl (cr_any hc) ⟨a, ns, rfl, .inl hh, FR.imm wd (.bl _) q⟩
    · exact h.elim
  · exact h.elim
theorem cs_all (hc : X.calm = true) : CallS X (.builtin "all") allW := by
  intro ω fs vs ws Q wd al r h
  unfold allW at h
  split at h
  · rename_i w
    obtain ⟨v, f, rfl, rw'⟩ := r.one
    split at h
    · rename_i xs e
      obtain ⟨ns, rfl, q⟩ := h
      obtain ⟨a, us, rfl, hh, t⟩ := rw'.asL wd e
      have e2 := t.bools
      subst e2
      exact useCl (cr_all hc) ⟨a, ns, rfl, .inl hh, FR.imm wd (.bl _) q⟩
    · exact h.elim
  · exact h.elim
theorem cs_int : CallS X (.type "int") intW := by
  intro ω fs vs ws Q wd al r h
  unfold intW at h
  split at h
  · obtain ⟨v, f, rfl, rw'⟩ := r.one
    cases rw' with | d d1 =>
    cases d1
    exact useCl call_int1 (.inl ⟨_, rfl, FR.imm wd (.int _) h⟩)
  · obtain ⟨v, f, rfl, rw'⟩ := r.one
    cases rw' with | d d1 =>
    cases d1
    exact useCl call_int1 (.inr ⟨_, rfl, FR.imm wd (.int _) h⟩)
  · obtain ⟨v, f, rfl, rw'⟩ := r.one
    obtain ⟨n, h1, h2, q⟩ := h
    cases rw' with | d d1 =>
    cases d1
    exact useCl call_int_str ⟨_, n, rfl, h1, h2, FR.imm wd (.int _) q⟩
  · exact h.elim
theorem cs_str : CallS X (.type "str") strW := by
  intro ω fs vs ws Q wd al r h
  unfold strW at h
  split at h
  · obtain ⟨v, f, rfl, rw'⟩ := r.one
    cases rw' with | d d1 =>
    cases d1
    exact useCl call_str_int ⟨_, rfl, h.1, FR.imm wd (.str _) h.2⟩
  · exact h.elim
end

/-! ### the nodes -/
def ap2 (r : B2) : B1
  | [x, y], Q => r x y Q
  | _, _ => False
def onB (r : B1) (us : TWs) : TW := fun S Q => us S fun ws S' => r ws fun w => Q w S'
/-- a truth -/
def tst (t : TW) : WSt → (Bool → WSt → Prop) → Prop := fun S Q => t S fun w S' => match w with
  | .d (.bool b) => Q b S'
  | _ => False
def noSet : Expr → Bool
  | .Set _ _ _ => false
  | _ => true
theorem noMarks {op : CmpOp} {b : Expr} (h : noSet b = true) : behindInMarks op b = false := by
  cases b <;> first | rfl | cases h
section
variable {X : Cx} {o : Og} {a b c e : Expr} {es : List Expr} {pos : Pos} {us uc : TWs} {t u : TW}
theorem fr_of {f : Value → Value → Sem Value} {r : B2} {ω : Wo} {fp : List Addr} {σ : L2.St} {Q : QW} {x y : V} {H : Hp} (ho : OpS X f r) (h : PostA ω fp σ (fun ws S' => ap2 r ws fun w => Q w S') [x, y] H) : rOp X f x y H (PostE ω fp σ Q) := by
  obtain ⟨ws, S', ω', fg, fs, rfl, E, rl, rs, q⟩ := h
  cases rl with
  | cons r1 rl => cases rl with
    | cons r2 rl =>
      cases rl
      intro pins s σ' v u I rx ry
      exact thn (ho ω' fs _ _ _ _ _ _ _ (E.wd.sub (List.sublist_append_right _ _)) rs.alloc r1 r2 q pins s σ' v u I rx ry) fun w s' ⟨z, H', I', r', q'⟩ => ⟨z, H', I', r', FR.post E rs q'⟩
theorem se_bin {op : Operator} {r : B2} (ho : OpS X (binaryOp op) r) (h : SOl X o [a, b] us) : SE X o (.BinOp a op b pos) (onB (ap2 r) us) := by
  intro σ S ω fp Q wd rs q
  exact useE (pe_op (opC _) (pE a) (pE b)) (wE.mono (h σ S ω fp _ wd rs q) fun x H1 h1 => wE.mono h1 fun y H2 h2 => fr_of ho h2)
theorem se_cmp {op : CmpOp} {r : B2} (ho : OpS X (compareOp op) r) (h : SOl X o [a, b] us) (hm : noSet b = true) : SE X o (.Compare a [op] [b] pos) (onB (ap2 r) us) := by
  intro σ S ω fp Q wd rs q
  exact useE (pe_cmpR (opC _) (pE a) (pE b) (noMarks hm)) (wE.mono (h σ S ω fp _ wd rs q) fun x H1 h1 => wE.mono h1 fun y H2 h2 => fr_of ho h2)
theorem rOp.mono {f : Value → Value → Sem Value} {x y : V} {H : Hp} {Q Q' : VK} (h : rOp X f x y H Q) (k : ∀ v H', Q v H' → Q' v H') : rOp X f x y H Q' := fun pins s σ v u I rx ry =>
  thn (h pins s σ v u I rx ry) fun w s' ⟨z, H', I', r', q'⟩ => ⟨z, H', I', r', k z H' q'⟩
/-- a fresh truth, as a test wants it -/
theorem postT_of {ω : Wo} {fp : List Addr} {σ : L2.St} {Q : Bool → WSt → Prop} {v : V} {H : Hp} (h : PostE ω fp σ (fun w S' => match w with
  | .d (.bool b) => Q b S'
  | _ => False) v H) : ∃ k, v = .bl k ∧ PostT ω fp σ Q k H := by
  obtain ⟨w, S', ω', fv, fs, rfl, E, r, rs, q⟩ := h
  split at q
  · cases r with | d d1 =>
    cases d1
    exact ⟨_, rfl, S', ω', fs, rfl, E, rs, q⟩
  · exact q.elim
theorem st_cmp {op : CmpOp} {r : B2} (ho : OpS X (compareOp op) r) (h : SOl X o [a, b] us) (hm : noSet b = true) : ST X o (.Compare a [op] [b] pos) (tst (onB (ap2 r) us)) := by
  intro σ S ω fp Q wd rs q
  exact useT (pt_cmpR (opC _) (pE a) (pE b) (noMarks hm)) (wE.mono (h σ S ω fp _ wd rs q) fun x H1 h1 => wE.mono h1 fun y H2 h2 => rOp.mono (fr_of ho h2) fun v H' h' => postT_of h')
/-- a value that is a truth, as a test -/
def plainT : Expr → Bool
  | .Call _ _ _ _ => true
  | .Name _ _ => true
  | .Subscript _ _ _ => true
  | .Attribute _ _ _ => true
  | _ => false
theorem plain_is {e : Expr} {env : Env} (h : plainT e = true) : ∀ whole, isTrue e env whole = (do let v ← whole; standAt e.pos; holding [v] (truthy v)) := by
  cases e <;> first | (intro _; rfl) | cases h
theorem st_val (h : SE X o e t) (hp : plainT e = true) : ST X o e (tst t) := by
  intro σ S ω fp Q wd rs q
  exact useT (pt_val (pE e) (plain_is hp)) (wE.mono (h σ S ω fp _ wd rs q) fun v H' h' => postT_of h')
/-! not, and, or -/
def notV (t : TW) : TW := fun S Q => t S fun w S' => match w with
  | .d (.bool b) => Q (.d (.bool (!b))) S'
  | _ => False
def andV (t u : TW) : TW := fun S Q => t S fun w S' => match w with
  | .d (.bool true) => u S' Q
  | .d (.bool false) => Q (.d (.bool false)) S'
  | _ => False
def orV (t u : TW) : TW := fun S Q => t S fun w S' => match w with
  | .d (.bool true) => Q (.d (.bool true)) S'
  | .d (.bool false) => u S' Q
  | _ => False
theorem se_not (h : SE X o a t) : SE X o (.UnaryOp .Not a pos) (notV t) := by
  intro σ S ω fp Q wd rs q
  refine useE (pe_not (pE a)) (wE.mono (h σ S ω fp _ wd rs q) ?_)
  rintro v H' ⟨w, S', ω', fv, fs, rfl, E, r, rs', q'⟩
  split at q'
  · cases r with | d d1 =>
    cases d1
    exact ⟨_, rfl, _, S', ω', [], fs, rfl, E.dropL, .d (.bl _), rs', q'⟩
  · exact q'.elim
theorem st_not (h : ST X o a (tst t)) : ST X o (.UnaryOp .Not a pos) (tst (notV t)) := by
  intro σ S ω fp Q wd rs q
  have q2 : tst t S (fun b S' => Q (!b) S') := by
    unfold tst at q ⊢
    unfold notV at q
    refine Eq.mp (congrArg (t S) (funext fun w => funext fun S' => ?_)) q
    cases w with
    | d x => cases x <;> rfl
    | _ => rfl
  refine useT (pt_not (pT a)) (wT.mono (h σ S ω fp _ wd rs q2) ?_)
  rintro b H' ⟨S', ω', fs, rfl, E, rs', q'⟩
  exact ⟨S', ω', fs, rfl, E, rs', q'⟩
theorem se_one {op} (h : SE X o a t) : SE X o (.BoolOp op [a] pos) t := fun σ S ω fp Q wd rs q => useE (pe_one (pE a)) (h σ S ω fp Q wd rs q)
theorem se_and (h1 : SE X o a t) (h2 : SE X o (.BoolOp .And (b :: es) pos) u) : SE X o (.BoolOp .And (a :: b :: es) pos) (andV t u) := by
  intro σ S ω fp Q wd rs q
  refine useE (pe_and (pE a) (pE _)) (wE.mono (h1 σ S ω fp _ wd rs q) ?_)
  rintro v H' ⟨w, S', ω', fv, fs, rfl, E, r, rs', q'⟩
  have E2 := E.dropL
  split at q'
  · cases r with | d d1 =>
    cases d1
    refine ⟨true, rfl, wE.mono (h2 σ S' ω' fs _ (wd.trans E2) rs' q') ?_⟩
    rintro v2 H2 ⟨w2, S2, ω2, fv2, fs2, rfl, E3, r2, rs2, q2⟩
    exact ⟨w2, S2, ω2, fv2, fs2, rfl, E2.trans E3, r2, rs2, q2⟩
  · cases r with | d d1 =>
    cases d1
    exact ⟨false, rfl, _, S', ω', [], fs, rfl, E2, .d (.bl _), rs', q'⟩
  · exact q'.elim
theorem se_or (h1 : SE X o a t) (h2 : SE X o (.BoolOp .Or (b :: es) pos) u) : SE X o (.BoolOp .Or (a :: b :: es) pos) (orV t u) := by
  intro σ S ω fp Q wd rs q
  refine useE (pe_or (pE a) (pE _)) (wE.mono (h1 σ S ω fp _ wd rs q) ?_)
  rintro v H' ⟨w, S', ω', fv, fs, rfl, E, r, rs', q'⟩
  have E2 := E.dropL
  split at q'
  · cases r with | d d1 =>
    cases d1
    exact ⟨true, rfl, _, S', ω', [], fs, rfl, E2, .d (.bl _), rs', q'⟩
  · cases r with | d d1 =>
    cases d1
    refine ⟨false, rfl, wE.mono (h2 σ S' ω' fs _ (wd.trans E2) rs' q') ?_⟩
    rintro v2 H2 ⟨w2, S2, ω2, fv2, fs2, rfl, E3, r2, rs2, q2⟩
    exact ⟨w2, S2, ω2, fv2, fs2, rfl, E2.trans E3, r2, rs2, q2⟩
  · exact q'.elim
/-- and, or, as tests: whatever their whole is -/
def wTW (X : Cx) (e : Expr) : TT := fun σ H Q => ∀ (whole : Sem Value) (pins : List (Addr × Obj)) (s : Shared), Inv X pins σ H s → wpAny (model X.prog X.w) X.A (isTrue e X.env whole) (TP X pins σ Q) X.xe s
theorem pTW (e : Expr) : PW X e (wTW X e) := ⟨fun wh pins s _ _ _ I h => h wh pins s I⟩
theorem useTW {e : Expr} {t : TT} (h : PW X e t) {σ : L2.St} {H : Hp} {Q : Bool → Hp → Prop} (q : t σ H Q) : wTW X e σ H Q := fun wh pins s I => h.run wh pins s σ H Q I q
theorem wTW.mono {e : Expr} {σ : L2.St} {H : Hp} {Q Q' : Bool → Hp → Prop} (h : wTW X e σ H Q) (k : ∀ v H', Q v H' → Q' v H') : wTW X e σ H Q' := fun wh pins s I =>
  thn (h wh pins s I) fun u s' ⟨H', I', q⟩ => ⟨H', I', k u H' q⟩
def SW (X : Cx) (o : Og) (e : Expr) (t : WSt → (Bool → WSt → Prop) → Prop) : Prop := ∀ σ S ω fp Q, In o ω fp → RSs ω σ S fp → t S Q → wTW X e σ ω.H (PostT ω fp σ Q)
theorem SW.st {t : WSt → (Bool → WSt → Prop) → Prop} (h : SW X o e t) : ST X o e t := fun σ S ω fp Q wd rs q => useT (pTW e).pt (h σ S ω fp Q wd rs q)
theorem sw_and1 {t} (h : ST X o a t) : SW X o (.BoolOp .And [a] pos) t := fun σ S ω fp Q wd rs q => useTW (pw_and1 (pT a)) (h σ S ω fp Q wd rs q)
theorem sw_or1 {t} (h : ST X o a t) : SW X o (.BoolOp .Or [a] pos) t := fun σ S ω fp Q wd rs q => useTW (pw_or1 (pT a)) (h σ S ω fp Q wd rs q)
theorem sw_and (h1 : ST X o a (tst t)) (h2 : SW X o (.BoolOp .And (b :: es) pos) (tst u)) : SW X o (.BoolOp .And (a :: b :: es) pos) (tst (andV t u)) := by
  intro σ S ω fp Q wd rs q
  have q2 : tst t S (fun b S' => if b = true then tst u S' Q else Q false S') := by
    unfold tst at q ⊢
    unfold andV at q
    refine Eq.mp (congrArg (t S) (funext fun w => funext fun S' => ?_)) q
    cases w with
    | d x => cases x with
      | bool b => cases b <;> rfl
      | _ => rfl
    | _ => rfl
  refine useTW (pw_and (pT a) (pTW _)) (wT.mono (h1 σ S ω fp _ wd rs q2) ?_)
  rintro b H' ⟨S', ω', fs, rfl, E, rs', q'⟩
  cases b with
  | true =>
    show wTW X _ σ ω'.H _
    refine wTW.mono (h2 σ S' ω' fs _ (wd.trans E) rs' q') ?_
    rintro b2 H2 ⟨S2, ω2, fs2, rfl, E3, rs2, q2⟩
    exact ⟨S2, ω2, fs2, rfl, E.trans E3, rs2, q2⟩
  | false => exact ⟨S', ω', fs, rfl, E, rs', q'⟩
theorem sw_or (h1 : ST X o a (tst t)) (h2 : SW X o (.BoolOp .Or (b :: es) pos) (tst u)) : SW X o (.BoolOp .Or (a :: b :: es) pos) (tst (orV t u)) := by
  intro σ S ω fp Q wd rs q
  have q2 : tst t S (fun b S' => if b = true then Q true S' else tst u S' Q) := by
    unfold tst at q ⊢
    unfold orV at q
    refine Eq.mp (congrArg (t S) (funext fun w => funext fun S' => ?_)) q
    cases w with
    | d x => cases x with
      | bool b => cases b <;> rfl
      | _ => rfl
    | _ => rfl
  refine useTW (pw_or (pT a) (pTW _)) (wT.mono (h1 σ S ω fp _ wd rs q2) ?_)
  rintro b H' ⟨S', ω', fs, rfl, E, rs', q'⟩
  cases b with
  | false =>
    show wTW X _ σ ω'.H _
    refine wTW.mono (h2 σ S' ω' fs _ (wd.trans E) rs' q') ?_
    rintro b2 H2 ⟨S2, ω2, fs2, rfl, E3, rs2, q2⟩
    exact ⟨S2, ω2, fs2, rfl, E.trans E3, rs2, q2⟩
  | true => exact ⟨S', ω', fs, rfl, E, rs', q'⟩
/-! displays -/
def dispT (us : TWs) : TW := fun S Q => us S fun ws S' => match fzWs ws with
  | some xs => xs.length ≤ sizeLine ∧ Q (.d (.tuple xs)) S'
  | none => False
def dispL (us : TWs) : TW := fun S Q => us S fun ws S' => match fzWs ws with
  | some xs => xs.length ≤ sizeLine ∧ Q (.ol xs) S'
  | none => False
def dispTW (us : TWs) : TW := fun S Q => us S fun ws S' => ws.length ≤ sizeLine ∧ Q (.tw ws) S'
def dispLW (us : TWs) : TW := fun S Q => us S fun ws S' => ws.length ≤ sizeLine ∧ Q (.ow ws) S'
theorem se_tup {k} (hn : es.all noStar = true) (h : SX X o es us) : SE X o (.Tuple es k pos) (dispT us) := by
  intro σ S ω fp Q wd rs q
  refine useE (pe_tup (pL hn)) (wL.mono (h σ S ω fp _ wd rs q) ?_)
  rintro vs H' ⟨ws, S', ω', fv, fs, rfl, E, r, rs', q'⟩
  split at q'
  · rename_i xs e
    obtain ⟨hz, q'⟩ := q'
    obtain ⟨ω2, hH, E2, D2⟩ := r.freeze e E.wd rs'.alloc
    refine ⟨by rw [D2.len]; exact hz, fun p hp => ?_⟩
    rw [← hH] at hp ⊢
    have rs2 : RSs ω2 σ S' fs := rs'.mono E2.bb E2.ll fun a _ => by rw [hH]
    exact FR.post (fg := []) (E.trans E2) rs2 (FR.tup E2.wd rs2.alloc hp D2 q')
  · exact q'.elim
theorem se_lst (hn : es.all noStar = true) (h : SX X o es us) : SE X o (.List es pos) (dispL us) := by
  intro σ S ω fp Q wd rs q
  refine useE (pe_lst (pL hn)) (wL.mono (h σ S ω fp _ wd rs q) ?_)
  rintro vs H' ⟨ws, S', ω', fv, fs, rfl, E, r, rs', q'⟩
  split at q'
  · rename_i xs e
    obtain ⟨hz, q'⟩ := q'
    obtain ⟨ω2, hH, E2, D2⟩ := r.freeze e E.wd rs'.alloc
    refine ⟨by rw [D2.len]; exact hz, fun p hp => ?_⟩
    rw [← hH] at hp ⊢
    have rs2 : RSs ω2 σ S' fs := rs'.mono E2.bb E2.ll fun a _ => by rw [hH]
    exact FR.post (fg := []) (E.trans E2) rs2 (FR.lst E2.wd rs2.alloc hp D2 q')
  · exact q'.elim
theorem se_tupW {k} (hn : es.all noStar = true) (h : SX X o es us) : SE X o (.Tuple es k pos) (dispTW us) := by
  intro σ S ω fp Q wd rs q
  refine useE (pe_tup (pL hn)) (wL.mono (h σ S ω fp _ wd rs q) ?_)
  rintro vs H' ⟨ws, S', ω', fv, fs, rfl, E, r, rs', hz, q'⟩
  refine ⟨by rw [r.length]; exact hz, fun p hp => ?_⟩
  have al : ∀ a ∈ fv ++ fs, ω'.H a ≠ none := fun a m => (List.mem_append.mp m).elim (r.alloc a) (rs'.alloc a)
  have E2 := Ext.fz (o := .tup vs) E.wd al hp
  have g : Gr ω'.H (upd ω'.H p (.tup vs)) := fun a o e => le_upd_new hp a o e
  exact ⟨.tw ws, S', _, fv, fs, rfl, E.trans E2, .tw (.inl upd_same) (r.mono E2.bb E2.ll (g.same r.alloc)), rs'.mono E2.bb E2.ll (g.same rs'.alloc), q'⟩
theorem se_lstW (hn : es.all noStar = true) (h : SX X o es us) : SE X o (.List es pos) (dispLW us) := by
  intro σ S ω fp Q wd rs q
  refine useE (pe_lst (pL hn)) (wL.mono (h σ S ω fp _ wd rs q) ?_)
  rintro vs H' ⟨ws, S', ω', fv, fs, rfl, E, r, rs', hz, q'⟩
  refine ⟨by rw [r.length]; exact hz, fun p hp => ?_⟩
  have al : ∀ a ∈ fv ++ fs, ω'.H a ≠ none := fun a m => (List.mem_append.mp m).elim (r.alloc a) (rs'.alloc a)
  have E2 := Ext.own (o := .lst vs) E.wd al hp
  have g : Gr ω'.H (upd ω'.H p (.lst vs)) := fun a o e => le_upd_new hp a o e
  exact ⟨.ow ws, S', _, p :: fv, fs, rfl, E.trans E2, .ow upd_same (r.mono E2.bb E2.ll (g.same r.alloc)), rs'.mono E2.bb E2.ll (g.same rs'.alloc), q'⟩
/-! x[i], calls of built-ins -/
theorem se_idx {r : B2} (hi : IxS X r) (h : SOl X o [a, b] us) (hp : PlainIx b) : SE X o (.Subscript a b pos) (onB (ap2 r) us) := by
  intro σ S ω fp Q wd rs q
  refine useE (pe_ix ixC (pE a) (pE b) hp) (wE.mono (h σ S ω fp _ wd rs q) fun x H1 h1 => wE.mono h1 fun y H2 h2 => ?_)
  obtain ⟨ws, S', ω', fg, fs, rfl, E, rl, rs', q'⟩ := h2
  cases rl with
  | cons r1 rl => cases rl with
    | cons r2 rl =>
      cases rl
      intro value slice pins s σ' v u I rx ry hs
      exact thn (hi ω' fs _ _ _ _ _ _ _ (E.wd.sub (List.sublist_append_right _ _)) rs'.alloc r1 r2 q' value slice pins s σ' v u I rx ry hs) fun w s' ⟨z, H', I', r', q'⟩ => ⟨z, H', I', r', FR.post E rs' q'⟩
theorem fr_cl {f : Value} {r : B1} {ω : Wo} {fp : List Addr} {σ : L2.St} {Q : QW} {xs : List V} {H : Hp} (ho : CallS X f r) (h : PostA ω fp σ (fun ws S' => r ws fun w => Q w S') xs H) : rCl X f xs H (PostE ω fp σ Q) := by
  obtain ⟨ws, S', ω', fg, fs, rfl, E, rl, rs, q⟩ := h
  intro pins s σ' us I rx
  exact thn (ho ω' fs _ _ _ (E.wd.sub (List.sublist_append_right _ _)) rs.alloc rl q pins s σ' us I rx) fun w s' ⟨z, H', I', r', q'⟩ => ⟨z, H', I', r', FR.post E rs q'⟩
theorem se_callB {x : Str} {p : Pos} {id : String} {r : B1} (hc : CallS X (.builtin id) r) (hg : Gl X x) (hm : X.mg x = none) (hv : bootBuiltins x = some (.builtin id)) (hns : (e :: es).all noStar = true) (h : SOl X o (e :: es) us) (hn : x ≠ "__name__" := by decide) (hdb : (x == ("__debug__" : Str)) = false := by decide) :
    SE X o (.Call (.Name x p) (e :: es) [] pos) (onB r us) := by
  intro σ S ω fp Q wd rs q
  have h2 := hns
  rw [List.all_cons, Bool.and_eq_true] at h2
  exact useE (pe_callB (clC _) hg hm hv (pL hns) hn hdb (starE h2.1) (backTo_any h2.2)) (wL.mono (h σ S ω fp _ wd rs q) fun xs H1 h1 => fr_cl hc h1)
theorem se_callTy {x : Str} {p : Pos} {T : String} {r : B1} (hc : CallS X (.type T) r) (hg : Gl X x) (hm : X.mg x = none) (hv : bootBuiltins x = some (.type T)) (hns : (e :: es).all noStar = true) (h : SOl X o (e :: es) us) (hn : x ≠ "__name__" := by decide) (hdb : (x == ("__debug__" : Str)) = false := by decide) :
    SE X o (.Call (.Name x p) (e :: es) [] pos) (onB r us) := by
  intro σ S ω fp Q wd rs q
  have h2 := hns
  rw [List.all_cons, Bool.and_eq_true] at h2
  exact useE (pe_callTy (clC _) hg hm hv (pL hns) hn hdb (starE h2.1) (backTo_any h2.2)) (wL.mono (h σ S ω fp _ wd rs q) fun xs H1 h1 => fr_cl hc h1)
/-- -a -/
def negV (t : TW) : TW := fun S Q => t S fun w S' => match w with
  | .d (.int i) => Q (.d (.int (-i))) S'
  | _ => False
theorem se_neg (h : SE X o a t) : SE X o (.UnaryOp .USub a pos) (negV t) := by
  intro σ S ω fp Q wd rs q
  refine useE (pe_un un_neg (pE a)) (wE.mono (h σ S ω fp _ wd rs q) ?_)
  rintro v H' ⟨w, S', ω', fv, fs, rfl, E, r, rs', q'⟩
  split at q'
  · cases r with | d d1 =>
    cases d1
    exact ⟨_, rfl, _, S', ω', [], fs, rfl, E.dropL, .d (.int _), rs', q'⟩
  · exact q'.elim
end
end MV

namespace MV
open PySem PySem.Spec PyProof.Rows L2

/-! ### statements -/
structure WD where
  nx : WSt → Prop
  rt : W → WSt → Prop
  bk : WSt → Prop := fun _ => False
  ct : WSt → Prop := fun _ => False
def Keep (A : List Nat) (σ σ' : L2.St) : Prop := σ'.length = σ.length ∧ ∀ i, i ∉ A → σ'[i]? = σ[i]?
theorem Keep.refl (A : List Nat) (σ : L2.St) : Keep A σ σ := ⟨rfl, fun _ _ => rfl⟩
theorem Keep.trans {A B C : List Nat} {σ σ1 σ2 : L2.St} (h : Keep A σ σ1) (k : Keep B σ1 σ2) (ha : ∀ i ∈ A, i ∈ C) (hb : ∀ i ∈ B, i ∈ C) : Keep C σ σ2 := ⟨k.1.trans h.1, fun i n =>
  (k.2 i fun m => n (hb i m)).trans (h.2 i fun m => n (ha i m))⟩
theorem Keep.mono {A B : List Nat} {σ σ1 : L2.St} (h : Keep A σ σ1) (s : ∀ i ∈ A, i ∈ B) : Keep B σ σ1 := ⟨h.1, fun i n => h.2 i fun m => n (s i m)⟩
def nxOf (A : List Nat) (σ : L2.St) (ω : Wo) (fp : List Addr) (P : WSt → Prop) : L2.St → Hp → Prop := fun σ' H' => ∃ S' ω' fs, ω'.H = H' ∧ Ext ω fp ω' fs ∧ RSs ω' σ' S' fs ∧ Keep A σ σ' ∧ P S'
def rtOf (A : List Nat) (σ : L2.St) (ω : Wo) (fp : List Addr) (P : W → WSt → Prop) : VK := fun v H' => ∃ w S' ω' fv fs σ', ω'.H = H' ∧ Ext ω fp ω' (fv ++ fs) ∧ RW ω' v w fv ∧ RSs ω' σ' S' fs ∧ Keep A σ σ' ∧ P w S'
def endsOf (A : List Nat) (σ : L2.St) (ω : Wo) (fp : List Addr) (D : WD) : Ends := { nx := nxOf A σ ω fp D.nx, rt := rtOf A σ ω fp D.rt, bk := nxOf A σ ω fp D.bk, ct := nxOf A σ ω fp D.ct }
structure EndsLe (D D' : Ends) : Prop where
  nx : ∀ σ H, D.nx σ H → D'.nx σ H
  rt : ∀ v H, D.rt v H → D'.rt v H
  bk : ∀ σ H, D.bk σ H → D'.bk σ H
  ct : ∀ σ H, D.ct σ H → D'.ct σ H
abbrev TSt := WD → WSt → Prop
def SS (X : Cx) (o : Og) (s : Stmt) (A : List Nat) (t : TSt) : Prop := ∀ σ S ω fp D, In o ω fp → RSs ω σ S fp → t D S → wS X s (endsOf A σ ω fp D) σ ω.H
def SB (X : Cx) (o : Og) (s : List Stmt) (A : List Nat) (t : TSt) : Prop := ∀ σ S ω fp D, In o ω fp → RSs ω σ S fp → t D S → wSs X s (endsOf A σ ω fp D) σ ω.H
theorem SP.mono {X : Cx} {pins : List (Addr × Obj)} {D D' : Ends} (h : EndsLe D D') {f : Flow} {s : Shared} (q : SP X pins D f s) : SP X pins D' f s := by
  cases f with
  | next => obtain ⟨σ', H', I, q⟩ := q; exact ⟨σ', H', I, h.nx _ _ q⟩
  | brk => obtain ⟨σ', H', I, q⟩ := q; exact ⟨σ', H', I, h.bk _ _ q⟩
  | cont => obtain ⟨σ', H', I, q⟩ := q; exact ⟨σ', H', I, h.ct _ _ q⟩
  | ret u => obtain ⟨v, σ', H', I, r, q⟩ := q; exact ⟨v, σ', H', I, r, h.rt _ _ q⟩
section
variable {X : Cx} {o : Og}
theorem wS.mono {s : Stmt} {D D' : Ends} {σ : L2.St} {H : Hp} (h : wS X s D σ H) (k : EndsLe D D') : wS X s D' σ H := fun pins s I => thn (h pins s I) fun f s' q => SP.mono k q
theorem wSs.mono {s : List Stmt} {D D' : Ends} {σ : L2.St} {H : Hp} (h : wSs X s D σ H) (k : EndsLe D D') : wSs X s D' σ H := fun pins s I => thn (h pins s I) fun f s' q => SP.mono k q
theorem nxOf.up {A B C : List Nat} {σ σ1 : L2.St} {ω ω1 : Wo} {fp f1 : List Addr} {P : WSt → Prop} (E : Ext ω fp ω1 f1) (k : Keep A σ σ1) (ha : ∀ i ∈ A, i ∈ C) (hb : ∀ i ∈ B, i ∈ C) {σ' : L2.St} {H' : Hp} (h : nxOf B σ1 ω1 f1 P σ' H') : nxOf C σ ω fp P σ' H' := by
  obtain ⟨S', ω', fs, e, E', rs, k', q⟩ := h
  exact ⟨S', ω', fs, e, E.trans E', rs, k.trans k' ha hb, q⟩
theorem rtOf.up {A B C : List Nat} {σ σ1 : L2.St} {ω ω1 : Wo} {fp f1 : List Addr} {P : W → WSt → Prop} (E : Ext ω fp ω1 f1) (k : Keep A σ σ1) (ha : ∀ i ∈ A, i ∈ C) (hb : ∀ i ∈ B, i ∈ C) {v : V} {H' : Hp} (h : rtOf B σ1 ω1 f1 P v H') : rtOf C σ ω fp P v H' := by
  obtain ⟨w, S', ω', fv, fs, σ', e, E', r, rs, k', q⟩ := h
  exact ⟨w, S', ω', fv, fs, σ', e, E.trans E', r, rs, k.trans k' ha hb, q⟩
theorem endsOf.up {A B C : List Nat} {σ σ1 : L2.St} {ω ω1 : Wo} {fp f1 : List Addr} {D : WD} (E : Ext ω fp ω1 f1) (k : Keep A σ σ1) (ha : ∀ i ∈ A, i ∈ C) (hb : ∀ i ∈ B, i ∈ C) : EndsLe (endsOf B σ1 ω1 f1 D) (endsOf C σ ω fp D) :=
  ⟨fun _ _ h => nxOf.up E k ha hb h, fun _ _ h => rtOf.up E k ha hb h, fun _ _ h => nxOf.up E k ha hb h, fun _ _ h => nxOf.up E k ha hb h⟩
theorem endsOf.nxle {A : List Nat} {σ : L2.St} {ω : Wo} {fp : List Addr} {D : WD} {P : WSt → Prop} {E' : Ends} (hn : ∀ σ' H', nxOf A σ ω fp P σ' H' → E'.nx σ' H') (hr : ∀ v H', rtOf A σ ω fp D.rt v H' → E'.rt v H') (hb : ∀ σ' H', nxOf A σ ω fp D.bk σ' H' → E'.bk σ' H')
    (hc : ∀ σ' H', nxOf A σ ω fp D.ct σ' H' → E'.ct σ' H') : EndsLe (endsOf A σ ω fp { D with nx := P }) E' := ⟨hn, hr, hb, hc⟩
theorem SS.wk {s : Stmt} {A B : List Nat} {t : TSt} (h : SS X o s A t) (k : ∀ i ∈ A, i ∈ B) : SS X o s B t := fun σ S ω fp D wd rs q =>
  wS.mono (h σ S ω fp D wd rs q) (endsOf.up (A := []) (Ext.refl wd.wd) (Keep.refl _ _) (fun _ m => nomatch m) k)
theorem SB.wk {s : List Stmt} {A B : List Nat} {t : TSt} (h : SB X o s A t) (k : ∀ i ∈ A, i ∈ B) : SB X o s B t := fun σ S ω fp D wd rs q =>
  wSs.mono (h σ S ω fp D wd rs q) (endsOf.up (A := []) (Ext.refl wd.wd) (Keep.refl _ _) (fun _ m => nomatch m) k)
def seqT (t u : TSt) : TSt := fun D S => t { D with nx := u D } S
theorem sb_nil {A} : SB X o [] A (fun D S => D.nx S) := fun σ S ω fp D wd rs q => useSs pss_nil ⟨S, ω, fp, rfl, Ext.refl wd.wd, rs, Keep.refl _ _, q⟩
theorem sb_cons {s : Stmt} {r : List Stmt} {A : List Nat} {t u : TSt} (h1 : SS X o s A t) (h2 : SB X o r A u) : SB X o (s :: r) A (seqT t u) := by
  intro σ S ω fp D wd rs q
  refine useSs (pss_cons (pS s) (pSs r)) (wS.mono (h1 σ S ω fp _ wd rs q) ⟨?_, fun _ _ h => h, fun _ _ h => h, fun _ _ h => h⟩)
  rintro σ' H' ⟨S', ω', fs, rfl, E, rs', k, q'⟩
  exact wSs.mono (h2 σ' S' ω' fs D (wd.trans E) rs' q') (endsOf.up E k (fun _ m => m) (fun _ m => m))
def setT (i : Nat) (te : TW) : TSt := fun D S => te S fun w S' => D.nx (st S' i (some w))
theorem st_set {ω ω' : Wo} {fp fv fs : List Addr} {σ : L2.St} {S' : WSt} {i : Nat} {A : List Nat} {v : V} {w : W} {P : WSt → Prop} (E : Ext ω fp ω' (fv ++ fs)) (r : RW ω' v w fv) (rs : RSs ω' σ S' fs) (hi : i < S'.length) (ha : i ∈ A) (q : P (st S' i (some w))) :
    nxOf A σ ω fp P (σ.set i (some v)) ω'.H := by
  obtain ⟨h, f', rs2, pm, sb⟩ := rs.store hi r
  refine ⟨_, ω', h, rfl, (E.sub (List.Sublist.append (List.Sublist.refl _) sb)).permR pm.symm, rs2, ⟨List.length_set .., fun j n => ?_⟩, q⟩
  exact List.getElem?_set_ne (fun e => n (by rw [← e]; exact ha))
theorem lt_of_N {σ : L2.St} {pins : List (Addr × Obj)} {H : Hp} {s : Shared} {i : Nat} {x : Str} (I : Inv X pins σ H s) (hi : X.N[i]? = some x) : i < σ.length := by
  rw [I.len]
  obtain ⟨h, _⟩ := List.getElem?_eq_some_iff.mp hi
  exact h
theorem ss_set {i : Nat} {x : Str} {e : Expr} {te : TW} {A : List Nat} {pos pos' : Pos} (hN : X.N.Nodup) (hi : X.N[i]? = some x) (hx : Loc X.env.scope x) (he : SE X o e te) (ha : i ∈ A) (hs : swapsWith e (some (.Name x pos')) pos.line X.env = pure false)
    (hf : X.fn x = true ∨ X.env.scope.names.lookup x = some .local) : SS X o (.Assign [.Name x pos'] e pos) A (setT i te) := by
  intro σ S ω fp D wd rs q pins s I
  have hl := lt_of_N I hi
  refine useS (ps_set hN hi hx (pE e) hs hf) (wE.mono (he σ S ω fp _ wd rs q) ?_) pins s I
  rintro v H' ⟨w, S', ω', fv, fs, rfl, E, r, rs', q'⟩
  exact st_set E r rs' (by rw [← rs'.len]; exact hl) ha q'
/-! targets -/
abbrev TGt := W → WSt → (WSt → Prop) → Prop
def SG (X : Cx) (o : Og) (tg : Expr) (A : List Nat) (g : TGt) : Prop := ∀ v w fv σ S ω fs K, In o ω (fv ++ fs) → RW ω v w fv → RSs ω σ S fs → g w S K → wG X tg v σ ω.H (nxOf A σ ω (fv ++ fs) K)
def nameG (i : Nat) : TGt := fun w S K => K (st S i (some w))
theorem useG {tg : Expr} {t : TG} (h : PG X tg t) {v : V} {σ : L2.St} {H : Hp} {Q : L2.St → Hp → Prop} (q : t v σ H Q) : wG X tg v σ H Q := fun pins s u I r => h.run pins s σ H v u Q I r q
theorem wG.mono {tg : Expr} {v : V} {σ : L2.St} {H : Hp} {Q Q' : L2.St → Hp → Prop} (h : wG X tg v σ H Q) (k : ∀ σ' H', Q σ' H' → Q' σ' H') : wG X tg v σ H Q' := fun pins s u I r =>
  thn (h pins s u I r) fun _ s' ⟨σ', H', I', q⟩ => ⟨σ', H', I', k _ _ q⟩
theorem sg_name {i : Nat} {x : Str} {A : List Nat} {pos : Pos} (hN : X.N.Nodup) (hi : X.N[i]? = some x) (hx : Loc X.env.scope x) (ha : i ∈ A) (hf : X.fn x = true ∨ X.env.scope.names.lookup x = some .local) : SG X o (.Name x pos) A (nameG i) := by
  intro v w fv σ S ω fs K wd r rs q pins s u I ru
  have hl := lt_of_N I hi
  exact useG (Q := nxOf A σ ω (fv ++ fs) K) (pg_name hN hi hx hf) (show gName i v σ ω.H (nxOf A σ ω (fv ++ fs) K) from st_set (Ext.refl wd.wd) r rs (by rw [← rs.len]; exact hl) ha q) pins s u I ru
/-- the parts of a pair, a triple .. -/
def partsW : W → Option (List W)
  | .d (.tuple xs) => some (xs.map W.d)
  | .tw ws => some ws
  | _ => none
def stAll : List Nat → List W → WSt → WSt
  | i :: is, w :: ws, S => stAll is ws (st S i (some w))
  | _, _, S => S
def tupG (is : List Nat) : TGt := fun w S K => match partsW w with
  | some ws => ws.length = is.length ∧ K (stAll is ws S)
  | none => False
theorem RWs.of_data {ω : Wo} : ∀ {vs : List V} {xs : List PyData}, DqAll ω.B vs xs → RWs ω vs (xs.map W.d) []
  | _, _, .nil => .nil
  | _, _, .cons d t => .cons (.d d) (RWs.of_data t)
/-- names in a row -/
inductive NmOk (X : Cx) (A : List Nat) : List Expr → List Nat → Prop
  | nil : NmOk X A [] []
  | cons {x : Str} {pos : Pos} {i : Nat} {es : List Expr} {is : List Nat} (hi : X.N[i]? = some x) (hx : Loc X.env.scope x) (ha : i ∈ A) (hf : X.fn x = true ∨ X.env.scope.names.lookup x = some .local) (r : NmOk X A es is) : NmOk X A (.Name x pos :: es) (i :: is)
def wGs (X : Cx) (es : List Expr) : TGs := fun vs σ H Q => ∀ (pins : List (Addr × Obj)) (s : Shared) (us : List Value), Inv X pins σ H s → Vals vs us → wpAny (model X.prog X.w) X.A (assignInOrder ((assignEach es X.env).map (·.2)) us) (fun _ s' => ∃ σ' H', Inv X pins σ' H' s' ∧ Q σ' H') X.xe s
theorem pGs (es : List Expr) : PGs X es (wGs X es) := ⟨fun pins s σ H vs us Q I r h => h pins s us I r⟩
theorem useGs {es : List Expr} {t : TGs} (h : PGs X es t) {vs : List V} {σ : L2.St} {H : Hp} {Q : L2.St → Hp → Prop} (q : t vs σ H Q) : wGs X es vs σ H Q := fun pins s us I r => h.run pins s σ H vs us Q I r q
theorem names_ok {A : List Nat} (hN : X.N.Nodup) : ∀ {es : List Expr} {is : List Nat}, NmOk X A es is → ∀ {vs : List V} {ws : List W} {fv : List Addr} {σ : L2.St} {S : WSt} {ω : Wo} {fs : List Addr} {K : WSt → Prop}, Wd ω (fv ++ fs) → RWs ω vs ws fv → RSs ω σ S fs → ws.length = is.length → K (stAll is ws S) →
    wGs X es vs σ ω.H (nxOf A σ ω (fv ++ fs) K)
  | _, _, .nil, vs, ws, fv, σ, S, ω, fs, K, wd, r, rs, hl, q => by
    cases ws with
    | nil =>
      cases r
      exact useGs pgs_nil ⟨rfl, S, ω, fs, rfl, Ext.refl wd, rs, Keep.refl _ _, q⟩
    | cons _ _ => simp at hl
  | _, _, .cons (i := i) hi hx ha hf rest, vs, ws, fv, σ, S, ω, fs, K, wd, r, rs, hl, q => by
    cases r with
    | nil => simp at hl
    | @cons v w f1 f2 vs ws r1 r2 =>
      intro pins s us I rv
      have hlt := lt_of_N I hi
      refine useGs (pgs_cons (pg_name hN hi hx hf) (pGs _) (by rfl)) ⟨v, vs, rfl, ?_⟩ pins s us I rv
      obtain ⟨h, f', rs2, pm, sb⟩ := rs.store (i := i) (by rw [← rs.len]; exact hlt) r1
      have E0 : Ext ω (f1 ++ f2 ++ fs) ω (f2 ++ h) := by
        have p1 : (f1 ++ f2 ++ fs).Perm (f2 ++ (f1 ++ fs)) := by
          rw [← List.append_assoc]
          exact List.Perm.append_right _ List.perm_append_comm
        have E1 := (Ext.refl wd).permR p1
        have E2 := E1.sub (List.Sublist.append (List.Sublist.refl f2) (List.Sublist.append (List.Sublist.refl f1) sb))
        exact E2.permR (List.Perm.append_left _ pm.symm)
      intro pins' s' us' I' rv'
      refine thn (names_ok hN rest E0.wd r2 rs2 (by simpa using hl) q pins' s' us' I' rv') ?_
      rintro _ s3 ⟨σ', H', I3, q3⟩
      refine ⟨σ', H', I3, nxOf.up E0 (A := A) ⟨List.length_set .., fun j n => ?_⟩ (fun _ m => m) (fun _ m => m) q3⟩
      exact List.getElem?_set_ne (fun e => n (by rw [← e]; exact ha))
def noStarAll (es : List Expr) : Bool := es.all noStar
theorem assignEach_len {env : Env} : ∀ {es : List Expr}, es.all noStar = true → (assignEach es env).length = es.length ∧ (assignEach es env).findIdx? (·.1) = none
  | [], _ => ⟨rfl, rfl⟩
  | e :: es, h => by
    rw [List.all_cons, Bool.and_eq_true] at h
    obtain ⟨h1, h2⟩ := assignEach_len (env := env) h.2
    have q : assignEach (e :: es) env = (false, assign e env) :: assignEach es env := by
      cases e <;> first | rfl | cases h.1
    rw [q]
    refine ⟨by rw [List.length_cons, List.length_cons, h1], ?_⟩
    rw [List.findIdx?_cons, h2]; rfl
theorem NmOk.noStar {A : List Nat} : ∀ {es : List Expr} {is : List Nat}, NmOk X A es is → es.all MV.noStar = true ∧ es.length = is.length
  | _, _, .nil => ⟨rfl, rfl⟩
  | _, _, .cons _ _ _ _ r => ⟨by rw [List.all_cons, (NmOk.noStar r).1]; rfl, by rw [List.length_cons, List.length_cons, (NmOk.noStar r).2]⟩
theorem sg_tup {es : List Expr} {is : List Nat} {A : List Nat} {k : Nat} {pos : Pos} (hc : X.calm = true) (hN : X.N.Nodup) (hn : NmOk X A es is) : SG X o (.Tuple es k pos) A (tupG is) := by
  intro v w fv σ S ω fs K wd r rs q
  unfold tupG at q
  cases e : partsW w with
  | none => simp only [e] at q
  | some ws =>
    simp only [e] at q
    obtain ⟨ns, nl⟩ := hn.noStar
    obtain ⟨al, af⟩ := assignEach_len (env := X.env) ns
    have key : ∃ a vs, v = .ref a ∧ Rd ω.H a (.tup vs) ∧ RWs ω vs ws fv := by
      cases r with
      | d d1 =>
        cases d1 with
        | tup hh t =>
          simp only [partsW, Option.some.injEq] at e; subst e
          exact ⟨_, _, rfl, Rd.mono wd.wd.bh hh, RWs.of_data t⟩
        | _ => simp [partsW] at e
      | tw hh t =>
        simp only [partsW, Option.some.injEq] at e; subst e
        exact ⟨_, _, rfl, Rd.mono wd.wd.bh hh, t⟩
      | _ => simp [partsW] at e
    obtain ⟨a, vs, rfl, hh, rv⟩ := key
    refine useG (pg_tup hc (pGs es) rfl af) ⟨a, vs, rfl, .inl hh, ?_, names_ok hN hn wd.wd rv rs q.1 q.2⟩
    rw [rv.length, q.1, al, nl]
/-- target = value -/
def asgT (g : TGt) (te : TW) : TSt := fun D S => te S fun w S' => g w S' D.nx
theorem ss_asg {tg e : Expr} {te : TW} {g : TGt} {A : List Nat} {pos : Pos} (he : SE X o e te) (hg : SG X o tg A g) (hs : swapsWithSole [tg] e pos.line X.env = pure false) (hw : swappedStores [tg] e X.env = pure none)
    (h1 : (assignEach [tg] X.env).map (·.2) = [assign tg X.env]) : SS X o (.Assign [tg] e pos) A (asgT g te) := by
  intro σ S ω fp D wd rs q
  refine useS (ps_asg (pE e) (pG tg) hs hw h1) (wE.mono (he σ S ω fp _ wd rs q) ?_)
  rintro v H' ⟨w, S', ω', fv, fs, rfl, E, r, rs', q'⟩
  exact wG.mono (hg v w fv σ S' ω' fs _ (wd.trans E) r rs' q') fun σ2 H2 h2 => nxOf.up E (A := []) (Keep.refl _ _) (fun _ m => nomatch m) (fun _ m => m) h2
/-! the small ones -/
def exprT (te : TW) : TSt := fun D S => te S fun _ S' => D.nx S'
theorem ss_expr {e : Expr} {te : TW} {A : List Nat} {pos : Pos} (he : SE X o e te) (hs : swapsWith e none pos.line X.env = pure false) : SS X o (.Expr e pos) A (exprT te) := by
  intro σ S ω fp D wd rs q
  refine useS (ps_expr (pE e) hs) (wE.mono (he σ S ω fp _ wd rs q) ?_)
  rintro v H' ⟨w, S', ω', fv, fs, rfl, E, r, rs', q'⟩
  exact ⟨S', ω', fs, rfl, E.dropL, rs', Keep.refl _ _, q'⟩
def retT (te : TW) : TSt := fun D S => te S D.rt
theorem ss_ret {e : Expr} {te : TW} {A : List Nat} {pos : Pos} (he : SE X o e te) : SS X o (.Return (some e) pos) A (retT te) := by
  intro σ S ω fp D wd rs q
  refine useS (ps_ret (pE e)) (wE.mono (he σ S ω fp _ wd rs q) ?_)
  rintro v H' ⟨w, S', ω', fv, fs, rfl, E, r, rs', q'⟩
  exact ⟨w, S', ω', fv, fs, σ, rfl, E, r, rs', Keep.refl _ _, q'⟩
def retNT : TSt := fun D S => D.rt (.d .none) S
theorem ss_retN {A : List Nat} {pos : Pos} : SS X o (.Return none pos) A retNT := fun σ S ω fp D wd rs q =>
  useS ps_retN ⟨_, S, ω, [], fp, σ, rfl, Ext.refl wd.wd, .d .non, rs, Keep.refl _ _, q⟩
theorem ss_pass {A : List Nat} {pos : Pos} : SS X o (.Pass pos) A (fun D S => D.nx S) := fun σ S ω fp D wd rs q => useS ps_pass ⟨S, ω, fp, rfl, Ext.refl wd.wd, rs, Keep.refl _ _, q⟩
theorem ss_break {A : List Nat} {pos : Pos} : SS X o (.Break pos) A (fun D S => D.bk S) := fun σ S ω fp D wd rs q => useS ps_break ⟨S, ω, fp, rfl, Ext.refl wd.wd, rs, Keep.refl _ _, q⟩
theorem ss_never {s : Stmt} {A : List Nat} : SS X o s A (fun _ _ => False) := fun σ S ω fp D wd rs q => q.elim
def ifT (tc : TW) (t u : TSt) : TSt := fun D S => tst tc S fun b S' => match b with
  | true => t D S'
  | false => u D S'
theorem ss_if {c : Expr} {a b : List Stmt} {tc : TW} {t u : TSt} {A : List Nat} {pos : Pos} (hc : ST X o c (tst tc)) (ha : SB X o a A t) (hb : SB X o b A u) : SS X o (.If c a b pos) A (ifT tc t u) := by
  intro σ S ω fp D wd rs q
  refine useS (ps_if (pT c) (pSs a) (pSs b)) (wT.mono (hc σ S ω fp _ wd rs q) ?_)
  rintro k H' ⟨S', ω', fs, rfl, E, rs', q'⟩
  have up := endsOf.up (A := []) (B := A) (C := A) (D := D) E (Keep.refl _ σ) (fun _ m => nomatch m) (fun _ m => m)
  cases k with
  | true => exact wSs.mono (ha σ S' ω' fs D (wd.trans E) rs' q') up
  | false => exact wSs.mono (hb σ S' ω' fs D (wd.trans E) rs' q') up
/-! while -/
def whN (tc : TW) (tb : TSt) (D : WD) : Nat → WSt → Prop
  | 0, _ => False
  | n + 1, S => tst tc S fun b S' => match b with
    | true => tb { D with nx := whN tc tb D n, ct := whN tc tb D n, bk := D.nx } S'
    | false => D.nx S'
def whT (tc : TW) (tb : TSt) : TSt := fun D S => ∃ n, whN tc tb D n S
theorem ss_while {c : Expr} {b : List Stmt} {tc : TW} {tb : TSt} {A : List Nat} {pos : Pos} (hp : PassesOwn (model X.prog X.w) X.A X.env X.xe) (hc : ST X o c (tst tc)) (hb : SB X o b A tb) : SS X o (.While c b [] pos) A (whT tc tb) := by
  intro σ S ω fp D wd rs ⟨n0, q⟩
  refine useS (ps_while hp (pT c) (pSs b)) ⟨fun m σ' H' => nxOf A σ ω fp (whN tc tb D m) σ' H', ⟨n0, S, ω, fp, rfl, Ext.refl wd.wd, rs, Keep.refl _ _, q⟩, ?_⟩
  rintro m σ1 H1 ⟨S1, ω1, f1, rfl, E1, rs1, k1, q1⟩
  cases m with
  | zero => exact q1.elim
  | succ m =>
    refine wT.mono (hc σ1 S1 ω1 f1 _ (wd.trans E1) rs1 q1) ?_
    rintro k H2 ⟨S2, ω2, f2, rfl, E2, rs2, q2⟩
    have E := E1.trans E2
    cases k with
    | true =>
      refine ⟨nxOf A σ ω fp (whN tc tb D m), fun σ' H' h => ⟨m, Nat.lt_succ_self _, h⟩, wSs.mono (hb σ1 S2 ω2 f2 _ (wd.trans E) rs2 q2) ⟨fun _ _ h => nxOf.up E k1 (fun _ m => m) (fun _ m => m) h, fun _ _ h => rtOf.up E k1 (fun _ m => m) (fun _ m => m) h, fun _ _ h => nxOf.up E k1 (fun _ m => m) (fun _ m => m) h, fun _ _ h => nxOf.up E k1 (fun _ m => m) (fun _ m => m) h⟩⟩
    | false => exact ⟨S2, ω2, f2, rfl, E, rs2, k1, q2⟩
end
end MV

namespace MV
open PySem PySem.Spec PyProof.Rows L2

/-! ### what is walked -/
/-- at good states the iterator J yields the things ws, one after the other -/
def JOk (J : It) (ws : List W) (G : Wo → List Addr → L2.St → WSt → Prop) : Prop := ∀ k σ S ω fs, Wd ω fs → RSs ω σ S fs → G ω fs σ S →
  (∀ w, ws[k]? = some w → J.go k ω.H ∧ ∀ x H', J.yld k ω.H x H' → ∃ ω2, ω2.H = H' ∧ Ext ω fs ω2 fs ∧ Gr ω.H ω2.H ∧ RW ω2 x w []) ∧ (ws.length ≤ k → J.stop k ω.H)
section
variable {X : Cx}
/-- pyIter of a value -/
def rIt (X : Cx) (tg : Expr) : V → Hp → (It → Hp → Prop) → Prop := fun x H R => ∀ (pins : List (Addr × Obj)) (s : Shared) (σ : L2.St) (v : Value), Inv X pins σ H s → RelV x v → wpAny (model X.prog X.w) X.A (pyIter v) (PIE X pins σ tg R) X.xe s
theorem pi_canon {tg l : Expr} {tl : TE} (hl : PE X l tl) : PI X tg l (fun σ H R => tl σ H fun x H1 => rIt X tg x H1 R) :=
  ⟨fun pins s σ H R I h => thn (hl.run pins s σ H _ I h) fun v s1 ⟨x, H1, I1, r1, q1⟩ => q1 pins s1 σ v I1 r1⟩
theorem rIt_list {tg : Expr} {a : Addr} {xs : List V} {H : Hp} {R : It → Hp → Prop} (hq : SqL X.K H a xs) (q : R (Itl X.K a) H) : rIt X tg (.ref a) H R := by
  intro pins s1 σ v I1 r1
  cases r1
  obtain ⟨its, rv, p, hz⟩ := I1.list hq
  refine wpAny_pyIter_list p.isList ?_
  refine ⟨s1.heap.objs.size, [s1.heap.objs.size], _, _, H, rfl, I1.kept (t' := s1.toks) fun b o e => Heap.get?_push_of_some _ e, turn_list a _, ⟨_, Heap.get?_push_size _ rfl, rfl, rfl⟩, fun b hb => ?_, q⟩
  have e : b = s1.heap.objs.size := by simpa using hb
  subst e
  exact I1.fpOk (Nat.le_refl _) (I1.hok.fresh (Nat.le_refl _))
theorem rIt_tup {tg : Expr} {a : Addr} {xs : List V} {H : Hp} {R : It → Hp → Prop} (hq : SqT X.K H a xs) (q : R (Itt X.K a) H) : rIt X tg (.ref a) H R := by
  intro pins s1 σ v I1 r1
  cases r1
  obtain ⟨its, rv, p, hz⟩ := I1.tuple hq
  refine wpAny_pyIter_tuple (show s1.heap.IsTuple a its.toArray from p) ?_
  refine ⟨s1.heap.objs.size, [s1.heap.objs.size], _, _, H, rfl, I1.kept (t' := s1.toks) fun b o e => Heap.get?_push_of_some _ e, turn_tuple a _, ⟨_, Heap.get?_push_size _ rfl, rfl, rfl⟩, fun b hb => ?_, q⟩
  have e : b = s1.heap.objs.size := by simpa using hb
  subst e
  exact I1.fpOk (Nat.le_refl _) (I1.hok.fresh (Nat.le_refl _))
theorem rIt_str {tg : Expr} {x : Str} {H : Hp} {R : It → Hp → Prop} (q : R (Its x) H) : rIt X tg (.str x) H R := by
  intro pins s1 σ v I1 r1
  obtain ⟨t, rfl⟩ := r1
  cases ha : x.cps.all (· < 128)
  · exact wpAny_pyIter_wide ha (pi_one (tk := s1.toks) I1 _ (turn_str _ x t "str_iterator" (.inr rfl)) ⟨_, Heap.get?_push_size _ rfl, rfl, rfl⟩ q)
  · exact wpAny_pyIter_ascii ha (pi_one (tk := s1.toks) I1 _ (turn_str _ x t "str_ascii_iterator" (.inl rfl)) ⟨_, Heap.get?_push_size _ rfl, rfl, rfl⟩ q)
/-- an object holds these things now -/
def HoldL (a : Addr) (xs : List PyData) : Wo → List Addr → L2.St → WSt → Prop := fun ω _ _ _ => ∃ vs, Rd ω.H a (.lst vs) ∧ DqAll ω.B vs xs
def HoldT (a : Addr) (xs : List PyData) : Wo → List Addr → L2.St → WSt → Prop := fun ω _ _ _ => ∃ vs, Rd ω.H a (.tup vs) ∧ DqAll ω.B vs xs
def HoldV (a : Addr) (ws : List W) : Wo → List Addr → L2.St → WSt → Prop := fun ω _ _ _ => ∃ vs, Rd ω.H a (.lst vs) ∧ RWs ω vs ws []
theorem rd_inj {H : Hp} {a : Addr} {o u : HO} (h : Rd H a o) (k : Rd H a u) (no : ∀ ob x, o ≠ .frz ob x) (nu : ∀ ob x, u ≠ .frz ob x) : o = u := by
  rcases h with h | ⟨o1, h⟩ <;> rcases k with k | ⟨o2, k⟩
  · rw [h] at k; exact Option.some.inj k
  · rw [h] at k; exact absurd (Option.some.inj k) (no _ _)
  · rw [h] at k; exact absurd (Option.some.inj k).symm (nu _ _)
  · rw [h] at k
    have := Option.some.inj k
    injection this
/-- the K-part knows nothing of what is tracked here: the facts come from the invariant, so a list's reading is by the tracked one -/
theorem jok_list {a : Addr} {xs : List PyData} {K : Frag} : JOk (Itl K a) (xs.map W.d) (HoldL a xs) := by
  rintro k σ S ω fs wd rs ⟨vs, hh, t⟩
  refine ⟨fun w hw => ?_, fun hl => ⟨vs, .inl hh, by rw [t.len]; simpa using hl⟩⟩
  rw [List.getElem?_map, Option.map_eq_some_iff] at hw
  obtain ⟨x, hx, rfl⟩ := hw
  obtain ⟨v, hv, dv⟩ := t.get hx
  refine ⟨⟨vs, v, .inl hh, hv⟩, ?_⟩
  rintro y H' ⟨rfl, hy⟩
  have := hy vs (.inl hh)
  rw [hv] at this
  obtain rfl := Option.some.inj this
  exact ⟨ω, rfl, Ext.refl wd, fun _ _ e => e, .d dv⟩
theorem jok_tup {a : Addr} {xs : List PyData} {K : Frag} : JOk (Itt K a) (xs.map W.d) (HoldT a xs) := by
  rintro k σ S ω fs wd rs ⟨vs, hh, t⟩
  refine ⟨fun w hw => ?_, fun hl => ⟨vs, .inl hh, by rw [t.len]; simpa using hl⟩⟩
  rw [List.getElem?_map, Option.map_eq_some_iff] at hw
  obtain ⟨x, hx, rfl⟩ := hw
  obtain ⟨v, hv, dv⟩ := t.get hx
  refine ⟨⟨vs, v, .inl hh, hv⟩, ?_⟩
  rintro y H' ⟨rfl, hy⟩
  have := hy vs (.inl hh)
  rw [hv] at this
  obtain rfl := Option.some.inj this
  exact ⟨ω, rfl, Ext.refl wd, fun _ _ e => e, .d dv⟩
theorem jok_vw {a : Addr} {ws : List W} {K : Frag} : JOk (Itl K a) ws (HoldV a ws) := by
  rintro k σ S ω fs wd rs ⟨vs, hh, t⟩
  refine ⟨fun w hw => ?_, fun hl => ⟨vs, .inl hh, by rw [t.length]; exact hl⟩⟩
  obtain ⟨v, hv, dv⟩ := t.get0 hw
  refine ⟨⟨vs, v, .inl hh, hv⟩, ?_⟩
  rintro y H' ⟨rfl, hy⟩
  have := hy vs (.inl hh)
  rw [hv] at this
  obtain rfl := Option.some.inj this
  exact ⟨ω, rfl, Ext.refl wd, fun _ _ e => e, dv⟩
def rngW (lo : Int) (n : Nat) : List W := (List.range n).map fun k => W.d (.int (lo + (k : Nat)))
theorem rngW_get {lo : Int} {n k : Nat} {w : W} (h : (rngW lo n)[k]? = some w) : k < n ∧ w = .d (.int (lo + (k : Nat))) := by
  unfold rngW at h
  rw [List.getElem?_map, Option.map_eq_some_iff] at h
  obtain ⟨j, hj, rfl⟩ := h
  obtain ⟨h1, h2⟩ := List.getElem?_eq_some_iff.mp hj
  rw [List.getElem_range] at h2
  subst h2
  exact ⟨by simpa using h1, rfl⟩
theorem jok_rng {lo : Int} {n : Nat} : JOk (Itr lo n) (rngW lo n) (fun _ _ _ _ => True) := by
  rintro k σ S ω fs wd rs _
  refine ⟨fun w hw => ?_, fun hl => ?_⟩
  · obtain ⟨h1, rfl⟩ := rngW_get hw
    refine ⟨h1, ?_⟩
    rintro y H' ⟨rfl, rfl⟩
    exact ⟨ω, rfl, Ext.refl wd, fun _ _ e => e, .d (.int _)⟩
  · show n ≤ k
    simpa [rngW] using hl
def chars (x : Str) : List W := x.cps.toList.map fun c => W.d (.str ⟨#[c]⟩)
theorem jok_str {x : Str} : JOk (Its x) (chars x) (fun _ _ _ _ => True) := by
  rintro k σ S ω fs wd rs _
  refine ⟨fun w hw => ?_, fun hl => ?_⟩
  · unfold chars at hw
    rw [List.getElem?_map, Option.map_eq_some_iff] at hw
    obtain ⟨c, hc, rfl⟩ := hw
    rw [Array.getElem?_toList] at hc
    obtain ⟨h1, h2⟩ := Array.getElem?_eq_some_iff.mp hc
    refine ⟨h1, ?_⟩
    rintro y H' ⟨rfl, c', hc', rfl⟩
    rw [hc] at hc'
    obtain rfl := Option.some.inj hc'
    exact ⟨ω, rfl, Ext.refl wd, fun _ _ e => e, .d (.str _)⟩
  · show x.cps.size ≤ k
    simpa [chars] using hl
end

/-! ### for -/
def forL (g : TGt) (tb : TSt) (chk : WSt → Prop) : List W → TSt
  | [], D, S => D.nx S
  | w :: r, D, S => chk S ∧ g w S fun S1 => tb { D with nx := fun S2 => chk S2 ∧ forL g tb chk r D S2, ct := fun S2 => chk S2 ∧ forL g tb chk r D S2, bk := D.nx } S1
section
variable {X : Cx} {o : Og}
theorem for_core {tg : Expr} {body : List Stmt} {A : List Nat} {g : TGt} {tb : TSt} {J : It} {ws : List W} {chk : WSt → Prop} {G : Wo → List Addr → L2.St → WSt → Prop} (hg : SG X o tg A g) (hb : SB X o body A tb) (hJ : JOk J ws G)
    {σ : L2.St} {S : WSt} {ω : Wo} {fp : List Addr} {D : WD} (wd : In o ω fp) (rs : RSs ω σ S fp) (hG : ∀ σ' S' ω' fs, Ext ω fp ω' fs → RSs ω' σ' S' fs → Keep A σ σ' → chk S' → G ω' fs σ' S') (c0 : chk S) (q : forL g tb chk ws D S) :
    ∃ W' : Nat → Nat → L2.St → Hp → Prop, (∃ m, W' 0 m σ ω.H) ∧ ∀ i m σ1 H1, W' i m σ1 H1 →
      (J.stop i H1 ∧ (endsOf A σ ω fp D).nx σ1 H1) ∨ (J.go i H1 ∧ ∃ N : L2.St → Hp → Prop, (∀ σ' H', N σ' H' → ∃ m', m' < m ∧ W' (i + 1) m' σ' H') ∧ ∀ x H', J.yld i H1 x H' → wG X tg x σ1 H' fun σ2 H2 => wSs X body { endsOf A σ ω fp D with nx := N, ct := N, bk := (endsOf A σ ω fp D).nx } σ2 H2) := by
  refine ⟨fun i m σ1 H1 => m = ws.length - i ∧ i ≤ ws.length ∧ nxOf A σ ω fp (fun S1 => chk S1 ∧ forL g tb chk (ws.drop i) D S1) σ1 H1, ⟨ws.length, by simp, Nat.zero_le _, S, ω, fp, rfl, Ext.refl wd.wd, rs, Keep.refl _ _, c0, q⟩, ?_⟩
  rintro i m σ1 H1 ⟨rfl, hi, S1, ω1, f1, rfl, E1, rs1, k1, c1, q1⟩
  have hgood := hJ i σ1 S1 ω1 f1 E1.wd rs1 (hG σ1 S1 ω1 f1 E1 rs1 k1 c1)
  by_cases hlt : i < ws.length
  · obtain ⟨w, hw⟩ : ∃ w, ws[i]? = some w := ⟨ws[i], by simp [hlt]⟩
    obtain ⟨hgo, hy⟩ := hgood.1 w hw
    have hd : ws.drop i = w :: ws.drop (i + 1) := by
      rw [List.drop_eq_getElem_cons hlt]
      obtain ⟨h1, h2⟩ := List.getElem?_eq_some_iff.mp hw
      rw [h2]
    rw [hd] at q1
    obtain ⟨_, q1⟩ := q1
    refine .inr ⟨hgo, nxOf A σ ω fp (fun S2 => chk S2 ∧ forL g tb chk (ws.drop (i + 1)) D S2), fun σ' H' h => ⟨ws.length - (i + 1), by omega, rfl, hlt, h⟩, fun x H' hx => ?_⟩
    obtain ⟨ω2, rfl, E2, g2, r2⟩ := hy x H' hx
    have rs2 : RSs ω2 σ1 S1 f1 := rs1.mono E2.bb E2.ll (g2.same rs1.alloc)
    have E12 := E1.trans E2
    refine wG.mono (hg x w [] σ1 S1 ω2 f1 _ (wd.trans E12) r2 rs2 q1) ?_
    rintro σ3 H3 ⟨S3, ω3, f3, rfl, E3, rs3, k3, q3⟩
    have E13 := E12.trans E3
    have k13 : Keep A σ σ3 := k1.trans k3 (fun _ m => m) (fun _ m => m)
    exact wSs.mono (hb σ3 S3 ω3 f3 _ (wd.trans E13) rs3 q3) ⟨fun _ _ h => nxOf.up E13 k13 (fun _ m => m) (fun _ m => m) h, fun _ _ h => rtOf.up E13 k13 (fun _ m => m) (fun _ m => m) h, fun _ _ h => nxOf.up E13 k13 (fun _ m => m) (fun _ m => m) h, fun _ _ h => nxOf.up E13 k13 (fun _ m => m) (fun _ m => m) h⟩
  · have e : i = ws.length := by omega
    subst e
    rw [List.drop_length] at q1
    exact .inl ⟨hgood.2 (Nat.le_refl _), S1, ω1, f1, rfl, E1, rs1, k1, q1⟩
/-- over a value of one's own: it is frozen -/
def itemsD : PyData → Option (List W)
  | .list xs => some (xs.map W.d)
  | .tuple xs => some (xs.map W.d)
  | .str x => some (chars x)
  | _ => none
def forE (g : TGt) (tb : TSt) (te : TW) : TSt := fun D S => te S fun w S1 => match fzW w with
  | some x => (match itemsD x with
    | some ws => forL g tb (fun _ => True) ws D S1
    | none => False)
  | none => False
/-- an iterator over frozen data -/
theorem it_data {tg : Expr} {x : PyData} {v : V} {ω : Wo} {ws : List W} {R : It → Hp → Prop} (wd : Le ω.B ω.H) (h : Dq ω.B v x) (e : itemsD x = some ws)
    (q : ∀ J G, JOk J ws G → (∀ ω' fs σ S, Le ω.B ω'.B → Le ω'.B ω'.H → G ω' fs σ S) → R J ω.H) : rIt X tg v ω.H R := by
  cases h with
  | lst hh t =>
    simp only [itemsD, Option.some.injEq] at e; subst e
    exact rIt_list (.inl (Rd.mono wd hh)) (q _ _ (jok_list (K := X.K)) fun ω' fs σ S h1 h2 => ⟨_, Rd.mono (h1.trans h2) hh, DqAll.mono h1 t⟩)
  | tup hh t =>
    simp only [itemsD, Option.some.injEq] at e; subst e
    exact rIt_tup (.inl (Rd.mono wd hh)) (q _ _ (jok_tup (K := X.K)) fun ω' fs σ S h1 h2 => ⟨_, Rd.mono (h1.trans h2) hh, DqAll.mono h1 t⟩)
  | str z =>
    simp only [itemsD, Option.some.injEq] at e; subst e
    exact rIt_str (q _ _ jok_str fun _ _ _ _ _ _ => trivial)
  | _ => simp [itemsD] at e
theorem noFold {e : Expr} (h : noSet e = true) {env : Env} : ∀ x, foldedSetIterable e env x = pure x := by
  cases e <;> first | (intro _; rfl) | cases h
theorem ss_forE {tg e : Expr} {body : List Stmt} {A : List Nat} {g : TGt} {tb : TSt} {te : TW} {pos : Pos} (hp : PassesOwn (model X.prog X.w) X.A X.env X.xe) (hc : X.calm = true) (he : SE X o e te) (hg : SG X o tg A g) (hb : SB X o body A tb) (hns : noSet e = true) :
    SS X o (.For tg e body [] pos) A (forE g tb te) := by
  intro σ S ω fp D wd rs q
  refine useS (ps_for hp hc (pi_canon (pE e)) (pG tg) (pSs body) (noFold hns)) (wE.mono (he σ S ω fp _ wd rs q) ?_)
  rintro v H' ⟨w, S1, ω1, fv, fs, rfl, E, r, rs1, q1⟩
  cases ez : fzW w with
  | none => simp only [ez] at q1
  | some x =>
    simp only [ez] at q1
    cases ei : itemsD x with
    | none => simp only [ei] at q1
    | some ws =>
      simp only [ei] at q1
      obtain ⟨ω2, hH, E2, D2⟩ := r.freeze ez E.wd rs1.alloc
      rw [← hH]
      have rs2 : RSs ω2 σ S1 fs := rs1.mono E2.bb E2.ll fun a _ => by rw [hH]
      have E12 := E.trans E2
      refine it_data E12.wd.bh D2 ei fun J G hJ hG => ?_
      obtain ⟨W', h0, h1⟩ := for_core hg hb hJ (wd.trans E12) rs2 (D := D) (fun σ' S' ω' fs' E' _ _ _ => hG _ _ _ _ E'.bb E'.wd.bh) trivial q1
      refine ⟨W', h0, fun i m σ1 H1 hw => ?_⟩
      have up := endsOf.up (A := []) (B := A) (C := A) (D := D) E12 (Keep.refl _ σ) (fun _ m => nomatch m) (fun _ m => m)
      rcases h1 i m σ1 H1 hw with ⟨a, b⟩ | ⟨a, N, b, c⟩
      · exact .inl ⟨a, up.nx _ _ b⟩
      · exact .inr ⟨a, N, b, fun x H' hx => wG.mono (c x H' hx) fun σ2 H2 h2 => wSs.mono h2 ⟨fun _ _ h => h, up.rt, up.nx, fun _ _ h => h⟩⟩
/-- over a name's value -/
def chkW (i : Nat) : W → WSt → Prop
  | .ol xs => fun S => gt S i = some (.ol xs)
  | _ => fun _ => True
def itemsW : W → Option (List W)
  | .d x => itemsD x
  | .vl xs => some (xs.map W.d)
  | .ol xs => some (xs.map W.d)
  | .vw ws => some ws
  | _ => none
def forP (g : TGt) (tb : TSt) (i : Nat) : TSt := fun D S => match gt S i with
  | some w => (match itemsW w with
    | some ws => forL g tb (chkW i w) ws D S
    | none => False)
  | none => False
theorem ss_forP {tg e : Expr} {body : List Stmt} {A : List Nat} {g : TGt} {tb : TSt} {i : Nat} {pos : Pos} (hp : PassesOwn (model X.prog X.w) X.A X.env X.xe) (hc : X.calm = true) (hv : PE X e (tVar i)) (hg : SG X o tg A g) (hb : SB X o body A tb) (hi : i ∉ A) (hns : noSet e = true) :
    SS X o (.For tg e body [] pos) A (forP g tb i) := by
  intro σ S ω fp D wd rs q
  unfold forP at q
  cases hg0 : gt S i with
  | none => rw [hg0] at q; exact q.elim
  | some w =>
    rw [hg0] at q
    cases ei : itemsW w with
    | none => simp only [ei] at q
    | some ws =>
      simp only [ei] at q
      obtain ⟨v, f1, f2, hs, r, _, _⟩ := rs.split hg0
      refine useS (ps_for hp hc (pi_canon hv) (pG tg) (pSs body) (noFold hns)) ⟨v, hs, ?_⟩
      cases w with
      | d x =>
        cases r with | d d1 =>
        refine it_data wd.wd.bh d1 ei fun J G hJ hG => ?_
        exact for_core hg hb hJ wd rs (D := D) (fun σ' S' ω' fs' E' _ _ _ => hG _ _ _ _ E'.bb E'.wd.bh) trivial q
      | vl xs =>
        simp only [itemsW, Option.some.injEq] at ei; subst ei
        cases r with | vl hh t =>
        refine rIt_list (.inl (Rd.mono wd.wd.lh hh)) ?_
        exact for_core hg hb (jok_list (K := X.K)) wd rs (D := D) (fun σ' S' ω' fs' E' _ _ _ => ⟨_, Rd.mono (E'.ll.trans E'.wd.lh) hh, DqAll.mono E'.bb t⟩) trivial q
      | vw us =>
        simp only [itemsW, Option.some.injEq] at ei; subst ei
        cases r with | vw hh t =>
        refine rIt_list (.inl (Rd.mono wd.wd.lh hh)) ?_
        exact for_core hg hb (jok_vw (K := X.K)) wd rs (D := D) (fun σ' S' ω' fs' E' _ _ _ => ⟨_, Rd.mono (E'.ll.trans E'.wd.lh) hh, t.mono E'.bb E'.ll fun _ m => nomatch m⟩) trivial q
      | ol xs =>
        simp only [itemsW, Option.some.injEq] at ei; subst ei
        cases r with | @ol a vs _ hh t =>
        refine rIt_list (.inl (.inl hh)) ?_
        refine for_core hg hb (jok_list (K := X.K) (a := a)) wd rs (D := D) (fun σ' S' ω' fs' E' rs' k c => ?_) hg0 q
        obtain ⟨v', g1, g2, hs', r', _, _⟩ := rs'.split (show gt S' i = some (.ol xs) from c)
        rw [k.2 i hi, hs] at hs'
        have e' := Option.some.inj (Option.some.inj hs')
        cases r' with | ol hh' t' =>
        injection e' with e'
        subst e'
        exact ⟨_, .inl hh', t'⟩
      | _ => simp [itemsW] at ei
/-- over a range -/
def forR1 (g : TGt) (tb : TSt) (us : TWs) : TSt := fun D S => us S fun ws S1 => match ws with
  | [.d (.int j)] => -(2 ^ 62) ≤ j ∧ j < 2 ^ 62 ∧ forL g tb (fun _ => True) (rngW 0 j.toNat) D S1
  | _ => False
def forR2 (g : TGt) (tb : TSt) (us : TWs) : TSt := fun D S => us S fun ws S1 => match ws with
  | [.d (.int i), .d (.int j)] => (-(2 ^ 62) ≤ i ∧ i < 2 ^ 62 ∧ -(2 ^ 62) ≤ j ∧ j < 2 ^ 62) ∧ forL g tb (fun _ => True) (rngW i (j - i).toNat) D S1
  | _ => False
theorem ss_forR1 {tg e : Expr} {body : List Stmt} {A : List Nat} {g : TGt} {tb : TSt} {us : TWs} {p pos pos' : Pos} (hp : PassesOwn (model X.prog X.w) X.A X.env X.xe) (hc : X.calm = true) (hgl : Gl X "range") (hm : X.mg "range" = none) (hns : [e].all noStar = true) (he : SOl X o [e] us) (hg : SG X o tg A g) (hb : SB X o body A tb) :
    SS X o (.For tg (.Call (.Name "range" p) [e] [] pos') body [] pos) A (forR1 g tb us) := by
  intro σ S ω fp D wd rs q
  have hns' := hns
  rw [List.all_cons, Bool.and_eq_true] at hns'
  refine useS (ps_for hp hc (pi_range1 hgl hm (pL hns) (starE hns'.1)) (pG tg) (pSs body)) (wL.mono (he σ S ω fp _ wd rs q) ?_)
  rintro vs H' ⟨ws, S1, ω1, fg, fs, rfl, E, rl, rs1, q1⟩
  have E' := E.dropL
  have up := endsOf.up (A := []) (B := A) (C := A) (D := D) E' (Keep.refl _ σ) (fun _ m => nomatch m) (fun _ m => m)
  split at q1
  · obtain ⟨h1, h2, q1⟩ := q1
    obtain ⟨v, f, rfl, r1⟩ := rl.one
    cases r1 with | d d1 =>
    cases d1
    refine ⟨_, rfl, h1, h2, ?_⟩
    obtain ⟨W', h0, h1⟩ := for_core hg hb jok_rng (wd.trans E') rs1 (D := D) (fun _ _ _ _ _ _ _ _ => trivial) trivial q1
    refine ⟨W', h0, fun i m σ1 H1 hw => ?_⟩
    rcases h1 i m σ1 H1 hw with ⟨a, b⟩ | ⟨a, N, b, c⟩
    · exact .inl ⟨a, up.nx _ _ b⟩
    · exact .inr ⟨a, N, b, fun x H' hx => wG.mono (c x H' hx) fun σ2 H2 h2 => wSs.mono h2 ⟨fun _ _ h => h, up.rt, up.nx, fun _ _ h => h⟩⟩
  · exact q1.elim
theorem ss_forR2 {tg a b : Expr} {body : List Stmt} {A : List Nat} {g : TGt} {tb : TSt} {us : TWs} {p pos pos' : Pos} (hp : PassesOwn (model X.prog X.w) X.A X.env X.xe) (hc : X.calm = true) (hgl : Gl X "range") (hm : X.mg "range" = none) (hns : [a, b].all noStar = true) (he : SOl X o [a, b] us) (hg : SG X o tg A g) (hb : SB X o body A tb) :
    SS X o (.For tg (.Call (.Name "range" p) [a, b] [] pos') body [] pos) A (forR2 g tb us) := by
  intro σ S ω fp D wd rs q
  have hns' := hns
  rw [List.all_cons, List.all_cons, Bool.and_eq_true, Bool.and_eq_true] at hns'
  refine useS (ps_for hp hc (pi_range2 hgl hm (pL hns) (by rw [starE hns'.1, starE hns'.2.1]; rfl) (starE hns'.2.1)) (pG tg) (pSs body)) (wL.mono (he σ S ω fp _ wd rs q) ?_)
  rintro vs H' ⟨ws, S1, ω1, fg, fs, rfl, E, rl, rs1, q1⟩
  have E' := E.dropL
  have up := endsOf.up (A := []) (B := A) (C := A) (D := D) E' (Keep.refl _ σ) (fun _ m => nomatch m) (fun _ m => m)
  split at q1
  · obtain ⟨h1, q1⟩ := q1
    obtain ⟨v, f, v', f', rfl, r1, r2⟩ := rl.two
    cases r1 with | d d1 => cases r2 with | d d2 =>
    cases d1; cases d2
    refine ⟨_, _, rfl, h1, ?_⟩
    obtain ⟨W', h0, h1⟩ := for_core hg hb jok_rng (wd.trans E') rs1 (D := D) (fun _ _ _ _ _ _ _ _ => trivial) trivial q1
    refine ⟨W', h0, fun i m σ1 H1 hw => ?_⟩
    rcases h1 i m σ1 H1 hw with ⟨a, b⟩ | ⟨a, N, b, c⟩
    · exact .inl ⟨a, up.nx _ _ b⟩
    · exact .inr ⟨a, N, b, fun x H' hx => wG.mono (c x H' hx) fun σ2 H2 h2 => wSs.mono h2 ⟨fun _ _ h => h, up.rt, up.nx, fun _ _ h => h⟩⟩
  · exact q1.elim
end
end MV

namespace MV
open PySem PySem.Spec PyProof.Rows L2

def noSuper : Expr → Bool
  | .Call (.Name _ _) [] [] _ => false
  | _ => true
theorem attrBase {o : Expr} {f : Str} {env : Env} (h : noSuper o = true) : attributeBase o f env (eval o env) = eval o env := by
  cases o with
  | Call fn args kws pos =>
    cases fn <;> first | rfl | skip
    cases args with
    | cons _ _ => rfl
    | nil => cases kws with
      | cons _ _ => rfl
      | nil => cases h
  | _ => rfl
theorem fewArgs {es : List Expr} {cpos : Pos} {env : Env} (h : es.all noStar = true) (hl : es.length < 30) : ((backTo cpos (starEach es env)).all (fun x => !x.1) && (backToKw cpos (keywordEach [] env)).all (fun x => x.1.isSome)
      && decide (es.length + ([] : List Keyword).length + (if ([] : List Keyword).isEmpty then 0 else 1) < 30)) = true := by
  have h1 : (backTo cpos (starEach es env)).all (fun x => !x.1) = true := by
    clear hl
    induction es with
    | nil => rfl
    | cons e es ih =>
      rw [List.all_cons, Bool.and_eq_true] at h
      rw [starE h.1]
      show (true && (backTo cpos (starEach es env)).all (fun x => !x.1)) = true
      rw [ih h.2]; rfl
  rw [h1]
  show (true && true && decide (es.length + 0 + 0 < 30)) = true
  simp; exact hl

abbrev MB := W → List W → (W → W → Prop) → Prop
/-- a method that changes what it is called on -/
def MutS (X : Cx) (id : String) (m : MB) : Prop := ∀ ω f1 fv g v w vs ws Q, Wd ω (f1 ++ (fv ++ g)) → (∀ a ∈ g, ω.H a ≠ none) → RW ω v w f1 → RWs ω vs ws fv → m w ws Q →
  rMt X id v vs ω.H (fun u H' => ∃ ω' w' r fr f1', ω'.H = H' ∧ Ext ω (f1 ++ (fv ++ g)) ω' (fr ++ (f1' ++ g)) ∧ (∀ a ∈ g, ω'.H a = ω.H a) ∧ RW ω' v w' f1' ∧ RW ω' u r fr ∧ Q w' r)
def appendM : MB := fun w ws Q => match w, ws with
  | .ol xs, [u] => (match fzW u with
    | some x => xs.length < sizeLine ∧ Q (.ol (xs ++ [x])) (.d .none)
    | none => False)
  | _, _ => False
def appendOM : MB := fun w ws Q => match w, ws with
  | .ow us, [u] => us.length < sizeLine ∧ Q (.ow (us ++ [u])) (.d .none)
  | _, _ => False
def popM : MB := fun w ws Q => match w, ws with
  | .ol xs, [] => (match xs[xs.length - 1]? with
    | some x => Q (.ol xs.dropLast) (.d x)
    | none => False)
  | .ol xs, [.d (.int i)] => -(2 ^ 63) ≤ i ∧ i < 2 ^ 63 ∧ (match seqIndex? i xs.length with
    | some k => (match xs[k]? with
      | some x => Q (.ol (xs.eraseIdx k)) (.d x)
      | none => False)
    | none => False)
  | _, _ => False
def clearM : MB := fun w ws Q => match w, ws with
  | .ol xs, [] => Q (.ol []) (.d .none)
  | .ow us, [] => Q (.ol []) (.d .none)
  | _, _ => False
def reverseM : MB := fun w ws Q => match w, ws with
  | .ol xs, [] => Q (.ol xs.reverse) (.d .none)
  | _, _ => False
def insertM : MB := fun w ws Q => match w, ws with
  | .ol xs, [.d (.int i), u] => (match fzW u with
    | some x => xs.length < sizeLine ∧ 0 ≤ i ∧ i < 2 ^ 63 ∧ Q (.ol (xs.take i.toNat ++ [x] ++ xs.drop i.toNat)) (.d .none)
    | none => False)
  | _, _ => False
def extendM : MB := fun w ws Q => match w, ws with
  | .ol xs, [u] => (match asL u with
    | some ys => xs.length + ys.length ≤ sizeLine ∧ Q (.ol (xs ++ ys)) (.d .none)
    | none => False)
  | _, _ => False
/-- whole numbers alone -/
def removeM : MB := fun w ws Q => match w, ws with
  | .ol xs, [.d (.int k)] => ∃ (ns : List Int) (j : Nat), xs = ns.map PyData.int ∧ ns[j]? = some k ∧ (∀ m : Nat, m < j → ns[m]? ≠ some k) ∧ Q (.ol ((ns.eraseIdx j).map PyData.int)) (.d .none)
  | _, _ => False
theorem DqAll.back_ints {A : Hp} : ∀ {vs : List V} {ns : List Int}, DqAll A vs (ns.map PyData.int) → vs = ns.map V.int
  | vs, [], h => by cases h; rfl
  | vs, n :: ns, h => by
    rw [List.map_cons] at h
    cases h with
    | cons a b =>
      cases a
      rw [List.map_cons, DqAll.back_ints b]
section
variable {X : Cx}
theorem mt_extendR : MtR X "list.extend" (fun x vs H Q => ∃ l b xs zs, x = .ref l ∧ vs = [.ref b] ∧ H l = some (.lst xs) ∧ Rd H b (.lst zs) ∧ xs.length + zs.length ≤ sizeLine ∧ Q .non (upd H l (.lst (xs ++ zs)))) := by
  intro pins s σ H x vs v us Q I rx rv h
  obtain ⟨l, b, xs, zs, rfl, rfl, hH, hB, hz, q⟩ := h
  cases rx
  obtain ⟨u, rfl, ru⟩ := rv.one
  cases ru
  obtain ⟨z, its, n, r, hl, e⟩ := I.lstM hH
  obtain ⟨its2, n2, r2, e2, z2⟩ := rd_lst I hB
  have hl2 := r2.length
  have hsz : its.toArray.size + its2.toArray.size ≤ sizeLine := by rw [List.size_toArray, List.size_toArray]; omega
  have hlong : ¬ (!its.toArray.isEmpty && Builtin.List.listTooLong (its.toArray.size + its2.toArray.size)) = true := by
    rw [notLongL hsz, Bool.and_false]
    exact Bool.false_ne_true
  refine call_meets F.slot_list_extend ⟨_, e, rfl⟩ F.entry_list_extend (F.args_list_extend_2 _ _)
    (AutoSeq1.list_extend_list_list_0 l its.toArray n b its2.toArray n2 hlong (by rw [List.size_toArray]; omega) (by omega)) ⟨e, e2, ?_⟩
  refine ⟨.non, _, I.lset (its' := its ++ its2) hH e (by simp) (r.append r2) ?_, rfl, q⟩
  rw [List.length_append]
  omega
/-- the list at a, a slot's, is written -/
theorem wr_lst {ω : Wo} {a : Addr} {g : List Addr} {vs : List V} {xs : List PyData} (wd : Wd ω (a :: g)) (h : DqAll ω.B vs xs) : Ext ω (a :: g) ⟨ω.B, ω.L, upd ω.H a (.lst vs)⟩ (a :: g) ∧ (∀ b ∈ g, upd ω.H a (.lst vs) b = ω.H b) ∧ RW ⟨ω.B, ω.L, upd ω.H a (.lst vs)⟩ (.ref a) (.ol xs) [a] := by
  refine ⟨Ext.put wd (by simp), fun b m => upd_ne fun e => ?_, .ol upd_same h⟩
  subst e
  exact (List.nodup_cons.mp wd.nd).1 m
theorem fz1 {ω : Wo} {f1 fv g : List Addr} {vs : List V} {u : W} {x : PyData} (wd : Wd ω (f1 ++ (fv ++ g))) (al : ∀ a ∈ g, ω.H a ≠ none) (al1 : ∀ a ∈ f1, ω.H a ≠ none) (r : RWs ω vs [u] fv) (e : fzW u = some x) :
    ∃ v ω', vs = [v] ∧ ω'.H = ω.H ∧ Ext ω (f1 ++ (fv ++ g)) ω' (f1 ++ g) ∧ Dq ω'.B v x := by
  cases r with
  | @cons v _ f2 f3 vs' _ r1 r2 =>
    cases r2
    rw [List.append_nil] at wd ⊢
    have p1 : (f1 ++ (f2 ++ g)).Perm (f2 ++ (f1 ++ g)) := by
      rw [← List.append_assoc, ← List.append_assoc]
      exact List.Perm.append_right _ List.perm_append_comm
    obtain ⟨ω', hH, E, D⟩ := r1.freeze e (wd.perm p1) (fun a m => (List.mem_append.mp m).elim (al1 a) (al a))
    exact ⟨v, ω', rfl, hH, E.permL p1.symm, D⟩
theorem ms_append : MutS X "list.append" appendM := by
  intro ω f1 fv g v w vs ws Q wd al r rv h
  unfold appendM at h
  split at h
  · rename_i xs u
    split at h
    · rename_i x e
      obtain ⟨hz, q⟩ := h
      have al1 := r.alloc
      obtain ⟨v1, ω1, rfl, hH, E, D⟩ := fz1 wd al al1 rv e
      cases r with | @ol a us _ hh t =>
      obtain ⟨E2, k2, r2⟩ := wr_lst (xs := xs ++ [x]) (vs := us ++ [v1]) E.wd ((t.mono E.bb).append (.cons D .nil))
      rw [← hH]
      refine useMt mt_append ⟨a, us, v1, rfl, rfl, by rw [hH]; exact hh, by rw [t.len]; exact hz, ⟨_, _, _, [], [a], rfl, E.trans E2, k2, r2, .d .non, q⟩⟩
    · exact h.elim
  · exact h.elim
theorem ms_appendO : MutS X "list.append" appendOM := by
  intro ω f1 fv g v w vs ws Q wd al r rv h
  unfold appendOM at h
  split at h
  · rename_i us u
    obtain ⟨hz, q⟩ := h
    cases rv with
    | @cons v1 _ f2 f3 vs' _ r1 r2 =>
      cases r2
      rw [List.append_nil] at wd ⊢
      cases r with | @ow a xs _ f hh t =>
      have hn : ∀ b ∈ f ++ (f2 ++ g), b ≠ a := fun b m e => by subst e; exact (List.nodup_cons.mp wd.nd).1 m
      refine useMt mt_append ⟨a, xs, v1, rfl, rfl, hh, by rw [t.length]; exact hz, ⟨⟨ω.B, ω.L, upd ω.H a (.lst (xs ++ [v1]))⟩, .ow (us ++ [u]), .d .none, [], a :: (f ++ f2), rfl, ?_, fun b m => ?_, ?_, .d .non, q⟩⟩
      · refine (Ext.put wd (by simp)).permR ?_
        show (a :: (f ++ (f2 ++ g))).Perm ([] ++ (a :: (f ++ f2) ++ g))
        simp
      · exact upd_ne (hn b (List.mem_append_right _ (List.mem_append_right _ m)))
      · refine .ow upd_same ?_
        have k : ∀ b ∈ f ++ f2, (⟨ω.B, ω.L, upd ω.H a (.lst (xs ++ [v1]))⟩ : Wo).H b = ω.H b := fun b m => upd_ne (hn b (by
          rcases List.mem_append.mp m with m | m
          · exact List.mem_append_left _ m
          · exact List.mem_append_right _ (List.mem_append_left _ m)))
        have app : ∀ {vs : List V} {ws : List W} {f : List Addr}, RWs ω vs ws f → RWs ω (vs ++ [v1]) (ws ++ [u]) (f ++ f2) := by
          intro vs ws f r
          induction vs generalizing ws f with
          | nil => cases r; simpa using RWs.cons r1 RWs.nil
          | cons v vs ih => cases r with | cons a b => rw [List.append_assoc]; exact .cons a (ih b)
        exact (app t).mono (ω := ω) (ω' := ⟨ω.B, ω.L, upd ω.H a (.lst (xs ++ [v1]))⟩) (Le.refl _) (Le.refl _) k
  · exact h.elim
theorem ms_pop : MutS X "list.pop" popM := by
  intro ω f1 fv g v w vs ws Q wd al r rv h
  unfold popM at h
  split at h
  · rename_i xs
    split at h
    · rename_i x ex
      cases rv
      cases r with | @ol a us _ hh t =>
      obtain ⟨v1, hv1, d1⟩ := t.get ex
      rw [← t.len] at hv1
      have wd' : Wd ω (a :: g) := wd
      obtain ⟨E2, k2, r2⟩ := wr_lst wd' t.dropLast
      exact useMt mt_pop ⟨a, us, v1, rfl, rfl, hh, hv1, ⟨_, _, _, [], [a], rfl, E2, k2, r2, .d d1, h⟩⟩
    · exact h.elim
  · rename_i xs i
    obtain ⟨h1, h2, h⟩ := h
    split at h
    · rename_i k ek
      split at h
      · rename_i x ex
        cases rv with
        | cons r1 r2 =>
          cases r2
          cases r1 with | d d0 =>
          cases d0
          cases r with | @ol a us _ hh t =>
          obtain ⟨v1, hv1, d1⟩ := t.get ex
          have wd' : Wd ω (a :: g) := wd
          obtain ⟨E2, k2, r2⟩ := wr_lst wd' (t.erase k)
          exact useMt mt_popAt ⟨a, us, i, k, v1, rfl, rfl, hh, h1, h2, by rw [t.len]; exact ek, hv1, ⟨_, _, _, [], [a], rfl, E2, k2, r2, .d d1, h⟩⟩
      · exact h.elim
    · exact h.elim
  · exact h.elim
theorem ms_reverse : MutS X "list.reverse" reverseM := by
  intro ω f1 fv g v w vs ws Q wd al r rv h
  unfold reverseM at h
  split at h
  · rename_i xs
    cases rv
    cases r with | @ol a us _ hh t =>
    have wd' : Wd ω (a :: g) := wd
    obtain ⟨E2, k2, r2⟩ := wr_lst wd' t.reverse
    exact useMt mt_reverse ⟨a, us, rfl, rfl, hh, ⟨_, _, _, [], [a], rfl, E2, k2, r2, .d .non, h⟩⟩
  · exact h.elim
theorem ms_clear : MutS X "list.clear" clearM := by
  intro ω f1 fv g v w vs ws Q wd al r rv h
  unfold clearM at h
  split at h
  · rename_i xs
    cases rv
    cases r with | @ol a us _ hh t =>
    have wd' : Wd ω (a :: g) := wd
    obtain ⟨E2, k2, r2⟩ := wr_lst wd' (.nil)
    exact useMt mt_clear ⟨a, us, rfl, rfl, hh, ⟨_, _, _, [], [a], rfl, E2, k2, r2, .d .non, h⟩⟩
  · rename_i us
    cases rv
    cases r with | @ow a xs _ f hh t =>
    have wd' : Wd ω (a :: g) := wd.sub (by
      show (a :: g).Sublist (a :: (f ++ ([] ++ g)))
      exact List.Sublist.cons_cons a (List.sublist_append_right _ _))
    have E0 : Ext ω (a :: f ++ ([] ++ g)) ω (a :: g) := (Ext.refl wd).sub (by
      show (a :: g).Sublist (a :: (f ++ ([] ++ g)))
      exact List.Sublist.cons_cons a (List.sublist_append_right _ _))
    obtain ⟨E2, k2, r2⟩ := wr_lst wd' (.nil)
    exact useMt mt_clear ⟨a, xs, rfl, rfl, hh, ⟨_, _, _, [], [a], rfl, E0.trans E2, k2, r2, .d .non, h⟩⟩
  · exact h.elim
theorem ms_remove : MutS X "list.remove" removeM := by
  intro ω f1 fv g v w vs ws Q wd al r rv h
  unfold removeM at h
  split at h
  · rename_i xs k
    obtain ⟨ns, j, rfl, e1, e2, q⟩ := h
    cases rv with
    | cons r0 rv =>
      cases rv
      cases r0 with | d d0 =>
      cases d0
      cases r with | @ol a us _ hh t =>
      obtain rfl := t.back_ints
      have wd' : Wd ω (a :: g) := wd
      obtain ⟨E2, k2, r2⟩ := wr_lst (xs := (ns.eraseIdx j).map PyData.int) (vs := (ns.eraseIdx j).map V.int) wd' (DqAll.of_ints _)
      exact useMt mt_remove ⟨a, ns, k, j, rfl, rfl, hh, e1, e2, ⟨_, _, _, [], [a], rfl, E2, k2, r2, .d .non, q⟩⟩
  · exact h.elim
theorem ms_extend : MutS X "list.extend" extendM := by
  intro ω f1 fv g v w vs ws Q wd al r rv h
  unfold extendM at h
  split at h
  · rename_i xs u
    split at h
    · rename_i ys e
      obtain ⟨hz, q⟩ := h
      cases rv with
      | @cons v1 w1 fa fb vs ws r1 r2 =>
      cases r2
      obtain ⟨b, zs, rfl, hb, tb⟩ := r1.asL wd e
      cases r with | @ol a us _ hh t =>
      have wd' : Wd ω (a :: g) := ⟨wd.bl, wd.lh, wd.nd.sublist (by simpa using (List.sublist_append_right (fa ++ []) g)), fun x m => wd.dis x (by
        rcases List.mem_cons.mp m with rfl | m
        · simp
        · simp [m])⟩
      obtain ⟨E2, k2, r3⟩ := wr_lst (xs := xs ++ ys) (vs := us ++ zs) wd' (t.append tb)
      refine useMt mt_extendR ⟨a, b, us, zs, rfl, rfl, hh, hb, by rw [t.len, tb.len]; exact hz, ⟨_, _, _, [], [a], rfl, ?_, k2, r3, .d .non, q⟩⟩
      exact E2.more fun x m => by
        rcases List.mem_cons.mp m with rfl | m
        · simp
        · simp [m]
    · exact h.elim
  · exact h.elim
theorem ms_insert : MutS X "list.insert" insertM := by
  intro ω f1 fv g v w vs ws Q wd al r rv h
  unfold insertM at h
  split at h
  · rename_i xs i u
    split at h
    · rename_i x e
      obtain ⟨hz, h0, h1, q⟩ := h
      have al1 := r.alloc
      cases rv with
      | cons r0 rv =>
        cases r0 with | d d0 =>
        cases d0
        obtain ⟨v1, ω1, rfl, hH, E, D⟩ := fz1 (fv := _) wd al al1 rv e
        cases r with | @ol a us _ hh t =>
        have t' := t.mono E.bb
        obtain ⟨E2, k2, r2⟩ := wr_lst (xs := xs.take i.toNat ++ [x] ++ xs.drop i.toNat) (vs := us.take i.toNat ++ [v1] ++ us.drop i.toNat) E.wd (((t'.take _).append (.cons D .nil)).append (t'.drop _))
        rw [← hH]
        refine useMt mt_insert ⟨a, us, i, v1, rfl, rfl, by rw [hH]; exact hh, by rw [t.len]; exact hz, h0, h1, ⟨_, _, _, [], [a], rfl, E.trans E2, k2, r2, .d .non, q⟩⟩
    · exact h.elim
  · exact h.elim
end
end MV

namespace MV
open PySem PySem.Spec PyProof.Rows L2

def isLst : W → Bool
  | .ol _ => true
  | .ow _ => true
  | _ => false
def methT (i : Nat) (us : TWs) (m : MB) : TW := fun S Q => match gt S i with
  | some w0 => isLst w0 = true ∧ us S fun ws S1 => (match gt S1 i with
    | some w => m w ws fun w' r => Q r (st S1 i (some w'))
    | none => False)
  | none => False
theorem st_none_len {S : WSt} {i : Nat} {a : Option W} : (st S i a).length = S.length := st_len S i a
section
variable {X : Cx} {o : Og} {e b : Expr} {es : List Expr} {us : TWs} {te : TW}
theorem RW.isL {ω : Wo} {v : V} {w : W} {f : List Addr} {K : Frag} (r : RW ω v w f) (h : isLst w = true) : tyV K "list" v ω.H := by
  cases r with
  | ol hh t => exact .inl ⟨rfl, _, .inl (.inl hh)⟩
  | ow hh t => exact .inl ⟨rfl, _, .inl (.inl hh)⟩
  | _ => cases h
/-- behind the arguments: the method runs on slot i -/
theorem meth_run {i : Nat} {id : String} {m : MB} (hm : MutS X id m) {σ : L2.St} {S1 : WSt} {ω ω1 : Wo} {fp fv fs : List Addr} {vs : List V} {ws : List W} {Q : QW} {v : V} {w : W} (E : Ext ω fp ω1 (fv ++ fs)) (rv : RWs ω1 vs ws fv) (rs : RSs ω1 σ S1 fs) (hs : σ[i]? = some (some v)) (hg : gt S1 i = some w)
    (q : m w ws fun w' r => Q r (st S1 i (some w'))) : rMt X id v vs ω1.H (PostE ω fp σ Q) := by
  obtain ⟨v', f1, f2, hs', r, rs2, pm⟩ := rs.split hg
  rw [hs] at hs'
  obtain rfl := Option.some.inj (Option.some.inj hs')
  have p1 : (fv ++ fs).Perm (f1 ++ (fv ++ f2)) := by
    refine (List.Perm.append_left fv pm).trans ?_
    rw [← List.append_assoc, ← List.append_assoc]
    exact List.Perm.append_right _ List.perm_append_comm
  intro pins s σ' u us' I ru rus
  refine thn (hm ω1 f1 fv f2 v w vs ws _ (E.wd.perm p1) rs2.alloc r rv q pins s σ' u us' I ru rus) ?_
  rintro u2 s2 ⟨z, H', I2, rz, ω2, w', r', fr, f1', rfl, E2, k2, rw', rr, q2⟩
  have rs3 : RSs ω2 σ (st S1 i none) f2 := rs2.mono E2.bb E2.ll k2
  obtain ⟨h, f', rs4, pm4, sb4⟩ := rs3.fill (i := i) hs rw'
  rw [st_st] at rs4
  refine ⟨z, ω2.H, I2, rz, r', _, ω2, fr, h, rfl, ?_, rr, rs4, q2⟩
  have E3 := (E.permR p1).trans E2
  exact (E3.sub (List.Sublist.append (List.Sublist.refl fr) (List.Sublist.append (List.Sublist.refl f1') sb4))).permR (List.Perm.append_left _ pm4.symm)
theorem se_meth {i : Nat} {x : Expr} {id : String} {m : MB} {name : Str} {apos cpos : Pos} (hv : PE X x (tVar i)) (hm : MutS X id m) (pa : PlainAttrs "list") (slot : Slot "list" name id) (hty : typeOf (.builtin id) = pure (.type "method_descriptor"))
    (hns : (e :: es).all noStar = true) (hlen : (e :: es).length < 30) (hsup : noSuper x = true) (hline : (apos.endLine == cpos.line) = true) (h : SX X o (e :: es) us) : SE X o (.Call (.Attribute x name apos) (e :: es) [] cpos) (methT i us m) := by
  intro σ S ω fp Q wd rs q
  unfold methT at q
  have h2 := hns
  rw [List.all_cons, Bool.and_eq_true] at h2
  cases hg : gt S i with
  | none => rw [hg] at q; exact q.elim
  | some w0 =>
    rw [hg] at q
    obtain ⟨hl, q⟩ := q
    obtain ⟨v, f1, f2, hs, r, _, _⟩ := rs.split hg
    refine useE (pe_bm pa slot hty (mtC id) hv (pL hns) (attrBase hsup) (fewArgs hns hlen) hline (starE h2.1) (backTo_any h2.2)) ⟨v, hs, r.isL hl, wL.mono (h σ S ω fp _ wd rs q) ?_⟩
    rintro vs H1 ⟨ws, S1, ω1, fv, fs, rfl, E, rv, rs1, q1⟩
    cases hg1 : gt S1 i with
    | none => simp only [hg1] at q1
    | some w =>
      simp only [hg1] at q1
      exact meth_run hm E rv rs1 hs hg1 q1
theorem se_meth0 {i : Nat} {x : Expr} {id : String} {m : MB} {name : Str} {apos cpos : Pos} (hv : PE X x (tVar i)) (hm : MutS X id m) (pa : PlainAttrs "list") (slot : Slot "list" name id) (hty : typeOf (.builtin id) = pure (.type "method_descriptor"))
    (hsup : noSuper x = true) (hline : (apos.endLine == cpos.line) = true) : SE X o (.Call (.Attribute x name apos) [] [] cpos) (methT i (fun S Q => Q [] S) m) := by
  intro σ S ω fp Q wd rs q
  unfold methT at q
  cases hg : gt S i with
  | none => rw [hg] at q; exact q.elim
  | some w0 =>
    rw [hg] at q
    obtain ⟨hl, q⟩ := q
    obtain ⟨v, f1, f2, hs, r, _, _⟩ := rs.split hg
    simp only [hg] at q
    exact useE (pe_bm0 pa slot hty (mtC id) hv (attrBase hsup) hline) ⟨v, hs, r.isL hl, meth_run (fv := []) hm (Ext.refl wd.wd) .nil rs hs hg q⟩
/-! an item of an own list of things -/
theorem RWs.split {ω : Wo} : ∀ {vs : List V} {ws : List W} {f : List Addr} {j : Nat} {w : W}, RWs ω vs ws f → ws[j]? = some w → ∃ v f1 f2, vs[j]? = some v ∧ RW ω v w f1 ∧ f.Perm (f1 ++ f2) ∧
    ∀ (ω' : Wo) (w' : W) (g : List Addr), Le ω.B ω'.B → Le ω.L ω'.L → (∀ a ∈ f2, ω'.H a = ω.H a) → RW ω' v w' g → ∃ h, RWs ω' vs (ws.set j w') h ∧ h.Perm (g ++ f2) := by
  intro vs ws f j w r hw
  induction vs generalizing ws f j with
  | nil => cases r; simp at hw
  | cons v vs ih =>
    cases r with
    | @cons _ w0 f0 g0 _ ws0 a b =>
      cases j with
      | zero =>
        simp at hw; subst hw
        exact ⟨v, f0, g0, rfl, a, List.Perm.refl _, fun ω' w' g hB hL k r' => ⟨g ++ g0, .cons r' (b.mono hB hL k), List.Perm.refl _⟩⟩
      | succ j =>
        obtain ⟨v1, f1, f2, h1, h2, h3, h4⟩ := ih b (j := j) (by simpa using hw)
        have pm : (f0 ++ g0).Perm (f1 ++ (f0 ++ f2)) := by
          refine (List.Perm.append_left f0 h3).trans ?_
          rw [← List.append_assoc, ← List.append_assoc]
          exact List.Perm.append_right _ List.perm_append_comm
        refine ⟨v1, f1, f0 ++ f2, by simpa using h1, h2, pm, fun ω' w' g hB hL k r' => ?_⟩
        obtain ⟨h, h5, h6⟩ := h4 ω' w' g hB hL (fun a m => k a (List.mem_append_right _ m)) r'
        refine ⟨f0 ++ h, .cons (a.mono hB hL fun x m => k x (List.mem_append_left _ m)) h5, ?_⟩
        refine (List.Perm.append_left f0 h6).trans ?_
        rw [← List.append_assoc, ← List.append_assoc]
        exact List.Perm.append_right _ List.perm_append_comm
def methPT (i : Nat) (te : TW) (us : TWs) (m : MB) : TW := fun S Q => match gt S i with
  | none => False
  | some _ => te S fun k S1 => match k, gt S1 i with
    | .d (.int n), some (.ow ws) => (match ixN ws.length n with
      | some j => (match ws[j]? with
        | some w0 => isLst w0 = true ∧ us (st S1 i none) fun vs S2 => m w0 vs fun w' r => Q r (st S2 i (some (.ow (ws.set j w'))))
        | none => False)
      | none => False)
    | _, _ => False
theorem se_methP {i : Nat} {x : Expr} {id : String} {m : MB} {name : Str} {apos cpos spos : Pos} (hv : PE X x (tVar i)) (hm : MutS X id m) (pa : PlainAttrs "list") (slot : Slot "list" name id) (hty : typeOf (.builtin id) = pure (.type "method_descriptor"))
    (hns : (e :: es).all noStar = true) (hlen : (e :: es).length < 30) (hline : (apos.endLine == cpos.line) = true) (hb : SE X o b te) (hix : PlainIx b) (h : SX X o (e :: es) us) : SE X o (.Call (.Attribute (.Subscript x b spos) name apos) (e :: es) [] cpos) (methPT i te us m) := by
  intro σ S ω fp Q wd rs q
  unfold methPT at q
  have h2 := hns
  rw [List.all_cons, Bool.and_eq_true] at h2
  cases hg : gt S i with
  | none => rw [hg] at q; exact q.elim
  | some w0 =>
    rw [hg] at q
    obtain ⟨v, _, _, hs, _, _, _⟩ := rs.split hg
    refine useE (pe_bm pa slot hty (mtC id) (pe_ix ixC hv (pE b) hix) (pL hns) (attrBase rfl) (fewArgs hns hlen) hline (starE h2.1) (backTo_any h2.2)) ⟨v, hs, wE.mono (hb σ S ω fp _ wd rs q) ?_⟩
    rintro y H1 ⟨k, S1, ω1, fk, fs, rfl, E, rk, rs1, q1⟩
    split at q1
    · rename_i n ws eg
      split at q1
      · rename_i j ej
        split at q1
        · rename_i w0 ew
          obtain ⟨hl, q1⟩ := q1
          cases rk with | d dk =>
          cases dk
          obtain ⟨v', f1, f2, hs', r, rs2, pm⟩ := rs1.split eg
          rw [hs] at hs'
          obtain rfl := Option.some.inj (Option.some.inj hs')
          cases r with | @ow a vs _ f hh t =>
          obtain ⟨vc, c1, c2, hvc, rc, pmc, back⟩ := t.split ew
          have ha : L2.atI vs n = some vc := by
            unfold L2.atI
            rw [t.length, ej]
            exact hvc
          refine useIx ix_list ⟨a, vs, n, vc, rfl, rfl, .inl (.inl hh), ha, rc.isL hl, ?_⟩
          -- the arguments, the list apart
          have E1 : Ext ω fp ω1 fs := E.dropL
          have wd2 : Wd ω1 (f2 ++ (a :: f)) := (E1.wd.perm pm).perm List.perm_append_comm
          refine wL.mono (h σ (st S1 i none) ω1 f2 _ (((wd.trans E1).permR pm).sub (List.sublist_append_right _ _)) rs2 q1) ?_
          rintro us' H2 ⟨zs, S2, ω2, fv, s2, rfl, E2, rz, rs3, q2⟩
          have alA : ∀ x ∈ a :: f, ω1.H x ≠ none := (RW.ow (ω := ω1) hh t).alloc
          obtain ⟨E3, k3⟩ := E2.frame (g := a :: f) wd2.nd (fun x m => wd2.dis x (List.mem_append_right _ m)) alA
          have hh2 : ω2.H a = some (.lst vs) := (k3 a (by simp)).trans hh
          have rc2 : RW ω2 vc w0 c1 := rc.mono E2.bb E2.ll fun x m => k3 x (List.mem_cons_of_mem _ (pmc.mem_iff.mpr (List.mem_append_left _ m)))
          have pall : ((fv ++ s2) ++ (a :: f)).Perm (c1 ++ (fv ++ (a :: (c2 ++ s2)))) := by
            have q1 : ((fv ++ s2) ++ (a :: f)).Perm ((fv ++ s2) ++ (a :: (c1 ++ c2))) := List.Perm.append_left _ (List.Perm.cons _ pmc)
            refine q1.trans ?_
            rw [List.perm_iff_count]
            intro x
            simp only [List.count_append, List.count_cons]
            omega
          have wd3 := E3.wd.perm pall
          have al3 : ∀ x ∈ a :: (c2 ++ s2), ω2.H x ≠ none := fun x m => by
            rcases List.mem_cons.mp m with m | m
            · subst m; rw [hh2]; simp
            · rcases List.mem_append.mp m with m | m
              · rw [k3 x (List.mem_cons_of_mem _ (pmc.mem_iff.mpr (List.mem_append_right _ m)))]
                exact alA x (List.mem_cons_of_mem _ (pmc.mem_iff.mpr (List.mem_append_right _ m)))
              · exact rs3.alloc x m
          intro pins s σ' u us2 I ru rus
          refine thn (hm ω2 c1 fv (a :: (c2 ++ s2)) vc w0 us' zs _ wd3 al3 rc2 rz q2 pins s σ' u us2 I ru rus) ?_
          rintro u2 s2' ⟨z, H', I2, rz2, ω3, w', r', fr, f1', rfl, E4, k4, rw', rr, q3⟩
          obtain ⟨hB, hL⟩ : Le ω1.B ω3.B ∧ Le ω1.L ω3.L := ⟨E2.bb.trans E4.bb, E2.ll.trans E4.ll⟩
          obtain ⟨hr, rws, pmr⟩ := back ω3 w' f1' hB hL (fun x m => (k4 x (List.mem_cons_of_mem _ (List.mem_append_left _ m))).trans (k3 x (List.mem_cons_of_mem _ (pmc.mem_iff.mpr (List.mem_append_right _ m))))) rw'
          have hh3 : ω3.H a = some (.lst vs) := (k4 a (by simp)).trans hh2
          have rs4 : RSs ω3 σ S2 s2 := rs3.mono E4.bb E4.ll fun x m => k4 x (List.mem_cons_of_mem _ (List.mem_append_right _ m))
          obtain ⟨hf, f', rs5, pm5, sb5⟩ := rs4.fill (i := i) hs (.ow hh3 rws)
          refine ⟨z, ω3.H, I2, rz2, r', _, ω3, fr, hf, rfl, ?_, rr, rs5, q3⟩
          have Eall : Ext ω fp ω3 (fr ++ (f1' ++ (a :: (c2 ++ s2)))) := (((E1.permR pm).permR List.perm_append_comm).trans (E3.permR pall)).trans E4
          have p2 : (fr ++ (f1' ++ (a :: (c2 ++ s2)))).Perm (fr ++ ((a :: hr) ++ s2)) := by
            refine List.Perm.append_left fr ?_
            have q1 : ((a :: hr) ++ s2).Perm ((a :: (f1' ++ c2)) ++ s2) := List.Perm.append_right _ (List.Perm.cons _ pmr)
            refine List.Perm.trans ?_ q1.symm
            rw [List.perm_iff_count]
            intro x
            simp only [List.count_append, List.count_cons]
            omega
          exact ((Eall.permR p2).sub (List.Sublist.append (List.Sublist.refl fr) (List.Sublist.append (List.Sublist.refl (a :: hr)) sb5))).permR (List.Perm.append_left _ pm5.symm)
        · exact q1.elim
      · exact q1.elim
    · exact q1.elim
/-! x[i] = e -/
abbrev PB := W → PyData → W → (W → Prop) → Prop
def PutS (X : Cx) (m : PB) : Prop := ∀ (ω : Wo) (f1 fu g : List Addr) (v : V) (w : W) (vi : V) (wi : PyData) (vu : V) (u : W) (Q : W → Prop), Wd ω (f1 ++ (fu ++ g)) → (∀ a ∈ g, ω.H a ≠ none) → RW ω v w f1 → Dq ω.H vi wi → RW ω vu u fu → m w wi u Q →
  ∀ (pins : List (Addr × Obj)) (s : Shared) (σ : L2.St) (ov iv nv : Value), Inv X pins σ ω.H s → RelV v ov → RelV vi iv → RelV vu nv → wpAny (model X.prog X.w) X.A (setItem ov iv nv) (fun _ s' => ∃ H', Inv X pins σ H' s' ∧
    ∃ ω' w' f1', ω'.H = H' ∧ Ext ω (f1 ++ (fu ++ g)) ω' (f1' ++ g) ∧ (∀ a ∈ g, ω'.H a = ω.H a) ∧ RW ω' v w' f1' ∧ Q w') X.xe s
def putM : PB := fun w i u Q => match w with
  | .ol xs => (match i, fzW u with
    | .int n, some x => (match ixN xs.length n with
      | some j => Q (.ol (xs.set j x))
      | none => False)
    | _, _ => False)
  | .od kvs => (match keyD i, fzW u with
    | some k, some x => kvs.length < sizeLine ∧ Q (.od (putP kvs k x))
    | _, _ => False)
  | .ow ws => (match i with
    | .int n => (match ixN ws.length n with
      | some j => Q (.ow (ws.set j u))
      | none => False)
    | _ => False)
  | _ => False
theorem KDp.any {B : Hp} {k : Key} {vs : List (Key × V)} {xs : List (Key × PyData)} (h : KDp B vs xs) : (vs.any fun kv => decide (kv.1 = k)) = xs.any fun kv => decide (kv.1 = k) := by
  have e : ∀ {α : Type} (l : List (Key × α)), (l.any fun kv => decide (kv.1 = k)) = (l.map (·.1)).any fun z => decide (z = k) := by
    intro α l
    rw [List.any_map]; rfl
  rw [e, e, h.1]
theorem KDp.put {B : Hp} {k : Key} {v : V} {x : PyData} (d : Dq B v x) {vs : List (Key × V)} {xs : List (Key × PyData)} (h : KDp B vs xs) : KDp B (putK vs k v) (putP xs k x) := by
  unfold putK putP
  rw [h.any]
  split
  · have go : ∀ {vs : List (Key × V)} {xs : List (Key × PyData)}, KDp B vs xs → KDp B (vs.map fun kv => if kv.1 = k then (kv.1, v) else kv) (xs.map fun kv => if kv.1 = k then (kv.1, x) else kv) := by
      intro vs xs h
      induction vs generalizing xs with
      | nil =>
        cases xs with
        | nil => exact h
        | cons _ _ => simp [KDp] at h
      | cons p vs ih =>
        cases xs with
        | nil => simp [KDp] at h
        | cons q xs =>
          obtain ⟨h1, h2⟩ := h
          rw [List.map_cons, List.map_cons] at h1 h2
          injection h1 with e1 e2
          cases h2 with
          | cons d2 t2 =>
            obtain ⟨i1, i2⟩ := ih ⟨e2, t2⟩
            rw [List.map_cons, List.map_cons]
            by_cases hk : p.1 = k
            · have hk' : q.1 = k := e1 ▸ hk
              rw [if_pos hk, if_pos hk']
              exact ⟨by rw [List.map_cons, List.map_cons, i1, e1], .cons d i2⟩
            · have hk' : ¬ q.1 = k := fun z => hk (e1.trans z)
              rw [if_neg hk, if_neg hk']
              exact ⟨by rw [List.map_cons, List.map_cons, i1, e1], .cons d2 i2⟩
    exact go h
  · obtain ⟨h1, h2⟩ := h
    refine ⟨by rw [List.map_append, List.map_append, h1]; rfl, ?_⟩
    rw [List.map_append, List.map_append]
    exact h2.append (.cons d .nil)
theorem ps_putM (hu : X.A.units + 1 < cLine) : PutS X putM := by
  intro ω f1 fu g v w vi wi vu u Q wd al r di ru q pins s σ ov iv nv I rv ri rn
  unfold putM at q
  split at q
  · rename_i xs
    split at q
    · rename_i n x ex
      split at q
      · rename_i j ej
        have al1 := r.alloc
        obtain ⟨v1, ω1, e1, hH, E, D⟩ := fz1 (vs := [vu]) (fv := fu ++ []) (by rw [List.append_nil]; exact wd) al al1 (.cons ru .nil) ex
        rw [List.append_nil] at E
        obtain rfl : vu = v1 := by simpa using e1
        cases r with | @ol a us _ hh t =>
        cases di
        have t' := t.mono E.bb
        obtain ⟨E2, k2, r2⟩ := wr_lst (xs := xs.set j x) (vs := us.set j vu) E.wd (t'.set D j)
        refine set_list pins s σ ω.H _ _ _ ov iv nv _ I rv ri rn ⟨a, us, n, j, rfl, rfl, hh, by rw [t.len]; exact ej, ?_⟩
        refine ⟨_, _, [a], ?_, E.trans E2, fun b m => (k2 b m).trans (congrFun hH b), r2, q⟩
        rw [← hH]
      · exact q.elim
    · exact q.elim
  · rename_i kvs
    split at q
    · rename_i k x ek ex
      obtain ⟨hz, q⟩ := q
      have al1 := r.alloc
      obtain ⟨v1, ω1, e1, hH, E, D⟩ := fz1 (vs := [vu]) (fv := fu ++ []) (by rw [List.append_nil]; exact wd) al al1 (.cons ru .nil) ex
      rw [List.append_nil] at E
      obtain rfl : vu = v1 := by simpa using e1
      cases r with | @od a us _ hh t =>
      have t' := t.mono E.bb
      have ey := keyD_V di ek
      subst ey
      have wd' : Wd ω1 (a :: g) := E.wd
      have E2 : Ext ω1 (a :: g) ⟨ω1.B, ω1.L, upd ω1.H a (.dK (putK us k vu))⟩ (a :: g) := Ext.put wd' (by simp)
      obtain rfl : ov = Value.ref a := rv
      have hk : ∀ b ∈ g, upd ω1.H a (.dK (putK us k vu)) b = ω.H b := fun b m => by
        rw [upd_ne (fun e => (List.nodup_cons.mp wd'.nd).1 (by rw [← e]; exact m)), hH]
      have goal : ∃ ω' w' f1', ω'.H = upd ω.H a (.dK (putK us k vu)) ∧ Ext ω ([a] ++ (fu ++ g)) ω' (f1' ++ g) ∧ (∀ b ∈ g, ω'.H b = ω.H b) ∧ RW ω' (.ref a) w' f1' ∧ Q w' :=
        ⟨⟨ω1.B, ω1.L, upd ω1.H a (.dK (putK us k vu))⟩, .od (putP kvs k x), [a], by rw [← hH], E.trans E2, hk, .od upd_same (t'.put D), q⟩
      exact d_setItem hu I (H' := upd ω.H a (.dK (putK us k vu))) (a := a) (y := kV k) (v := vu) (.inl ⟨us, k, hh, rfl, by rw [t.len]; exact hz, rfl⟩) ri rn (fun s' I' => ⟨_, I', goal⟩)
    · exact q.elim
  · rename_i ws
    split at q
    · rename_i n
      split at q
      · rename_i j ej
        cases r with | @ow a vs _ f hh t =>
        cases di
        have hj : j < ws.length := (ixN_seq ej).2.1
        obtain ⟨w0, ew⟩ : ∃ w0, ws[j]? = some w0 := ⟨ws[j], by simp [hj]⟩
        have hn : ∀ b ∈ f ++ (fu ++ g), b ≠ a := fun b m e => by subst e; exact (List.nodup_cons.mp wd.nd).1 m
        have setR : ∀ {vs : List V} {ws : List W} {f : List Addr} {j : Nat}, RWs ω vs ws f → j < ws.length → ∃ h f', RWs ω (vs.set j vu) (ws.set j u) h ∧ h.Perm (fu ++ f') ∧ f'.Sublist f := by
          intro vs ws f j r
          induction vs generalizing ws f j with
          | nil => cases r; intro h; simp at h
          | cons v vs ih =>
            cases r with
            | @cons _ w0 f0 g0 _ ws0 p q =>
              cases j with
              | zero => intro _; exact ⟨_, _, .cons ru q, List.Perm.refl _, List.sublist_append_right _ _⟩
              | succ j =>
                intro h
                obtain ⟨h1, f1, r1, p1, s1⟩ := ih q (j := j) (by simpa using h)
                refine ⟨f0 ++ h1, f0 ++ f1, .cons p r1, ?_, List.Sublist.append (List.Sublist.refl _) s1⟩
                refine (List.Perm.append_left f0 p1).trans ?_
                rw [← List.append_assoc, ← List.append_assoc]
                exact List.Perm.append_right _ List.perm_append_comm
        obtain ⟨h1, f', r1, p1, s1⟩ := setR t hj
        refine set_list pins s σ ω.H _ _ _ ov iv nv _ I rv ri rn ⟨a, vs, n, j, rfl, rfl, hh, by rw [t.length]; exact ej, ?_⟩
        have kk : ∀ b ∈ h1, (⟨ω.B, ω.L, upd ω.H a (.lst (vs.set j vu))⟩ : Wo).H b = ω.H b := fun b m => upd_ne (hn b (by
          rcases List.mem_append.mp (p1.mem_iff.mp m) with m | m
          · exact List.mem_append_right _ (List.mem_append_left _ m)
          · exact List.mem_append_left _ (s1.subset m)))
        refine ⟨⟨ω.B, ω.L, upd ω.H a (.lst (vs.set j vu))⟩, _, a :: h1, rfl, ?_, fun b m => upd_ne (hn b (List.mem_append_right _ (List.mem_append_right _ m))), .ow upd_same (RWs.mono (ω := ω) (ω' := ⟨ω.B, ω.L, upd ω.H a (.lst (vs.set j vu))⟩) (Le.refl _) (Le.refl _) r1 kk), q⟩
        have E0 : Ext ω ((a :: f) ++ (fu ++ g)) ω ((a :: h1) ++ g) := by
          have p2 : ((a :: f) ++ (fu ++ g)).Perm ((a :: (fu ++ f)) ++ g) := by
            rw [List.perm_iff_count]; intro x
            simp only [List.count_append, List.count_cons]; omega
          have E1 := ((Ext.refl wd).permR p2).sub (List.Sublist.append (List.Sublist.cons_cons a (List.Sublist.append (List.Sublist.refl fu) s1)) (List.Sublist.refl g))
          exact E1.permR (List.Perm.append_right _ (List.Perm.cons _ p1.symm))
        exact E0.trans (Ext.put E0.wd (by simp))
      · exact q.elim
    · exact q.elim
  · exact q.elim
def putT (i : Nat) (tu ti : TW) (m : PB) : TSt := fun D S => tu S fun u S0 => match gt S0 i with
  | none => False
  | some _ => ti S0 fun k S1 => match gt S1 i, rdW k with
    | some w, some x => m w x u fun w' => D.nx (st S1 i (some w'))
    | _, _ => False
theorem subAssign {oo i : Expr} {env : Env} {pos : Pos} (h : PlainIx i) (hi : ∀ l u p, i ≠ .Slice l u none p) : ∀ v, assign (.Subscript oo i pos) env v = (do
      let ov ← holding [v] (eval oo env)
      let iv ← holding [v, ov] (eval i env)
      standAt pos
      holding [v, ov, iv] (setItem ov iv v)
      release [v, ov, iv] []) := by
  intro v
  cases i <;> first | rfl | skip
  rename_i l u st p
  cases st with
  | none => exact absurd rfl (hi l u p)
  | some _ => rfl
theorem ss_put {i : Nat} {x k v : Expr} {tu ti : TW} {m : PB} {A : List Nat} {pos pos' : Pos} (hv : PE X x (tVar i)) (hm : PutS X m) (hval : SE X o v tu) (hk : SE X o k ti) (hix : PlainIx k) (hsl : ∀ l u p, k ≠ .Slice l u none p) (hs : swapsWithSole [.Subscript x k pos'] v pos.line X.env = pure false) (hw : swappedStores [.Subscript x k pos'] v X.env = pure none) :
    SS X o (.Assign [.Subscript x k pos'] v pos) A (putT i tu ti m) := by
  intro σ S ω fp D wd rs q
  refine useS (ps_asg (pE v) (pg_sub hv (pE k) (t := fun o i v H Q => ∀ (pins : List (Addr × Obj)) (s : Shared) (σ : L2.St) (ov iv u : Value), Inv X pins σ H s → RelV o ov → RelV i iv → RelV v u → wpAny (model X.prog X.w) X.A (setItem ov iv u) (fun _ s' => ∃ H', Inv X pins σ H' s' ∧ Q H') X.xe s)
    (fun pins s σ H oo ii vv ov iv u Q I r1 r2 r3 h => h pins s σ ov iv u I r1 r2 r3) (subAssign hix hsl)) hs hw rfl) (wE.mono (hval σ S ω fp _ wd rs q) ?_)
  rintro vu H' ⟨u, S0, ω0, fu, fs, rfl, E, ru, rs0, q0⟩
  cases hg : gt S0 i with
  | none => simp only [hg] at q0
  | some w0 =>
    simp only [hg] at q0
    obtain ⟨vx, _, _, hs0, _, _, _⟩ := rs0.split hg
    have pm : (fu ++ fs).Perm (fs ++ fu) := List.perm_append_comm
    have wds : In o ω0 fs := (wd.trans E).sub (List.sublist_append_right _ _)
    refine ⟨vx, hs0, wE.mono (hk σ S0 ω0 fs _ wds rs0 q0) ?_⟩
    rintro vi H1 ⟨k', S1, ω1, fk, s1, rfl, E1, rk, rs1, q1⟩
    obtain ⟨E2, k2⟩ := E1.frame (g := fu) (E.wd.perm pm).nd (fun x m => E.wd.dis x (List.mem_append_left _ m)) ru.alloc
    have ru1 : RW ω1 vu u fu := ru.mono E1.bb E1.ll k2
    split at q1
    · rename_i w x' eg er
      obtain ⟨v', f1, f2, hs', r, rs2, pm2⟩ := rs1.split eg
      rw [hs0] at hs'
      obtain rfl := Option.some.inj (Option.some.inj hs')
      have di := rk.rd E1.wd er
      have p3 : ((fk ++ s1) ++ fu).Perm (fk ++ (f1 ++ (fu ++ f2))) := by
        refine (List.Perm.append_right fu (List.Perm.append_left fk pm2)).trans ?_
        rw [List.perm_iff_count]; intro x
        simp only [List.count_append]; omega
      have E3 : Ext ω fp ω1 (f1 ++ (fu ++ f2)) := ((E.permR pm).trans (E2.permR p3)).dropL
      intro pins s σ' ov iv nv I rv ri rn
      refine thn (hm ω1 f1 fu f2 vx w vi x' vu u _ E3.wd rs2.alloc r di ru1 q1 pins s σ' ov iv nv I rv ri rn) ?_
      rintro _ s2 ⟨H', I2, ω2, w', f1', rfl, E4, k4, rw', q2⟩
      have rs3 : RSs ω2 σ (st S1 i none) f2 := rs2.mono E4.bb E4.ll k4
      obtain ⟨h, f', rs4, pm4, sb4⟩ := rs3.fill (i := i) hs0 rw'
      rw [st_st] at rs4
      refine ⟨ω2.H, I2, _, ω2, h, rfl, ?_, rs4, Keep.refl _ _, q2⟩
      exact ((E3.trans E4).sub (List.Sublist.append (List.Sublist.refl f1') sb4)).permR pm4.symm
    · exact q1.elim
end
end MV

namespace MV
open PySem PySem.Spec PyProof.Rows L2

/-! ### comprehensions -/
def kills : List Nat → WSt → WSt
  | [], S => S
  | i :: r, S => st (kills r S) i none
def rst : List Nat → WSt → WSt → WSt
  | [], _, S => S
  | i :: r, S0, S => match gt S0 i with
    | some (.d x) => st (rst r S0 S) i (some (.d x))
    | _ => rst r S0 S
def compL (own : List Nat) (g : TGt) (tt : Option TW) (te : TW) (chk : WSt → Prop) : List W → List PyData → WSt → (List PyData → WSt → Prop) → Prop
  | [], acc, S, Q => Q acc S
  | w :: r, acc, S, Q => g w S fun S1 =>
      let goOn : WSt → Prop := fun S2 => te S2 fun y S3 => match fzW y with
        | some d => acc.length < sizeLine ∧ chk (kills own S3) ∧ compL own g tt te chk r (acc ++ [d]) (kills own S3) Q
        | none => False
      match tt with
      | none => goOn S1
      | some tc => tst tc S1 fun b S2 => match b with
        | true => goOn S2
        | false => chk (kills own S2) ∧ compL own g tt te chk r acc (kills own S2) Q
section
variable (X : Cx) (scope : Scope)
def bG (tg : Expr) : TG := fun v σ H Q => ∀ (s : Shared) (H0 : Hp) (C : Addr) (cl : List (Str × Addr)) (fp : List Addr), wG (X.blk s H0 scope (compEnvC scope cl C X.env) fp) tg v σ H Q
def bT (c : Expr) : TT := fun σ H Q => ∀ (s : Shared) (H0 : Hp) (C : Addr) (cl : List (Str × Addr)) (fp : List Addr), wT (X.blk s H0 scope (compEnvC scope cl C X.env) fp) c σ H Q
def bE (e : Expr) : TE := fun σ H Q => ∀ (s : Shared) (H0 : Hp) (C : Addr) (cl : List (Str × Addr)) (fp : List Addr), wE (X.blk s H0 scope (compEnvC scope cl C X.env) fp) e σ H Q
end
theorem wipe_get {σ : L2.St} {i : Nat} : ∀ {own : List Nat}, i ∉ own → (wipe σ own)[i]? = σ[i]?
  | [], _ => rfl
  | j :: r, h => by
    show ((wipe σ r).set j none)[i]? = _
    rw [List.getElem?_set_ne (fun e => h (by rw [e]; exact List.mem_cons_self))]
    exact wipe_get fun m => h (List.mem_cons_of_mem _ m)
theorem wipe_at {σ : L2.St} {i : Nat} (hi : i < σ.length) : ∀ {own : List Nat}, i ∈ own → (wipe σ own)[i]? = some none
  | j :: r, h => by
    show ((wipe σ r).set j none)[i]? = _
    by_cases e : j = i
    · subst e; rw [List.getElem?_set_self (by rw [wipe_length]; exact hi)]
    · rw [List.getElem?_set_ne e]
      rcases List.mem_cons.mp h with q | q
      · exact absurd q.symm e
      · exact wipe_at hi q
theorem wipe_eq {σ σ' : L2.St} {own : List Nat} (hl : σ'.length = σ.length) (k : Keep own σ σ') : wipe σ' own = wipe σ own := by
  apply List.ext_getElem?
  intro i
  by_cases m : i ∈ own
  · by_cases hi : i < σ.length
    · rw [wipe_at hi m, wipe_at (by rw [hl]; exact hi) m]
    · rw [List.getElem?_eq_none (by rw [wipe_length]; omega), List.getElem?_eq_none (by rw [wipe_length]; omega)]
  · rw [wipe_get m, wipe_get m, k.2 i m]
theorem wipe_wipe (σ : L2.St) (own : List Nat) : wipe (wipe σ own) own = wipe σ own := wipe_eq (wipe_length _ _) ⟨wipe_length _ _, fun i n => wipe_get n⟩
theorem RSs.congr {ω : Wo} : ∀ {σ σ' : L2.St} {S : WSt} {f : List Addr}, RSs ω σ S f → σ'.length = σ.length → (∀ i, gt S i ≠ none → σ'[i]? = σ[i]?) → RSs ω σ' S f := by
  intro σ σ' S f r hl h
  induction r generalizing σ' with
  | nil =>
    cases σ' with
    | nil => exact .nil
    | cons _ _ => simp at hl
  | dead t ih =>
    cases σ' with
    | nil => simp at hl
    | cons v r => exact .dead (ih (by simpa using hl) fun i n => by simpa using h (i + 1) n)
  | live a t ih =>
    cases σ' with
    | nil => simp at hl
    | cons v r =>
      have e := h 0 (by simp [gt])
      simp at e
      subst e
      exact .live a (ih (by simpa using hl) fun i n => by simpa using h (i + 1) n)
theorem gt_st_ne : ∀ {S : WSt} {i j : Nat} {w : Option W}, i ≠ j → gt (st S i w) j = gt S j
  | [], _, _, _, _ => rfl
  | _ :: _, 0, 0, _, h => absurd rfl h
  | _ :: _, 0, _ + 1, _, _ => rfl
  | _ :: _, _ + 1, 0, _, _ => rfl
  | _ :: S, i + 1, j + 1, w, h => gt_st_ne (S := S) (fun e => h (congrArg (· + 1) e))
theorem gt_st_same : ∀ {S : WSt} {i : Nat} {w : Option W}, gt (st S i w) i = none ∨ gt (st S i w) i = w
  | [], _, _ => .inl rfl
  | _ :: _, 0, _ => .inr rfl
  | _ :: S, i + 1, w => gt_st_same (S := S)
theorem gt_kills {S : WSt} {i : Nat} : ∀ {own : List Nat}, i ∈ own → gt (kills own S) i = none
  | j :: r, h => by
    show gt (st (kills r S) j none) i = none
    by_cases e : j = i
    · subst e
      rcases gt_st_same (S := kills r S) (i := j) (w := none) with q | q <;> exact q
    · rw [gt_st_ne e]
      rcases List.mem_cons.mp h with q | q
      · exact absurd q.symm e
      · exact gt_kills q
theorem gt_kills_ne {S : WSt} {i : Nat} : ∀ {own : List Nat}, i ∉ own → gt (kills own S) i = gt S i
  | [], _ => rfl
  | j :: r, h => by
    show gt (st (kills r S) j none) i = _
    rw [gt_st_ne (fun e => h (by rw [e]; exact List.mem_cons_self))]
    exact gt_kills_ne fun m => h (List.mem_cons_of_mem _ m)
theorem RSs.kills {ω : Wo} {σ : L2.St} {S : WSt} {f : List Addr} (r : RSs ω σ S f) : ∀ own : List Nat, ∃ f', RSs ω σ (kills own S) f' ∧ f'.Sublist f
  | [] => ⟨f, r, List.Sublist.refl _⟩
  | i :: own => by
    obtain ⟨f1, r1, s1⟩ := RSs.kills r own
    obtain ⟨f2, r2, s2⟩ := r1.kill i
    exact ⟨f2, r2, s2.trans s1⟩
theorem RSs.wiped {ω : Wo} {σ : L2.St} {S : WSt} {f : List Addr} (r : RSs ω σ S f) (own : List Nat) : ∃ f', RSs ω (wipe σ own) (MV.kills own S) f' ∧ f'.Sublist f := by
  obtain ⟨f1, r1, s1⟩ := r.kills own
  exact ⟨f1, r1.congr (wipe_length _ _) fun i n => wipe_get fun m => n (gt_kills m), s1⟩
theorem RSs.unwiped {ω : Wo} {σ : L2.St} {S : WSt} {f : List Addr} {own : List Nat} (r : RSs ω (wipe σ own) S f) (h : ∀ i ∈ own, gt S i = none) : RSs ω σ S f :=
  r.congr (wipe_length _ _).symm fun i n => (wipe_get fun m => n (h i m)).symm
theorem RSs.rst {ω ω0 : Wo} {σ : L2.St} {S0 S : WSt} {f0 f : List Addr} (r : RSs ω σ S f) (r0 : RSs ω0 σ S0 f0) (hB : Le ω0.B ω.B) : ∀ own : List Nat, ∃ h f', RSs ω σ (rst own S0 S) h ∧ h.Perm f' ∧ f'.Sublist f
  | [] => ⟨f, f, r, List.Perm.refl _, List.Sublist.refl _⟩
  | i :: own => by
    obtain ⟨h1, f1, r1, p1, s1⟩ := RSs.rst r r0 hB own
    unfold MV.rst
    split
    · rename_i x e
      obtain ⟨v, g1, g2, hs, rw', _, _⟩ := r0.split e
      cases rw' with | d d1 =>
      obtain ⟨h2, f2, r2, p2, s2⟩ := r1.fill (i := i) hs (.d (d1.mono hB))
      obtain ⟨f3, p3, s3⟩ := List.exists_perm_sublist s2 p1
      exact ⟨h2, f3, r2, p2.trans (by simpa using p3.symm), s3.trans s1⟩
    · exact ⟨h1, f1, r1, p1, s1⟩

section
variable {X : Cx} {o : Og}
/-- a test's part: none, or one -/
inductive IfOk (X : Cx) (o : Og) (scope : Scope) : List Expr → Option TW → Prop
  | none : IfOk X o scope [] none
  | one {c : Expr} {tc : TW} (h : ∀ (s : Shared) (H0 : Hp) (C : Addr) (cl : List (Str × Addr)) (fp : List Addr), ST (X.blk s H0 scope (compEnvC scope cl C X.env) fp) o c (tst tc)) : IfOk X o scope [c] (some tc)
def bTs (X : Cx) (scope : Scope) : List Expr → TT
  | [] => tYes
  | c :: _ => bT X scope c
theorem IfOk.pts {scope : Scope} {ifs : List Expr} {tt : Option TW} (h : IfOk X o scope ifs tt) : ∀ (s : Shared) (H0 : Hp) (C : Addr) (cl : List (Str × Addr)) (fp : List Addr), PTs (X.blk s H0 scope (compEnvC scope cl C X.env) fp) ifs (bTs X scope ifs) := by
  cases h with
  | none => intro _ _ _ _ _; exact pts_nil
  | one h => intro s H0 C cl fp; exact pts_one ⟨fun pins s' σ H Q I q => q s H0 C cl fp pins s' I⟩
theorem comp_core {scope : Scope} {tg elt : Expr} {ifs : List Expr} {own : List Nat} {g : TGt} {tt : Option TW} {te : TW} {J : It} {ws : List W} {chk : WSt → Prop} {G : Wo → List Addr → L2.St → WSt → Prop}
    (hg : ∀ (s : Shared) (H0 : Hp) (C : Addr) (cl : List (Str × Addr)) (fp : List Addr), SG (X.blk s H0 scope (compEnvC scope cl C X.env) fp) o tg own g) (ht : IfOk X o scope ifs tt)
    (he : ∀ (s : Shared) (H0 : Hp) (C : Addr) (cl : List (Str × Addr)) (fp : List Addr), SE (X.blk s H0 scope (compEnvC scope cl C X.env) fp) o elt te) (hJ : JOk J ws G)
    {σ : L2.St} {S : WSt} {ω : Wo} {fp : List Addr} {Q : QW} {D : Addr} (wd : In o ω fp) (rs : RSs ω σ S fp) (hG : ∀ S' ω' fs, Ext ω fp ω' fs → RSs ω' (wipe σ own) S' fs → chk S' → G ω' fs (wipe σ own) S') (c0 : chk (kills own S)) (hD : ω.H D = none)
    (q : compL own g tt te chk ws [] (kills own S) (fun acc S' => Q (.ol acc) (rst own S S'))) :
    ∃ W' : Nat → Nat → Hp → Prop, (∃ m, W' 0 m (upd ω.H D (.lst []))) ∧ ∀ i m H1, W' i m H1 →
      (J.stop i H1 ∧ PostE ω fp σ Q (.ref D) H1) ∨ (J.go i H1 ∧ ∃ Nx : Hp → Prop, (∀ H', Nx H' → ∃ m', m' < m ∧ W' (i + 1) m' H') ∧ ∀ x H', J.yld i H1 x H' → bG X scope tg x (wipe σ own) H' fun σ2 H2 => wipe σ2 own = wipe σ own ∧ bTs X scope ifs σ2 H2 fun b H3 =>
        if b = true then bE X scope elt σ2 H3 fun y H4 => ∃ acc, H4 D = some (.lst acc) ∧ acc.length < sizeLine ∧ Nx (upd H4 D (.lst (acc ++ [y]))) else Nx H3) := by
  let Inv' : List W → Hp → Prop := fun r H1 => ∃ S1 ω1 f1 acc vs, ω1.H = H1 ∧ Ext ω fp ω1 (D :: f1) ∧ RSs ω1 (wipe σ own) S1 f1 ∧ (∀ i ∈ own, gt S1 i = none) ∧ ω1.H D = some (.lst vs) ∧ DqAll ω1.B vs acc ∧ chk S1 ∧ compL own g tt te chk r acc S1 (fun acc S' => Q (.ol acc) (rst own S S'))
  obtain ⟨f0, rs0, sb0⟩ := rs.wiped own
  have al0 := rs.alloc
  refine ⟨fun i m H1 => m = ws.length - i ∧ i ≤ ws.length ∧ Inv' (ws.drop i) H1, ⟨ws.length, by simp, Nat.zero_le _, ?_⟩, ?_⟩
  · have E := Ext.own (o := .lst []) wd.wd al0 hD
    have g0 : Gr ω.H (upd ω.H D (.lst [])) := fun a o e => le_upd_new hD a o e
    have rs0' : RSs ⟨ω.B, ω.L, upd ω.H D (.lst [])⟩ (wipe σ own) (kills own S) f0 := RSs.mono (ω := ω) (ω' := ⟨ω.B, ω.L, upd ω.H D (.lst [])⟩) (Le.refl _) (Le.refl _) rs0 (g0.same rs0.alloc)
    exact ⟨kills own S, _, f0, [], [], rfl, E.sub (List.Sublist.cons_cons D sb0), rs0', fun i m => gt_kills m, upd_same, .nil, c0, q⟩
  rintro i m H1 ⟨rfl, hi, S1, ω1, f1, acc, vs, rfl, E1, rs1, dead1, hD1, dq1, c1, q1⟩
  have E1s : Ext ω fp ω1 f1 := E1.sub (List.sublist_cons_self _ _)
  have hgood := hJ i (wipe σ own) S1 ω1 f1 E1s.wd rs1 (hG S1 ω1 f1 E1s rs1 c1)
  by_cases hlt : i < ws.length
  · obtain ⟨w, hw⟩ : ∃ w, ws[i]? = some w := ⟨ws[i], by simp [hlt]⟩
    obtain ⟨hgo, hy⟩ := hgood.1 w hw
    have hd : ws.drop i = w :: ws.drop (i + 1) := by
      rw [List.drop_eq_getElem_cons hlt]
      obtain ⟨h1, h2⟩ := List.getElem?_eq_some_iff.mp hw
      rw [h2]
    rw [hd] at q1
    refine .inr ⟨hgo, Inv' (ws.drop (i + 1)), fun H' h => ⟨ws.length - (i + 1), by omega, rfl, hlt, h⟩, fun x H' hx => ?_⟩
    obtain ⟨ω2, rfl, E2, g2, r2⟩ := hy x H' hx
    -- D beside
    have ndD : (f1 ++ [D]).Nodup := (E1.wd.perm (List.perm_append_singleton D f1).symm).nd
    have lD : ∀ x ∈ [D], ω1.L x = none := fun x m => E1.wd.dis x (by simp at m; simp [m])
    have aD : ∀ x ∈ [D], ω1.H x ≠ none := fun x m => by simp at m; subst m; rw [hD1]; simp
    obtain ⟨E2D, k2D⟩ := E2.frame (g := [D]) ndD lD aD
    have E12 : Ext ω fp ω2 (f1 ++ [D]) := (E1.permR (List.perm_append_singleton D f1).symm).trans E2D
    have hD2 : ω2.H D = some (.lst vs) := (k2D D (by simp)).trans hD1
    have rs2 : RSs ω2 (wipe σ own) S1 f1 := rs1.mono E2.bb E2.ll (g2.same rs1.alloc)
    intro s H0 C cl fpb
    refine wG.mono (hg s H0 C cl fpb x w [] (wipe σ own) S1 ω2 f1 _ (wd.trans (E12.sub (List.sublist_append_left _ _))) r2 rs2 q1) ?_
    rintro σ3 H3 ⟨S3, ω3, f3, rfl, E3, rs3, k3, q3⟩
    have wq : wipe σ3 own = wipe σ own := by rw [wipe_eq k3.1 k3, wipe_wipe]
    refine ⟨wq, ?_⟩
    have nd3 : (f1 ++ [D]).Nodup := E12.wd.nd
    obtain ⟨E3D, k3D⟩ := Ext.frame (g := [D]) (show Ext ω2 f1 ω3 f3 from E3) nd3 (fun x m => E12.wd.dis x (List.mem_append_right _ m)) (fun x m => by simp at m; subst m; rw [hD2]; simp)
    have E13 : Ext ω fp ω3 (f3 ++ [D]) := E12.trans E3D
    have hD3 : ω3.H D = some (.lst vs) := (k3D D (by simp)).trans hD2
    have dq3 : DqAll ω3.B vs acc := DqAll.mono (E2.bb.trans E3.bb) dq1
    -- the element
    have elem : ∀ (S5 : WSt) (ω5 : Wo) (f5 : List Addr), Ext ω fp ω5 (f5 ++ [D]) → RSs ω5 σ3 S5 f5 → ω5.H D = some (.lst vs) → DqAll ω5.B vs acc →
        (te S5 fun y S3 => match fzW y with
          | some d => acc.length < sizeLine ∧ chk (kills own S3) ∧ compL own g tt te chk (ws.drop (i + 1)) (acc ++ [d]) (kills own S3) (fun acc S' => Q (.ol acc) (rst own S S'))
          | none => False) → bE X scope elt σ3 ω5.H fun y H4 => ∃ acc, H4 D = some (.lst acc) ∧ acc.length < sizeLine ∧ Inv' (ws.drop (i + 1)) (upd H4 D (.lst (acc ++ [y]))) := by
      intro S5 ω5 f5 E5 rs5 hD5 dq5 q5 s H0 C cl fpb
      refine wE.mono (he s H0 C cl fpb σ3 S5 ω5 f5 _ (wd.trans (E5.sub (List.sublist_append_left _ _))) rs5 q5) ?_
      rintro y H4 ⟨wy, S6, ω6, fv, f6, rfl, E6, r6, rs6, q6⟩
      cases ez : fzW wy with
      | none => simp only [ez] at q6
      | some d =>
        simp only [ez] at q6
        obtain ⟨hz, c6, q6⟩ := q6
        obtain ⟨E6D, k6D⟩ := Ext.frame (g := [D]) E6 E5.wd.nd (fun x m => E5.wd.dis x (List.mem_append_right _ m)) (fun x m => by simp at m; subst m; rw [hD5]; simp)
        have hD6 : ω6.H D = some (.lst vs) := (k6D D (by simp)).trans hD5
        have E16 : Ext ω fp ω6 (fv ++ f6 ++ [D]) := E5.trans E6D
        have wd6 : Wd ω6 (fv ++ (f6 ++ [D])) := by rw [← List.append_assoc]; exact E16.wd
        obtain ⟨ω7, hH7, E7, D7⟩ := r6.freeze ez wd6 (fun x m => by
          rcases List.mem_append.mp m with m | m
          · exact rs6.alloc x m
          · simp at m; subst m; rw [hD6]; simp)
        have E17 : Ext ω fp ω7 (f6 ++ [D]) := (by rw [List.append_assoc] at E16; exact E16 : Ext ω fp ω6 (fv ++ (f6 ++ [D]))).trans E7
        refine ⟨vs, hD6, by rw [dq5.len]; exact hz, ?_⟩
        have rs7 : RSs ω7 σ3 S6 f6 := rs6.mono E7.bb E7.ll fun x _ => by rw [hH7]
        have E8 : Ext ω7 (f6 ++ [D]) ⟨ω7.B, ω7.L, upd ω7.H D (.lst (vs ++ [y]))⟩ (f6 ++ [D]) := Ext.put E17.wd (by simp)
        have ndD7 := List.nodup_append.mp E17.wd.nd
        have k8 : ∀ x ∈ f6, upd ω7.H D (.lst (vs ++ [y])) x = ω7.H x := fun x m => upd_ne fun e => ndD7.2.2 x m D (by simp) e
        have rs8 : RSs ⟨ω7.B, ω7.L, upd ω7.H D (.lst (vs ++ [y]))⟩ σ3 S6 f6 := RSs.mono (ω := ω7) (ω' := ⟨ω7.B, ω7.L, upd ω7.H D (.lst (vs ++ [y]))⟩) (Le.refl _) (Le.refl _) rs7 k8
        obtain ⟨f9, rs9, s9⟩ := rs8.wiped own
        rw [wq] at rs9
        refine ⟨kills own S6, ⟨ω7.B, ω7.L, upd ω7.H D (.lst (vs ++ [y]))⟩, f9, acc ++ [d], vs ++ [y], by rw [← hH7], ?_, rs9, fun i m => gt_kills m, upd_same, ?_, c6, q6⟩
        · exact (((E17.trans E8).permR (List.perm_append_singleton D f6))).sub (List.Sublist.cons_cons D s9)
        · exact (DqAll.mono (E6.bb.trans E7.bb) dq5).append (.cons D7 .nil)
    cases ht with
    | none => exact elem S3 ω3 f3 E13 rs3 hD3 dq3 q3
    | @one c tc hc =>
      show bT X scope c σ3 ω3.H _
      intro s H0 C cl fpb
      refine wT.mono (hc s H0 C cl fpb σ3 S3 ω3 f3 _ (wd.trans (E13.sub (List.sublist_append_left _ _))) rs3 q3) ?_
      rintro b H4 ⟨S4, ω4, f4, rfl, E4, rs4, q4⟩
      obtain ⟨E4D, k4D⟩ := Ext.frame (g := [D]) E4 E13.wd.nd (fun x m => E13.wd.dis x (List.mem_append_right _ m)) (fun x m => by simp at m; subst m; rw [hD3]; simp)
      have hD4 : ω4.H D = some (.lst vs) := (k4D D (by simp)).trans hD3
      have E14 : Ext ω fp ω4 (f4 ++ [D]) := E13.trans E4D
      have dq4 := DqAll.mono E4.bb dq3
      cases b with
      | true => exact elem S4 ω4 f4 E14 rs4 hD4 dq4 q4
      | false =>
        obtain ⟨f9, rs9, s9⟩ := rs4.wiped own
        rw [wq] at rs9
        exact ⟨kills own S4, ω4, f9, acc, vs, rfl, (E14.permR (List.perm_append_singleton D f4)).sub (List.Sublist.cons_cons D s9), rs9, fun i m => gt_kills m, hD4, dq4, q4.1, q4.2⟩
  · have e : i = ws.length := by omega
    subst e
    rw [List.drop_length] at q1
    refine .inl ⟨hgood.2 (Nat.le_refl _), ?_⟩
    have rsU : RSs ω1 σ S1 f1 := rs1.unwiped dead1
    obtain ⟨h, f', rsR, pR, sR⟩ := rsU.rst rs E1.bb own
    exact ⟨.ol acc, _, ω1, [D], h, rfl, (E1.sub (List.Sublist.cons_cons D sR)).permR (List.Perm.cons D pR.symm), .ol hD1 dq1, rsR, q1⟩
end
end MV

namespace MV
open PySem PySem.Spec PyProof.Rows L2

def compLO (own : List Nat) (g : TGt) (tt : Option TW) (te : TW) (chk : WSt → Prop) : List W → List W → WSt → (List W → WSt → Prop) → Prop
  | [], acc, S, Q => Q acc S
  | w :: r, acc, S, Q => g w S fun S1 =>
      let goOn : WSt → Prop := fun S2 => te S2 fun y S3 => acc.length < sizeLine ∧ chk (kills own S3) ∧ compLO own g tt te chk r (acc ++ [y]) (kills own S3) Q
      match tt with
      | none => goOn S1
      | some tc => tst tc S1 fun b S2 => match b with
        | true => goOn S2
        | false => chk (kills own S2) ∧ compLO own g tt te chk r acc (kills own S2) Q
theorem RWs.snoc {ω : Wo} {v : V} {w : W} {fv : List Addr} (r : RW ω v w fv) : ∀ {vs : List V} {ws : List W} {f : List Addr}, RWs ω vs ws f → RWs ω (vs ++ [v]) (ws ++ [w]) (f ++ fv) := by
  intro vs ws f h
  induction vs generalizing ws f with
  | nil => cases h; simpa using RWs.cons r RWs.nil
  | cons a vs ih => cases h with | cons p q => rw [List.append_assoc]; exact .cons p (ih q)
section
variable {X : Cx} {o : Og}
theorem comp_coreO {scope : Scope} {tg elt : Expr} {ifs : List Expr} {own : List Nat} {g : TGt} {tt : Option TW} {te : TW} {J : It} {ws : List W} {chk : WSt → Prop} {G : Wo → List Addr → L2.St → WSt → Prop}
    (hg : ∀ (s : Shared) (H0 : Hp) (C : Addr) (cl : List (Str × Addr)) (fp : List Addr), SG (X.blk s H0 scope (compEnvC scope cl C X.env) fp) o tg own g) (ht : IfOk X o scope ifs tt)
    (he : ∀ (s : Shared) (H0 : Hp) (C : Addr) (cl : List (Str × Addr)) (fp : List Addr), SE (X.blk s H0 scope (compEnvC scope cl C X.env) fp) o elt te) (hJ : JOk J ws G)
    {σ : L2.St} {S : WSt} {ω : Wo} {fp : List Addr} {Q : QW} {D : Addr} (wd : In o ω fp) (rs : RSs ω σ S fp) (hG : ∀ S' ω' fs, Ext ω fp ω' fs → RSs ω' (wipe σ own) S' fs → chk S' → G ω' fs (wipe σ own) S') (c0 : chk (kills own S)) (hD : ω.H D = none)
    (q : compLO own g tt te chk ws [] (kills own S) (fun acc S' => Q (.ow acc) (rst own S S'))) :
    ∃ W' : Nat → Nat → Hp → Prop, (∃ m, W' 0 m (upd ω.H D (.lst []))) ∧ ∀ i m H1, W' i m H1 →
      (J.stop i H1 ∧ PostE ω fp σ Q (.ref D) H1) ∨ (J.go i H1 ∧ ∃ Nx : Hp → Prop, (∀ H', Nx H' → ∃ m', m' < m ∧ W' (i + 1) m' H') ∧ ∀ x H', J.yld i H1 x H' → bG X scope tg x (wipe σ own) H' fun σ2 H2 => wipe σ2 own = wipe σ own ∧ bTs X scope ifs σ2 H2 fun b H3 =>
        if b = true then bE X scope elt σ2 H3 fun y H4 => ∃ acc, H4 D = some (.lst acc) ∧ acc.length < sizeLine ∧ Nx (upd H4 D (.lst (acc ++ [y]))) else Nx H3) := by
  let Inv' : List W → Hp → Prop := fun r H1 => ∃ S1 ω1 f1 acc vs fa, ω1.H = H1 ∧ Ext ω fp ω1 (f1 ++ (D :: fa)) ∧ RSs ω1 (wipe σ own) S1 f1 ∧ (∀ i ∈ own, gt S1 i = none) ∧ ω1.H D = some (.lst vs) ∧ RWs ω1 vs acc fa ∧ chk S1 ∧ compLO own g tt te chk r acc S1 (fun acc S' => Q (.ow acc) (rst own S S'))
  obtain ⟨f0, rs0, sb0⟩ := rs.wiped own
  have al0 := rs.alloc
  refine ⟨fun i m H1 => m = ws.length - i ∧ i ≤ ws.length ∧ Inv' (ws.drop i) H1, ⟨ws.length, by simp, Nat.zero_le _, ?_⟩, ?_⟩
  · have E := Ext.own (o := .lst []) wd.wd al0 hD
    have g0 : Gr ω.H (upd ω.H D (.lst [])) := fun a o e => le_upd_new hD a o e
    have rs0' : RSs ⟨ω.B, ω.L, upd ω.H D (.lst [])⟩ (wipe σ own) (kills own S) f0 := RSs.mono (ω := ω) (ω' := ⟨ω.B, ω.L, upd ω.H D (.lst [])⟩) (Le.refl _) (Le.refl _) rs0 (g0.same rs0.alloc)
    exact ⟨kills own S, _, f0, [], [], [], rfl, (E.sub (List.Sublist.cons_cons D sb0)).permR (List.perm_append_singleton D f0).symm, rs0', fun i m => gt_kills m, upd_same, .nil, c0, q⟩
  rintro i m H1 ⟨rfl, hi, S1, ω1, f1, acc, vs, fa, rfl, E1, rs1, dead1, hD1, dq1, c1, q1⟩
  have E1s : Ext ω fp ω1 f1 := E1.sub (List.sublist_append_left _ _)
  have hgood := hJ i (wipe σ own) S1 ω1 f1 E1s.wd rs1 (hG S1 ω1 f1 E1s rs1 c1)
  by_cases hlt : i < ws.length
  · obtain ⟨w, hw⟩ : ∃ w, ws[i]? = some w := ⟨ws[i], by simp [hlt]⟩
    obtain ⟨hgo, hy⟩ := hgood.1 w hw
    have hd : ws.drop i = w :: ws.drop (i + 1) := by
      rw [List.drop_eq_getElem_cons hlt]
      obtain ⟨h1, h2⟩ := List.getElem?_eq_some_iff.mp hw
      rw [h2]
    rw [hd] at q1
    refine .inr ⟨hgo, Inv' (ws.drop (i + 1)), fun H' h => ⟨ws.length - (i + 1), by omega, rfl, hlt, h⟩, fun x H' hx => ?_⟩
    obtain ⟨ω2, rfl, E2, g2, r2⟩ := hy x H' hx
    have aD : ∀ {ω' : Wo} {v' : List V} {a' : List W}, ω'.H D = some (.lst v') → RWs ω' v' a' fa → ∀ x ∈ D :: fa, ω'.H x ≠ none := fun {ω' v' a'} h r x m => by
      rcases List.mem_cons.mp m with m | m
      · subst m; rw [h]; simp
      · exact r.alloc x m
    obtain ⟨E2D, k2D⟩ := E2.frame (g := D :: fa) E1.wd.nd (fun x m => E1.wd.dis x (List.mem_append_right _ m)) (aD hD1 dq1)
    have E12 : Ext ω fp ω2 (f1 ++ (D :: fa)) := E1.trans E2D
    have hD2 : ω2.H D = some (.lst vs) := (k2D D (by simp)).trans hD1
    have dq2 : RWs ω2 vs acc fa := dq1.mono E2.bb E2.ll fun x m => k2D x (List.mem_cons_of_mem _ m)
    have rs2 : RSs ω2 (wipe σ own) S1 f1 := rs1.mono E2.bb E2.ll (g2.same rs1.alloc)
    intro s H0 C cl fpb
    refine wG.mono (hg s H0 C cl fpb x w [] (wipe σ own) S1 ω2 f1 _ (wd.trans (E12.sub (List.sublist_append_left _ _))) r2 rs2 q1) ?_
    rintro σ3 H3 ⟨S3, ω3, f3, rfl, E3, rs3, k3, q3⟩
    have wq : wipe σ3 own = wipe σ own := by rw [wipe_eq k3.1 k3, wipe_wipe]
    refine ⟨wq, ?_⟩
    obtain ⟨E3D, k3D⟩ := Ext.frame (g := D :: fa) (show Ext ω2 f1 ω3 f3 from E3) E12.wd.nd (fun x m => E12.wd.dis x (List.mem_append_right _ m)) (aD hD2 dq2)
    have E13 : Ext ω fp ω3 (f3 ++ (D :: fa)) := E12.trans E3D
    have hD3 : ω3.H D = some (.lst vs) := (k3D D (by simp)).trans hD2
    have dq3 : RWs ω3 vs acc fa := dq2.mono E3.bb E3.ll fun x m => k3D x (List.mem_cons_of_mem _ m)
    -- the element
    have elem : ∀ (S5 : WSt) (ω5 : Wo) (f5 : List Addr), Ext ω fp ω5 (f5 ++ (D :: fa)) → RSs ω5 σ3 S5 f5 → ω5.H D = some (.lst vs) → RWs ω5 vs acc fa →
        (te S5 fun y S3 => acc.length < sizeLine ∧ chk (kills own S3) ∧ compLO own g tt te chk (ws.drop (i + 1)) (acc ++ [y]) (kills own S3) (fun acc S' => Q (.ow acc) (rst own S S'))) →
        bE X scope elt σ3 ω5.H fun y H4 => ∃ acc, H4 D = some (.lst acc) ∧ acc.length < sizeLine ∧ Inv' (ws.drop (i + 1)) (upd H4 D (.lst (acc ++ [y]))) := by
      intro S5 ω5 f5 E5 rs5 hD5 dq5 q5 s H0 C cl fpb
      refine wE.mono (he s H0 C cl fpb σ3 S5 ω5 f5 _ (wd.trans (E5.sub (List.sublist_append_left _ _))) rs5 q5) ?_
      rintro y H4 ⟨wy, S6, ω6, fv, f6, rfl, E6, r6, rs6, hz, c6, q6⟩
      obtain ⟨E6D, k6D⟩ := Ext.frame (g := D :: fa) E6 E5.wd.nd (fun x m => E5.wd.dis x (List.mem_append_right _ m)) (aD hD5 dq5)
      have hD6 : ω6.H D = some (.lst vs) := (k6D D (by simp)).trans hD5
      have E16 : Ext ω fp ω6 (fv ++ f6 ++ (D :: fa)) := E5.trans E6D
      have dq6 : RWs ω6 vs acc fa := dq5.mono E6.bb E6.ll fun x m => k6D x (List.mem_cons_of_mem _ m)
      refine ⟨vs, hD6, by rw [dq5.length]; exact hz, ?_⟩
      have pm : (fv ++ f6 ++ (D :: fa)).Perm (f6 ++ (D :: (fa ++ fv))) := by
        rw [List.perm_iff_count]; intro x
        simp only [List.count_append, List.count_cons]; omega
      have E17 := E16.permR pm
      have E8 : Ext ω6 (f6 ++ (D :: (fa ++ fv))) ⟨ω6.B, ω6.L, upd ω6.H D (.lst (vs ++ [y]))⟩ (f6 ++ (D :: (fa ++ fv))) := Ext.put E17.wd (by simp)
      have ndD := List.nodup_append.mp E17.wd.nd
      have k8 : ∀ x ∈ f6, upd ω6.H D (.lst (vs ++ [y])) x = ω6.H x := fun x m => upd_ne fun e => ndD.2.2 x m D (by simp) e
      have k9 : ∀ x ∈ fa ++ fv, upd ω6.H D (.lst (vs ++ [y])) x = ω6.H x := fun x m => upd_ne fun e => by subst e; exact (List.nodup_cons.mp ndD.2.1).1 m
      have rs8 : RSs ⟨ω6.B, ω6.L, upd ω6.H D (.lst (vs ++ [y]))⟩ σ3 S6 f6 := RSs.mono (ω := ω6) (ω' := ⟨ω6.B, ω6.L, upd ω6.H D (.lst (vs ++ [y]))⟩) (Le.refl _) (Le.refl _) rs6 k8
      have dq9 : RWs ⟨ω6.B, ω6.L, upd ω6.H D (.lst (vs ++ [y]))⟩ (vs ++ [y]) (acc ++ [wy]) (fa ++ fv) := RWs.mono (ω := ω6) (ω' := ⟨ω6.B, ω6.L, upd ω6.H D (.lst (vs ++ [y]))⟩) (Le.refl _) (Le.refl _) (RWs.snoc r6 dq6) k9
      obtain ⟨f9, rs9, s9⟩ := rs8.wiped own
      rw [wq] at rs9
      exact ⟨kills own S6, ⟨ω6.B, ω6.L, upd ω6.H D (.lst (vs ++ [y]))⟩, f9, acc ++ [wy], vs ++ [y], fa ++ fv, rfl, (E17.trans E8).sub (List.Sublist.append s9 (List.Sublist.refl _)), rs9, fun i m => gt_kills m, upd_same, dq9, c6, q6⟩
    cases ht with
    | none => exact elem S3 ω3 f3 E13 rs3 hD3 dq3 q3
    | @one c tc hc =>
      show bT X scope c σ3 ω3.H _
      intro s H0 C cl fpb
      refine wT.mono (hc s H0 C cl fpb σ3 S3 ω3 f3 _ (wd.trans (E13.sub (List.sublist_append_left _ _))) rs3 q3) ?_
      rintro b H4 ⟨S4, ω4, f4, rfl, E4, rs4, q4⟩
      obtain ⟨E4D, k4D⟩ := Ext.frame (g := D :: fa) E4 E13.wd.nd (fun x m => E13.wd.dis x (List.mem_append_right _ m)) (aD hD3 dq3)
      have hD4 : ω4.H D = some (.lst vs) := (k4D D (by simp)).trans hD3
      have E14 : Ext ω fp ω4 (f4 ++ (D :: fa)) := E13.trans E4D
      have dq4 : RWs ω4 vs acc fa := dq3.mono E4.bb E4.ll fun x m => k4D x (List.mem_cons_of_mem _ m)
      cases b with
      | true => exact elem S4 ω4 f4 E14 rs4 hD4 dq4 q4
      | false =>
        obtain ⟨f9, rs9, s9⟩ := rs4.wiped own
        rw [wq] at rs9
        exact ⟨kills own S4, ω4, f9, acc, vs, fa, rfl, E14.sub (List.Sublist.append s9 (List.Sublist.refl _)), rs9, fun i m => gt_kills m, hD4, dq4, q4.1, q4.2⟩
  · have e : i = ws.length := by omega
    subst e
    rw [List.drop_length] at q1
    refine .inl ⟨hgood.2 (Nat.le_refl _), ?_⟩
    have rsU : RSs ω1 σ S1 f1 := rs1.unwiped dead1
    obtain ⟨h, f', rsR, pR, sR⟩ := rsU.rst rs E1.bb own
    refine ⟨.ow acc, _, ω1, D :: fa, h, rfl, ?_, .ow hD1 dq1, rsR, q1⟩
    have E2 := E1.sub (List.Sublist.append sR (List.Sublist.refl (D :: fa)))
    exact E2.permR ((List.Perm.append_right _ pR.symm).trans List.perm_append_comm)

/-! ### what is walked, as one judgement -/
abbrev SrcT := WSt → (List W → (WSt → Prop) → WSt → Prop) → Prop
def wIt (X : Cx) (tg iter : Expr) : TI := fun σ H R => ∀ (pins : List (Addr × Obj)) (s : Shared), Inv X pins σ H s → wpAny (model X.prog X.w) X.A (eval iter X.env) (fun v s1 => wpAny (model X.prog X.w) X.A (pyIter v) (PIE X pins σ tg R) X.xe s1) X.xe s
theorem pIt (tg iter : Expr) : PI X tg iter (wIt X tg iter) := ⟨fun pins s σ H R I h => h pins s I⟩
theorem useI {tg iter : Expr} {t : TI} (h : PI X tg iter t) {σ : L2.St} {H : Hp} {R : It → Hp → Prop} (q : t σ H R) : wIt X tg iter σ H R := fun pins s I => h.run pins s σ H R I q
def PostI (ω : Wo) (fp : List Addr) (σ : L2.St) (pl : List Nat) (K : List W → (WSt → Prop) → WSt → Prop) : It → Hp → Prop := fun J H' => ∃ ws chk S' ω' fs G, ω'.H = H' ∧ Ext ω fp ω' fs ∧ RSs ω' σ S' fs ∧ JOk J ws G ∧ chk S' ∧ K ws chk S' ∧
  (∀ own : List Nat, (∀ i ∈ pl, i ∉ own) → chk (kills own S')) ∧ ∀ σ2 S2 ω2 f2, Ext ω' fs ω2 f2 → RSs ω2 σ2 S2 f2 → (∀ i ∈ pl, σ2[i]? = σ[i]?) → chk S2 → G ω2 f2 σ2 S2
def Src (X : Cx) (o : Og) (tg iter : Expr) (pl : List Nat) (src : SrcT) : Prop := ∀ σ S ω fp K, In o ω fp → RSs ω σ S fp → src S K → wIt X tg iter σ ω.H (PostI ω fp σ pl K)
def forS (g : TGt) (tb : TSt) (src : SrcT) : TSt := fun D S => src S fun ws chk S' => forL g tb chk ws D S'
theorem ss_forS {tg iter : Expr} {body : List Stmt} {A pl : List Nat} {g : TGt} {tb : TSt} {src : SrcT} {pos : Pos} (hp : PassesOwn (model X.prog X.w) X.A X.env X.xe) (hc : X.calm = true) (hs : Src X o tg iter pl src) (hg : SG X o tg A g) (hb : SB X o body A tb) (hA : ∀ i ∈ pl, i ∉ A) (hns : noSet iter = true) :
    SS X o (.For tg iter body [] pos) A (forS g tb src) := by
  intro σ S ω fp D wd rs q
  refine useS (ps_for hp hc (pIt tg iter) (pG tg) (pSs body) (noFold hns)) ?_
  have h := hs σ S ω fp _ wd rs q
  intro pins s I
  refine thn (h pins s I) fun v s1 h1 => thn h1 fun itv s2 ⟨it, fp', tn, J, H', e, I', T, st2, f2, pq⟩ => ⟨it, fp', tn, J, H', e, I', T, st2, f2, ?_⟩
  obtain ⟨ws, chk, S', ω', fs, G, rfl, E, rs', hJ, c0, q', _, hG⟩ := pq
  have up := endsOf.up (A := []) (B := A) (C := A) (D := D) E (Keep.refl _ σ) (fun _ m => nomatch m) (fun _ m => m)
  obtain ⟨W', h0, h1⟩ := for_core hg hb hJ (wd.trans E) rs' (D := D) (fun σ' S'' ω'' fs' E' rs'' k c => hG σ' S'' ω'' fs' E' rs'' (fun i m => k.2 i (hA i m)) c) c0 q'
  refine ⟨W', h0, fun i m σ1 H1 hw => ?_⟩
  rcases h1 i m σ1 H1 hw with ⟨a, b⟩ | ⟨a, N, b, c⟩
  · exact .inl ⟨a, up.nx _ _ b⟩
  · exact .inr ⟨a, N, b, fun x H' hx => wG.mono (c x H' hx) fun σ2 H2 h2 => wSs.mono h2 ⟨fun _ _ h => h, up.rt, up.nx, fun _ _ h => h⟩⟩
end
end MV

namespace MV
open PySem PySem.Spec PyProof.Rows L2

def compT (own : List Nat) (g : TGt) (tt : Option TW) (te : TW) (src : SrcT) : TW := fun S Q => src S fun ws chk S' => compL own g tt te chk ws [] (kills own S') fun acc S2 => Q (.ol acc) (rst own S' S2)
def compOT (own : List Nat) (g : TGt) (tt : Option TW) (te : TW) (src : SrcT) : TW := fun S Q => src S fun ws chk S' => compLO own g tt te chk ws [] (kills own S') fun acc S2 => Q (.ow acc) (rst own S' S2)
section
variable {X : Cx} {o : Og}
/-- the reading of a comprehension, from its source and its parts -/
theorem comp_read {scope : Scope} {tg elt iter : Expr} {ifs : List Expr} {own : List Nat} {g : TGt} {tt : Option TW} {te : TW} {pl : List Nat} {src : SrcT} (hs : Src X o tg iter pl src)
    (hg : ∀ (s : Shared) (H0 : Hp) (C : Addr) (cl : List (Str × Addr)) (fp : List Addr), SG (X.blk s H0 scope (compEnvC scope cl C X.env) fp) o tg own g) (ht : IfOk X o scope ifs tt)
    (he : ∀ (s : Shared) (H0 : Hp) (C : Addr) (cl : List (Str × Addr)) (fp : List Addr), SE (X.blk s H0 scope (compEnvC scope cl C X.env) fp) o elt te) (hpl : ∀ i ∈ pl, i ∉ own)
    {σ : L2.St} {S : WSt} {ω : Wo} {fp : List Addr} {Q : QW} (wd : In o ω fp) (rs : RSs ω σ S fp) (q : compT own g tt te src S Q) :
    tLc (wIt X tg iter) (bG X scope tg) (bTs X scope ifs) (bE X scope elt) own σ ω.H (PostE ω fp σ Q) := by
  have h := hs σ S ω fp _ wd rs q
  intro pins s I
  refine thn (h pins s I) fun v s1 h1 => thn h1 fun itv s2 ⟨it, fp', tn, J, H', e, I', T, st2, f2, pq⟩ => ⟨it, fp', tn, J, H', e, I', T, st2, f2, ?_⟩
  obtain ⟨ws, chk, S', ω', fs, G, rfl, E, rs', hJ, c0, q', ck, hG⟩ := pq
  intro D hD
  have up : ∀ v H1, PostE ω' fs σ Q v H1 → PostE ω fp σ Q v H1 := by
    rintro v H1 ⟨w, S2, ω2, fv, f2, e, E2, r⟩
    exact ⟨w, S2, ω2, fv, f2, e, E.trans E2, r⟩
  obtain ⟨W', h0, h1⟩ := comp_core hg ht he hJ (wd.trans E) rs' (fun S2 ω2 f2 E2 rs2 c => hG _ S2 ω2 f2 E2 rs2 (fun i m => wipe_get (hpl i m)) c) (ck own hpl) hD q'
  refine ⟨W', h0, fun i m H1 hw => ?_⟩
  rcases h1 i m H1 hw with ⟨a, b⟩ | ⟨a, Nx, b, c⟩
  · exact .inl ⟨a, up _ _ b⟩
  · exact .inr ⟨a, Nx, b, c⟩
theorem compO_read {scope : Scope} {tg elt iter : Expr} {ifs : List Expr} {own : List Nat} {g : TGt} {tt : Option TW} {te : TW} {pl : List Nat} {src : SrcT} (hs : Src X o tg iter pl src)
    (hg : ∀ (s : Shared) (H0 : Hp) (C : Addr) (cl : List (Str × Addr)) (fp : List Addr), SG (X.blk s H0 scope (compEnvC scope cl C X.env) fp) o tg own g) (ht : IfOk X o scope ifs tt)
    (he : ∀ (s : Shared) (H0 : Hp) (C : Addr) (cl : List (Str × Addr)) (fp : List Addr), SE (X.blk s H0 scope (compEnvC scope cl C X.env) fp) o elt te) (hpl : ∀ i ∈ pl, i ∉ own)
    {σ : L2.St} {S : WSt} {ω : Wo} {fp : List Addr} {Q : QW} (wd : In o ω fp) (rs : RSs ω σ S fp) (q : compOT own g tt te src S Q) :
    tLc (wIt X tg iter) (bG X scope tg) (bTs X scope ifs) (bE X scope elt) own σ ω.H (PostE ω fp σ Q) := by
  have h := hs σ S ω fp _ wd rs q
  intro pins s I
  refine thn (h pins s I) fun v s1 h1 => thn h1 fun itv s2 ⟨it, fp', tn, J, H', e, I', T, st2, f2, pq⟩ => ⟨it, fp', tn, J, H', e, I', T, st2, f2, ?_⟩
  obtain ⟨ws, chk, S', ω', fs, G, rfl, E, rs', hJ, c0, q', ck, hG⟩ := pq
  intro D hD
  have up : ∀ v H1, PostE ω' fs σ Q v H1 → PostE ω fp σ Q v H1 := by
    rintro v H1 ⟨w, S2, ω2, fv, f2, e, E2, r⟩
    exact ⟨w, S2, ω2, fv, f2, e, E.trans E2, r⟩
  obtain ⟨W', h0, h1⟩ := comp_coreO hg ht he hJ (wd.trans E) rs' (fun S2 ω2 f2 E2 rs2 c => hG _ S2 ω2 f2 E2 rs2 (fun i m => wipe_get (hpl i m)) c) (ck own hpl) hD q'
  refine ⟨W', h0, fun i m H1 hw => ?_⟩
  rcases h1 i m H1 hw with ⟨a, b⟩ | ⟨a, Nx, b, c⟩
  · exact .inl ⟨a, up _ _ b⟩
  · exact .inr ⟨a, Nx, b, c⟩
/-- what the reading is good for: as a value, or stored at once -/
theorem se_of_lc {scope : Scope} {tg elt iter : Expr} {ifs : List Expr} {own : List (Str × Nat)} {t : TW} {tt : Option TW} {pos : Pos} (hc : X.calm = true) (hN : X.N.Nodup) (ok : BlkOk X.N X.env.scope scope own) (ht : IfOk X o scope ifs tt) (hns : noSet iter = true)
    (h : ∀ σ S ω fp Q, In o ω fp → RSs ω σ S fp → t S Q → tLc (wIt X tg iter) (bG X scope tg) (bTs X scope ifs) (bE X scope elt) (own.map (·.2)) σ ω.H (PostE ω fp σ Q)) : SE X o (.ListComp elt [⟨tg, iter, ifs, 0⟩] scope pos) t := by
  intro σ S ω fp Q wd rs q
  exact useE (pe_lc hc hN (pIt tg iter) ok (fun s H0 C cl fp => ⟨fun pins s' σ H v u Q I r q => q s H0 C cl fp pins s' u I r⟩) (ht.pts) (fun s H0 C cl fp => ⟨fun pins s' σ H Q I q => q s H0 C cl fp pins s' I⟩) (noFold hns)) (h σ S ω fp Q wd rs q)
theorem ss_of_lc {scope : Scope} {tg elt iter : Expr} {ifs : List Expr} {own : List (Str × Nat)} {t : TW} {tt : Option TW} {i : Nat} {y : Str} {A : List Nat} {py pos spos : Pos} (hc : X.calm = true) (hN : X.N.Nodup) (hy : X.N[i]? = some y) (hyl : X.env.scope.names.lookup y = some .local) (ha : i ∈ A)
    (hsw : swapsWith (.ListComp elt [⟨tg, iter, ifs, 0⟩] scope pos) (some (.Name y py)) spos.line X.env = pure true) (ok : BlkOk X.N X.env.scope scope own) (ht : IfOk X o scope ifs tt) (hns : noSet iter = true)
    (h : ∀ σ S ω fp Q, In o ω fp → RSs ω σ S fp → t S Q → tLc (wIt X tg iter) (bG X scope tg) (bTs X scope ifs) (bE X scope elt) (own.map (·.2)) σ ω.H (PostE ω fp σ Q)) : SS X o (.Assign [.Name y py] (.ListComp elt [⟨tg, iter, ifs, 0⟩] scope pos) spos) A (setT i t) := by
  intro σ S ω fp D wd rs q pins s I
  have hl := lt_of_N I hy
  have mono : ∀ {Q Q' : VK} {σ H}, tLc (wIt X tg iter) (bG X scope tg) (bTs X scope ifs) (bE X scope elt) (own.map (·.2)) σ H Q → (∀ v H', Q v H' → Q' v H') → tLc (wIt X tg iter) (bG X scope tg) (bTs X scope ifs) (bE X scope elt) (own.map (·.2)) σ H Q' := by
    intro Q Q' σ H h k pins s I
    refine thn (h pins s I) fun v s1 h1 => thn h1 fun itv s2 ⟨it, fp', tn, J, H', e, I', T, st2, f2, pq⟩ => ⟨it, fp', tn, J, H', e, I', T, st2, f2, fun D hD => ?_⟩
    obtain ⟨W', h0, h1⟩ := pq D hD
    refine ⟨W', h0, fun i m H1 hw => ?_⟩
    rcases h1 i m H1 hw with ⟨a, b⟩ | c
    · exact .inl ⟨a, k _ _ b⟩
    · exact .inr c
  refine useS (ps_setLc hc hN hy hyl hsw (pIt tg iter) ok (fun s H0 C cl fp => ⟨fun pins s' σ H v u Q I r q => q s H0 C cl fp pins s' u I r⟩) (ht.pts) (fun s H0 C cl fp => ⟨fun pins s' σ H Q I q => q s H0 C cl fp pins s' I⟩) (noFold hns)) (mono (h σ S ω fp _ wd rs q) ?_) pins s I
  rintro v H' ⟨w, S', ω', fv, fs, rfl, E, r, rs', q'⟩
  exact st_set E r rs' (by rw [← rs'.len]; exact hl) ha q'

/-! ### sources -/
theorem wIt_of {tg iter : Expr} {te : TE} (he : PE X iter te) {σ : L2.St} {H : Hp} {R : It → Hp → Prop} (q : te σ H fun x H1 => rIt X tg x H1 R) : wIt X tg iter σ H R := useI (pi_canon he) q
def srcE (te : TW) : SrcT := fun S K => te S fun w S1 => match w with
  | .vl xs => K (xs.map W.d) (fun _ => True) S1
  | .vw ws => K ws (fun _ => True) S1
  | w => match fzW w with
    | some x => (match itemsD x with
      | some ws => K ws (fun _ => True) S1
      | none => False)
    | none => False
theorem src_exp {tg e : Expr} {te : TW} (he : SE X o e te) : Src X o tg e [] (srcE te) := by
  intro σ S ω fp K wd rs q
  refine wIt_of (pE e) (wE.mono (he σ S ω fp _ wd rs q) ?_)
  rintro v H' ⟨w, S1, ω1, fv, fs, rfl, E, r, rs1, q1⟩
  split at q1
  · rename_i xs
    cases r with | vl hh t =>
    exact rIt_list (.inl (Rd.mono E.wd.lh hh)) ⟨_, _, S1, ω1, fs, _, rfl, E, rs1, jok_list (K := X.K), trivial, q1, fun _ _ => trivial, fun σ' S' ω' fs' E' _ _ _ => ⟨_, Rd.mono (E'.ll.trans E'.wd.lh) hh, DqAll.mono E'.bb t⟩⟩
  · rename_i us
    cases r with | vw hh t =>
    exact rIt_list (.inl (Rd.mono E.wd.lh hh)) ⟨_, _, S1, ω1, fs, _, rfl, E, rs1, jok_vw (K := X.K), trivial, q1, fun _ _ => trivial, fun σ' S' ω' fs' E' _ _ _ => ⟨_, Rd.mono (E'.ll.trans E'.wd.lh) hh, t.mono E'.bb E'.ll fun _ m => nomatch m⟩⟩
  · split at q1
    · rename_i x ez
      split at q1
      · rename_i ws ei
        obtain ⟨ω2, hH, E2, D2⟩ := r.freeze ez E.wd rs1.alloc
        rw [← hH]
        have rs2 : RSs ω2 σ S1 fs := rs1.mono E2.bb E2.ll fun a _ => by rw [hH]
        refine it_data E2.wd.bh D2 ei fun J G hJ hG => ⟨ws, _, S1, ω2, fs, G, rfl, E.trans E2, rs2, hJ, trivial, q1, fun _ _ => trivial, fun σ3 S3 ω3 f3 E3 _ _ _ => hG _ _ _ _ E3.bb E3.wd.bh⟩
      · exact q1.elim
    · exact q1.elim

def srcP (i : Nat) : SrcT := fun S K => match gt S i with
  | some w => (match itemsW w with
    | some ws => K ws (chkW i w) S
    | none => False)
  | none => False
theorem src_place {tg e : Expr} {i : Nat} (hv : PE X e (tVar i)) : Src X o tg e [i] (srcP i) := by
  intro σ S ω fp K wd rs q
  unfold srcP at q
  cases hg0 : gt S i with
  | none => rw [hg0] at q; exact q.elim
  | some w =>
    rw [hg0] at q
    cases ei : itemsW w with
    | none => simp only [ei] at q
    | some ws =>
      simp only [ei] at q
      obtain ⟨v, f1, f2, hs, r, _, _⟩ := rs.split hg0
      refine wIt_of hv ⟨v, hs, ?_⟩
      cases w with
      | d x =>
        cases r with | d d1 =>
        exact it_data wd.wd.bh d1 ei fun J G hJ hG => ⟨ws, _, S, ω, fp, G, rfl, Ext.refl wd.wd, rs, hJ, trivial, q, fun _ _ => trivial, fun σ3 S3 ω3 f3 E3 _ _ _ => hG _ _ _ _ E3.bb E3.wd.bh⟩
      | vl xs =>
        simp only [itemsW, Option.some.injEq] at ei; subst ei
        cases r with | vl hh t =>
        exact rIt_list (.inl (Rd.mono wd.wd.lh hh)) ⟨_, _, S, ω, fp, _, rfl, Ext.refl wd.wd, rs, jok_list (K := X.K), trivial, q, fun _ _ => trivial, fun σ' S' ω' fs' E' _ _ _ => ⟨_, Rd.mono (E'.ll.trans E'.wd.lh) hh, DqAll.mono E'.bb t⟩⟩
      | vw us =>
        simp only [itemsW, Option.some.injEq] at ei; subst ei
        cases r with | vw hh t =>
        exact rIt_list (.inl (Rd.mono wd.wd.lh hh)) ⟨_, _, S, ω, fp, _, rfl, Ext.refl wd.wd, rs, jok_vw (K := X.K), trivial, q, fun _ _ => trivial, fun σ' S' ω' fs' E' _ _ _ => ⟨_, Rd.mono (E'.ll.trans E'.wd.lh) hh, t.mono E'.bb E'.ll fun _ m => nomatch m⟩⟩
      | ol xs =>
        simp only [itemsW, Option.some.injEq] at ei; subst ei
        cases r with | @ol a vs _ hh t =>
        refine rIt_list (.inl (.inl hh)) ⟨_, _, S, ω, fp, _, rfl, Ext.refl wd.wd, rs, jok_list (K := X.K) (a := a), hg0, q, fun own hpl => ?_, fun σ' S' ω' fs' E' rs' k c => ?_⟩
        · show gt (kills own S) i = some (.ol xs)
          rw [gt_kills_ne (hpl i (by simp))]; exact hg0
        · obtain ⟨v', g1, g2, hs', r', _, _⟩ := rs'.split (show gt S' i = some (.ol xs) from c)
          rw [k i (by simp), hs] at hs'
          have e' := Option.some.inj (Option.some.inj hs')
          cases r' with | ol hh' t' =>
          injection e' with e'
          subst e'
          exact ⟨_, .inl hh', t'⟩
      | _ => simp [itemsW] at ei
def srcR1 (us : TWs) : SrcT := fun S K => us S fun ws S1 => match ws with
  | [.d (.int j)] => -(2 ^ 62) ≤ j ∧ j < 2 ^ 62 ∧ K (rngW 0 j.toNat) (fun _ => True) S1
  | _ => False
def srcR2 (us : TWs) : SrcT := fun S K => us S fun ws S1 => match ws with
  | [.d (.int i), .d (.int j)] => (-(2 ^ 62) ≤ i ∧ i < 2 ^ 62 ∧ -(2 ^ 62) ≤ j ∧ j < 2 ^ 62) ∧ K (rngW i (j - i).toNat) (fun _ => True) S1
  | _ => False
theorem src_rng1 {tg e : Expr} {us : TWs} {p pos : Pos} (hgl : Gl X "range") (hm : X.mg "range" = none) (hns : [e].all noStar = true) (he : SOl X o [e] us) : Src X o tg (.Call (.Name "range" p) [e] [] pos) [] (srcR1 us) := by
  intro σ S ω fp K wd rs q
  have hns' := hns
  rw [List.all_cons, Bool.and_eq_true] at hns'
  refine useI (pi_range1 hgl hm (pL hns) (starE hns'.1)) (wL.mono (he σ S ω fp _ wd rs q) ?_)
  rintro vs H' ⟨ws, S1, ω1, fg, fs, rfl, E, rl, rs1, q1⟩
  split at q1
  · obtain ⟨h1, h2, q1⟩ := q1
    obtain ⟨v, f, rfl, r1⟩ := rl.one
    cases r1 with | d d1 =>
    cases d1
    exact ⟨_, rfl, h1, h2, _, _, S1, ω1, fs, _, rfl, E.dropL, rs1, jok_rng, trivial, q1, fun _ _ => trivial, fun _ _ _ _ _ _ _ _ => trivial⟩
  · exact q1.elim
theorem src_rng2 {tg a b : Expr} {us : TWs} {p pos : Pos} (hgl : Gl X "range") (hm : X.mg "range" = none) (hns : [a, b].all noStar = true) (he : SOl X o [a, b] us) : Src X o tg (.Call (.Name "range" p) [a, b] [] pos) [] (srcR2 us) := by
  intro σ S ω fp K wd rs q
  have hns' := hns
  rw [List.all_cons, List.all_cons, Bool.and_eq_true, Bool.and_eq_true] at hns'
  refine useI (pi_range2 hgl hm (pL hns) (by rw [starE hns'.1, starE hns'.2.1]; rfl) (starE hns'.2.1)) (wL.mono (he σ S ω fp _ wd rs q) ?_)
  rintro vs H' ⟨ws, S1, ω1, fg, fs, rfl, E, rl, rs1, q1⟩
  split at q1
  · obtain ⟨h1, q1⟩ := q1
    obtain ⟨v, f, v', f', rfl, r1, r2⟩ := rl.two
    cases r1 with | d d1 => cases r2 with | d d2 =>
    cases d1; cases d2
    exact ⟨_, _, rfl, h1, _, _, S1, ω1, fs, _, rfl, E.dropL, rs1, jok_rng, trivial, q1, fun _ _ => trivial, fun _ _ _ _ _ _ _ _ => trivial⟩
  · exact q1.elim
def enumW (xs : List PyData) : List W := xs.mapIdx fun i x => W.d (.tuple [.int (i : Nat), x])
theorem jok_enum {a : Addr} {xs : List PyData} {K : Frag} : JOk (Ite K a) (enumW xs) (HoldL a xs) := by
  rintro k σ S ω fs wd rs ⟨vs, hh, t⟩
  refine ⟨fun w hw => ?_, fun hl => ⟨vs, .inl hh, by rw [t.len]; simpa [enumW] using hl⟩⟩
  unfold enumW at hw
  rw [List.getElem?_mapIdx, Option.map_eq_some_iff] at hw
  obtain ⟨x, hx, rfl⟩ := hw
  obtain ⟨v, hv, dv⟩ := t.get hx
  refine ⟨⟨vs, v, .inl hh, hv⟩, ?_⟩
  rintro y H' ⟨T, x', rfl, hT, rfl, hy⟩
  have := hy vs (.inl hh)
  rw [hv] at this
  obtain rfl := Option.some.inj this
  have E := Ext.fz (o := .tup [.int (k : Nat), v]) wd rs.alloc hT
  exact ⟨_, rfl, E, fun b u e => le_upd_new hT b u e, .d (.tup (.inl upd_same) (.cons (.int _) (.cons (dv.mono E.bb) .nil)))⟩
def srcEnumP (i : Nat) : SrcT := fun S K => match gt S i with
  | some w => (match asL w with
    | some xs => K (enumW xs) (chkW i w) S
    | none => False)
  | none => False
theorem src_enumP {e : Expr} {es : List Expr} {kk : Nat} {tpos p pos : Pos} {i : Nat} (hgl : Gl X "enumerate") (hm : X.mg "enumerate" = none) (hns : [e].all noStar = true) (hv : PE X e (tVar i)) : Src X o (.Tuple es kk tpos) (.Call (.Name "enumerate" p) [e] [] pos) [i] (srcEnumP i) := by
  intro σ S ω fp K wd rs q
  have hns' := hns
  rw [List.all_cons, Bool.and_eq_true] at hns'
  unfold srcEnumP at q
  cases hg0 : gt S i with
  | none => rw [hg0] at q; exact q.elim
  | some w =>
    rw [hg0] at q
    cases ei : asL w with
    | none => simp only [ei] at q
    | some xs =>
      simp only [ei] at q
      obtain ⟨v, f1, f2, hs, r, _, _⟩ := rs.split hg0
      refine useI (pi_enum hgl hm (pa_cons hv pa_nil (starE hns'.1)) (starE hns'.1)) ⟨v, hs, ?_⟩
      cases w with
      | d x =>
        cases r with | d d1 =>
        cases d1 with
        | lst hh t =>
          simp only [asL, Option.some.injEq] at ei; subst ei
          exact ⟨_, _, rfl, .inl (Rd.mono wd.wd.bh hh), _, _, S, ω, fp, _, rfl, Ext.refl wd.wd, rs, jok_enum (K := X.K), trivial, q, fun _ _ => trivial, fun σ' S' ω' fs' E' _ _ _ => ⟨_, Rd.mono (E'.bb.trans E'.wd.bh) hh, DqAll.mono E'.bb t⟩⟩
        | _ => simp [asL] at ei
      | vl xs =>
        simp only [asL, Option.some.injEq] at ei; subst ei
        cases r with | vl hh t =>
        exact ⟨_, _, rfl, .inl (Rd.mono wd.wd.lh hh), _, _, S, ω, fp, _, rfl, Ext.refl wd.wd, rs, jok_enum (K := X.K), trivial, q, fun _ _ => trivial, fun σ' S' ω' fs' E' _ _ _ => ⟨_, Rd.mono (E'.ll.trans E'.wd.lh) hh, DqAll.mono E'.bb t⟩⟩
      | ol xs =>
        simp only [asL, Option.some.injEq] at ei; subst ei
        cases r with | @ol a vs _ hh t =>
        refine ⟨_, _, rfl, .inl (.inl hh), _, _, S, ω, fp, _, rfl, Ext.refl wd.wd, rs, jok_enum (K := X.K) (a := a), hg0, q, fun own hpl => ?_, fun σ' S' ω' fs' E' rs' k c => ?_⟩
        · show gt (kills own S) i = some (.ol xs)
          rw [gt_kills_ne (hpl i (by simp))]; exact hg0
        · obtain ⟨v', g1, g2, hs', r', _, _⟩ := rs'.split (show gt S' i = some (.ol xs) from c)
          rw [k i (by simp), hs] at hs'
          have e' := Option.some.inj (Option.some.inj hs')
          cases r' with | ol hh' t' =>
          injection e' with e'
          subst e'
          exact ⟨_, .inl hh', t'⟩
      | _ => simp [asL] at ei
end
end MV

namespace MV
open PySem PySem.Spec PyProof.Rows L2

/-! ### exceptions -/
structure Exn where
  cls : Addr
  fs : List (Str × PyData)
abbrev EWs := Exn → WSt → Prop
def XdOk (ω : Wo) (d : Option Addr) (fs : List (Str × PyData)) : Prop := fs = [] ∨ ∃ dd vfs, d = some dd ∧ ω.B dd = some (.xd vfs) ∧ vfs.map (·.1) = fs.map (·.1) ∧ DqAll ω.B (vfs.map (·.2)) (fs.map (·.2))
theorem XdOk.mono {ω ω' : Wo} (h : Le ω.B ω'.B) {d : Option Addr} {fs : List (Str × PyData)} (x : XdOk ω d fs) : XdOk ω' d fs := x.imp id fun ⟨dd, vfs, e, a, b, c⟩ => ⟨dd, vfs, e, h _ _ a, b, c.mono h⟩
/-- an exception that leaves: the state it leaves is told from the origin -/
def wishOf (o : Og) (EW : EWs) : WX := fun c d σ H => ∃ x S' ω' fs, ω'.H = H ∧ Ext o.ω o.fp ω' fs ∧ RSs ω' σ S' fs ∧ c = .ref x.cls ∧ XdOk ω' d x.fs ∧ EW x S'
def XOk (X : Cx) (o : Og) (EW : EWs) : Prop := ∀ σ, PassesAt (L2.CX X.prog X.w) X σ (fun c d H => wishOf o EW c d σ H)
theorem XOk.of_takes {X : Cx} {o : Og} {EW : EWs} (tk : Takes X (wishOf o EW)) : XOk X o EW := fun σ => passAt tk σ
theorem XOk.none {X : Cx} {o : Og} : XOk X o (fun _ _ => False) := fun σ pins H s e s' I c => by
  obtain ⟨a, B, H', cls, d, _, _, _, _, _, _, _, x, S', ω', fs, _, _, _, _, _, q⟩ := c
  exact q.elim

/-! ### contracts -/
/-- by the arguments: what is handed back with what the lent ones hold then; what is raised likewise -/
abbrev Ct := List W → (W → WSt → Prop) → EWs → Prop
mutual
def noV : W → Bool
  | .d _ => true
  | .ol _ => true
  | .od _ => true
  | .ow ws => noVs ws
  | .tw ws => noVs ws
  | .ins _ _ fs => noVf fs
  | .vl _ => false
  | .vd _ => false
  | .vw _ => false
def noVs : List W → Bool
  | [] => true
  | w :: ws => noV w && noVs ws
def noVf : List (Str × W) → Bool
  | [] => true
  | (_, w) :: ws => noV w && noVf ws
end
def noVo : WSt → Bool
  | [] => true
  | none :: r => noVo r
  | some w :: r => noV w && noVo r
theorem noVf_map : ∀ fs : List (Str × W), noVf fs = noVs (fs.map (·.2))
  | [] => rfl
  | (_, w) :: r => by rw [List.map_cons]; show (noV w && noVf r) = (noV w && noVs (r.map (·.2))); rw [noVf_map r]
/- a value without a view hangs on what never changes, and on its own -/
section
variable {ω ω' : Wo} (hB : Le ω.B ω'.B)
include hB
mutual
theorem RW.noL0 : ∀ {v : V} {w : W} {f : List Addr}, RW ω v w f → noV w = true → (∀ a ∈ f, ω'.H a = ω.H a) → RW ω' v w f
  | _, _, _, .d h, _, _ => .d (h.mono hB)
  | _, _, _, .vl _ _, e, _ => by simp [noV] at e
  | _, _, _, .vd _ _, e, _ => by simp [noV] at e
  | _, _, _, .vw _ _, e, _ => by simp [noV] at e
  | _, _, _, .ol h t, _, k => .ol ((k _ (by simp)).trans h) (t.mono hB)
  | _, _, _, .od h t, _, k => .od ((k _ (by simp)).trans h) (t.mono hB)
  | _, _, _, .ow h t, e, k => .ow ((k _ (by simp)).trans h) (RWs.noL0 t (by simpa [noV] using e) fun a m => k a (List.mem_cons_of_mem _ m))
  | _, _, _, .tw h t, e, k => .tw (Rd.mono hB h) (RWs.noL0 t (by simpa [noV] using e) k)
  | _, _, _, .ins h b n t, e, k => .ins ((k _ (by simp)).trans h) (hB _ _ b) n (RWs.noL0 t (by rw [← noVf_map]; simpa [noV] using e) fun a m => k a (List.mem_cons_of_mem _ m))
theorem RWs.noL0 : ∀ {vs : List V} {ws : List W} {f : List Addr}, RWs ω vs ws f → noVs ws = true → (∀ a ∈ f, ω'.H a = ω.H a) → RWs ω' vs ws f
  | _, _, _, .nil, _, _ => .nil
  | _, _, _, .cons r t, e, k => .cons (RW.noL0 r (Bool.and_eq_true_iff.mp (by simpa only [noVs] using e)).1 fun a m => k a (List.mem_append_left _ m)) (RWs.noL0 t (Bool.and_eq_true_iff.mp (by simpa only [noVs] using e)).2 fun a m => k a (List.mem_append_right _ m))
end
end
theorem RW.noL {ω ω' : Wo} {v : V} {w : W} {f : List Addr} (r : RW ω v w f) (e : noV w = true) (hB : Le ω.B ω'.B) (k : ∀ a ∈ f, ω'.H a = ω.H a) : RW ω' v w f := RW.noL0 hB r e k
theorem RSs.noL {ω ω' : Wo} : ∀ {σ : L2.St} {S : WSt} {f : List Addr}, RSs ω σ S f → noVo S = true → Le ω.B ω'.B → (∀ a ∈ f, ω'.H a = ω.H a) → RSs ω' σ S f
  | _, _, _, .nil, _, _, _ => .nil
  | _, _, _, .dead t, e, hB, k => .dead (RSs.noL t (by simpa [noVo] using e) hB k)
  | _, _, _, .live r t, e, hB, k => by
    have e' := e
    simp only [noVo, Bool.and_eq_true] at e'
    exact .live (r.noL e'.1 hB fun a m => k a (List.mem_append_left _ m)) (RSs.noL t e'.2 hB fun a m => k a (List.mem_append_right _ m))
/-- the promise of a def by its contract -/
def spOf (ct : Ct) : Sp := fun vs H Q E => ∃ ws ω fp R RE, ω.H = H ∧ Wd ω fp ∧ RWs ω vs ws fp ∧ ct ws R RE ∧
  (∀ w wso, R w wso → ∀ v ω' fv fs, Ext ω fp ω' (fv ++ fs) → RW ω' v w fv → RSs ω' (vs.map some) wso fs → Q v ω'.H) ∧
  (∀ x wso, RE x wso → ∀ d ω' fs, Ext ω fp ω' fs → RSs ω' (vs.map some) wso fs → XdOk ω' d x.fs → E (.ref x.cls) d ω'.H)

/-! ### a call -/
inductive AK where
  | dat | vw | io
/-- an operand of a call: a value of its own, or a name -/
inductive Tm where
  | w (w : W)
  | pl (i : Nat)
abbrev QT := List Tm → WSt → Prop
abbrev TTm := WSt → QT → Prop
inductive RTs (ω : Wo) (σ : L2.St) : List V → List Tm → List Addr → Prop
  | nil : RTs ω σ [] [] []
  | w {v : V} {w : W} {f g : List Addr} {vs : List V} {ts : List Tm} : RW ω v w f → RTs ω σ vs ts g → RTs ω σ (v :: vs) (.w w :: ts) (f ++ g)
  | pl {v : V} {i : Nat} {g : List Addr} {vs : List V} {ts : List Tm} : σ[i]? = some (some v) → RTs ω σ vs ts g → RTs ω σ (v :: vs) (.pl i :: ts) g
def PostC (ω : Wo) (fp : List Addr) (σ : L2.St) (Q : QT) : List V → Hp → Prop := fun vs H' => ∃ ts S' ω' fv fs, ω'.H = H' ∧ Ext ω fp ω' (fv ++ fs) ∧ RTs ω' σ vs ts fv ∧ RSs ω' σ S' fs ∧ Q ts S'
def SC (X : Cx) (o : Og) (es : List Expr) (t : TTm) : Prop := ∀ σ S ω fp Q, In o ω fp → RSs ω σ S fp → t S Q → wL X es σ ω.H (PostC ω fp σ Q)
theorem RTs.mono {ω ω' : Wo} {σ : L2.St} (hB : Le ω.B ω'.B) (hL : Le ω.L ω'.L) : ∀ {vs : List V} {ts : List Tm} {f : List Addr}, RTs ω σ vs ts f → (∀ a ∈ f, ω'.H a = ω.H a) → RTs ω' σ vs ts f
  | _, _, _, .nil, _ => .nil
  | _, _, _, .w r t, k => .w (r.mono hB hL fun a m => k a (List.mem_append_left _ m)) (RTs.mono hB hL t fun a m => k a (List.mem_append_right _ m))
  | _, _, _, .pl h t, k => .pl h (RTs.mono hB hL t k)
theorem RTs.alloc {ω : Wo} {σ : L2.St} : ∀ {vs : List V} {ts : List Tm} {f : List Addr}, RTs ω σ vs ts f → ∀ a ∈ f, ω.H a ≠ none
  | _, _, _, .nil, _, m => nomatch m
  | _, _, _, .w r t, a, m => (List.mem_append.mp m).elim (r.alloc a) (RTs.alloc t a)
  | _, _, _, .pl h t, a, m => RTs.alloc t a m
section
variable {X : Cx} {o : Og} {e : Expr} {es : List Expr} {t : TW} {us : TTm}
theorem sc_nil : SC X o [] (fun S Q => Q [] S) := fun σ S ω fp Q wd rs h => ⟨[], S, ω, [], fp, rfl, Ext.refl wd.wd, .nil, rs, h⟩
theorem sc_ex (h1 : SE X o e t) (h2 : SC X o es us) : SC X o (e :: es) (fun S Q => t S fun w S1 => us S1 fun ts S2 => Q (.w w :: ts) S2) := by
  intro σ S ω fp Q wd rs h
  refine wE.mono (h1 σ S ω fp _ wd rs h) ?_
  rintro v H1 ⟨w, S1, ω1, f1, s1, rfl, E1, r1, rs1, q1⟩
  have pm : (f1 ++ s1).Perm (s1 ++ f1) := List.perm_append_comm
  have wd1 := E1.wd.perm pm
  refine wL.mono (h2 σ S1 ω1 s1 _ ((wd.trans E1).sub (List.sublist_append_right _ _)) rs1 q1) ?_
  rintro vs H2 ⟨ws, S2, ω2, f2, s2, rfl, E2, r2, rs2, q2⟩
  obtain ⟨E3, k3⟩ := E2.frame (g := f1) wd1.nd (fun x m => E1.wd.dis x (List.mem_append_left _ m)) r1.alloc
  exact ⟨.w w :: ws, S2, ω2, f1 ++ f2, s2, rfl, (E1.permR pm).trans (E3.permR (perm3 _ _ _)), .w (r1.mono E2.bb E2.ll k3) r2, rs2, q2⟩
def plC (i : Nat) (us : TTm) : TTm := fun S Q => match gt S i with
  | none => False
  | some _ => us S fun ts S2 => Q (.pl i :: ts) S2
theorem sc_pl {i : Nat} (hv : PE X e (tVar i)) (h2 : SC X o es us) : SC X o (e :: es) (plC i us) := by
  intro σ S ω fp Q wd rs h
  unfold plC at h
  cases hg : gt S i with
  | none => rw [hg] at h; exact h.elim
  | some w0 =>
    rw [hg] at h
    obtain ⟨v, f1, f2, hs, r, _, _⟩ := rs.split hg
    refine useE hv ⟨v, hs, ?_⟩
    refine wL.mono (h2 σ S ω fp _ wd rs h) ?_
    rintro vs H2 ⟨ws, S2, ω2, fg, s2, rfl, E2, r2, rs2, q2⟩
    exact ⟨.pl i :: ws, S2, ω2, fg, s2, rfl, E2, .pl hs r2, rs2, q2⟩
end
/- a value that is looked at alone -/
mutual
def cvV : W → Option W
  | .d (.list xs) => some (.vl xs)
  | .d x => some (.d x)
  | .vl xs => some (.vl xs)
  | .ol xs => some (.vl xs)
  | .vd k => some (.vd k)
  | .od k => some (.vd k)
  | .vw ws => some (.vw ws)
  | .ow ws => (cvVs ws).map W.vw
  | .tw _ => none
  | .ins _ _ _ => none
def cvVs : List W → Option (List W)
  | [] => some []
  | w :: ws => match cvV w, cvVs ws with
    | some x, some xs => some (x :: xs)
    | _, _ => none
end
mutual
theorem RW.cv {ω : Wo} {L' : Hp} (hL : Le ω.L L') (hB : Le ω.B L') : ∀ {v : V} {w : W} {f : List Addr}, RW ω v w f → (∀ a ∈ f, L' a = ω.H a) → ∀ {w' : W}, cvV w = some w' → RW ⟨ω.B, L', ω.H⟩ v w' []
  | _, _, _, .d (.lst h t), _, w', e => by
    simp only [cvV, Option.some.injEq] at e; subst e
    exact .vl (Rd.mono hB h) t
  | _, _, _, .d .non, _, w', e => by simp only [cvV, Option.some.injEq] at e; subst e; exact .d .non
  | _, _, _, .d (.bl b), _, w', e => by simp only [cvV, Option.some.injEq] at e; subst e; exact .d (.bl b)
  | _, _, _, .d (.int i), _, w', e => by simp only [cvV, Option.some.injEq] at e; subst e; exact .d (.int i)
  | _, _, _, .d (.str x), _, w', e => by simp only [cvV, Option.some.injEq] at e; subst e; exact .d (.str x)
  | _, _, _, .d (.tup h t), _, w', e => by simp only [cvV, Option.some.injEq] at e; subst e; exact .d (.tup h t)
  | _, _, _, .vl h t, _, w', e => by simp only [cvV, Option.some.injEq] at e; subst e; exact .vl (Rd.mono hL h) t
  | _, _, _, .vd h t, _, w', e => by simp only [cvV, Option.some.injEq] at e; subst e; exact .vd (Rd.mono hL h) t
  | _, _, _, .vw h t, _, w', e => by
    simp only [cvV, Option.some.injEq] at e; subst e
    exact .vw (Rd.mono hL h) (RWs.mono (ω := ω) (ω' := ⟨ω.B, L', ω.H⟩) (Le.refl _) hL t fun _ m => nomatch m)
  | _, _, _, .ol h t, k, w', e => by simp only [cvV, Option.some.injEq] at e; subst e; exact .vl (.inl ((k _ (by simp)).trans h)) t
  | _, _, _, .od h t, k, w', e => by simp only [cvV, Option.some.injEq] at e; subst e; exact .vd (.inl ((k _ (by simp)).trans h)) t
  | _, _, _, .ow h t, k, w', e => by
    simp only [cvV, Option.map_eq_some_iff] at e
    obtain ⟨ws', e1, e2⟩ := e
    subst e2
    exact .vw (.inl ((k _ (by simp)).trans h)) (RWs.cv hL hB t (fun a m => k a (List.mem_cons_of_mem _ m)) e1)
  | _, _, _, .tw _ _, _, _, e => by simp [cvV] at e
  | _, _, _, .ins _ _ _ _, _, _, e => by simp [cvV] at e
theorem RWs.cv {ω : Wo} {L' : Hp} (hL : Le ω.L L') (hB : Le ω.B L') : ∀ {vs : List V} {ws : List W} {f : List Addr}, RWs ω vs ws f → (∀ a ∈ f, L' a = ω.H a) → ∀ {ws' : List W}, cvVs ws = some ws' → RWs ⟨ω.B, L', ω.H⟩ vs ws' []
  | _, _, _, .nil, _, ws', e => by
    have e' : [] = ws' := Option.some.inj (by simpa [cvVs] using e)
    subst e'; exact .nil
  | _, _, _, @RWs.cons _ v w f g vs ws r t, k, ws', e => by
    simp only [cvVs] at e
    cases h1 : cvV w with
    | none => rw [h1] at e; cases e
    | some x =>
      cases h2 : cvVs ws with
      | none => rw [h1, h2] at e; cases e
      | some xs =>
        rw [h1, h2] at e
        obtain rfl := Option.some.inj e
        exact RWs.cons (f := []) (g := []) (RW.cv hL hB r (fun a m => k a (List.mem_append_left _ m)) h1) (RWs.cv hL hB t (fun a m => k a (List.mem_append_right _ m)) h2)
end
/-- the lent slots go out -/
def outIo : List AK → List Tm → WSt → WSt
  | .io :: ms, .pl i :: ts, S => outIo ms ts (st S i none)
  | _ :: ms, _ :: ts, S => outIo ms ts S
  | _, _, S => S
/-- the arguments as the def sees them; S: the slots, S' without the lent ones -/
def inArgs : List AK → List Tm → WSt → WSt → Option (List W)
  | [], [], _, _ => some []
  | .io :: ms, .pl i :: ts, S, S' => match gt S i, inArgs ms ts (st S i none) S' with
    | some w, some ws => some (w :: ws)
    | _, _ => none
  | .dat :: ms, .w (.d x) :: ts, S, S' => (inArgs ms ts S S').map (W.d x :: ·)
  | .dat :: ms, .pl i :: ts, S, S' => match gt S' i with
    | some (.d x) => (inArgs ms ts S S').map (W.d x :: ·)
    | _ => none
  | .vw :: ms, .w w :: ts, S, S' => match cvV w, inArgs ms ts S S' with
    | some w', some ws => some (w' :: ws)
    | _, _ => none
  | .vw :: ms, .pl i :: ts, S, S' => match gt S' i with
    | some w => (match cvV w, inArgs ms ts S S' with
      | some w', some ws => some (w' :: ws)
      | _, _ => none)
    | none => none
  | _, _, _, _ => none
/-- and they come back -/
def backIo : List AK → List Tm → WSt → WSt → WSt
  | .io :: ms, .pl i :: ts, some w :: r, S => st (backIo ms ts r S) i (some w)
  | _ :: ms, _ :: ts, _ :: r, S => backIo ms ts r S
  | _, _, _, S => S
def callT (ct : Ct) (ms : List AK) (EW : EWs) (us : TTm) : TW := fun S Q => us S fun ts S2 => match inArgs ms ts S2 (outIo ms ts S2) with
  | some ws => ct ws (fun w wso => noV w = true ∧ noVo wso = true ∧ Q w (backIo ms ts wso (outIo ms ts S2))) (fun x wso => noVo wso = true ∧ EW x (backIo ms ts wso (outIo ms ts S2)))
  | none => False
end MV

namespace MV
open PySem PySem.Spec PyProof.Rows L2

theorem io_out {ω : Wo} {σ : L2.St} {S' : WSt} : ∀ {ms : List AK} {ts : List Tm} {S : WSt} {ws : List W} {vs : List V} {fv fs : List Addr}, inArgs ms ts S S' = some ws → RTs ω σ vs ts fv → RSs ω σ S fs →
    ∃ fio rest, RSs ω σ (outIo ms ts S) rest ∧ fs.Perm (fio ++ rest) ∧ ∀ (L' : Hp) (r' : List Addr), Le ω.L L' → Le ω.B L' → (∀ a ∈ fv, L' a = ω.H a) → RSs ω σ S' r' → (∀ a ∈ r', L' a = ω.H a) → RWs ⟨ω.B, L', ω.H⟩ vs ws fio
  | [], [], S, ws, vs, fv, fs, e, rt, rs => by
    obtain rfl : [] = ws := Option.some.inj (by simpa [inArgs] using e)
    cases rt
    exact ⟨[], fs, rs, List.Perm.refl _, fun _ _ _ _ _ _ _ => .nil⟩
  | .io :: ms, .pl i :: ts, S, ws, vs, fv, fs, e, rt, rs => by
    simp only [inArgs] at e
    cases hg : gt S i with
    | none => rw [hg] at e; cases e
    | some w =>
      rw [hg] at e
      cases hi : inArgs ms ts (st S i none) S' with
      | none => rw [hi] at e; cases e
      | some ws' =>
        rw [hi] at e
        obtain rfl := Option.some.inj e
        cases rt with
        | pl hs rt =>
          obtain ⟨v', f1, f2, hs', r, rs2, pm⟩ := rs.split hg
          rw [hs] at hs'
          obtain rfl := Option.some.inj (Option.some.inj hs')
          obtain ⟨fio, rest, rs3, pm3, k⟩ := io_out hi rt rs2
          refine ⟨f1 ++ fio, rest, rs3, ?_, fun L' r' hL hB h1 h2 h3 => .cons (RW.mono (ω := ω) (ω' := ⟨ω.B, L', ω.H⟩) (Le.refl _) hL r fun _ _ => rfl) (k L' r' hL hB h1 h2 h3)⟩
          rw [List.append_assoc]
          exact pm.trans (List.Perm.append_left f1 pm3)
  | .dat :: ms, .w (.d x) :: ts, S, ws, vs, fv, fs, e, rt, rs => by
    simp only [inArgs, Option.map_eq_some_iff] at e
    obtain ⟨ws', hi, rfl⟩ := e
    cases rt with
    | w r rt =>
      obtain ⟨fio, rest, rs3, pm3, k⟩ := io_out hi rt rs
      cases r with | d dx =>
      exact ⟨fio, rest, rs3, pm3, fun L' r' hL hB h1 h2 h3 => RWs.cons (f := []) (.d dx) (k L' r' hL hB (fun a m => h1 a m) h2 h3)⟩
  | .dat :: ms, .pl i :: ts, S, ws, vs, fv, fs, e, rt, rs => by
    simp only [inArgs] at e
    split at e
    · rename_i x hg
      rw [Option.map_eq_some_iff] at e
      obtain ⟨ws', hi, rfl⟩ := e
      cases rt with
      | pl hs rt =>
        obtain ⟨fio, rest, rs3, pm3, k⟩ := io_out hi rt rs
        refine ⟨fio, rest, rs3, pm3, fun L' r' hL hB h1 h2 h3 => ?_⟩
        obtain ⟨v', f1, f2, hs', r, rs2, pm⟩ := h2.split hg
        rw [hs] at hs'
        obtain rfl := Option.some.inj (Option.some.inj hs')
        cases r with | d dx =>
        exact RWs.cons (f := []) (.d dx) (k L' r' hL hB h1 h2 h3)
    · cases e
  | .vw :: ms, .w w :: ts, S, ws, vs, fv, fs, e, rt, rs => by
    simp only [inArgs] at e
    split at e
    · rename_i w' ws' hc hi
      obtain rfl := Option.some.inj e
      cases rt with
      | w r rt =>
        obtain ⟨fio, rest, rs3, pm3, k⟩ := io_out hi rt rs
        exact ⟨fio, rest, rs3, pm3, fun L' r' hL hB h1 h2 h3 => RWs.cons (f := []) (RW.cv hL hB r (fun a m => h1 a (List.mem_append_left _ m)) hc) (k L' r' hL hB (fun a m => h1 a (List.mem_append_right _ m)) h2 h3)⟩
    · cases e
  | .vw :: ms, .pl i :: ts, S, ws, vs, fv, fs, e, rt, rs => by
    simp only [inArgs] at e
    split at e
    · rename_i w hg
      split at e
      · rename_i w' ws' hc hi
        obtain rfl := Option.some.inj e
        cases rt with
        | pl hs rt =>
          obtain ⟨fio, rest, rs3, pm3, k⟩ := io_out hi rt rs
          refine ⟨fio, rest, rs3, pm3, fun L' r' hL hB h1 h2 h3 => ?_⟩
          obtain ⟨v', f1, f2, hs', r, rs2, pm⟩ := h2.split hg
          rw [hs] at hs'
          obtain rfl := Option.some.inj (Option.some.inj hs')
          exact RWs.cons (f := []) (RW.cv hL hB r (fun a m => h3 a (pm.mem_iff.mpr (List.mem_append_left _ m))) hc) (k L' r' hL hB h1 h2 h3)
      · cases e
    · cases e
  | [], _ :: _, _, _, _, _, _, e, _, _ => by simp [inArgs] at e
  | .io :: _, [], _, _, _, _, _, e, _, _ => by simp [inArgs] at e
  | .dat :: _, [], _, _, _, _, _, e, _, _ => by simp [inArgs] at e
  | .vw :: _, [], _, _, _, _, _, e, _, _ => by simp [inArgs] at e
  | .io :: _, .w _ :: _, _, _, _, _, _, e, _, _ => by simp [inArgs] at e
  | .dat :: _, .w (.vl _) :: _, _, _, _, _, _, e, _, _ => by simp [inArgs] at e
  | .dat :: _, .w (.vd _) :: _, _, _, _, _, _, e, _, _ => by simp [inArgs] at e
  | .dat :: _, .w (.ol _) :: _, _, _, _, _, _, e, _, _ => by simp [inArgs] at e
  | .dat :: _, .w (.od _) :: _, _, _, _, _, _, e, _, _ => by simp [inArgs] at e
  | .dat :: _, .w (.vw _) :: _, _, _, _, _, _, e, _, _ => by simp [inArgs] at e
  | .dat :: _, .w (.ow _) :: _, _, _, _, _, _, e, _, _ => by simp [inArgs] at e
  | .dat :: _, .w (.tw _) :: _, _, _, _, _, _, e, _, _ => by simp [inArgs] at e
  | .dat :: _, .w (.ins _ _ _) :: _, _, _, _, _, _, e, _, _ => by simp [inArgs] at e
theorem io_back {ω ω0 : Wo} {σ : L2.St} : ∀ {ms : List AK} {ts : List Tm} {wso : WSt} {S : WSt} {vs : List V} {fv fso fs : List Addr}, RTs ω0 σ vs ts fv → RSs ω (vs.map some) wso fso → RSs ω σ S fs →
    ∃ h g, RSs ω σ (backIo ms ts wso S) h ∧ h.Perm g ∧ g.Sublist (fso ++ fs) := by
  intro ms ts
  induction ts generalizing ms with
  | nil =>
    intro wso S vs fv fso fs rt ro rs
    have e : backIo ms [] wso S = S := by
      cases ms with
      | nil => rfl
      | cons m ms => cases m <;> rfl
    rw [e]
    exact ⟨fs, fs, rs, List.Perm.refl _, List.sublist_append_right _ _⟩
  | cons t ts ih =>
    intro wso S vs fv fso fs rt ro rs
    cases ms with
    | nil => exact ⟨fs, fs, rs, List.Perm.refl _, List.sublist_append_right _ _⟩
    | cons m ms =>
      have other : ∀ {x : Option W} {r : WSt} {v : V} {vs' : List V} {f1 : List Addr}, RTs ω0 σ vs' ts f1 → wso = x :: r → vs = v :: vs' → ∃ h g, RSs ω σ (backIo ms ts r S) h ∧ h.Perm g ∧ g.Sublist (fso ++ fs) := by
        intro x r v vs' f1 rt' e1 e2
        subst e1 e2
        rw [List.map_cons] at ro
        cases ro with
        | dead ro => exact ih rt' ro rs
        | live r1 ro =>
          obtain ⟨h, g, a, b, c⟩ := ih (ms := ms) rt' ro rs
          exact ⟨h, g, a, b, by rw [List.append_assoc]; exact c.trans (List.sublist_append_right _ _)⟩
      cases rt with
      | @w v w0 f g vs' _ r rt' =>
        cases wso with
        | nil => cases ro
        | cons x r =>
          have e : backIo (m :: ms) (.w w0 :: ts) (x :: r) S = backIo ms ts r S := by cases m <;> cases x <;> rfl
          rw [e]
          exact other rt' rfl rfl
      | @pl v i g vs' _ hs rt' =>
        cases wso with
        | nil => cases ro
        | cons x r =>
          cases m with
          | io =>
            cases x with
            | none => exact other rt' rfl rfl
            | some w =>
              rw [List.map_cons] at ro
              cases ro with
              | live r1 ro =>
                obtain ⟨h, g, a, b, c⟩ := ih (ms := ms) rt' ro rs
                obtain ⟨h2, f', r2, p2, s2⟩ := a.fill (i := i) hs r1
                obtain ⟨f3, p3, s3⟩ := List.exists_perm_sublist s2 b
                exact ⟨h2, _, r2, p2.trans (List.Perm.append_left _ p3.symm), by rw [List.append_assoc]; exact List.Sublist.append (List.Sublist.refl _) (s3.trans c)⟩
          | dat => cases x <;> exact other rt' rfl rfl
          | vw => cases x <;> exact other rt' rfl rfl
/-- the callee's world: all but what is lent stands -/
def calleeL (ω : Wo) (fio : List Addr) : Hp := fun a => if a ∈ fio then none else ω.H a
def callerL (ω : Wo) (B' : Hp) : Hp := fun a => match ω.L a with
  | some o => some o
  | none => B' a
theorem back_world {ω ω' : Wo} {fio rest f' : List Addr} (wd : Wd ω (fio ++ rest)) (al : ∀ a ∈ rest, ω.H a ≠ none) (E : Ext ⟨ω.B, calleeL ω fio, ω.H⟩ fio ω' f') :
    Ext ω (fio ++ rest) ⟨ω'.B, callerL ω ω'.B, ω'.H⟩ (f' ++ rest) ∧ ∀ a ∈ rest, ω'.H a = ω.H a := by
  obtain ⟨nd1, nd2, nd3⟩ := List.nodup_append.mp wd.nd
  have cL : ∀ a o, ω.L a = some o → ω'.L a = some o := fun a o e => E.ll a o (by
    show calleeL ω fio a = some o
    unfold calleeL
    rw [if_neg (fun m => by have := wd.dis a (List.mem_append_left _ m); rw [e] at this; cases this)]
    exact wd.lh a o e)
  have hL : ∀ a o, callerL ω ω'.B a = some o → ω'.L a = some o := fun a o e => by
    unfold callerL at e
    split at e
    · rename_i o' e'
      obtain rfl := Option.some.inj e
      exact cL a _ e'
    · exact E.wd.bl a o e
  have Lnone : ∀ a, ω'.L a = none → callerL ω ω'.B a = none := fun a e => by
    cases q : callerL ω ω'.B a with
    | none => rfl
    | some o => rw [hL a o q] at e; cases e
  have Bnone : ∀ a, ω.L a = none → ω'.B a = none → callerL ω ω'.B a = none := fun a e1 e2 => by unfold callerL; rw [e1]; exact e2
  have nBr : ∀ a ∈ rest, ω'.B a = none := fun a m => by
    cases q : ω'.B a with
    | none => rfl
    | some o =>
      have hLa := wd.dis a (List.mem_append_right _ m)
      rcases E.nB a (by rw [q]; simp) with z | z | z
      · exact absurd (wd.bl.none hLa) z
      · exact absurd rfl (nd3 a z a m)
      · exact absurd z (al a m)
  refine ⟨⟨⟨fun a o e => ?_, fun a o e => E.wd.lh a o (hL a o e), List.nodup_append.mpr ⟨E.wd.nd, nd2, fun x h y h' e => ?_⟩, fun a m => ?_⟩, E.bb, fun a o e => ?_, fun a o e n => E.keep a o e fun m => n (List.mem_append_left _ m), fun a m => ?_, fun a h => ?_, fun a h => ?_⟩, fun a m => ?_⟩
  · show callerL ω ω'.B a = some o
    unfold callerL
    split
    · rename_i o' e'
      have h1 := cL a o' e'
      rw [E.wd.bl a o e] at h1
      exact h1.symm
    · exact e
  · subst e
    rcases E.nfp x h with q | q
    · exact nd3 x q x h' rfl
    · exact al x h' q
  · rcases List.mem_append.mp m with m | m
    · exact Lnone a (E.wd.dis a m)
    · exact Bnone a (wd.dis a (List.mem_append_right _ m)) (nBr a m)
  · show callerL ω ω'.B a = some o
    unfold callerL
    rw [e]
  · rcases List.mem_append.mp m with m | m
    · exact (E.nfp a m).imp (List.mem_append_left _) id
    · exact .inl (List.mem_append_right _ m)
  · have h' : callerL ω ω'.B a ≠ none := h
    unfold callerL at h'
    cases q : ω.L a with
    | some o => exact .inl (by simp)
    | none =>
      rw [q] at h'
      rcases E.nB a h' with z | z | z
      · exact absurd (wd.bl.none q) z
      · exact .inr (.inl (List.mem_append_left _ z))
      · exact .inr (.inr z)
  · rcases E.nB a h with z | z | z
    · exact .inl z
    · exact .inr (.inl (List.mem_append_left _ z))
    · exact .inr (.inr z)
  · cases q : ω.H a with
    | none => exact absurd q (al a m)
    | some o => exact E.keep a o q fun z => nd3 a z a m rfl
theorem callee_wd {ω : Wo} {fio rest : List Addr} (wd : Wd ω (fio ++ rest)) : Wd ⟨ω.B, calleeL ω fio, ω.H⟩ fio ∧ Le ω.L (calleeL ω fio) ∧ Le ω.B (calleeL ω fio) := by
  have h1 : Le ω.L (calleeL ω fio) := fun a o e => by
    unfold calleeL
    rw [if_neg (fun m => by have := wd.dis a (List.mem_append_left _ m); rw [e] at this; cases this)]
    exact wd.lh a o e
  refine ⟨⟨wd.bl.trans h1, fun a o e => ?_, (List.nodup_append.mp wd.nd).1, fun a m => ?_⟩, h1, wd.bl.trans h1⟩
  · have e' : calleeL ω fio a = some o := e
    unfold calleeL at e'
    split at e'
    · cases e'
    · exact e'
  · show calleeL ω fio a = none
    unfold calleeL
    rw [if_pos m]
section
variable {X : Cx} {o : Og} {e : Expr} {es : List Expr} {us : TTm}
/-- what a call of a promise asks, from the operands -/
theorem sp_of_call {ct : Ct} {ms : List AK} {EW : EWs} {ω : Wo} {fp : List Addr} {σ : L2.St} {vs : List V} {H1 : Hp} {Q : QW} (wd : In o ω fp) (h : PostC ω fp σ (fun ts S2 => match inArgs ms ts S2 (outIo ms ts S2) with
    | some ws => ct ws (fun w wso => noV w = true ∧ noVo wso = true ∧ Q w (backIo ms ts wso (outIo ms ts S2))) (fun x wso => noVo wso = true ∧ EW x (backIo ms ts wso (outIo ms ts S2)))
    | none => False) vs H1) : spOf ct vs H1 (PostE ω fp σ Q) (fun c d H => wishOf o EW c d σ H) := by
  obtain ⟨ts, S2, ω2, fv, fs, rfl, E, rt, rs, q⟩ := h
  split at q
  · rename_i ws hi
    obtain ⟨fio, rest, rs3, pm, k⟩ := io_out hi rt rs
    have pm2 : (fv ++ fs).Perm (fio ++ (fv ++ rest)) := by
      refine (List.Perm.append_left fv pm).trans ?_
      rw [List.perm_iff_count]; intro x
      simp only [List.count_append]; omega
    have wdA : Wd ω2 (fio ++ (fv ++ rest)) := E.wd.perm pm2
    have wdB : Wd ω2 (fio ++ rest) := wdA.sub (List.Sublist.append (List.Sublist.refl _) (List.sublist_append_right _ _))
    obtain ⟨wc, l1, l2⟩ := callee_wd wdB
    have nd := List.nodup_append.mp wdA.nd
    have cl : ∀ a ∈ fv ++ rest, calleeL ω2 fio a = ω2.H a := fun a m => by
      unfold calleeL
      rw [if_neg (fun z => nd.2.2 a z a m rfl)]
    have ra := k (calleeL ω2 fio) rest l1 l2 (fun a m => cl a (List.mem_append_left _ m)) rs3 (fun a m => cl a (List.mem_append_right _ m))
    refine ⟨ws, ⟨ω2.B, calleeL ω2 fio, ω2.H⟩, fio, _, _, rfl, wc, ra, q, ?_, ?_⟩
    · rintro w wso ⟨n1, n2, q⟩ v ω' fr fso E3 rw' ro
      obtain ⟨E4, k4⟩ := back_world wdB rs3.alloc E3
      have rwf : RW ⟨ω'.B, callerL ω2 ω'.B, ω'.H⟩ v w fr := rw'.noL n1 (Le.refl _) fun _ _ => rfl
      have rof : RSs ⟨ω'.B, callerL ω2 ω'.B, ω'.H⟩ (vs.map some) wso fso := ro.noL n2 (Le.refl _) fun _ _ => rfl
      have rsf : RSs ⟨ω'.B, callerL ω2 ω'.B, ω'.H⟩ σ (outIo ms ts S2) rest := rs3.mono E4.bb E4.ll k4
      obtain ⟨h, g, rb, pb, sb⟩ := io_back (ms := ms) rt rof rsf
      refine ⟨w, _, ⟨ω'.B, callerL ω2 ω'.B, ω'.H⟩, fr, h, rfl, ?_, rwf, rb, q⟩
      have E5 : Ext ω fp ω2 (fio ++ rest) := (E.permR pm2).sub (List.Sublist.append (List.Sublist.refl _) (List.sublist_append_right _ _))
      have E6 := E5.trans E4
      rw [List.append_assoc] at E6
      exact (E6.sub (List.Sublist.append (List.Sublist.refl fr) sb)).permR (List.Perm.append_left fr pb.symm)
    · rintro x wso ⟨n2, q⟩ d ω' fso E3 ro xd
      obtain ⟨E4, k4⟩ := back_world wdB rs3.alloc E3
      have rof : RSs ⟨ω'.B, callerL ω2 ω'.B, ω'.H⟩ (vs.map some) wso fso := ro.noL n2 (Le.refl _) fun _ _ => rfl
      have rsf : RSs ⟨ω'.B, callerL ω2 ω'.B, ω'.H⟩ σ (outIo ms ts S2) rest := rs3.mono E4.bb E4.ll k4
      obtain ⟨h, g, rb, pb, sb⟩ := io_back (ms := ms) rt rof rsf
      refine ⟨x, _, ⟨ω'.B, callerL ω2 ω'.B, ω'.H⟩, h, rfl, ?_, rb, rfl, xd, q⟩
      have E5 : Ext ω fp ω2 (fio ++ rest) := (E.permR pm2).sub (List.Sublist.append (List.Sublist.refl _) (List.sublist_append_right _ _))
      have E6 := (wd.trans E5).trans E4
      exact (E6.sub sb).permR pb.symm
  · exact q.elim
theorem se_call {ct : Ct} {ms : List AK} {EW : EWs} {k : Nat} {f : Addr} {fd : FuncData} {ps : List Str} {x : Str} {p pos : Pos} (F : FnOk X.prog X.w X.K X.mg X.base (L2.CX X.prog X.w) k f fd ps (spOf ct)) (hr : Room k X.A) (hg : Gl X x) (hm : X.mg x = some (.ref f)) (hk : PySem.W.keepIn X.K (.ref f) = true) (hb : Binds X.K fd ps []) (xo : XOk X o EW)
    (hns : (e :: es).all noStar = true) (ha : SC X o (e :: es) us) (hdb : (x == ("__debug__" : Str)) = false := by decide) : SE X o (.Call (.Name x p) (e :: es) [] pos) (callT ct ms EW us) := by
  intro σ S ω fp Q wd rs q
  have h2 := hns
  rw [List.all_cons, Bool.and_eq_true] at h2
  exact useE (pe_callS F hr hg hm hk hb xo (pL hns) hdb (starE h2.1) (backTo_any h2.2)) (wL.mono (ha σ S ω fp _ wd rs q) fun vs H1 h => sp_of_call wd h)
end
/-! ### a def's body keeps its contract -/
def lentOf : List AK → WSt → WSt
  | .io :: ms, w :: S => w :: lentOf ms S
  | _ :: ms, _ :: S => none :: lentOf ms S
  | _, _ => []
end MV

namespace MV
open PySem PySem.Spec PyProof.Rows L2

/-! ### slices -/
def cutP {α : Type} (xs : List α) (lo hi : Option Int) : List α := (xs.drop (HT.sIx xs.length 0 lo)).take (HT.sIx xs.length xs.length hi - HT.sIx xs.length 0 lo)
theorem cutP_whole {α : Type} {xs : List α} {lo hi : Option Int} (h1 : HT.sIx xs.length 0 lo = 0) (h2 : HT.sIx xs.length xs.length hi = xs.length) : cutP xs lo hi = xs := by
  unfold cutP
  rw [h1, h2, List.drop_zero, Nat.sub_zero, List.take_length]
def slcW (lo hi : Option Int) (w : W) (Q : W → Prop) : Prop := match asL w with
  | some xs => Q (.ol (cutP xs lo hi))
  | none => match w with
    | .d (.tuple xs) => Q (.d (.tuple (cutP xs lo hi)))
    | _ => False
def rSlC (X : Cx) : V → Option Int → Option Int → Hp → VK → Prop := fun x lo hi H Q => ∀ (pins : List (Addr × Obj)) (s : Shared) (σ : L2.St) (v vl vu : Value) (sl : Addr), Inv X pins σ H s → RelV x v → s.heap.IsSliceOf sl vl vu .none → IsPart vl lo → IsPart vu hi →
    ∃ T id, typeLookup (.type T) "__getitem__" = pure (some (.builtin id)) ∧ s.TypeIs v T ∧ wpAny (model X.prog X.w) X.A (getItem v (.ref sl)) (EP X pins σ Q) X.xe s
theorem DqAll.cut {A : Hp} {vs : List V} {xs : List PyData} (h : DqAll A vs xs) (lo hi : Option Int) : DqAll A (cutV vs lo hi) (cutP xs lo hi) := by
  unfold cutV cutP
  rw [h.len]
  exact (h.drop _).take _
section
variable {X : Cx} {o : Og} {a b c e : Expr} {es : List Expr} {pos p2 : Pos} {us : TWs} {t u : TW}
theorem slC : SlR X (rSlC X) := fun pins s σ H x v vl vu lo hi sl Q I r hs pl pu h => h pins s σ v vl vu sl I r hs pl pu
theorem sl_W {ω : Wo} {fs : List Addr} {v : V} {w : W} {f : List Addr} {lo hi : Option Int} {Q : W → Prop} (wd : Wd ω fs) (al : ∀ a ∈ fs, ω.H a ≠ none) (r : RW ω v w f) (h : slcW lo hi w Q) : rSlC X v lo hi ω.H (FR ω fs Q) := by
  unfold slcW at h
  intro pins s σ v' vl vu sl I rv hs pl pu
  split at h
  · rename_i xs e
    obtain ⟨a, vs, rfl, hh, t⟩ := r.asL wd e
    exact sl_list pins s σ ω.H _ v' vl vu lo hi sl _ I rv hs pl pu ⟨a, vs, rfl, .inl hh, fun p hp => FR.lst wd al hp (t.cut lo hi) h⟩
  · split at h
    · cases r with | d d1 =>
      cases d1 with | tup hh t =>
      refine sl_tupA pins s σ ω.H _ v' vl vu lo hi sl _ I rv hs pl pu ⟨_, _, rfl, .inl (Rd.mono wd.bh hh), fun z => ?_, fun _ p hp => FR.tup wd al hp (t.cut lo hi) h⟩
      rw [t.len] at z
      rw [cutP_whole z.1 z.2] at h
      exact FR.imm wd (.tup hh t) h
    · exact h.elim
def slLo (us : TWs) : TW := fun S Q => us S fun ws S' => match ws with
  | [w, .d (.int i)] => slcW (some i) none w fun r => Q r S'
  | _ => False
def slHi (us : TWs) : TW := fun S Q => us S fun ws S' => match ws with
  | [w, .d (.int i)] => slcW none (some i) w fun r => Q r S'
  | _ => False
theorem sl_post {ω : Wo} {fp : List Addr} {σ : L2.St} {lo hi : Option Int} {v : V} {w : W} {f : List Addr} {ω' : Wo} {fg fs : List Addr} {S' : WSt} {Q : QW} (E : Ext ω fp ω' (fg ++ fs)) (rs : RSs ω' σ S' fs) (r : RW ω' v w f) (h : slcW lo hi w fun r => Q r S') : rSlC X v lo hi ω'.H (PostE ω fp σ Q) := by
  intro pins s σ' v' vl vu sl I rv hs pl pu
  obtain ⟨T, id, h1, h2, h3⟩ := sl_W (X := X) (E.wd.sub (List.sublist_append_right _ _)) rs.alloc r h pins s σ' v' vl vu sl I rv hs pl pu
  exact ⟨T, id, h1, h2, thn h3 fun u s' ⟨z, H', I', r', q'⟩ => ⟨z, H', I', r', FR.post E rs q'⟩⟩
theorem se_slLo (h : SOl X o [a, b] us) : SE X o (.Subscript a (.Slice (some b) none none p2) pos) (slLo us) := by
  intro σ S ω fp Q wd rs q
  refine useE (pe_slice slC (pE a) (po_some (pE b)) po_none) (wE.mono (h σ S ω fp _ wd rs q) fun x H1 h1 => wE.mono h1 ?_)
  rintro y H2 ⟨ws, S', ω', fg, fs, rfl, E, rl, rs', q'⟩
  split at q'
  · obtain ⟨v1, g1, v2, g2, ev, r1, r2⟩ := rl.two
    injection ev with e1 e2
    injection e2 with e2 _
    subst e1 e2
    cases r2 with | d d2 =>
    cases d2
    exact ⟨_, rfl, sl_post E rs' r1 q'⟩
  · exact q'.elim
theorem se_slHi (h : SOl X o [a, b] us) : SE X o (.Subscript a (.Slice none (some b) none p2) pos) (slHi us) := by
  intro σ S ω fp Q wd rs q
  refine useE (pe_slice slC (pE a) po_none (po_some (pE b))) (wE.mono (h σ S ω fp _ wd rs q) fun x H1 h1 => wE.mono h1 ?_)
  rintro y H2 ⟨ws, S', ω', fg, fs, rfl, E, rl, rs', q'⟩
  split at q'
  · obtain ⟨v1, g1, v2, g2, ev, r1, r2⟩ := rl.two
    injection ev with e1 e2
    injection e2 with e2 _
    subst e1 e2
    cases r2 with | d d2 =>
    cases d2
    exact ⟨_, rfl, sl_post E rs' r1 q'⟩
  · exact q'.elim
def slLHp (i : Nat) (t u : TW) : TW := fun S Q => match gt S i with
  | none => False
  | some _ => t S fun wb S1 => match wb with
    | .d (.int x) => u S1 fun wc S2 => (match wc, gt S2 i with
      | .d (.int y), some w => slcW (some x) (some y) w fun r => Q r S2
      | _, _ => False)
    | _ => False
theorem se_slLHp {i : Nat} (hv : PE X a (tVar i)) (hb : SE X o b t) (hc : SE X o c u) : SE X o (.Subscript a (.Slice (some b) (some c) none p2) pos) (slLHp i t u) := by
  intro σ S ω fp Q wd rs q
  unfold slLHp at q
  cases hg : gt S i with
  | none => rw [hg] at q; exact q.elim
  | some w0 =>
    rw [hg] at q
    obtain ⟨v, _, _, hs, _, _, _⟩ := rs.split hg
    refine useE (pe_slice slC hv (po_some (pE b)) (po_some (pE c))) ⟨v, hs, wE.mono (hb σ S ω fp _ wd rs q) ?_⟩
    rintro y H2 ⟨wb, S1, ω1, f1, s1, rfl, E1, r1, rs1, q1⟩
    split at q1
    · cases r1 with | d d1 =>
      cases d1
      have E1' := E1.dropL
      refine ⟨_, rfl, wE.mono (hc σ S1 ω1 s1 _ (wd.trans E1') rs1 q1) ?_⟩
      rintro z H3 ⟨wc, S2, ω2, f2, s2, rfl, E2, r2, rs2, q2⟩
      split at q2
      · rename_i y' w hg2
        cases r2 with | d d2 =>
        cases d2
        obtain ⟨v', _, _, hs', r', _, _⟩ := rs2.split hg2
        rw [hs] at hs'
        obtain rfl := Option.some.inj (Option.some.inj hs')
        exact ⟨_, rfl, sl_post (E1'.trans E2) rs2 r' q2⟩
      · exact q2.elim
    · exact q1.elim
def slLHe (ta t u : TW) : TW := fun S Q => ta S fun wa S0 => t S0 fun wb S1 => match wb with
    | .d (.int x) => u S1 fun wc S2 => (match wc with
      | .d (.int y) => slcW (some x) (some y) wa fun r => Q r S2
      | _ => False)
    | _ => False
theorem se_slLHe {ta : TW} (ha : SE X o a ta) (hb : SE X o b t) (hc : SE X o c u) : SE X o (.Subscript a (.Slice (some b) (some c) none p2) pos) (slLHe ta t u) := by
  intro σ S ω fp Q wd rs q
  refine useE (pe_slice slC (pE a) (po_some (pE b)) (po_some (pE c))) (wE.mono (ha σ S ω fp _ wd rs q) ?_)
  rintro x H1 ⟨wa, S0, ω0, f0, s0, rfl, E0, r0, rs0, q0⟩
  have pm : (f0 ++ s0).Perm (s0 ++ f0) := List.perm_append_comm
  have lf : ∀ x ∈ f0, ω0.L x = none := fun x m => E0.wd.dis x (List.mem_append_left _ m)
  refine wE.mono (hb σ S0 ω0 s0 _ ((wd.trans E0).sub (List.sublist_append_right _ _)) rs0 q0) ?_
  rintro y H2 ⟨wb, S1, ω1, f1, s1, rfl, E1, r1, rs1, q1⟩
  split at q1
  · cases r1 with | d d1 =>
    cases d1
    obtain ⟨E1f, k1⟩ := (E1.dropL).frame (g := f0) (E0.wd.perm pm).nd lf r0.alloc
    have r0' : RW ω1 x wa f0 := r0.mono E1.bb E1.ll k1
    have E01 : Ext ω fp ω1 (s1 ++ f0) := (E0.permR pm).trans E1f
    refine ⟨_, rfl, wE.mono (hc σ S1 ω1 s1 _ ((wd.trans E01).sub (List.sublist_append_left _ _)) rs1 q1) ?_⟩
    rintro z H3 ⟨wc, S2, ω2, f2, s2, rfl, E2, r2, rs2, q2⟩
    split at q2
    · cases r2 with | d d2 =>
      cases d2
      obtain ⟨E2f, k2⟩ := (E2.dropL).frame (g := f0) E01.wd.nd (fun x m => E01.wd.dis x (List.mem_append_right _ m)) r0'.alloc
      have r0'' : RW ω2 x wa f0 := r0'.mono E2.bb E2.ll k2
      exact ⟨_, rfl, sl_post (fg := f0) ((E01.trans E2f).permR List.perm_append_comm) rs2 r0'' q2⟩
    · exact q2.elim
  · exact q1.elim
/-! ### dicts written out -/
def dict0 : TW := fun S Q => Q (.od []) S
theorem se_dict0 : SE X o (.Dict [] [] pos) dict0 := by
  intro σ S ω fp Q wd rs q
  refine useE pe_dnewK fun p hp => ?_
  have E := Ext.own (o := .dK []) wd.wd rs.alloc hp
  have g : Gr ω.H (upd ω.H p (.dK [])) := fun a o e => le_upd_new hp a o e
  exact ⟨_, S, ⟨ω.B, ω.L, upd ω.H p (.dK [])⟩, [p], fp, rfl, E, .od upd_same ⟨rfl, .nil⟩, RSs.mono (ω := ω) (ω' := ⟨ω.B, ω.L, upd ω.H p (.dK [])⟩) (Le.refl _) (Le.refl _) rs (g.same rs.alloc), q⟩
def dict1 (us : TWs) : TW := fun S Q => us S fun ws S' => match ws with
  | [k, u] => (match rdW k, fzW u with
    | some y, some x => (match keyD y with
      | some key => Q (.od [(key, x)]) S'
      | none => False)
    | _, _ => False)
  | _ => False
theorem se_dict1 (h : SX X o [a, b] us) : SE X o (.Dict [some a] [b] pos) (dict1 us) := by
  intro σ S ω fp Q wd rs q
  refine useE (pe_disp (trs := [(wE X a, wE X b)]) (pps_cons (pE a) (pE b) pps_nil) rfl rfl (by simp) (by simp)) fun p hp => ?_
  have E0 := Ext.own (o := .dK []) wd.wd rs.alloc hp
  have g0 : Gr ω.H (upd ω.H p (.dK [])) := fun a o e => le_upd_new hp a o e
  have rs0 : RSs ⟨ω.B, ω.L, upd ω.H p (.dK [])⟩ σ S fp := RSs.mono (ω := ω) (ω' := ⟨ω.B, ω.L, upd ω.H p (.dK [])⟩) (Le.refl _) (Le.refl _) rs (g0.same rs.alloc)
  have E0p : Ext ω fp ⟨ω.B, ω.L, upd ω.H p (.dK [])⟩ (fp ++ [p]) := E0.permR (List.perm_append_singleton p fp).symm
  have hx := h σ S ⟨ω.B, ω.L, upd ω.H p (.dK [])⟩ fp _ ((wd.trans E0).sub (List.sublist_cons_self _ _)) rs0 q
  have fin : ∀ x y H3, PostX ⟨ω.B, ω.L, upd ω.H p (.dK [])⟩ fp σ (fun ws S' => match ws with
    | [k, u] => (match rdW k, fzW u with
      | some y, some x => (match keyD y with
        | some key => Q (.od [(key, x)]) S'
        | none => False)
      | _, _ => False)
    | _ => False) [x, y] H3 → H3 p = some (.dK []) ∧ ∃ kvs : List (Key × V), [(x, y)] = kvs.map (fun kv => (kV kv.1, kv.2)) ∧ kvs.length ≤ 15 ∧ PostE ω fp σ Q (.ref p) (upd H3 p (.dK (mergeK [] kvs))) := by
    rintro x y H3 ⟨ws, S', ω', fv, fs, rfl, E, r, rs', q'⟩
    obtain ⟨E1, k1⟩ := E.frame (g := [p]) E0p.wd.nd (fun x m => E0p.wd.dis x (List.mem_append_right _ m)) (fun x m => by simp at m; subst m; show upd ω.H x _ x ≠ none; rw [upd_same]; simp)
    have hp' : ω'.H p = some (.dK []) := (k1 p (by simp)).trans upd_same
    refine ⟨hp', ?_⟩
    cases r with
    | @cons _ wk fk f2 _ _ r1 r =>
      cases r with
      | @cons _ wu fu f3 _ _ r2 r =>
        cases r with
        | nil =>
          simp only at q'
          split at q'
          · rename_i yk xu ey ex
            split at q'
            · rename_i key ek
              have ev := keyD_V (r1.rd E.wd ey) ek
              subst ev
              have E01 := E0p.trans E1
              rw [List.append_nil] at E01
              have pm : (fk ++ fu ++ fs ++ [p]).Perm (fu ++ ((fs ++ [p]) ++ fk)) := by
                rw [List.perm_iff_count]; intro x
                simp only [List.count_append]; omega
              have E01' := E01.permR pm
              obtain ⟨ω2, hH, E2, D2⟩ := r2.freeze ex E01'.wd (fun x m => by
                rcases List.mem_append.mp m with m | m
                · rcases List.mem_append.mp m with m | m
                  · exact rs'.alloc x m
                  · simp at m; subst m; rw [hp']; simp
                · exact r1.alloc x m)
              have E3 := (E01'.trans E2).dropR
              have rs2 : RSs ω2 σ S' fs := rs'.mono E2.bb E2.ll fun a _ => by rw [hH]
              refine ⟨[(key, y)], rfl, by simp, ?_⟩
              have e1 : mergeK [] [(key, y)] = [(key, y)] := rfl
              rw [e1, ← hH]
              have E4 : Ext ω2 (fs ++ [p]) ⟨ω2.B, ω2.L, upd ω2.H p (.dK [(key, y)])⟩ (fs ++ [p]) := Ext.put E3.wd (by simp)
              have nd := List.nodup_append.mp E3.wd.nd
              have k4 : ∀ x ∈ fs, upd ω2.H p (.dK [(key, y)]) x = ω2.H x := fun x m => upd_ne fun e => nd.2.2 x m p (by simp) e
              exact ⟨.od [(key, xu)], S', ⟨ω2.B, ω2.L, upd ω2.H p (.dK [(key, y)])⟩, [p], fs, rfl, (E3.trans E4).permR (List.perm_append_singleton p fs), .od upd_same ⟨rfl, .cons D2 .nil⟩, RSs.mono (ω := ω2) (ω' := ⟨ω2.B, ω2.L, upd ω2.H p (.dK [(key, y)])⟩) (Le.refl _) (Le.refl _) rs2 k4, q'⟩
            · exact q'.elim
          · exact q'.elim
  exact wE.mono hx fun x H1 h1 => wE.mono h1 fun y H2 h2 => fin x y H2 h2
/-! ### a < b < c, whole numbers -/
def icmp : CmpOp → Int → Int → Bool
  | .Lt, i, j => decide (i < j)
  | .LtE, i, j => decide (i ≤ j)
  | .Gt, i, j => decide (j < i)
  | .GtE, i, j => decide (j ≤ i)
  | _, _, _ => false
def isOrd : CmpOp → Bool
  | .Lt => true
  | .LtE => true
  | .Gt => true
  | .GtE => true
  | _ => false
theorem op_icmp {op : CmpOp} (h : isOrd op = true) : OpR X (compareOp op) (rI0 fun i j => .bl (icmp op i j)) := by
  cases op <;> first | exact op_lt | exact op_le | exact op_gt | exact op_ge | cases h
def chnT (p q : CmpOp) (us uc : TWs) : TW := fun S Q => us S fun ws S1 => match ws with
  | [.d (.int i), .d (.int j)] => (match icmp p i j with
    | true => uc S1 fun zs S2 => (match zs with
      | [.d (.int k)] => Q (.d (.bool (icmp q j k))) S2
      | _ => False)
    | false => Q (.d (.bool false)) S1)
  | _ => False
theorem chn_read {p q : CmpOp} {uc : TWs} (hp : isOrd p = true) (hq : isOrd q = true) (h : SOl X o [a, b] us) (hc : SOl X o [c] uc) {σ : L2.St} {S : WSt} {ω : Wo} {fp : List Addr} {Q : QW} (wd : In o ω fp) (rs : RSs ω σ S fp) (q1 : chnT p q us uc S Q) :
    tChain (rI0 fun i j => .bl (icmp p i j)) (rI0 fun i j => .bl (icmp q i j)) (wE X a) (wE X b) (wE X c) σ ω.H (PostE ω fp σ Q) := by
  refine wE.mono (h σ S ω fp _ wd rs q1) fun x H1 h1 => wE.mono h1 ?_
  rintro y H2 ⟨ws, S', ω', fg, fs, rfl, E, rl, rs', q'⟩
  have E' := E.dropL
  split at q'
  · obtain ⟨v1, g1, v2, g2, ev, r1, r2⟩ := rl.two
    injection ev with e1 e2
    injection e2 with e2 _
    subst e1 e2
    cases r1 with | d d1 => cases r2 with | d d2 =>
    cases d1; cases d2
    refine ⟨_, _, rfl, rfl, _, rfl, ?_⟩
    split at q'
    · rename_i e
      rw [e, if_pos rfl]
      refine wE.mono (hc σ S' ω' fs _ (wd.trans E') rs' q') ?_
      rintro z H3 ⟨zs, S2, ω2, fg2, fs2, rfl, E2, rl2, rs2, q2⟩
      split at q2
      · obtain ⟨v3, g3, ev3, r3⟩ := rl2.one
        injection ev3 with e3 _
        subst e3
        cases r3 with | d d3 =>
        cases d3
        exact ⟨_, _, rfl, rfl, _, S2, ω2, [], fs2, rfl, E'.trans E2.dropL, .d (.bl _), rs2, q2⟩
      · exact q2.elim
    · rename_i e
      rw [e, if_neg Bool.false_ne_true]
      exact ⟨_, S', ω', [], fs, rfl, E', .d (.bl _), rs', q'⟩
  · exact q'.elim
theorem lastMarks2 {p q : CmpOp} {b c : Expr} (h : noSet c = true) : lastMarks [p, q] [b, c] = false := by
  show behindInMarks q c = false
  exact noMarks h
theorem se_chn {p q : CmpOp} {uc : TWs} (hp : isOrd p = true) (hq : isOrd q = true) (h : SOl X o [a, b] us) (hc : SOl X o [c] uc) (hn : noSet c = true) : SE X o (.Compare a [p, q] [b, c] pos) (chnT p q us uc) := fun σ S ω fp Q wd rs q1 =>
  useE (pe_chain (op_icmp hp) (op_icmp hq) (pE a) (pE b) (pE c) (lastMarks2 hn)) (chn_read hp hq h hc wd rs q1)
theorem st_chn {p q : CmpOp} {uc : TWs} (hp : isOrd p = true) (hq : isOrd q = true) (h : SOl X o [a, b] us) (hc : SOl X o [c] uc) (hn : noSet c = true) : ST X o (.Compare a [p, q] [b, c] pos) (tst (chnT p q us uc)) := by
  intro σ S ω fp Q wd rs q1
  have h1 := chn_read hp hq h hc wd rs (Q := fun w S' => match w with
    | .d (.bool b) => Q b S'
    | _ => False) q1
  have mono : ∀ {σ H} {Q Q' : VK}, tChain (rI0 fun i j => .bl (icmp p i j)) (rI0 fun i j => .bl (icmp q i j)) (wE X a) (wE X b) (wE X c) σ H Q → (∀ v H', Q v H' → Q' v H') → tChain (rI0 fun i j => .bl (icmp p i j)) (rI0 fun i j => .bl (icmp q i j)) (wE X a) (wE X b) (wE X c) σ H Q' := by
    intro σ H Q Q' h k
    refine wE.mono h fun x H1 h1 => wE.mono h1 ?_
    rintro y H2 ⟨i, j, e1, e2, z, e3, h3⟩
    refine ⟨i, j, e1, e2, z, e3, ?_⟩
    cases z with
    | true =>
      rw [if_pos rfl] at h3 ⊢
      refine wE.mono h3 ?_
      rintro w H4 ⟨i', j', e4, e5, q⟩
      exact ⟨i', j', e4, e5, k _ _ q⟩
    | false =>
      rw [if_neg Bool.false_ne_true] at h3 ⊢
      exact k _ _ h3
  exact useT (pt_chain (op_icmp hp) (op_icmp hq) (pE a) (pE b) (pE c) (lastMarks2 hn)) (mono h1 fun v H' h' => postT_of h')
/-! ### isinstance of a built-in type -/
def kindW : W → String
  | .d .none => "NoneType"
  | .d (.bool _) => "bool"
  | .d (.int _) => "int"
  | .d (.str _) => "str"
  | .d (.list _) => "list"
  | .d (.tuple _) => "tuple"
  | .d (.dict _) => ""
  | .vl _ => "list"
  | .ol _ => "list"
  | .vw _ => "list"
  | .ow _ => "list"
  | .vd _ => "dict"
  | .od _ => "dict"
  | .tw _ => "tuple"
  | .ins _ _ _ => ""
theorem RW.tyx {ω : Wo} {g : List Addr} (wd : Wd ω g) {v : V} {w : W} {f : List Addr} (r : RW ω v w f) (h : kindW w ≠ "") : TyX X.K ω.H v (.type (kindW w)) := by
  have L : ∀ {a vs}, Rd ω.H a (.lst vs) → TyX X.K ω.H (.ref a) (.type "list") := fun {a vs} h => by
    rcases h with h | ⟨o, h⟩
    · exact .base (.lst h)
    · exact .base (.frz h)
  have T : ∀ {a vs}, Rd ω.H a (.tup vs) → TyX X.K ω.H (.ref a) (.type "tuple") := fun {a vs} h => by
    rcases h with h | ⟨o, h⟩
    · exact .base (.tup h)
    · exact .fTuple h
  have D : ∀ {a vs}, Rd ω.H a (.dK vs) → TyX X.K ω.H (.ref a) (.type "dict") := fun {a vs} h => by
    rcases h with h | ⟨o, h⟩
    · exact .base (.dK h)
    · exact .fDict h
  cases r with
  | d d1 => cases d1 with
    | non => exact .base .non
    | bl b => exact .base (.bl b)
    | int i => exact .base (.int i)
    | str x => exact .base (.str x)
    | lst hh t => exact L (Rd.mono wd.bh hh)
    | tup hh t => exact T (Rd.mono wd.bh hh)
  | vl hh t => exact L (Rd.mono wd.lh hh)
  | ol hh t => exact L (.inl hh)
  | vw hh t => exact L (Rd.mono wd.lh hh)
  | ow hh t => exact L (.inl hh)
  | vd hh t => exact D (Rd.mono wd.lh hh)
  | od hh t => exact D (.inl hh)
  | tw hh t => exact T (Rd.mono wd.bh hh)
  | ins _ _ _ _ => exact absurd rfl h
def tyNames : List String := ["int", "bool", "tuple", "list", "str"]
def kdNames : List String := ["NoneType", "bool", "int", "str", "list", "tuple", "dict"]
def isiB (k T : String) : Bool := (kitB k T).getD false
theorem kit_all : kdNames.all (fun k => tyNames.all fun T => (kitB k T).isSome) = true := by decide +kernel
def isiT (T : String) (us : TWs) : TW := fun S Q => us S fun ws S' => match ws with
  | [w] => kdNames.contains (kindW w) = true ∧ Q (.d (.bool (isiB (kindW w) T))) S'
  | _ => False
theorem se_isi {x : Str} {T : String} {p p2 : Pos} (hg : Gl X "isinstance") (hm : X.mg "isinstance" = none) (hg2 : Gl X x) (hm2 : X.mg x = none) (hv2 : bootBuiltins x = some (.type T)) (hT : tyNames.contains T = true) (hns : noStar a = true) (h : SOl X o [a] us) (hn : x ≠ "__name__") (hdb : (x == ("__debug__" : Str)) = false) :
    SE X o (.Call (.Name "isinstance" p) [a, .Name x p2] [] pos) (isiT T us) := by
  intro σ S ω fp Q wd rs q
  have hns' : [a, Expr.Name x p2].all noStar = true := by rw [List.all_cons, hns]; rfl
  refine useE (pe_callB (call_isi (X := X)) hg hm (by decide +kernel) (pa_cons (pE a) (pa_cons (pe_bltn (v := .ty T) hg2 hm2 hv2 rfl hn hdb) pa_nil (starE rfl)) (starE hns)) (by decide) (by decide) (starE hns) (backTo_any (by rfl))) ?_
  refine wE.mono (h σ S ω fp _ wd rs q) ?_
  rintro v H1 ⟨ws, S', ω', fg, fs, rfl, E, rl, rs', q'⟩
  split at q'
  · rename_i w
    obtain ⟨v1, g1, ev, r1⟩ := rl.one
    injection ev with e1 _
    subst e1
    obtain ⟨hk, q'⟩ := q'
    have hne : kindW w ≠ "" := fun e => by rw [e] at hk; revert hk; decide
    obtain ⟨b, hb⟩ : ∃ b, kitB (kindW w) T = some b := by
      have h1 := List.all_eq_true.mp kit_all (kindW w) (by simpa using hk)
      have h2 := List.all_eq_true.mp h1 T (by simpa using hT)
      exact Option.isSome_iff_exists.mp h2
    have hb' : isiB (kindW w) T = b := by unfold isiB; rw [hb]; rfl
    refine ⟨v, .ty T, _, _, b, rfl, .ty T, r1.tyx (E.wd.sub (List.sublist_append_right _ _)) hne, kit_ty hb, ?_⟩
    rw [hb'] at q'
    exact ⟨_, S', ω', [], fs, rfl, E.dropL, .d (.bl _), rs', q'⟩
  · exact q'.elim
end
end MV

open PySem PySem.Spec PyProof.Rows L2
namespace MVSet
/-- a new set, empty -/
abbrev nso (w : World) : Obj := { cls := .type "set", dict := none, data := .set #[] 0 (.fresh 0 0 (!w.params.followText "set-order")) }
abbrev withSet (w : World) (s : Shared) : Shared := { s with heap := s.heap.push (nso w) }
section
variable {P : Program} {w : World} {A : Around} {E : Value → Shared → Prop} {s : Shared}
set_option maxRecDepth 100000 in
set_option maxHeartbeats 3200000 in
/-- set(a list of whole numbers) -/
theorem set_of_lst {l : Addr} {its : Array Value} (ns : List Int) {Q : Value → Shared → Prop} (hh : A.handled = none) (hl : s.heap.IsList l its) (hi : IntsAre its.toList ns) (hb : ns.length + 1 < scanBound)
    (h : ∀ (h' : Heap) (tk c : Nat), SetR w h' s.heap.objs.size (fun j => decide (j ∈ ns)) c → c ≤ ns.length → (∀ b o, s.heap.get? b = some o → h'.get? b = some o) → Q (.ref s.heap.objs.size) { s with heap := h', toks := tk }) :
    wpAny (model P w) A (call (.type "set") [.ref l]) Q E s := by
  have sz : its.size = ns.length := by have q := IntsAre.length hi; rw [Array.length_toList] at q; exact q
  obtain ⟨c, tl, hmro⟩ := F.called_set.mro; have hmade := F.called_set.made; have hsub := F.called_set.sub
  refine wpAny_call (codeAny_of_tree ?_); show wpAny _ _ (callAny (.type "set") _) _ _ _
  refine wpAny_pure ⟨Code.quiet_builtin _ (by decide +kernel), codeAny_builtin F.entry_type_call ?_⟩; rw [Around.under_plain (weight_type_call_type "set" [.ref l] []) rfl]
  have h1 := F.called_set.notType; have h2 := F.called_set.canCreate; have hct := F.typeCall_set_1 (.ref l)
  repeat (any_goals (first | assumption | wp_step))
  refine codeAny_mono (code_set_led1 (.ref l) (E := E) (Q₁ := fun obj s₁ => obj = .ref s.heap.objs.size ∧ s₁ = withSet w s) ⟨rfl, rfl⟩) fun r s₁ hr => ?_
  cases r with
  | error e => exact hr
  | ok fl =>
    cases fl with
    | ret obj =>
      obtain ⟨rfl, rfl⟩ := hr
      have hS : (withSet w s).heap.get? s.heap.objs.size = some (nso w) := Heap.get?_push_size _ rfl
      have hT : Shared.TypeIs (withSet w s) (.ref s.heap.objs.size) "set" := ⟨_, hS, rfl⟩
      have hli := F.called_set.init.lookup; have hbi := F.called_set.init.bind (.ref s.heap.objs.size)
      repeat (any_goals (first | assumption | wp_step))
      refine codeAny_mono (codeAny_call_builtin (R := wants (fun r s₂ => r = .none ∧ ∃ h' tk c, s₂ = { s with heap := h', toks := tk } ∧ SetR w h' s.heap.objs.size (fun j => decide (j ∈ ns)) c ∧ c ≤ ns.length ∧ (∀ b o, s.heap.get? b = some o → h'.get? b = some o)) E)
        F.called_set.init.plain F.entry_set_init (check_set_init_1 hT ?_)) fun r₂ s₂ hr₂ => ?_
      · obtain ⟨ol, hol, hcl, nl, hdl⟩ := hl; obtain ⟨ocls, odict, odata, oslots⟩ := ol; simp only at hcl hdl; subst hcl; subst hdl
        have hol' : (withSet w s).heap.get? l = some { cls := .type "list", dict := odict, data := .seq its nl, slots := oslots } := Heap.get?_push_of_some _ hol
        have hsls := F.sub_list_set; have hslf := F.sub_list_frozenset; have hne : (Value.type "list" == Value.type "dict") = false := by decide
        have hl1 : (withSet w s).heap.IsList l its := ⟨_, hol', rfl, nl, rfl⟩
        unfold Builtin.«set.__init__» noKeywords Builtin.Frozenset.updateFrom; generalize hPI : pyIter = PI; wp_walk; subst hPI
        refine wpAny_pyIter_list hl1 ?_; refine wpAny_bind (wpAny_runValue ?_)
        have hlS : l < s.heap.objs.size := Heap.lt_size hol
        have h3 : A.in1.in1.in1.handled = none := by simp [hh]
        have nI : l ≠ (withSet w s).heap.objs.size := by rw [Heap.size_push]; exact Nat.ne_of_lt (Nat.lt_succ_of_lt hlS)
        have nS : s.heap.objs.size ∉ [(withSet w s).heap.objs.size, l] := by
          rw [Heap.size_push]; simp only [List.mem_cons, List.mem_singleton, List.not_mem_nil, or_false, not_or]; exact ⟨Nat.ne_of_lt (Nat.lt_succ_self _), Nat.ne_of_gt hlS⟩
        have hval : ∀ (i : Nat) (v : Value), its[i]? = some v → ∃ k t, ns[i]? = some k ∧ v = .int k t := fun i v hv => by
          have hi' : i < ns.length := by rw [← sz]; exact (Array.getElem?_eq_some_iff.mp hv).1
          obtain ⟨t, e⟩ := PyProof.Rows.IntsAre.int_at hi i v (by rw [Array.getElem?_toList]; exact hv)
          refine ⟨ns[i], t, List.getElem?_eq_getElem hi', ?_⟩; rw [e, List.getD_eq_getElem?_getD, List.getElem?_eq_getElem hi'] <;> rfl
        refine set_update_ints ((Walks.list h3 _ l nI its).toS) s.heap.objs.size nS ns sz hb hval (its.size - 0) 0 _ (by omega) (Nat.zero_le _) ⟨⟨_, Heap.get?_push_size _ rfl, rfl, rfl⟩, (hl1.push _)⟩ ?hS0 ?hR
        case hS0 => exact ⟨0, Nat.le_refl 0, setR_new_at (Heap.get?_push_of_some _ hS)⟩
        case hR =>
          intro s' c' hm hc' hS'; obtain ⟨h', g2, d', tk', os'⟩ := s'
          have eg : g2 = s.gens := hm.gens; have ed : d' = s.drawn := hm.drawn; have eo : os' = s.os := hm.os; subst eg; subst ed; subst eo
          show wpAny _ _ _ _ _ _; refine wpAny_pure ?_; show wpAny _ _ (ret Value.none) _ _ _; rw [sz] at hc'
          refine wpAny_pure ⟨rfl, h', tk', c', rfl, hS', hc', fun b o e => ?_⟩
          have b0 : b < s.heap.objs.size := Heap.lt_size e
          have b2 : b ≠ (withSet w s).heap.objs.size := by rw [Heap.size_push]; exact Nat.ne_of_lt (Nat.lt_succ_of_lt b0)
          refine hm.heap b o ?_ (Heap.get?_push_of_some _ (Heap.get?_push_of_some _ e))
          simp only [List.mem_cons, List.mem_singleton, List.not_mem_nil, or_false, not_or]; exact ⟨Nat.ne_of_lt b0, b2⟩
      · cases r₂ with
        | error e => exact hr₂
        | ok fl₂ =>
          cases fl₂ with
          | ret r =>
            obtain ⟨rfl, h', tk, c', rfl, hS', hc', hk'⟩ := hr₂; repeat (any_goals (first | assumption | wp_step))
            exact h _ _ _ hS' hc' hk'
          | _ => exact hr₂.elim
    | _ => exact hr.elim
end
end MVSet

namespace MV
open PySem PySem.Spec PyProof.Rows L2
section
variable {X : Cx} {o : Og} {a b e : Expr} {es : List Expr} {pos : Pos} {us : TWs}
/-! ### sorted(set(..)) of whole numbers -/
theorem cr_setL (hc : X.calm = true) : CallR X (.type "set") (fun vs H Q => ∃ (a : Addr) (ns : List Int), vs = [V.ref a] ∧ Rd H a (.lst (ns.map V.int)) ∧ ns.length < 64 ∧ ∀ p c, H p = none → c ≤ ns.length → Q (.ref p) (upd H p (SetO X.w p (fun j => decide (j ∈ ns)) c))) := by
  intro pins s σ H vs us Q I r h
  obtain ⟨a, ns, rfl, hs, hl, q⟩ := h
  obtain ⟨its, n, rv, ho, hz⟩ := rd_lst I hs
  rw [Vals.ref1 r]
  refine MVSet.set_of_lst (its := its.toArray) ns (I.ok.hd hc) ⟨_, ho, rfl, n, rfl⟩ (ints_of_vals rv) (by unfold scanBound; omega) fun h' tk c R hc' k => ?_
  exact ⟨.ref _, upd H s.heap.objs.size (SetO X.w s.heap.objs.size (fun j => decide (j ∈ ns)) c), I.laid (t' := tk) k (Nat.le_refl _) (setO_new R), rfl, q _ c (I.hok.fresh (Nat.le_refl _)) hc'⟩
def ssetT (us : TWs) : TW := fun S Q => us S fun ws S' => match ws with
  | [w] => (match asL w with
    | some xs => ∃ ns : List Int, xs = ns.map PyData.int ∧ ns.length < 64 ∧ ∀ ms : List Int, ms.Pairwise (· < ·) → (∀ k, k ∈ ms ↔ k ∈ ns) → Q (.ol (ms.map PyData.int)) S'
    | none => False)
  | _ => False
/-- behind one more object that nothing holds -/
theorem Ext.junk {ω : Wo} {f : List Addr} (h : Wd ω f) (al : ∀ a ∈ f, ω.H a ≠ none) {p : Addr} {x : HO} (e : ω.H p = none) : Ext ω f ⟨ω.B, ω.L, upd ω.H p x⟩ f := (Ext.own h al e).sub (List.sublist_cons_self _ _)
theorem RSs.junk {ω : Wo} {σ : L2.St} {S : WSt} {f : List Addr} (r : RSs ω σ S f) {p : Addr} {x : HO} (e : ω.H p = none) : RSs ⟨ω.B, ω.L, upd ω.H p x⟩ σ S f := r.mono (ω := ω) (ω' := ⟨ω.B, ω.L, upd ω.H p x⟩) (Le.refl _) (Le.refl _) fun a m => upd_ne fun z => r.alloc a m (by rw [z]; exact e)
theorem se_sset {x y : Str} {p p2 pos2 : Pos} (hc : X.calm = true) (hg : Gl X x) (hx : x = "sorted") (hm : X.mg "sorted" = none) (hg2 : Gl X y) (hy : y = "set") (hm2 : X.mg "set" = none) (hns : noStar a = true) (h : SOl X o [a] us) :
    SE X o (.Call (.Name x p) [.Call (.Name y p2) [a] [] pos2] [] pos) (ssetT us) := by
  subst hx hy
  intro σ S ω fp Q wd rs q
  have n1 : [a].all noStar = true := by rw [List.all_cons, hns]; rfl
  refine useE (pe_callB (cr_sortedSet hc) hg hm rfl (pL (es := [_]) rfl) (by decide) (by decide) (starE rfl) rfl) ?_
  refine useE (pe_callTy (cr_setL hc) hg2 hm2 rfl (pL n1) (by decide) (by decide) (starE hns) rfl) ?_
  refine wL.mono (h σ S ω fp _ wd rs q) ?_
  rintro vs H' ⟨ws, S1, ω1, fg, fs, rfl, E, rl, rs1, q1⟩
  split at q1
  · rename_i w
    split at q1
    · rename_i xs e
      obtain ⟨ns, rfl, hl, q1⟩ := q1
      obtain ⟨v, f, rfl, r⟩ := rl.one
      obtain ⟨a0, ys, rfl, hh, t⟩ := r.asL E.wd e
      obtain rfl := DqAll.of_int t
      refine ⟨a0, ns, rfl, hh, hl, fun p0 c hp hc0 => ⟨p0, _, c, rfl, upd_same, by omega, fun ms q0 h1 h2 h3 hq => ?_⟩⟩
      have wd1 := E.wd.sub (List.sublist_append_right fg fs)
      have E1 := Ext.junk (x := SetO X.w p0 (fun j => decide (j ∈ ns)) c) wd1 rs1.alloc hp
      have rs2 := rs1.junk (x := SetO X.w p0 (fun j => decide (j ∈ ns)) c) hp
      exact FR.post (fg := []) (E.dropL.trans E1) rs2 (FR.lst E1.wd rs2.alloc hq (DqAll.of_ints ms) (q1 ms h1 fun k => by rw [h2 k]; simp))
    · exact q1.elim
  · exact q1.elim
/-! ### list(range(..)) -/
def rngP (i j : Int) : List PyData := (List.range (j - i).toNat).map fun k => PyData.int (i + (k : Nat))
def lrgT (us : TWs) : TW := fun S Q => us S fun ws S' => match ws with
  | [.d (.int n)] => RgOk 0 n ∧ Q (.ol (rngP 0 n)) S'
  | [.d (.int i), .d (.int j)] => RgOk i j ∧ Q (.ol (rngP i j)) S'
  | _ => False
theorem dq_rg {A : Hp} (i j : Int) : DqAll A (rgV i j) (rngP i j) := by
  unfold rgV rngP
  generalize (j - i).toNat = n
  induction List.range n with
  | nil => exact .nil
  | cons a r ih => exact .cons (.int _) ih
theorem se_lrg1 {x y : Str} {p p2 pos2 : Pos} (hc : X.calm = true) (hg : Gl X x) (hx : x = "list") (hm : X.mg "list" = none) (hg2 : Gl X y) (hy : y = "range") (hm2 : X.mg "range" = none) (hns : [a].all noStar = true) (h : SOl X o [a] us) :
    SE X o (.Call (.Name x p) [.Call (.Name y p2) [a] [] pos2] [] pos) (lrgT us) := by
  subst hx hy
  intro σ S ω fp Q wd rs q
  have hns' := hns
  rw [List.all_cons, Bool.and_eq_true] at hns'
  refine useE (pe_listRg hc hg hm (prg_1 hg2 hm2 (pE a) (starE hns'.1)) (starE rfl)) ?_
  refine wE.mono (h σ S ω fp _ wd rs q) ?_
  rintro v H' ⟨ws, S1, ω1, fg, fs, rfl, E, rl, rs1, q1⟩
  have wd1 := E.wd.sub (List.sublist_append_right fg fs)
  split at q1
  · rename_i n
    obtain ⟨v0, f, e0, r⟩ := rl.one
    obtain rfl : v = v0 := by simpa using e0
    cases r with | d d0 =>
    cases d0
    exact ⟨n, rfl, q1.1, fun q0 hq => FR.post E rs1 (FR.lst wd1 rs1.alloc hq (dq_rg 0 n) q1.2)⟩
  · rename_i i j
    cases rl with | cons _ r => cases r
  · exact q1.elim
theorem se_lrg2 {x y : Str} {p p2 pos2 : Pos} (hc : X.calm = true) (hg : Gl X x) (hx : x = "list") (hm : X.mg "list" = none) (hg2 : Gl X y) (hy : y = "range") (hm2 : X.mg "range" = none) (hns : [a, b].all noStar = true) (h : SOl X o [a, b] us) :
    SE X o (.Call (.Name x p) [.Call (.Name y p2) [a, b] [] pos2] [] pos) (lrgT us) := by
  subst hx hy
  intro σ S ω fp Q wd rs q
  have hns' := hns
  simp only [List.all_cons, Bool.and_eq_true] at hns'
  refine useE (pe_listRg hc hg hm (prg_2 hg2 hm2 (pE a) (pE b) (starE hns'.1) (starE hns'.2.1) (backTo_any (by rw [List.all_cons, hns'.2.1]; rfl))) (starE rfl)) ?_
  refine wE.mono (h σ S ω fp _ wd rs q) fun v1 H1 h1 => wE.mono h1 ?_
  rintro v H' ⟨ws, S1, ω1, fg, fs, rfl, E, rl, rs1, q1⟩
  have wd1 := E.wd.sub (List.sublist_append_right fg fs)
  split at q1
  · rename_i n
    cases rl with | cons _ r => cases r
  · rename_i i j
    obtain ⟨v0, f, v2, f2, e0, r, r2⟩ := rl.two
    simp only [List.cons.injEq, and_true] at e0
    obtain ⟨rfl, rfl⟩ := e0
    cases r with | d d0 =>
    cases d0
    cases r2 with | d d0 =>
    cases d0
    exact ⟨i, j, rfl, rfl, q1.1, fun q0 hq => FR.post E rs1 (FR.lst wd1 rs1.alloc hq (dq_rg i j) q1.2)⟩
  · exact q1.elim
end
end MV

namespace MV
open PySem PySem.Spec PyProof.Rows L2
/-! ### a list of one's own, looked at through a statement -/
def lendL (ω : Wo) (f : List Addr) : Hp := fun a => if a ∈ f then ω.H a else ω.L a
def takeL (ω' : Wo) (f : List Addr) : Hp := fun a => if a ∈ f then none else ω'.L a
theorem lend_ext {ω : Wo} {f1 f2 : List Addr} (wd : Wd ω (f1 ++ f2)) (al : ∀ a ∈ f1, ω.H a ≠ none) : Ext ω (f1 ++ f2) ⟨ω.B, lendL ω f1, ω.H⟩ f2 := by
  obtain ⟨n1, n2, n3⟩ := List.nodup_append.mp wd.nd
  have hL : Le ω.L (lendL ω f1) := fun a o e => by
    unfold lendL
    rw [if_neg (fun m => by have := wd.dis a (List.mem_append_left _ m); rw [e] at this; cases this)]
    exact e
  refine ⟨⟨wd.bl.trans hL, fun a o e => ?_, n2, fun a m => ?_⟩, Le.refl _, hL, fun a o e _ => e, fun a m => .inl (List.mem_append_right _ m), fun a m => ?_, fun a m => .inl m⟩
  · have e' : lendL ω f1 a = some o := e
    unfold lendL at e'
    split at e'
    · exact e'
    · exact wd.lh a o e'
  · show lendL ω f1 a = none
    unfold lendL
    rw [if_neg (fun m' => n3 a m' a m rfl)]
    exact wd.dis a (List.mem_append_right _ m)
  · have m' : lendL ω f1 a ≠ none := m
    unfold lendL at m'
    split at m'
    · rename_i z; exact .inr (.inl (List.mem_append_left _ z))
    · exact .inl m'
theorem take_ext {ω ω' : Wo} {f1 f2 f' : List Addr} (wd : Wd ω (f1 ++ f2)) (al : ∀ a ∈ f1, ω.H a ≠ none) (E : Ext ⟨ω.B, lendL ω f1, ω.H⟩ f2 ω' f') :
    Ext ω (f1 ++ f2) ⟨ω'.B, takeL ω' f1, ω'.H⟩ (f1 ++ f') ∧ ∀ a ∈ f1, ω'.H a = ω.H a := by
  obtain ⟨n1, n2, n3⟩ := List.nodup_append.mp wd.nd
  have nB : ∀ a ∈ f1, ω'.B a = none := fun a m => by
    cases q : ω'.B a with
    | none => rfl
    | some o =>
      rcases E.nB a (by rw [q]; simp) with z | z | z
      · exact absurd (wd.bl.none (wd.dis a (List.mem_append_left _ m))) z
      · exact absurd rfl (n3 a m a z)
      · exact absurd z (al a m)
  have hL : ∀ a o, ω.L a = some o → a ∉ f1 := fun a o e m => by have := wd.dis a (List.mem_append_left _ m); rw [e] at this; cases this
  have hH : ∀ a ∈ f1, ω'.H a = ω.H a := fun a m => by
    cases q : ω.H a with
    | none => exact absurd q (al a m)
    | some o =>
      refine E.wd.lh a o (E.ll a o ?_)
      show lendL ω f1 a = some o
      unfold lendL; rw [if_pos m]; exact q
  refine ⟨⟨⟨fun a o e => ?_, fun a o e => ?_, List.nodup_append.mpr ⟨n1, E.wd.nd, fun x h y h' e => ?_⟩, fun a m => ?_⟩, E.bb, fun a o e => ?_, fun a o e n => ?_, fun a m => ?_, fun a h => ?_, fun a h => ?_⟩, hH⟩
  · show takeL ω' f1 a = some o
    unfold takeL
    rw [if_neg (fun m => by rw [nB a m] at e; cases e)]
    exact E.wd.bl a o e
  · have e' : takeL ω' f1 a = some o := e
    unfold takeL at e'
    split at e'
    · cases e'
    · exact E.wd.lh a o e'
  · subst e
    rcases E.nfp x h' with q | q
    · exact n3 x h x q rfl
    · exact al x h q
  · show takeL ω' f1 a = none
    unfold takeL
    rcases List.mem_append.mp m with m | m
    · rw [if_pos m]
    · split
      · rfl
      · exact E.wd.dis a m
  · show takeL ω' f1 a = some o
    unfold takeL
    rw [if_neg (hL a o e)]
    refine E.ll a o ?_
    show lendL ω f1 a = some o
    unfold lendL; rw [if_neg (hL a o e)]; exact e
  · exact E.keep a o e fun m => n (List.mem_append_right _ m)
  · rcases List.mem_append.mp m with m | m
    · exact .inl (List.mem_append_left _ m)
    · exact (E.nfp a m).imp (List.mem_append_right _) id
  · have h' : takeL ω' f1 a ≠ none := h
    unfold takeL at h'
    split at h'
    · exact absurd rfl h'
    · rename_i n
      rcases E.nL a h' with z | z | z
      · have z' : lendL ω f1 a ≠ none := z
        unfold lendL at z'
        rw [if_neg n] at z'
        exact .inl z'
      · exact .inr (.inl (List.mem_append_right _ z))
      · exact .inr (.inr z)
  · rcases E.nB a h with z | z | z
    · exact .inl z
    · exact .inr (.inl (List.mem_append_right _ z))
    · exact .inr (.inr z)
def isVw : W → Bool
  | .vl _ => true
  | .vd _ => true
  | .vw _ => true
  | _ => false
theorem RW.vwf {ω : Wo} {v : V} {w : W} {f : List Addr} (r : RW ω v w f) (h : isVw w = true) : f = [] := by
  cases r <;> first | rfl | cases h
/-- nothing that looks at what was lent stays -/
def backOk (A : List Nat) : Nat → WSt → WSt → Prop
  | _, _, [] => True
  | j, [], none :: S' => backOk A (j + 1) [] S'
  | _, [], some _ :: _ => False
  | j, _ :: S0, none :: S' => backOk A (j + 1) S0 S'
  | j, s :: S0, some w :: S' => (noV w = true ∨ (j ∉ A ∧ s = some w ∧ isVw w = true)) ∧ backOk A (j + 1) S0 S'
theorem back_rs {ω ω' ω2 : Wo} (hB : Le ω'.B ω2.B) (hB0 : Le ω.B ω2.B) (hL0 : Le ω.L ω2.L) (hH : ω2.H = ω'.H) {A : List Nat} : ∀ {j : Nat} {S0 S' : WSt} {σ0 σ' : L2.St} {f0 f : List Addr}, RSs ω σ0 S0 f0 → RSs ω' σ' S' f → (∀ i, j + i ∉ A → σ'[i]? = σ0[i]?) → backOk A j S0 S' → RSs ω2 σ' S' f
  | _, _, [], _, _, _, _, _, .nil, _, _ => .nil
  | j, [], none :: S', _, _, _, _, r0, .dead t, k, b => by
    cases r0
    exact .dead (back_rs hB hB0 hL0 hH (j := j + 1) (S0 := []) .nil t (fun i hi => by have := k (i + 1) (by rwa [show j + (i + 1) = j + 1 + i by omega]); simpa using this) b)
  | j, [], some w :: S', _, _, _, _, r0, _, k, b => b.elim
  | j, s :: S0, none :: S', _, _, _, _, r0, .dead t, k, b => by
    cases r0 with
    | dead r0 => exact .dead (back_rs hB hB0 hL0 hH (j := j + 1) r0 t (fun i hi => by have := k (i + 1) (by rwa [show j + (i + 1) = j + 1 + i by omega]); simpa using this) b)
    | live _ r0 => exact .dead (back_rs hB hB0 hL0 hH (j := j + 1) r0 t (fun i hi => by have := k (i + 1) (by rwa [show j + (i + 1) = j + 1 + i by omega]); simpa using this) b)
  | j, s :: S0, some w :: S', _, _, _, _, r0, .live r t, k, b => by
    obtain ⟨b1, b2⟩ := b
    have k' : ∀ (σ' σ0 : L2.St) (x y : Option V), (∀ i, j + i ∉ A → (x :: σ')[i]? = (y :: σ0)[i]?) → ∀ i, j + 1 + i ∉ A → σ'[i]? = σ0[i]? := fun σ' σ0 x y k i hi => by
      have := k (i + 1) (by rwa [show j + (i + 1) = j + 1 + i by omega]); simpa using this
    rcases b1 with b1 | ⟨hj, rfl, hv⟩
    · cases r0 with
      | dead r0 => exact .live (r.noL b1 hB fun a m => by rw [hH]) (back_rs hB hB0 hL0 hH (j := j + 1) r0 t (k' _ _ _ _ k) b2)
      | live _ r0 => exact .live (r.noL b1 hB fun a m => by rw [hH]) (back_rs hB hB0 hL0 hH (j := j + 1) r0 t (k' _ _ _ _ k) b2)
    · cases r0 with
      | live q r0 =>
        have e := k 0 (by simpa using hj)
        simp at e
        subst e
        obtain rfl := r.vwf hv
        obtain rfl := q.vwf hv
        exact .live (f := []) (q.mono hB0 hL0 fun a m => nomatch m) (back_rs hB hB0 hL0 hH (j := j + 1) r0 t (k' _ _ _ _ k) b2)
def lendT (i : Nat) (A : List Nat) (t : TSt) : TSt := fun D S => match gt S i with
  | some w => (match cvV w with
    | some w' => t { nx := fun S' => backOk A 0 S (st S' i none) ∧ D.nx (st S' i (some w)), rt := fun r S' => noV r = true ∧ backOk A 0 S (st S' i none) ∧ D.rt r (st S' i (some w)),
                     bk := fun S' => backOk A 0 S (st S' i none) ∧ D.bk (st S' i (some w)), ct := fun S' => backOk A 0 S (st S' i none) ∧ D.ct (st S' i (some w)) } (st S i (some w'))
    | none => False)
  | none => False
section
variable {X : Cx} {o : Og}
theorem ss_lend {s : Stmt} {A : List Nat} {t : TSt} {i : Nat} (h : SS X o s A t) (hi : i ∉ A) : SS X o s A (lendT i A t) := by
  intro σ S ω fp D wd rs q
  unfold lendT at q
  split at q
  · rename_i w hg
    split at q
    · rename_i w' hc
      obtain ⟨v, f1, f2, hs, r, rs1, pm⟩ := rs.split hg
      have wd0 := wd.wd.perm pm
      have al1 := r.alloc
      have E1 := lend_ext wd0 al1
      let ω1 : Wo := ⟨ω.B, lendL ω f1, ω.H⟩
      have rv : RW ω1 v w' [] := by
        have := RW.cv (ω := ω) (L' := lendL ω f1) E1.ll (wd.wd.bl.trans E1.ll) r (fun a m => by unfold lendL; rw [if_pos m]) hc
        exact this
      have rs2 : RSs ω1 σ (st S i none) f2 := RSs.mono (ω := ω) (ω' := ω1) (Le.refl _) E1.ll rs1 fun a _ => rfl
      obtain ⟨h3, f3, rs3, pm3, sl3⟩ := rs2.fill (i := i) hs rv
      rw [st_st] at rs3
      have E1' : Ext ω (f1 ++ f2) ω1 h3 := (E1.sub sl3).permR (by simpa using pm3.symm)
      have in1 : In o ω1 h3 := (wd.permR pm).trans E1'
      have fin : ∀ {ω' : Wo} {σ' : L2.St} {S' : WSt} {fv fs : List Addr}, Ext ω1 h3 ω' (fv ++ fs) → RSs ω' σ' S' fs → Keep A σ σ' → backOk A 0 S (st S' i none) →
          ∃ ω2 fs', ω2.H = ω'.H ∧ ω2.B = ω'.B ∧ Ext ω fp ω2 (fv ++ fs') ∧ RSs ω2 σ' (st S' i (some w)) fs' := by
        intro ω' σ' S' fv fs E r1 kp bo
        have E0 : Ext ω1 f2 ω' (fv ++ fs) := E.more fun a m => sl3.subset (by simpa using pm3.subset m)
        obtain ⟨E2, hH⟩ := take_ext wd0 al1 E0
        let ω2 : Wo := ⟨ω'.B, takeL ω' f1, ω'.H⟩
        obtain ⟨fk, rk, sk⟩ := r1.kill i
        have rb : RSs ω2 σ' (st S' i none) fk := back_rs (ω := ω) (ω' := ω') (ω2 := ω2) (Le.refl _) E2.bb E2.ll rfl rs rk (fun j hj => kp.2 j (by simpa using hj)) bo
        have hsv : σ'[i]? = some (some v) := by rw [kp.2 i hi]; exact hs
        obtain ⟨h4, f4, rs4, pm4, sl4⟩ := rb.fill (i := i) hsv (r.mono (ω' := ω2) E2.bb E2.ll hH)
        rw [st_st] at rs4
        refine ⟨ω2, h4, rfl, rfl, ?_, rs4⟩
        have E3 : Ext ω fp ω2 (f1 ++ (fv ++ fs)) := E2.permL pm.symm
        have E4 : Ext ω fp ω2 (f1 ++ (fv ++ f4)) := E3.sub (List.Sublist.append (List.Sublist.refl _) (List.Sublist.append (List.Sublist.refl _) (sl4.trans sk)))
        refine E4.permR ?_
        rw [← List.append_assoc]
        refine (List.Perm.append_right f4 List.perm_append_comm).trans ?_
        rw [List.append_assoc]
        exact List.Perm.append_left fv pm4.symm
      refine wS.mono (h σ _ ω1 h3 _ in1 rs3 q) ⟨?_, ?_, ?_, ?_⟩
      · rintro σ' H' ⟨S', ω', fs, rfl, E, r1, kp, bo, q⟩
        obtain ⟨ω2, fs', e1, e2, E2, r2⟩ := fin (fv := []) E r1 kp bo
        exact ⟨_, ω2, fs', e1, E2, r2, kp, q⟩
      · rintro u H' ⟨wr, S', ω', fv, fs, σ', rfl, E, ru, r1, kp, nv, bo, q⟩
        obtain ⟨ω2, fs', e1, e2, E2, r2⟩ := fin E r1 kp bo
        exact ⟨wr, _, ω2, fv, fs', σ', e1, E2, ru.noL nv (by rw [e2]; exact Le.refl _) (fun a m => by rw [e1]), r2, kp, q⟩
      · rintro σ' H' ⟨S', ω', fs, rfl, E, r1, kp, bo, q⟩
        obtain ⟨ω2, fs', e1, e2, E2, r2⟩ := fin (fv := []) E r1 kp bo
        exact ⟨_, ω2, fs', e1, E2, r2, kp, q⟩
      · rintro σ' H' ⟨S', ω', fs, rfl, E, r1, kp, bo, q⟩
        obtain ⟨ω2, fs', e1, e2, E2, r2⟩ := fin (fv := []) E r1 kp bo
        exact ⟨_, ω2, fs', e1, E2, r2, kp, q⟩
    · exact q.elim
  · exact q.elim
end
end MV

namespace L2
open PySem PySem.Spec PyProof.Rows HT
section
variable {prog : Program} {w : World} {A : Around} {E : Value → Shared → Prop} {s : Shared}
theorem adjust_rev (n : Nat) : Builtin.Slice.sliceAdjust none none (-1) (n : Int) = ((n : Int) - 1, -1) := by
  unfold Builtin.Slice.sliceAdjust
  simp
theorem places_rev (n : Nat) : Builtin.Slice.slicePlaces ((n : Int) - 1) (-1) (-1) = n := by
  unfold Builtin.Slice.slicePlaces
  simp
  omega
theorem sliceApplied_rev {sl : Addr} {vl vu vs : Value} {n : Nat} {Q : Int × Int × Nat → Shared → Prop} (hs : s.heap.IsSliceOf sl vl vu vs) (pl : IsPart vl none) (pu : IsPart vu none) (ps : IsPart vs (some (-1)))
    (h : Q ((n : Int) - 1, -1, n) s) : wpAny (model prog w) A (Builtin.Slice.sliceApplied (.ref sl) (pure (n : Int))) Q E s := by
  obtain ⟨os, hos, hcs, hds⟩ := id hs
  unfold Builtin.Slice.sliceApplied Builtin.Slice.sliceFields
  refine wpAny_bind (wpAny_bind (wpAny_field hos hds (x := vl) rfl (wpAny_bind (wpAny_field hos hds (x := vu) rfl (wpAny_bind (wpAny_field hos hds (x := vs) rfl (wpAny_pure ?_)))))))
  refine wpAny_bind (slicePart_ ps ?_)
  show wpAny _ _ (if ((-1 : Int) == 0) = true then _ else _) _ _ s
  rw [if_neg (by decide)]
  refine wpAny_bind (slicePart_ pl (wpAny_bind (slicePart_ pu (wpAny_bind (wpAny_pure ?_)))))
  show wpAny _ _ (match Builtin.Slice.sliceAdjust none none (-1) (n : Int) with | (lo, hi) => pure (lo, (-1 : Int), Builtin.Slice.slicePlaces lo hi (-1))) _ _ s
  rw [adjust_rev n]
  show wpAny _ _ (pure ((n : Int) - 1, (-1 : Int), Builtin.Slice.slicePlaces ((n : Int) - 1) (-1) (-1))) _ _ s
  rw [places_rev]
  exact wpAny_pure h
theorem fm_congr {α β : Type} {f g : α → Option β} : ∀ (xs : List α), (∀ x ∈ xs, f x = g x) → xs.filterMap f = xs.filterMap g
  | [], _ => rfl
  | x :: xs, h => by
    rw [List.filterMap_cons, List.filterMap_cons, h x List.mem_cons_self, fm_congr xs fun y m => h y (List.mem_cons_of_mem _ m)]
theorem pick_rev (xs : Array Value) : ((List.range xs.size).filterMap fun (m : Nat) => xs[((xs.size : Int) - 1 + (m : Int) * (-1)).toNat]?) = xs.toList.reverse := by
  have h1 : (List.range xs.size).filterMap (fun (m : Nat) => xs[((xs.size : Int) - 1 + (m : Int) * (-1)).toNat]?) = (List.range xs.size).filterMap (fun m => xs.toList.reverse.toArray[m]?) := by
    refine fm_congr _ fun m hm => ?_
    have hm' : m < xs.size := List.mem_range.mp hm
    have e : ((xs.size : Int) - 1 + (m : Int) * (-1)).toNat = xs.size - 1 - m := by omega
    rw [e]
    show xs[xs.size - 1 - m]? = xs.toList.reverse.toArray[m]?
    rw [show xs.toList.reverse.toArray[m]? = xs.toList.reverse[m]? from List.getElem?_toArray .., List.getElem?_reverse (by rw [Array.length_toList]; exact hm'), Array.length_toList, Array.getElem?_toList]
  rw [h1]
  have := pick_run xs.toList.reverse.toArray 0 xs.size
  rw [List.filterMap_map] at this
  have e2 : ((fun x => xs.toList.reverse.toArray[x]?) ∘ fun x => 0 + x) = fun m => xs.toList.reverse.toArray[m]? := by funext m; simp
  rw [e2] at this
  rw [this]
  simp only [List.drop_zero]
  exact List.take_of_length_le (by simp)
theorem getItem_tuple_rev {t sl : Addr} {items : Array Value} {vl vu vs : Value} {Q : Value → Shared → Prop} (ht : IsTup s.heap t items) (hs : s.heap.IsSliceOf sl vl vu vs) (pl : IsPart vl none) (pu : IsPart vu none) (ps : IsPart vs (some (-1)))
    (h : Q (.ref s.heap.objs.size) { s with heap := s.heap.push { cls := .type "tuple", data := .seq items.toList.reverse.toArray } })
    (hsz : items.size ≤ sizeLine) : wpAny (model prog w) A (getItem (.ref t) (.ref sl)) Q E s := by
  have htake : sizeOk (.seq items.toList.reverse.toArray) := by
    show items.toList.reverse.toArray.size ≤ sizeLine
    rw [List.size_toArray, List.length_reverse, Array.length_toList]
    exact hsz
  obtain ⟨os, hos, hcs, hds⟩ := id hs
  have hTs : s.TypeIs (.ref sl) "slice" := ⟨os, hos, hcs⟩
  unfold getItem
  try with_reducible refine wpAny_holding ?_
  first | refine wpAny_bind (wpAny_pure ?_) | skip
  refine wpAny_bind (wpAny_sequenceKey ht.typeIs (by decide) ?_)
  refine wpAny_bind (wpAny_callSpecial?_slot (name := Str.ofString "__getitem__") ht.typeIs PyProof.Rows.slot_tuple_getitem
    (wpAny_call_entry PyProof.Rows.slot_tuple_getitem ht.typeIs entry_tuple_getitem ?_ (args_tuple_getitem _ _)))
  show wpAny _ _ (Builtin.Tuple.tupleItemsOf (.ref t) >>= _) _ _ s
  refine wpAny_bind (tupleItemsOf_ ht ?_)
  refine wpAny_bind (wpAny_typeOf hTs ?_)
  rw [if_pos (by decide)]
  refine wpAny_bind (sliceApplied_rev hs pl pu ps ?_)
  have hno : ¬ ((((items.size : Int) - 1) == 0 && (-1 : Int) == 1 && items.size == items.size) = true) := by
    intro q
    rw [Bool.and_eq_true, Bool.and_eq_true] at q
    exact absurd q.1.2 (by decide)
  show wpAny _ _ (if (((items.size : Int) - 1) == 0 && (-1 : Int) == 1 && items.size == items.size) = true then _ else _) _ _ s
  rw [if_neg hno, pick_rev]
  first
    | exact wpAny_bind (m := Builtin.Tuple.tupleExact _) (wpAny_newObj_type (wpAny_pure ⟨_, rfl, wpAny_pure h⟩) htake)
    | exact wpAny_bind (m := Builtin.Tuple.tupleExact _) (wpAny_newObj_type (wpAny_bind (wpAny_pure (wpAny_pure ⟨_, rfl, wpAny_pure h⟩))) htake)
    | exact wpAny_bind (wpAny_bind (m := Builtin.Tuple.tupleExact _) (wpAny_newObj_type (wpAny_pure (wpAny_pure ⟨_, rfl, wpAny_pure h⟩)) htake))
    | exact wpAny_bind (wpAny_bind (m := Builtin.Tuple.tupleExact _) (wpAny_newObj_type (wpAny_pure ⟨_, rfl, wpAny_pure h⟩) htake))
end
section
variable {X : Cx}
/-- t[::-1] of a tuple -/
def tRevT (K : PySem.W.Frag) (te : TE) : TE := fun σ H Q => te σ H fun x H1 => ∃ a xs, x = .ref a ∧ SqT K H1 a xs ∧ ∀ p, H1 p = none → Q (.ref p) (upd H1 p (.tup xs.reverse))
theorem pe_revT {e : Expr} {te : TE} {k : Nat} {p1 p2 p3 pos : Pos} (he : PE X e te) : PE X (.Subscript e (.Slice none none (some (.UnaryOp .USub (.Constant (.int 1) k p1) p2)) p3) pos) (tRevT X.K te) := by
  refine ⟨fun pins s σ H Q I h => ?_⟩
  refine Subscript_ (thn (he.run pins s σ H _ I h) fun v s1 ⟨x, H1, I1, r1, q1⟩ => ?_)
  obtain ⟨a, xs, ex, hx, q⟩ := q1
  subst ex
  cases r1
  have hst : PO X (some (.UnaryOp .USub (.Constant (.int 1) k p1) p2)) (tPart (tUn (rU fun i => .int (-i)) (tC (.int 1)))) := po_some (pe_un un_neg pe_int)
  refine wpAny_Slice (thn (po_none.run pins s1 σ H1 (fun o H2 => o = none ∧ H2 = H1) I1 ⟨rfl, rfl⟩) fun vl s2 ⟨l, H2, I2, pl, el, e2⟩ => ?_)
  subst el e2
  refine thn (po_none.run pins s2 σ H2 (fun o H3 => o = none ∧ H3 = H2) I2 ⟨rfl, rfl⟩) fun vu s3 ⟨u, H3, I3, pu, eu, e3⟩ => ?_
  subst eu e3
  refine thn (hst.run pins s3 σ H3 (fun o H4 => o = some (-1) ∧ H4 = H3) I3 ⟨1, rfl, -1, rfl, rfl, rfl⟩) fun vs s4 ⟨o, H4, I4, ps, eo, e4⟩ => ?_
  subst eo e4
  have I5 : Inv X pins σ H4 { s4 with heap := s4.heap.push { cls := .type "slice", data := .fields #[vl, vu, vs] } } := I4.kept (t' := s4.toks) fun b ob q => Heap.get?_push_of_some _ q
  obtain ⟨its, r, ht, hz⟩ := I5.tuple hx
  have hlen := r.length
  show wpAny (model X.prog X.w) X.A (subscriptTail e (.Slice none none (some (.UnaryOp .USub (.Constant (.int 1) k p1) p2)) p3) (.ref a) (.ref s4.heap.objs.size)) (EP X pins σ Q) X.xe { s4 with heap := s4.heap.push { cls := .type "slice", data := .fields #[vl, vu, vs] } }
  refine tail_any (ops := [.ref a, .ref s4.heap.objs.size]) ht.typeIs (PyProof.Rows.slot_tuple_getitem.lookup) ?_ (by with_unfolding_all rfl)
  refine getItem_tuple_rev ht (Heap.IsSliceOf.new _ vl vu vs) pl pu ps ?_ (by rw [List.size_toArray]; omega)
  refine ⟨.ref _, _, I5.laid (t' := s4.toks) (o := .tup xs.reverse) (fun b ob q => Heap.get?_push_of_some _ q) (Nat.le_refl _) ?_, rfl, q _ (I5.hok.fresh (Nat.le_refl _))⟩
  exact ⟨by rw [List.length_reverse]; exact hz, _, r.reverse, IsTup.new _ _⟩
end
end L2
namespace MV
open PySem PySem.Spec PyProof.Rows L2
/-- t[::-1] of a tuple of data -/
def rvtT (t : TW) : TW := fun S Q => t S fun w S' => match w with
  | .d (.tuple xs) => Q (.d (.tuple xs.reverse)) S'
  | _ => False
theorem se_rvt {X : Cx} {o : Og} {e : Expr} {t : TW} {k : Nat} {p1 p2 p3 pos : Pos} (h : SE X o e t) : SE X o (.Subscript e (.Slice none none (some (.UnaryOp .USub (.Constant (.int 1) k p1) p2)) p3) pos) (rvtT t) := by
  intro σ S ω fp Q wd rs q
  refine useE (pe_revT (pE e)) (wE.mono (h σ S ω fp _ wd rs q) ?_)
  rintro x H1 ⟨w, S', ω', fg, fs, rfl, E, r, rs', q'⟩
  split at q'
  · have wd' := E.wd.sub (List.sublist_append_right _ _)
    cases r with | d d1 =>
    cases d1 with | tup hh t =>
    exact ⟨_, _, rfl, .inl (Rd.mono wd'.bh hh), fun p hp => FR.post E rs' (FR.tup wd' rs'.alloc hp t.reverse q')⟩
  · exact q'.elim
end MV

namespace MV
open PySem PySem.Spec PyProof.Rows L2
/-! ### for k in d: a dict of one's own, locked while it is walked -/
def fkdT (i : Nat) (A : List Nat) (g : TGt) (tb : TSt) : TSt := fun D S => match gt S i with
  | some (.od xs) => forL g tb (fun _ => True) (xs.map fun p => W.d (dKey p.1))
      { nx := fun S' => backOk A 0 S (st S' i none) ∧ D.nx (st S' i (some (.od xs))), rt := fun r S' => noV r = true ∧ backOk A 0 S (st S' i none) ∧ D.rt r (st S' i (some (.od xs))),
        bk := fun S' => backOk A 0 S (st S' i none) ∧ D.bk (st S' i (some (.od xs))), ct := fun S' => backOk A 0 S (st S' i none) ∧ D.ct (st S' i (some (.od xs))) } (st S i none)
  | _ => False
theorem jok_keys {d : Addr} {od : Obj} {vs : List (Key × V)} {xs : List (Key × PyData)} (hk : vs.map (·.1) = xs.map (·.1)) : JOk (Itk d od vs) (xs.map fun p => W.d (dKey p.1)) (fun ω _ _ _ => ω.H d = some (.frz od (.dK vs))) := by
  rintro k σ S ω fs wd rs hh
  have hl : vs.length = xs.length := by simpa using congrArg List.length hk
  refine ⟨fun w hw => ?_, fun hle => ⟨hh, by simpa [hl] using hle⟩⟩
  rw [List.getElem?_map, Option.map_eq_some_iff] at hw
  obtain ⟨x, hx, rfl⟩ := hw
  have hlt : k < vs.length := by rw [hl]; exact (List.getElem?_eq_some_iff.mp hx).1
  refine ⟨⟨hh, hlt⟩, ?_⟩
  rintro y H' ⟨rfl, k', v', hv, rfl⟩
  have e1 : (vs.map (·.1))[k]? = some k' := by rw [List.getElem?_map, hv]; rfl
  have e2 : (xs.map (·.1))[k]? = some x.1 := by rw [List.getElem?_map, hx]; rfl
  rw [hk, e2] at e1
  obtain rfl := Option.some.inj e1
  exact ⟨ω, rfl, Ext.refl wd, fun _ _ e => e, .d (dq_key _)⟩
section
variable {X : Cx} {o : Og}
theorem ss_fkd {tg e : Expr} {body : List Stmt} {A : List Nat} {i : Nat} {g : TGt} {tb : TSt} {pos : Pos} (hp : PassesOwn (model X.prog X.w) X.A X.env X.xe) (hc : X.calm = true) (hv : PE X e (tVar i)) (hg : SG X o tg A g) (hb : SB X o body A tb) (hi : i ∉ A) (hns : noSet e = true) :
    SS X o (.For tg e body [] pos) A (fkdT i A g tb) := by
  intro σ S ω fp D wd rs q
  unfold fkdT at q
  split at q
  · rename_i xs hg0
    obtain ⟨v, f1, f2, hs, r, rs1, pm⟩ := rs.split hg0
    cases r with | @od d vs _ hd kd =>
    have wd0 := wd.wd.perm pm
    have dn : d ∉ f2 := (List.nodup_cons.mp wd0.nd).1
    refine useS (ps_lock (ps_for hp hc (pIt tg e) (pG tg) (pSs body) (noFold hns))) ⟨d, .dK vs, hd, trivial, fun od => ?_⟩
    let ωl : Wo := ⟨ω.B, ω.L, upd ω.H d (.frz od (.dK vs))⟩
    have El : Ext ω ([d] ++ f2) ωl ([d] ++ f2) := Ext.put wd0 (by simp)
    have al1 : ∀ a ∈ [d], ωl.H a ≠ none := fun a m => by
      obtain rfl : a = d := by simpa using m
      show upd ω.H a _ a ≠ none
      rw [upd_same]; simp
    have E1 := lend_ext El.wd al1
    let ω1 : Wo := ⟨ωl.B, lendL ωl [d], ωl.H⟩
    have E01 : Ext ω ([d] ++ f2) ω1 f2 := El.trans E1
    have rs2 : RSs ω1 σ (st S i none) f2 := RSs.mono (ω := ω) (ω' := ω1) (Le.refl _) E01.ll rs1 fun a m => upd_ne fun z => dn (z ▸ m)
    have E1' : Ext ω fp ω1 f2 := E01.permL pm.symm
    have in1 : In o ω1 f2 := wd.trans E1'
    have fin : ∀ {ω' : Wo} {σ' : L2.St} {S' : WSt} {fv fs : List Addr}, Ext ω1 f2 ω' (fv ++ fs) → RSs ω' σ' S' fs → Keep A σ σ' → backOk A 0 S (st S' i none) →
        ω'.H d = some (.frz od (.dK vs)) ∧ d ∉ fv ++ fs ∧ ∃ ω2 fs', ω2.H = upd ω'.H d (.dK vs) ∧ ω2.B = ω'.B ∧ Ext ω fp ω2 (fv ++ fs') ∧ RSs ω2 σ' (st S' i (some (.od xs))) fs' := by
      intro ω' σ' S' fv fs E r1 kp bo
      obtain ⟨E2, hH⟩ := take_ext El.wd al1 E
      let ωt : Wo := ⟨ω'.B, takeL ω' [d], ω'.H⟩
      have hd' : ω'.H d = some (.frz od (.dK vs)) := (hH d (by simp)).trans upd_same
      have dnf : d ∉ fv ++ fs := (List.nodup_cons.mp E2.wd.nd).1
      refine ⟨hd', dnf, ?_⟩
      let ω2 : Wo := ⟨ω'.B, takeL ω' [d], upd ω'.H d (.dK vs)⟩
      have E3 : Ext ωt ([d] ++ (fv ++ fs)) ω2 ([d] ++ (fv ++ fs)) := Ext.put E2.wd (by simp)
      have E02 : Ext ω ([d] ++ f2) ω2 ([d] ++ (fv ++ fs)) := (El.trans E2).trans E3
      obtain ⟨fk, rk, sk⟩ := r1.kill i
      have rbt : RSs ωt σ' (st S' i none) fk := back_rs (ω := ω) (ω' := ω') (ω2 := ωt) (Le.refl _) (El.trans E2).bb (El.trans E2).ll rfl rs rk (fun j hj => kp.2 j (by simpa using hj)) bo
      have rb : RSs ω2 σ' (st S' i none) fk := RSs.mono (ω := ωt) (ω' := ω2) (Le.refl _) (Le.refl _) rbt fun a m => upd_ne fun z => dnf (List.mem_append_right _ (sk.subset (z ▸ m)))
      have hsv : σ'[i]? = some (some (.ref d)) := by rw [kp.2 i hi]; exact hs
      obtain ⟨h4, f4, rs4, pm4, sl4⟩ := rb.fill (i := i) hsv (RW.od (ω := ω2) (a := d) upd_same (kd.mono E02.bb))
      rw [st_st] at rs4
      refine ⟨ω2, h4, rfl, rfl, ?_, rs4⟩
      have E4 : Ext ω fp ω2 ([d] ++ (fv ++ fs)) := E02.permL pm.symm
      have E5 : Ext ω fp ω2 ([d] ++ (fv ++ f4)) := E4.sub (List.Sublist.append (List.Sublist.refl _) (List.Sublist.append (List.Sublist.refl _) (sl4.trans sk)))
      refine E5.permR ?_
      rw [← List.append_assoc]
      refine (List.Perm.append_right f4 List.perm_append_comm).trans ?_
      rw [List.append_assoc]
      exact List.Perm.append_left fv pm4.symm
    have h : wIt X tg e σ ωl.H (fun J H' => J = Itk d od vs ∧ H' = ωl.H) := useI (pi_keys hv) ⟨.ref d, hs, d, od, rfl, .inl ⟨vs, upd_same, rfl, rfl⟩⟩
    intro pins s I
    refine thn (h pins s I) fun v s1 h1 => thn h1 fun itv s2 ⟨it, fp', tn, J, H', e, I', T, st2, f2', pq⟩ => ⟨it, fp', tn, J, H', e, I', T, st2, f2', ?_⟩
    obtain ⟨rfl, rfl⟩ := pq
    obtain ⟨W', h0, h1⟩ := for_core hg hb (jok_keys kd.1) in1 rs2 (fun σ' S'' ω'' fs' E' rs'' k c => by
      refine E'.wd.lh d _ (E'.ll d _ ?_)
      show lendL ωl [d] d = _
      unfold lendL
      rw [if_pos (by simp)]; exact upd_same) trivial q
    refine ⟨W', h0, fun i' m σ1 H1 hw => ?_⟩
    have cn : ∀ {P : WSt → Prop} {σ1 : L2.St} {H1 : Hp}, nxOf A σ ω1 f2 (fun S' => backOk A 0 S (st S' i none) ∧ P (st S' i (some (.od xs)))) σ1 H1 → H1 d = some (.frz od (.dK vs)) ∧ nxOf A σ ω fp P σ1 (upd H1 d (.dK vs)) := by
      rintro P σ1 H1 ⟨S', ω', fs, rfl, E, r1, kp, bo, q⟩
      obtain ⟨hd', _, ω2, fs', e1, e2, E2, r2⟩ := fin (fv := []) E r1 kp bo
      exact ⟨hd', _, ω2, fs', e1, E2, r2, kp, q⟩
    have cr : ∀ {v : V} {H1 : Hp}, rtOf A σ ω1 f2 (fun r S' => noV r = true ∧ backOk A 0 S (st S' i none) ∧ D.rt r (st S' i (some (.od xs)))) v H1 → H1 d = some (.frz od (.dK vs)) ∧ rtOf A σ ω fp D.rt v (upd H1 d (.dK vs)) := by
      rintro v H1 ⟨wr, S', ω', fv, fs, σ', rfl, E, ru, r1, kp, nv, bo, q⟩
      obtain ⟨hd', dnf, ω2, fs', e1, e2, E2, r2⟩ := fin E r1 kp bo
      exact ⟨hd', wr, _, ω2, fv, fs', σ', e1, E2, ru.noL nv (by rw [e2]; exact Le.refl _) (fun a m => by rw [e1]; exact upd_ne fun z => dnf (List.mem_append_left _ (z ▸ m))), r2, kp, q⟩
    rcases h1 i' m σ1 H1 hw with ⟨a, b⟩ | ⟨a, N, b, c⟩
    · exact .inl ⟨a, cn b⟩
    · exact .inr ⟨a, N, b, fun x H' hx => wG.mono (c x H' hx) fun σ2 H2 h2 => wSs.mono h2 ⟨fun _ _ h => h, fun _ _ h => cr h, fun _ _ h => cn h, fun _ _ h => h⟩⟩
  · exact q.elim
end
end MV

namespace MV
open PySem PySem.Spec PyProof.Rows L2

/-! ### the terms -/
inductive BF where
  | len | list | tuple | sorted | sum | max | min | any | all | int | str
inductive MF where
  | append | appendO | pop | clear | reverse | insert | extend | remove
inductive Tg where
  | name (i : Nat) | tup (is : List Nat)
mutual
inductive E where
  | var (i : Nat) | mv (i : Nat) | int (n : Int) | bl (b : Bool) | non | str (x : Str) | glob (x : Str) (d : Key)
  | neg (e : E) | nt (e : E) | an (es : Es) | orr (es : Es)
  | bin (op : Operator) (os : Os) | cmp (op : CmpOp) (os : Os) | chn (p q : CmpOp) (os oc : Os)
  | tup (es : Es) | lst (es : Es) | tupw (es : Es) | lstw (es : Es) | dict0 | dict1 (es : Es)
  | idx (os : Os) | slo (os : Os) | shi (os : Os) | sle (a b c : E) | rvt (e : E) | slp (i : Nat) (b c : E)
  | bf (f : BF) (os : Os) | lrg (os : Os) | sset (os : Os) | isi (T : String) (os : Os) | call (j : Nat) (ms : List AK) (cs : Cs)
  | meth (i : Nat) (m : MF) (es : Es) | methP (i : Nat) (b : E) (m : MF) (es : Es)
  | comp (own : List Nat) (tg : Tg) (sr : Sr) (tt : Oe) (elt : E) | compO (own : List Nat) (tg : Tg) (sr : Sr) (tt : Oe) (elt : E)
inductive Es where
  | nil | cons (e : E) (r : Es)
inductive Os where
  | nil | ex (e : E) (r : Os) | pl (i : Nat) (r : Os) | pi (i : Nat) (e : E)
inductive Cs where
  | nil | ex (e : E) (r : Cs) | pl (i : Nat) (r : Cs)
inductive Sr where
  | exp (e : E) | pl (i : Nat) | r1 (os : Os) | r2 (os : Os) | en (i : Nat)
inductive Oe where
  | none | some (e : E)
end

/-! ### what they mean -/
def opW : Operator → B2
  | .Add => addW
  | .Sub => subW
  | .Mult => mulW
  | .FloorDiv => fdivW
  | .Mod => modW
  | .Pow => powW
  | _ => fun _ _ _ => False
def cmpW : CmpOp → B2
  | .Eq => eqW
  | .NotEq => neW
  | .Is => isW false
  | .IsNot => isW true
  | .In => inW false
  | .NotIn => inW true
  | op => icmpW (icmp op)
def BF.sem : BF → B1
  | .len => lenW
  | .list => listW
  | .tuple => tupleW
  | .sorted => sortedW
  | .sum => sumW
  | .max => maxW
  | .min => minW
  | .any => anyW
  | .all => allW
  | .int => intW
  | .str => strW
def MF.sem : MF → MB
  | .append => appendM
  | .appendO => appendOM
  | .pop => popM
  | .clear => clearM
  | .reverse => reverseM
  | .insert => insertM
  | .extend => extendM
  | .remove => removeM
def Tg.sem : Tg → TGt
  | .name i => nameG i
  | .tup is => tupG is
def noEW : EWs := fun _ _ => False
section
variable (Γ : Nat → Ct)
mutual
def semE : E → EWs → TW
  | .var i, _ => varW i
  | .mv i, _ => mvW i
  | .int n, _ => fun S Q => Q (.d (.int n)) S
  | .bl n, _ => fun S Q => Q (.d (.bool n)) S
  | .non, _ => fun S Q => Q (.d .none) S
  | .str x, _ => fun S Q => Q (.d (.str x)) S
  | .glob _ d, _ => fun S Q => Q (.d (dKey d)) S
  | .neg e, W => negV (semE e W)
  | .nt e, W => notV (semE e W)
  | .an es, W => semAn es W
  | .orr es, W => semOr es W
  | .bin op os, W => onB (ap2 (opW op)) (semO os W)
  | .cmp op os, W => onB (ap2 (cmpW op)) (semO os W)
  | .chn p q os oc, W => chnT p q (semO os W) (semO oc W)
  | .tup es, W => dispT (semX es W)
  | .lst es, W => dispL (semX es W)
  | .tupw es, W => dispTW (semX es W)
  | .lstw es, W => dispLW (semX es W)
  | .dict0, _ => dict0
  | .dict1 es, W => dict1 (semX es W)
  | .idx os, W => onB (ap2 idxW) (semO os W)
  | .slo os, W => slLo (semO os W)
  | .shi os, W => slHi (semO os W)
  | .sle a b c, W => slLHe (semE a W) (semE b W) (semE c W)
  | .slp i b c, W => slLHp i (semE b W) (semE c W)
  | .rvt e, W => rvtT (semE e W)
  | .bf f os, W => onB f.sem (semO os W)
  | .lrg os, W => lrgT (semO os W)
  | .sset os, W => ssetT (semO os W)
  | .isi T os, W => isiT T (semO os W)
  | .call j ms cs, W => callT (Γ j) ms W (semC cs W)
  | .meth i m es, W => methT i (semX es W) m.sem
  | .methP i b m es, W => methPT i (semE b W) (semX es W) m.sem
  | .comp own tg sr tt e, W => compT own tg.sem (semOe tt noEW) (semE e noEW) (semSr sr W)
  | .compO own tg sr tt e, W => compOT own tg.sem (semOe tt noEW) (semE e noEW) (semSr sr W)
def semAn : Es → EWs → TW
  | .nil, _ => fun _ _ => False
  | .cons e .nil, W => semE e W
  | .cons e (.cons f r), W => andV (semE e W) (semAn (.cons f r) W)
def semOr : Es → EWs → TW
  | .nil, _ => fun _ _ => False
  | .cons e .nil, W => semE e W
  | .cons e (.cons f r), W => orV (semE e W) (semOr (.cons f r) W)
def semX : Es → EWs → TWs
  | .nil, _ => fun S Q => Q [] S
  | .cons e r, W => fun S Q => semE e W S fun w S1 => semX r W S1 fun ws S2 => Q (w :: ws) S2
def semO : Os → EWs → TWs
  | .nil, _ => fun S Q => Q [] S
  | .ex e r, W => fun S Q => semE e W S fun w S1 => semO r W S1 fun ws S2 => Q (w :: ws) S2
  | .pl i r, W => plW i (semO r W)
  | .pi i e, W => piW i (semE e W)
def semC : Cs → EWs → TTm
  | .nil, _ => fun S Q => Q [] S
  | .ex e r, W => fun S Q => semE e W S fun w S1 => semC r W S1 fun ts S2 => Q (.w w :: ts) S2
  | .pl i r, W => plC i (semC r W)
def semSr : Sr → EWs → SrcT
  | .exp e, W => srcE (semE e W)
  | .pl i, _ => srcP i
  | .r1 os, W => srcR1 (semO os W)
  | .r2 os, W => srcR2 (semO os W)
  | .en i, _ => srcEnumP i
def semOe : Oe → EWs → Option TW
  | .none, _ => Option.none
  | .some e, W => Option.some (semE e W)
end
end

/-! ### the text -/
structure Nm where
  N : List Str
  sc : Scope
  fn : Str → Bool
  fs : List (Nat × Str)
  gs : List (Str × Key)
def visC (nm : Nm) (i : Nat) (x : Str) : Bool := decide (nm.N[i]? = some x) && (match nm.sc.names.lookup x with
    | some .local => true
    | some .cell => true
    | some .free => true
    | _ => false) && !(x == ("__debug__" : Str)) && !(x == ("__classdict__" : Str))
def locC (nm : Nm) (i : Nat) (x : Str) : Bool := decide (nm.N[i]? = some x) && (match nm.sc.names.lookup x with
    | some .local => true
    | some .cell => nm.fn x
    | _ => false)
def nameC (nm : Nm) (i : Nat) : Expr → Bool
  | .Name x _ => visC nm i x
  | _ => false
def glC (nm : Nm) (x : Str) : Bool := decide (nm.sc.names.lookup x = some .globalImplicit) && !(x == ("__debug__" : Str)) && !(x == ("__name__" : Str))
def tgC (nm : Nm) (own : List Nat) : Tg → Expr → Bool
  | .name i, .Name x _ => locC nm i x && decide (i ∈ own)
  | .tup is, .Tuple es _ _ => go is es
  | _, _ => false
where go : List Nat → List Expr → Bool
  | [], [] => true
  | i :: is, .Name x _ :: es => locC nm i x && decide (i ∈ own) && go is es
  | _, _ => false
def pIx : Expr → Bool
  | .Slice _ _ _ _ => false
  | _ => true
theorem pIx_ok {b : Expr} (h : pIx b = true) : PlainIx b := by
  cases b <;> first | (intro _ _; rfl) | cases h
theorem pIx_sl {b : Expr} (h : pIx b = true) : ∀ l u p, b ≠ .Slice l u none p := by
  intro l u p e; subst e; cases h
/-- all but the comparisons and their joins -/
def plainX : Expr → Bool
  | .UnaryOp .Not _ _ => false
  | .BoolOp _ _ _ => false
  | .IfExp _ _ _ _ => false
  | .Compare _ _ _ _ => false
  | _ => true
theorem plainX_is {e : Expr} {env : Env} (h : plainX e = true) : ∀ whole, isTrue e env whole = (do let v ← whole; standAt e.pos; holding [v] (truthy v)) := by
  cases e
  case UnaryOp op _ _ => cases op <;> first | (intro _; rfl) | cases h
  all_goals first | (intro _; rfl) | cases h
theorem st_valX {X : Cx} {o : Og} {e : Expr} {t : TW} (h : SE X o e t) (hp : plainX e = true) : ST X o e (tst t) := by
  intro σ S ω fp Q wd rs q
  exact useT (pt_val (pE e) (plainX_is hp)) (wE.mono (h σ S ω fp _ wd rs q) fun v H' h' => postT_of h')
def BF.nm : BF → Str
  | .len => "len"
  | .list => "list"
  | .tuple => "tuple"
  | .sorted => "sorted"
  | .sum => "sum"
  | .max => "max"
  | .min => "min"
  | .any => "any"
  | .all => "all"
  | .int => "int"
  | .str => "str"
def MF.nm : MF → Str
  | .append => "append"
  | .appendO => "append"
  | .pop => "pop"
  | .clear => "clear"
  | .reverse => "reverse"
  | .insert => "insert"
  | .extend => "extend"
  | .remove => "remove"
def opC' : Operator → Bool
  | .Add => true
  | .Sub => true
  | .Mult => true
  | .FloorDiv => true
  | .Mod => true
  | .Pow => true
  | _ => false
def rel (nm : Nm) (scope : Scope) : Nm :=
  { nm with sc := { scope with names := scope.names.map fun (n, k) => if (k == .free && nm.sc.kind == .function && nm.sc.names.lookup n == some .cell) then (n, .cell) else (n, k) },
            fn := fun x => scope.names.lookup x == some .cell }
def ownP (nm : Nm) (own : List Nat) : List (Str × Nat) := own.map fun i => ((nm.N[i]?).getD ("" : Str), i)
def Sr.pls : Sr → List Nat
  | .pl i => [i]
  | .en i => [i]
  | _ => []
mutual
def ckE : E → Nm → Expr → Bool
  | .var i, nm, a => nameC nm i a
  | .mv i, nm, a => nameC nm i a
  | .int n, _, a => match a with
    | .Constant (.int m) _ _ => decide (n = m)
    | _ => false
  | .bl n, _, a => match a with
    | .Constant (.bool m) _ _ => n == m
    | _ => false
  | .non, _, a => match a with
    | .Constant .none _ _ => true
    | _ => false
  | .str x, _, a => match a with
    | .Constant (.str y) _ _ => decide (x = y)
    | _ => false
  | .glob x d, nm, a => match a with
    | .Name y _ => glC nm y && (nm.gs.any fun g => decide (g.1 = y) && decide (g.2 = d))
    | _ => false
  | .neg e, nm, a => match a with
    | .UnaryOp .USub b _ => ckE e nm b
    | _ => false
  | .nt e, nm, a => match a with
    | .UnaryOp .Not b _ => ckE e nm b
    | _ => false
  | .an es, nm, a => match a with
    | .BoolOp .And as _ => ckX es nm as
    | _ => false
  | .orr es, nm, a => match a with
    | .BoolOp .Or as _ => ckX es nm as
    | _ => false
  | .bin op os, nm, a => match a with
    | .BinOp x op' y _ => decide (op = op') && opC' op && ckO os nm [x, y]
    | _ => false
  | .cmp op os, nm, a => match a with
    | .Compare x [op'] [y] _ => decide (op = op') && noSet y && ckO os nm [x, y]
    | _ => false
  | .chn p q os oc, nm, a => match a with
    | .Compare x [p', q'] [y, z] _ => decide (p = p') && decide (q = q') && isOrd p && isOrd q && noSet z && ckO os nm [x, y] && ckO oc nm [z]
    | _ => false
  | .tup es, nm, a => match a with
    | .Tuple as _ _ => as.all noStar && ckX es nm as
    | _ => false
  | .lst es, nm, a => match a with
    | .List as _ => as.all noStar && ckX es nm as
    | _ => false
  | .tupw es, nm, a => match a with
    | .Tuple as _ _ => as.all noStar && ckX es nm as
    | _ => false
  | .lstw es, nm, a => match a with
    | .List as _ => as.all noStar && ckX es nm as
    | _ => false
  | .dict0, _, a => match a with
    | .Dict [] [] _ => true
    | _ => false
  | .dict1 es, nm, a => match a with
    | .Dict [some x] [y] _ => ckX es nm [x, y]
    | _ => false
  | .idx os, nm, a => match a with
    | .Subscript x y _ => pIx y && ckO os nm [x, y]
    | _ => false
  | .slo os, nm, a => match a with
    | .Subscript x (.Slice (some y) none none _) _ => ckO os nm [x, y]
    | _ => false
  | .shi os, nm, a => match a with
    | .Subscript x (.Slice none (some y) none _) _ => ckO os nm [x, y]
    | _ => false
  | .sle e f g, nm, a => match a with
    | .Subscript x (.Slice (some y) (some z) none _) _ => ckE e nm x && ckE f nm y && ckE g nm z
    | _ => false
  | .slp i f g, nm, a => match a with
    | .Subscript x (.Slice (some y) (some z) none _) _ => nameC nm i x && ckE f nm y && ckE g nm z
    | _ => false
  | .rvt e, nm, a => match a with
    | .Subscript x (.Slice none none (some (.UnaryOp .USub (.Constant (.int n) _ _) _)) _) _ => decide (n = 1) && ckE e nm x
    | _ => false
  | .bf f os, nm, a => match a with
    | .Call (.Name x _) (b :: bs) [] _ => decide (x = f.nm) && glC nm x && (b :: bs).all noStar && ckO os nm (b :: bs)
    | _ => false
  | .lrg os, nm, a => match a with
    | .Call (.Name x _) [.Call (.Name y _) [b] [] _] [] _ => decide (x = ("list" : Str)) && glC nm x && decide (y = ("range" : Str)) && glC nm y && [b].all noStar && ckO os nm [b]
    | .Call (.Name x _) [.Call (.Name y _) [b, c] [] _] [] _ => decide (x = ("list" : Str)) && glC nm x && decide (y = ("range" : Str)) && glC nm y && [b, c].all noStar && ckO os nm [b, c]
    | _ => false
  | .sset os, nm, a => match a with
    | .Call (.Name x _) [.Call (.Name y _) [b] [] _] [] _ => decide (x = ("sorted" : Str)) && glC nm x && decide (y = ("set" : Str)) && glC nm y && noStar b && ckO os nm [b]
    | _ => false
  | .isi T os, nm, a => match a with
    | .Call (.Name x _) [b, .Name y _] [] _ => decide (x = ("isinstance" : Str)) && glC nm x && tyNames.contains T && decide (y = Str.ofString T) && glC nm y && noStar b && ckO os nm [b]
    | _ => false
  | .call j _ cs, nm, a => match a with
    | .Call (.Name x _) (b :: bs) [] _ => decide (nm.fs.lookup j = some x) && glC nm x && (b :: bs).all noStar && ckC cs nm (b :: bs)
    | _ => false
  | .meth i m es, nm, a => match a with
    | .Call (.Attribute x y ap) [] [] cp => nameC nm i x && decide (y = m.nm) && noSuper x && (ap.endLine == cp.line) && ckX es nm []
    | .Call (.Attribute x y ap) (b :: bs) [] cp => nameC nm i x && decide (y = m.nm) && noSuper x && (ap.endLine == cp.line) && (b :: bs).all noStar && decide ((b :: bs).length < 30) && ckX es nm (b :: bs)
    | _ => false
  | .methP i k m es, nm, a => match a with
    | .Call (.Attribute (.Subscript x z _) y ap) (b :: bs) [] cp => nameC nm i x && decide (y = m.nm) && (ap.endLine == cp.line) && (b :: bs).all noStar && decide ((b :: bs).length < 30) && pIx z && ckE k nm z && ckX es nm (b :: bs)
    | _ => false
  | .comp own tg sr tt e, nm, a => match a with
    | .ListComp elt [⟨t, it, ifs, 0⟩] scope _ => blkC nm.N nm.sc scope (ownP nm own) && noSet it && decide (∀ i ∈ sr.pls, i ∉ own) && tgC (rel nm scope) own tg t && ckSr sr nm it t && ckOe tt (rel nm scope) ifs && ckE e (rel nm scope) elt
    | _ => false
  | .compO own tg sr tt e, nm, a => match a with
    | .ListComp elt [⟨t, it, ifs, 0⟩] scope _ => blkC nm.N nm.sc scope (ownP nm own) && noSet it && decide (∀ i ∈ sr.pls, i ∉ own) && tgC (rel nm scope) own tg t && ckSr sr nm it t && ckOe tt (rel nm scope) ifs && ckE e (rel nm scope) elt
    | _ => false
def ckX : Es → Nm → List Expr → Bool
  | .nil, _, as => match as with
    | [] => true
    | _ => false
  | .cons e r, nm, as => match as with
    | b :: bs => ckE e nm b && ckX r nm bs
    | _ => false
def ckO : Os → Nm → List Expr → Bool
  | .nil, _, as => match as with
    | [] => true
    | _ => false
  | .ex e r, nm, as => match as with
    | b :: bs => ckE e nm b && ckO r nm bs
    | _ => false
  | .pl i r, nm, as => match as with
    | b :: bs => nameC nm i b && ckO r nm bs
    | _ => false
  | .pi i e, nm, as => match as with
    | [.Subscript x y _] => nameC nm i x && pIx y && ckE e nm y
    | _ => false
def ckC : Cs → Nm → List Expr → Bool
  | .nil, _, as => match as with
    | [] => true
    | _ => false
  | .ex e r, nm, as => match as with
    | b :: bs => ckE e nm b && ckC r nm bs
    | _ => false
  | .pl i r, nm, as => match as with
    | b :: bs => nameC nm i b && ckC r nm bs
    | _ => false
def ckSr : Sr → Nm → Expr → Expr → Bool
  | .exp e, nm, a, _ => ckE e nm a
  | .pl i, nm, a, _ => nameC nm i a
  | .r1 os, nm, a, _ => match a with
    | .Call (.Name x _) [b] [] _ => decide (x = ("range" : Str)) && glC nm x && [b].all noStar && ckO os nm [b]
    | _ => false
  | .r2 os, nm, a, _ => match a with
    | .Call (.Name x _) [b, c] [] _ => decide (x = ("range" : Str)) && glC nm x && [b, c].all noStar && ckO os nm [b, c]
    | _ => false
  | .en i, nm, a, t => match a, t with
    | .Call (.Name x _) [b] [] _, .Tuple _ _ _ => decide (x = ("enumerate" : Str)) && glC nm x && [b].all noStar && nameC nm i b
    | _, _ => false
def ckOe : Oe → Nm → List Expr → Bool
  | .none, _, as => match as with
    | [] => true
    | _ => false
  | .some e, nm, as => match as with
    | [b] => ckE e nm b
    | _ => false
end
end MV

namespace MV
open PySem PySem.Spec PyProof.Rows L2

def bNames : List Str := ["len", "list", "tuple", "sorted", "sum", "max", "min", "any", "all", "int", "str", "bool", "range", "enumerate", "isinstance", "reversed", "set", "dict", "repr"]
/-- the running context is as the text's names say -/
structure Fit (Γ : Nat → Ct) (k : Nat) (X : Cx) (nm : Nm) : Prop where
  N : X.N = nm.N
  nd : nm.N.Nodup
  sc : X.env.scope = nm.sc
  kd : nm.sc.kind = .function
  fn : ∀ x, nm.fn x = true → X.fn x = true
  calm : X.calm = true
  room : Room k X.A
  bl : ∀ x ∈ bNames, X.mg x = none
  fns : ∀ j x, nm.fs.lookup j = some x → ∃ f fd ps, FnOk X.prog X.w X.K X.mg X.base (L2.CX X.prog X.w) k f fd ps (spOf (Γ j)) ∧ X.mg x = some (.ref f) ∧ PySem.W.keepIn X.K (.ref f) = true ∧ Binds X.K fd ps []
  gs : ∀ x d, (x, d) ∈ nm.gs → ∃ u, X.mg x = some u ∧ RelV (kV d) u
section
variable {Γ : Nat → Ct} {k : Nat} {X : Cx} {nm : Nm} {o : Og}
theorem bothX {e : Expr} {t : TW} (h : SE X o e t) (hp : plainX e = true) : SE X o e t ∧ ST X o e (tst t) := ⟨h, st_valX h hp⟩
theorem se_dat {e : Expr} {v : V} {x : PyData} (h : PE X e (tC v)) (d : ∀ A : Hp, Dq A v x) : SE X o e (fun S Q => Q (.d x) S) := by
  intro σ S ω fp Q wd rs q
  exact useE h ⟨.d x, S, ω, [], fp, rfl, Ext.refl wd.wd, .d (d _), rs, q⟩
theorem Fit.names (F : Fit Γ k X nm) (x : Str) : X.env.kindOf x = nm.sc.names.lookup x := by
  show X.env.scope.names.lookup x = _
  rw [F.sc]
theorem Fit.blk (F : Fit Γ k X nm) {scope : Scope} (hk : scope.kind = .function) (s : Shared) (H0 : Hp) (C : Addr) (cl : List (Str × Addr)) (fp : List Addr) : Fit Γ k (X.blk s H0 scope (compEnvC scope cl C X.env) fp) (rel nm scope) where
  N := F.N
  nd := F.nd
  sc := by
    show relabel scope X.env = _
    unfold relabel rel Env.kindOf
    rw [F.sc]
  kd := hk
  fn := fun x h => h
  calm := F.calm
  room := F.room
  bl := F.bl
  fns := F.fns
  gs := F.gs
theorem Fit.vis (F : Fit Γ k X nm) {i : Nat} {a : Expr} (h : nameC nm i a = true) : PE X a (tVar i) := by
  cases a
  case Name x pos =>
    simp only [nameC, visC, Bool.and_eq_true, decide_eq_true_eq, Bool.not_eq_true'] at h
    obtain ⟨⟨⟨h1, h2⟩, h3⟩, h4⟩ := h
    refine pe_var (by rw [F.N]; exact h1) ?_ h3 h4
    unfold Vis
    rw [F.sc]
    split at h2
    · rename_i e; exact .inl e
    · rename_i e; exact .inr (.inl e)
    · rename_i e; exact .inr (.inr e)
    · cases h2
  all_goals cases h
theorem Fit.loc (F : Fit Γ k X nm) {i : Nat} {x : Str} (h : locC nm i x = true) : X.N[i]? = some x ∧ Loc X.env.scope x ∧ (X.fn x = true ∨ X.env.scope.names.lookup x = some .local) := by
  simp only [locC, Bool.and_eq_true, decide_eq_true_eq] at h
  obtain ⟨h1, h2⟩ := h
  rw [F.N]
  refine ⟨h1, ?_⟩
  unfold L2.Loc
  rw [F.sc]
  split at h2
  · rename_i e; exact ⟨.inl e, .inr e⟩
  · rename_i e; exact ⟨.inr e, .inl (F.fn x h2)⟩
  · cases h2
theorem Fit.gl (F : Fit Γ k X nm) {x : Str} (h : glC nm x = true) : Gl X x ∧ (x == ("__debug__" : Str)) = false ∧ x ≠ "__name__" := by
  simp only [glC, Bool.and_eq_true, decide_eq_true_eq, Bool.not_eq_true'] at h
  obtain ⟨⟨h1, h2⟩, h3⟩ := h
  refine ⟨?_, h2, fun e => by rw [e] at h3; simp at h3⟩
  unfold Gl
  rw [F.names]
  exact h1
theorem nmOk_of (F : Fit Γ k X nm) {own : List Nat} : ∀ {is : List Nat} {es : List Expr}, tgC.go nm own is es = true → NmOk X own es is
  | [], [], _ => .nil
  | i :: is, .Name x p :: es, h => by
    simp only [tgC.go, Bool.and_eq_true, decide_eq_true_eq] at h
    obtain ⟨⟨h1, h2⟩, h3⟩ := h
    obtain ⟨a, b, c⟩ := F.loc h1
    exact .cons a b h2 c (nmOk_of F h3)
  | [], _ :: _, h => by simp [tgC.go] at h
  | _ :: _, [], h => by simp [tgC.go] at h
  | i :: is, e :: es, h => by
    cases e
    case Name x p =>
      simp only [tgC.go, Bool.and_eq_true, decide_eq_true_eq] at h
      obtain ⟨⟨h1, h2⟩, h3⟩ := h
      obtain ⟨a, b, c⟩ := F.loc h1
      exact .cons a b h2 c (nmOk_of F h3)
    all_goals (simp [tgC.go] at h)
theorem tg_ok (F : Fit Γ k X nm) {own : List Nat} {tg : Tg} {a : Expr} (h : tgC nm own tg a = true) : SG X o a own tg.sem := by
  cases tg with
  | name i =>
    cases a
    case Name x pos =>
      simp only [tgC, Bool.and_eq_true, decide_eq_true_eq] at h
      obtain ⟨a, b, c⟩ := F.loc h.1
      exact sg_name (by rw [F.N]; exact F.nd) a b h.2 c
    all_goals cases h
  | tup is =>
    cases a
    case Tuple es kk pos =>
      exact sg_tup F.calm (by rw [F.N]; exact F.nd) (nmOk_of F h)
    all_goals cases h
theorem Fit.u200 (F : Fit Γ k X nm) : X.A.units + 200 < cLine := Nat.lt_of_le_of_lt (by omega) F.room.un
theorem op_ok (F : Fit Γ k X nm) {op : Operator} (h : opC' op = true) : OpS X (binaryOp op) (opW op) := by
  cases op
  case Add => exact op_addW
  case Sub => exact op_subW
  case Mult => exact op_mulW
  case FloorDiv => exact op_fdivW
  case Mod => exact op_modW
  case Pow => exact op_powW
  all_goals cases h
theorem cmp_ok (F : Fit Γ k X nm) {op : CmpOp} : OpS X (compareOp op) (cmpW op) := by
  have hu := F.u200
  cases op
  case Eq => exact op_eqW (by omega)
  case NotEq => exact op_neW (by omega)
  case Is => exact op_isW
  case IsNot => exact op_isNotW
  case In => exact op_inW (by omega)
  case NotIn => exact op_notInW (by omega)
  all_goals exact op_icmpW (op_icmp rfl)
theorem bf_ok (F : Fit Γ k X nm) {f : BF} {x : Str} {p pos : Pos} {e : Expr} {es : List Expr} {us : TWs} (hx : x = f.nm) (hg : glC nm x = true) (hns : (e :: es).all noStar = true) (h : SOl X o (e :: es) us) : SE X o (.Call (.Name x p) (e :: es) [] pos) (onB f.sem us) := by
  subst hx
  obtain ⟨g1, g2, g3⟩ := F.gl hg
  have hu := F.u200
  have hc := F.calm
  cases f
  case len => exact se_callB cs_len g1 (F.bl _ (by decide)) rfl hns h
  case list => exact se_callTy (cs_list hc) g1 (F.bl _ (by decide)) rfl hns h
  case tuple => exact se_callTy cs_tuple g1 (F.bl _ (by decide)) rfl hns h
  case sorted => exact se_callB (cs_sorted hc hu) g1 (F.bl _ (by decide)) rfl hns h
  case sum => exact se_callB (cs_sum hc) g1 (F.bl _ (by decide)) rfl hns h
  case max => exact se_callB (cs_max hc) g1 (F.bl _ (by decide)) rfl hns h
  case min => exact se_callB (cs_min hc) g1 (F.bl _ (by decide)) rfl hns h
  case any => exact se_callB (cs_any hc) g1 (F.bl _ (by decide)) rfl hns h
  case all => exact se_callB (cs_all hc) g1 (F.bl _ (by decide)) rfl hns h
  case int => exact se_callTy cs_int g1 (F.bl _ (by decide)) rfl hns h
  case str => exact se_callTy cs_str g1 (F.bl _ (by decide)) rfl hns h
theorem meth_ok (F : Fit Γ k X nm) {i : Nat} {m : MF} {x : Expr} {y : Str} {ap cp : Pos} {e : Expr} {es : List Expr} {us : TWs} (hv : nameC nm i x = true) (hy : y = m.nm) (hs : noSuper x = true) (hl : (ap.endLine == cp.line) = true) (hns : (e :: es).all noStar = true) (hlen : (e :: es).length < 30) (h : SX X o (e :: es) us) :
    SE X o (.Call (.Attribute x y ap) (e :: es) [] cp) (methT i us m.sem) := by
  subst hy
  have v := F.vis hv
  cases m
  case append => exact se_meth v ms_append PySem.F.plainAttrs_list PySem.F.slot_list_append PySem.F.type_list_append hns hlen hs hl h
  case appendO => exact se_meth v ms_appendO PySem.F.plainAttrs_list PySem.F.slot_list_append PySem.F.type_list_append hns hlen hs hl h
  case pop => exact se_meth v ms_pop PySem.F.plainAttrs_list PySem.F.slot_list_pop PySem.F.type_list_pop hns hlen hs hl h
  case clear => exact se_meth v ms_clear PySem.F.plainAttrs_list PySem.F.slot_list_clear PySem.F.type_list_clear hns hlen hs hl h
  case reverse => exact se_meth v ms_reverse PySem.F.plainAttrs_list PySem.F.slot_list_reverse PySem.F.type_list_reverse hns hlen hs hl h
  case insert => exact se_meth v ms_insert PySem.F.plainAttrs_list PySem.F.slot_list_insert PySem.F.type_list_insert hns hlen hs hl h
  case extend => exact se_meth v ms_extend PySem.F.plainAttrs_list PySem.F.slot_list_extend PySem.F.type_list_extend hns hlen hs hl h
  case remove => exact se_meth v ms_remove PySem.F.plainAttrs_list PySem.F.slot_list_remove PySem.F.type_list_remove hns hlen hs hl h
theorem meth0_ok (F : Fit Γ k X nm) {i : Nat} {m : MF} {x : Expr} {y : Str} {ap cp : Pos} (hv : nameC nm i x = true) (hy : y = m.nm) (hs : noSuper x = true) (hl : (ap.endLine == cp.line) = true) : SE X o (.Call (.Attribute x y ap) [] [] cp) (methT i (fun S Q => Q [] S) m.sem) := by
  subst hy
  have v := F.vis hv
  cases m
  case append => exact se_meth0 v ms_append PySem.F.plainAttrs_list PySem.F.slot_list_append PySem.F.type_list_append hs hl
  case appendO => exact se_meth0 v ms_appendO PySem.F.plainAttrs_list PySem.F.slot_list_append PySem.F.type_list_append hs hl
  case pop => exact se_meth0 v ms_pop PySem.F.plainAttrs_list PySem.F.slot_list_pop PySem.F.type_list_pop hs hl
  case clear => exact se_meth0 v ms_clear PySem.F.plainAttrs_list PySem.F.slot_list_clear PySem.F.type_list_clear hs hl
  case reverse => exact se_meth0 v ms_reverse PySem.F.plainAttrs_list PySem.F.slot_list_reverse PySem.F.type_list_reverse hs hl
  case insert => exact se_meth0 v ms_insert PySem.F.plainAttrs_list PySem.F.slot_list_insert PySem.F.type_list_insert hs hl
  case extend => exact se_meth0 v ms_extend PySem.F.plainAttrs_list PySem.F.slot_list_extend PySem.F.type_list_extend hs hl
  case remove => exact se_meth0 v ms_remove PySem.F.plainAttrs_list PySem.F.slot_list_remove PySem.F.type_list_remove hs hl
theorem methP_ok (F : Fit Γ k X nm) {i : Nat} {m : MF} {x z : Expr} {y : Str} {ap cp sp : Pos} {e : Expr} {es : List Expr} {us : TWs} {t : TW} (hv : nameC nm i x = true) (hy : y = m.nm) (hl : (ap.endLine == cp.line) = true) (hns : (e :: es).all noStar = true) (hlen : (e :: es).length < 30) (hz : SE X o z t) (hix : PlainIx z)
    (h : SX X o (e :: es) us) : SE X o (.Call (.Attribute (.Subscript x z sp) y ap) (e :: es) [] cp) (methPT i t us m.sem) := by
  subst hy
  have v := F.vis hv
  cases m
  case append => exact se_methP v ms_append PySem.F.plainAttrs_list PySem.F.slot_list_append PySem.F.type_list_append hns hlen hl hz hix h
  case appendO => exact se_methP v ms_appendO PySem.F.plainAttrs_list PySem.F.slot_list_append PySem.F.type_list_append hns hlen hl hz hix h
  case pop => exact se_methP v ms_pop PySem.F.plainAttrs_list PySem.F.slot_list_pop PySem.F.type_list_pop hns hlen hl hz hix h
  case clear => exact se_methP v ms_clear PySem.F.plainAttrs_list PySem.F.slot_list_clear PySem.F.type_list_clear hns hlen hl hz hix h
  case reverse => exact se_methP v ms_reverse PySem.F.plainAttrs_list PySem.F.slot_list_reverse PySem.F.type_list_reverse hns hlen hl hz hix h
  case insert => exact se_methP v ms_insert PySem.F.plainAttrs_list PySem.F.slot_list_insert PySem.F.type_list_insert hns hlen hl hz hix h
  case extend => exact se_methP v ms_extend PySem.F.plainAttrs_list PySem.F.slot_list_extend PySem.F.type_list_extend hns hlen hl hz hix h
  case remove => exact se_methP v ms_remove PySem.F.plainAttrs_list PySem.F.slot_list_remove PySem.F.type_list_remove hns hlen hl hz hix h
theorem isi_ok (F : Fit Γ k X nm) {x y : Str} {T : String} {p p2 pos : Pos} {a : Expr} {us : TWs} (hx : x = ("isinstance" : Str)) (hg : glC nm x = true) (hT : tyNames.contains T = true) (hy : y = Str.ofString T) (hg2 : glC nm y = true) (hns : noStar a = true) (h : SOl X o [a] us) :
    SE X o (.Call (.Name x p) [a, .Name y p2] [] pos) (isiT T us) := by
  subst hx
  obtain ⟨g1, _, _⟩ := F.gl hg
  obtain ⟨g2, g3, g4⟩ := F.gl hg2
  have hb : bootBuiltins y = some (.type T) ∧ y ∈ bNames := by
    subst hy
    have hT' : T ∈ tyNames := by simpa using hT
    simp only [tyNames, List.mem_cons, List.mem_nil_iff, or_false] at hT'
    rcases hT' with rfl | rfl | rfl | rfl | rfl <;> exact ⟨rfl, by decide⟩
  exact se_isi g1 (F.bl _ (by decide)) g2 (F.bl _ hb.2) hb.1 hT hns h g4 g3
end
end MV

namespace MV
open PySem PySem.Spec PyProof.Rows L2
abbrev AR (X : Cx) (o : Og) (as : List Expr) (t : BoolOp → TW) : Prop := ∀ pos, (SE X o (.BoolOp .And as pos) (t .And) ∧ SW X o (.BoolOp .And as pos) (tst (t .And))) ∧ (SE X o (.BoolOp .Or as pos) (t .Or) ∧ SW X o (.BoolOp .Or as pos) (tst (t .Or)))
def semB2 (Γ : Nat → Ct) (es : Es) (W : EWs) : BoolOp → TW
  | .And => semAn Γ es W
  | .Or => semOr Γ es W
theorem ifOk_none {X : Cx} {o : Og} {scope : Scope} : IfOk X o scope [] none := .none
mutual
theorem okE {Γ : Nat → Ct} {k : Nat} : ∀ (e : E) {X : Cx} {nm : Nm} {o : Og} {W : EWs} {a : Expr}, Fit Γ k X nm → XOk X o W → ckE e nm a = true → SE X o a (semE Γ e W) ∧ ST X o a (tst (semE Γ e W))
  | .var i, X, nm, o, W, a, F, xo, h => by
    have := se_var (o := o) (F.vis h)
    refine ⟨this, st_valX this ?_⟩
    cases a <;> first | rfl | cases h
  | .mv i, X, nm, o, W, a, F, xo, h => by
    have := se_mv (o := o) (F.vis h)
    refine ⟨this, st_valX this ?_⟩
    cases a <;> first | rfl | cases h
  | .int n, X, nm, o, W, a, F, xo, h => by
    unfold ckE at h
    split at h
    · obtain rfl := of_decide_eq_true h
      exact ⟨se_int, st_valX se_int rfl⟩
    · cases h
  | .bl n, X, nm, o, W, a, F, xo, h => by
    unfold ckE at h
    split at h
    · obtain rfl := eq_of_beq h
      exact ⟨se_bl, st_valX se_bl rfl⟩
    · cases h
  | .non, X, nm, o, W, a, F, xo, h => by
    unfold ckE at h
    split at h
    · exact ⟨se_non, st_valX se_non rfl⟩
    · cases h
  | .str x, X, nm, o, W, a, F, xo, h => by
    unfold ckE at h
    split at h
    · obtain rfl := of_decide_eq_true h
      exact ⟨se_str, st_valX se_str rfl⟩
    · cases h
  | .glob x d, X, nm, o, W, a, F, xo, h => by
    unfold ckE at h
    split at h
    · simp only [Bool.and_eq_true, decide_eq_true_eq] at h
      obtain ⟨h2, h3⟩ := h
      simp only [List.any_eq_true, Bool.and_eq_true, decide_eq_true_eq] at h3
      obtain ⟨g, h4, rfl, rfl⟩ := h3
      obtain ⟨u, hm, hr⟩ := F.gs _ _ h4
      obtain ⟨g1, g2, _⟩ := F.gl h2
      exact bothX (se_dat (pe_glob g1 hm hr g2) fun A => dq_key _) rfl
    · cases h
  | .neg e, X, nm, o, W, a, F, xo, h => by
    unfold ckE at h
    split at h
    · exact bothX (se_neg (okE e F xo h).1) rfl
    · cases h
  | .nt e, X, nm, o, W, a, F, xo, h => by
    unfold ckE at h
    split at h
    · exact ⟨se_not (okE e F xo h).1, st_not (okE e F xo h).2⟩
    · cases h
  | .an es, X, nm, o, W, a, F, xo, h => by
    unfold ckE at h
    split at h
    · exact ⟨((okX es F xo h).2 _).1.1, ((okX es F xo h).2 _).1.2.st⟩
    · cases h
  | .orr es, X, nm, o, W, a, F, xo, h => by
    unfold ckE at h
    split at h
    · exact ⟨((okX es F xo h).2 _).2.1, ((okX es F xo h).2 _).2.2.st⟩
    · cases h
  | .bin op os, X, nm, o, W, a, F, xo, h => by
    unfold ckE at h
    split at h
    · simp only [Bool.and_eq_true, decide_eq_true_eq] at h
      obtain ⟨⟨rfl, h2⟩, h3⟩ := h
      exact bothX (se_bin (op_ok F h2) (okO os F xo h3)) rfl
    · cases h
  | .cmp op os, X, nm, o, W, a, F, xo, h => by
    unfold ckE at h
    split at h
    · simp only [Bool.and_eq_true, decide_eq_true_eq] at h
      obtain ⟨⟨rfl, h2⟩, h3⟩ := h
      exact ⟨se_cmp (cmp_ok F) (okO os F xo h3) h2, st_cmp (cmp_ok F) (okO os F xo h3) h2⟩
    · cases h
  | .chn p q os oc, X, nm, o, W, a, F, xo, h => by
    unfold ckE at h
    split at h
    · simp only [Bool.and_eq_true, decide_eq_true_eq] at h
      obtain ⟨⟨⟨⟨⟨⟨rfl, rfl⟩, h2⟩, h3⟩, h4⟩, h5⟩, h6⟩ := h
      exact ⟨se_chn h2 h3 (okO os F xo h5) (okO oc F xo h6) h4, st_chn h2 h3 (okO os F xo h5) (okO oc F xo h6) h4⟩
    · cases h
  | .tup es, X, nm, o, W, a, F, xo, h => by
    unfold ckE at h
    split at h
    · simp only [Bool.and_eq_true] at h
      exact bothX (se_tup h.1 (okX es F xo h.2).1) rfl
    · cases h
  | .lst es, X, nm, o, W, a, F, xo, h => by
    unfold ckE at h
    split at h
    · simp only [Bool.and_eq_true] at h
      exact bothX (se_lst h.1 (okX es F xo h.2).1) rfl
    · cases h
  | .tupw es, X, nm, o, W, a, F, xo, h => by
    unfold ckE at h
    split at h
    · simp only [Bool.and_eq_true] at h
      exact bothX (se_tupW h.1 (okX es F xo h.2).1) rfl
    · cases h
  | .lstw es, X, nm, o, W, a, F, xo, h => by
    unfold ckE at h
    split at h
    · simp only [Bool.and_eq_true] at h
      exact bothX (se_lstW h.1 (okX es F xo h.2).1) rfl
    · cases h
  | .dict0, X, nm, o, W, a, F, xo, h => by
    unfold ckE at h
    split at h
    · exact ⟨se_dict0, st_valX se_dict0 rfl⟩
    · cases h
  | .dict1 es, X, nm, o, W, a, F, xo, h => by
    unfold ckE at h
    split at h
    · exact bothX (se_dict1 (okX es F xo h).1) rfl
    · cases h
  | .idx os, X, nm, o, W, a, F, xo, h => by
    unfold ckE at h
    split at h
    · simp only [Bool.and_eq_true] at h
      have hu := F.u200
      exact bothX (se_idx (ix_W (by omega)) (okO os F xo h.2) (pIx_ok h.1)) rfl
    · cases h
  | .slo os, X, nm, o, W, a, F, xo, h => by
    unfold ckE at h
    split at h
    · exact bothX (se_slLo (okO os F xo h)) rfl
    · cases h
  | .shi os, X, nm, o, W, a, F, xo, h => by
    unfold ckE at h
    split at h
    · exact bothX (se_slHi (okO os F xo h)) rfl
    · cases h
  | .rvt e, X, nm, o, W, a, F, xo, h => by
    unfold ckE at h
    split at h
    · rw [Bool.and_eq_true, decide_eq_true_iff] at h
      obtain ⟨rfl, h⟩ := h
      exact bothX (se_rvt (okE e F xo h).1) rfl
    · cases h
  | .sle e f g, X, nm, o, W, a, F, xo, h => by
    unfold ckE at h
    split at h
    · simp only [Bool.and_eq_true] at h
      exact bothX (se_slLHe (okE e F xo h.1.1).1 (okE f F xo h.1.2).1 (okE g F xo h.2).1) rfl
    · cases h
  | .slp i f g, X, nm, o, W, a, F, xo, h => by
    unfold ckE at h
    split at h
    · simp only [Bool.and_eq_true] at h
      exact bothX (se_slLHp (F.vis h.1.1) (okE f F xo h.1.2).1 (okE g F xo h.2).1) rfl
    · cases h
  | .bf f os, X, nm, o, W, a, F, xo, h => by
    unfold ckE at h
    split at h
    · simp only [Bool.and_eq_true, decide_eq_true_eq] at h
      exact bothX (bf_ok F h.1.1.1 h.1.1.2 h.1.2 (okO os F xo h.2)) rfl
    · cases h
  | .lrg os, X, nm, o, W, a, F, xo, h => by
    unfold ckE at h
    split at h
    · simp only [Bool.and_eq_true, decide_eq_true_eq] at h
      obtain ⟨⟨⟨⟨⟨h1, h2⟩, h3⟩, h4⟩, h5⟩, h6⟩ := h
      exact bothX (se_lrg1 F.calm (F.gl h2).1 h1 (F.bl _ (by decide)) (F.gl h4).1 h3 (F.bl _ (by decide)) h5 (okO os F xo h6)) rfl
    · simp only [Bool.and_eq_true, decide_eq_true_eq] at h
      obtain ⟨⟨⟨⟨⟨h1, h2⟩, h3⟩, h4⟩, h5⟩, h6⟩ := h
      exact bothX (se_lrg2 F.calm (F.gl h2).1 h1 (F.bl _ (by decide)) (F.gl h4).1 h3 (F.bl _ (by decide)) h5 (okO os F xo h6)) rfl
    · cases h
  | .sset os, X, nm, o, W, a, F, xo, h => by
    unfold ckE at h
    split at h
    · simp only [Bool.and_eq_true, decide_eq_true_eq] at h
      obtain ⟨⟨⟨⟨⟨h1, h2⟩, h3⟩, h4⟩, h5⟩, h6⟩ := h
      exact bothX (se_sset F.calm (F.gl h2).1 h1 (F.bl _ (by decide)) (F.gl h4).1 h3 (F.bl _ (by decide)) h5 (okO os F xo h6)) rfl
    · cases h
  | .isi T os, X, nm, o, W, a, F, xo, h => by
    unfold ckE at h
    split at h
    · simp only [Bool.and_eq_true, decide_eq_true_eq] at h
      obtain ⟨⟨⟨⟨⟨⟨h1, h2⟩, h3⟩, h4⟩, h5⟩, h6⟩, h7⟩ := h
      exact bothX (isi_ok F h1 h2 h3 h4 h5 h6 (okO os F xo h7)) rfl
    · cases h
  | .call j ms cs, X, nm, o, W, a, F, xo, h => by
    unfold ckE at h
    split at h
    · simp only [Bool.and_eq_true, decide_eq_true_eq] at h
      obtain ⟨⟨⟨h1, h2⟩, h3⟩, h4⟩ := h
      obtain ⟨f, fd, ps, f1, f2, f3, f4⟩ := F.fns j _ h1
      obtain ⟨g1, g2, _⟩ := F.gl h2
      exact bothX (se_call (ms := ms) f1 F.room g1 f2 f3 f4 xo h3 (okC cs F xo h4) g2) rfl
    · cases h
  | .meth i m es, X, nm, o, W, a, F, xo, h => by
    unfold ckE at h
    split at h
    · simp only [Bool.and_eq_true, decide_eq_true_eq] at h
      obtain ⟨⟨⟨⟨h1, h2⟩, h3⟩, h4⟩, h5⟩ := h
      cases es with
      | nil =>
        exact bothX (meth0_ok (o := o) F h1 h2 h3 h4) rfl
      | cons e r => unfold ckX at h5; simp at h5
    · simp only [Bool.and_eq_true, decide_eq_true_eq] at h
      obtain ⟨⟨⟨⟨⟨⟨h1, h2⟩, h3⟩, h4⟩, h5⟩, h6⟩, h7⟩ := h
      exact bothX (meth_ok F h1 h2 h3 h4 h5 h6 (okX es F xo h7).1) rfl
    · cases h
  | .methP i e m es, X, nm, o, W, a, F, xo, h => by
    unfold ckE at h
    split at h
    · simp only [Bool.and_eq_true, decide_eq_true_eq] at h
      obtain ⟨⟨⟨⟨⟨⟨⟨h1, h2⟩, h3⟩, h4⟩, h5⟩, h6⟩, h7⟩, h8⟩ := h
      exact bothX (methP_ok F h1 h2 h3 h4 h5 (okE e F xo h7).1 (pIx_ok h6) (okX es F xo h8).1) rfl
    · cases h
  | .comp own tg sr tt e, X, nm, o, W, a, F, xo, h => by
    unfold ckE at h
    split at h
    · simp only [Bool.and_eq_true, decide_eq_true_eq] at h
      obtain ⟨⟨⟨⟨⟨⟨h1, h2⟩, h3⟩, h4⟩, h5⟩, h6⟩, h7⟩ := h
      have ok := blkOk_by h1
      rw [← F.N, ← F.sc] at ok
      have hown : (ownP nm own).map (·.2) = own := by unfold ownP; rw [List.map_map]; exact List.map_id _
      have FB := fun s H0 C cl fp => F.blk ok.kind s H0 C cl fp
      have it := okOe tt (scope := ‹_›) (o := o) FB h6
      refine bothX (se_of_lc (o := o) F.calm (by rw [F.N]; exact F.nd) ok it h2 fun σ S ω fp Q wd rs q => by
        rw [hown]
        exact comp_read (own := own) (okSr sr F xo h5) (fun s H0 C cl fp => tg_ok (FB s H0 C cl fp) h4) it (fun s H0 C cl fp => (okE e (FB s H0 C cl fp) XOk.none h7).1) h3 wd rs q) rfl
    · cases h
  | .compO own tg sr tt e, X, nm, o, W, a, F, xo, h => by
    unfold ckE at h
    split at h
    · simp only [Bool.and_eq_true, decide_eq_true_eq] at h
      obtain ⟨⟨⟨⟨⟨⟨h1, h2⟩, h3⟩, h4⟩, h5⟩, h6⟩, h7⟩ := h
      have ok := blkOk_by h1
      rw [← F.N, ← F.sc] at ok
      have hown : (ownP nm own).map (·.2) = own := by unfold ownP; rw [List.map_map]; exact List.map_id _
      have FB := fun s H0 C cl fp => F.blk ok.kind s H0 C cl fp
      have it := okOe tt (scope := ‹_›) (o := o) FB h6
      refine bothX (se_of_lc (o := o) F.calm (by rw [F.N]; exact F.nd) ok it h2 fun σ S ω fp Q wd rs q => by
        rw [hown]
        exact compO_read (own := own) (okSr sr F xo h5) (fun s H0 C cl fp => tg_ok (FB s H0 C cl fp) h4) it (fun s H0 C cl fp => (okE e (FB s H0 C cl fp) XOk.none h7).1) h3 wd rs q) rfl
    · cases h
theorem okX {Γ : Nat → Ct} {k : Nat} : ∀ (es : Es) {X : Cx} {nm : Nm} {o : Og} {W : EWs} {as : List Expr}, Fit Γ k X nm → XOk X o W → ckX es nm as = true → SX X o as (semX Γ es W) ∧ AR X o as (semB2 Γ es W)
  | .nil, X, nm, o, W, as, F, xo, h => by
    unfold ckX at h
    split at h
    · exact ⟨sx_nil, fun pos => ⟨⟨fun σ S ω fp Q _ _ q => q.elim, fun σ S ω fp Q _ _ q => q.elim⟩, fun σ S ω fp Q _ _ q => q.elim, fun σ S ω fp Q _ _ q => q.elim⟩⟩
    · cases h
  | .cons e .nil, X, nm, o, W, as, F, xo, h => by
    unfold ckX at h
    split at h
    · rw [Bool.and_eq_true] at h
      obtain ⟨h1, h2⟩ := h
      have a1 := okE e F xo h1
      have a2 := okX .nil F xo h2
      unfold ckX at h2
      split at h2
      · exact ⟨sx_cons a1.1 a2.1, fun pos => ⟨⟨se_one a1.1, sw_and1 a1.2⟩, se_one a1.1, sw_or1 a1.2⟩⟩
      · cases h2
    · cases h
  | .cons e (.cons f r), X, nm, o, W, as, F, xo, h => by
    unfold ckX at h
    split at h
    · rw [Bool.and_eq_true] at h
      obtain ⟨h1, h2⟩ := h
      have a1 := okE e F xo h1
      have a2 := okX (.cons f r) F xo h2
      unfold ckX at h2
      split at h2
      · exact ⟨sx_cons a1.1 a2.1, fun pos => ⟨⟨se_and a1.1 (a2.2 pos).1.1, sw_and a1.2 (a2.2 pos).1.2⟩, se_or a1.1 (a2.2 pos).2.1, sw_or a1.2 (a2.2 pos).2.2⟩⟩
      · cases h2
    · cases h
theorem okO {Γ : Nat → Ct} {k : Nat} : ∀ (os : Os) {X : Cx} {nm : Nm} {o : Og} {W : EWs} {as : List Expr}, Fit Γ k X nm → XOk X o W → ckO os nm as = true → SOl X o as (semO Γ os W)
  | .nil, X, nm, o, W, as, F, xo, h => by
    unfold ckO at h
    split at h
    · exact so_nil
    · cases h
  | .ex e r, X, nm, o, W, as, F, xo, h => by
    unfold ckO at h
    split at h
    · rw [Bool.and_eq_true] at h
      exact so_ex (okE e F xo h.1).1 (okO r F xo h.2)
    · cases h
  | .pl i r, X, nm, o, W, as, F, xo, h => by
    unfold ckO at h
    split at h
    · rw [Bool.and_eq_true] at h
      exact so_pl (F.vis h.1) (okO r F xo h.2)
    · cases h
  | .pi i e, X, nm, o, W, as, F, xo, h => by
    unfold ckO at h
    split at h
    · rw [Bool.and_eq_true, Bool.and_eq_true] at h
      exact so_pi (F.vis h.1.1) (okE e F xo h.2).1 (pIx_ok h.1.2)
    · cases h
theorem okC {Γ : Nat → Ct} {k : Nat} : ∀ (cs : Cs) {X : Cx} {nm : Nm} {o : Og} {W : EWs} {as : List Expr}, Fit Γ k X nm → XOk X o W → ckC cs nm as = true → SC X o as (semC Γ cs W)
  | .nil, X, nm, o, W, as, F, xo, h => by
    unfold ckC at h
    split at h
    · exact sc_nil
    · cases h
  | .ex e r, X, nm, o, W, as, F, xo, h => by
    unfold ckC at h
    split at h
    · rw [Bool.and_eq_true] at h
      exact sc_ex (okE e F xo h.1).1 (okC r F xo h.2)
    · cases h
  | .pl i r, X, nm, o, W, as, F, xo, h => by
    unfold ckC at h
    split at h
    · rw [Bool.and_eq_true] at h
      exact sc_pl (F.vis h.1) (okC r F xo h.2)
    · cases h
theorem okSr {Γ : Nat → Ct} {k : Nat} : ∀ (sr : Sr) {X : Cx} {nm : Nm} {o : Og} {W : EWs} {a t : Expr}, Fit Γ k X nm → XOk X o W → ckSr sr nm a t = true → Src X o t a sr.pls (semSr Γ sr W)
  | .exp e, X, nm, o, W, a, t, F, xo, h => src_exp (okE e F xo (by unfold ckSr at h; exact h)).1
  | .pl i, X, nm, o, W, a, t, F, xo, h => src_place (F.vis (by unfold ckSr at h; exact h))
  | .r1 os, X, nm, o, W, a, t, F, xo, h => by
    unfold ckSr at h
    split at h
    · simp only [Bool.and_eq_true, decide_eq_true_eq] at h
      obtain ⟨⟨⟨rfl, h2⟩, h3⟩, h4⟩ := h
      exact src_rng1 (F.gl h2).1 (F.bl _ (by decide)) h3 (okO os F xo h4)
    · cases h
  | .r2 os, X, nm, o, W, a, t, F, xo, h => by
    unfold ckSr at h
    split at h
    · simp only [Bool.and_eq_true, decide_eq_true_eq] at h
      obtain ⟨⟨⟨rfl, h2⟩, h3⟩, h4⟩ := h
      exact src_rng2 (F.gl h2).1 (F.bl _ (by decide)) h3 (okO os F xo h4)
    · cases h
  | .en i, X, nm, o, W, a, t, F, xo, h => by
    unfold ckSr at h
    split at h
    · simp only [Bool.and_eq_true, decide_eq_true_eq] at h
      obtain ⟨⟨⟨rfl, h2⟩, h3⟩, h4⟩ := h
      exact src_enumP (F.gl h2).1 (F.bl _ (by decide)) h3 (F.vis h4)
    · cases h
theorem okOe {Γ : Nat → Ct} {k : Nat} : ∀ (tt : Oe) {X : Cx} {nm : Nm} {o : Og} {ifs : List Expr} {scope : Scope}, (∀ (s : Shared) (H0 : Hp) (C : Addr) (cl : List (Str × Addr)) (fp : List Addr), Fit Γ k (X.blk s H0 scope (compEnvC scope cl C X.env) fp) nm) → ckOe tt nm ifs = true → IfOk X o scope ifs (semOe Γ tt noEW)
  | .none, X, nm, o, ifs, scope, F, h => by
    unfold ckOe at h
    split at h
    · exact ifOk_none
    · cases h
  | .some e, X, nm, o, ifs, scope, F, h => by
    unfold ckOe at h
    split at h
    · exact .one fun s H0 C cl fp => (okE e (F s H0 C cl fp) XOk.none h).2
    · cases h
end
end MV

namespace MV
open PySem PySem.Spec PyProof.Rows L2
mutual
inductive T where
  | set (i : Nat) (e : E) | setc (i : Nat) (e : E) | asg (is : List Nat) (e : E) | put (i : Nat) (k v : E) | expr (e : E) | ret (e : E) | retN | pass | brk | never
  | ifs (c : E) (a b : B) | whl (c : E) (b : B) | fors (tg : Tg) (sr : Sr) (b : B) | fkd (tg : Tg) (i : Nat) (b : B) | lend (i : Nat) (s : T)
inductive B where
  | nil | cons (s : T) (r : B) | kil (is : List Nat) (r : B) | frz (i : Nat) (r : B)
end
def Tg.is : Tg → List Nat
  | .name i => [i]
  | .tup is => is
mutual
/-- the slots that are stored to -/
def asT : T → List Nat
  | .set i _ => [i]
  | .setc i _ => [i]
  | .asg is _ => is
  | .put _ _ _ => []
  | .expr _ => []
  | .ret _ => []
  | .retN => []
  | .pass => []
  | .brk => []
  | .never => []
  | .ifs _ a b => asB a ++ asB b
  | .whl _ b => asB b
  | .fors tg _ b => tg.is ++ asB b
  | .fkd tg _ b => tg.is ++ asB b
  | .lend _ s => asT s
def asB : B → List Nat
  | .nil => []
  | .cons s r => asT s ++ asB r
  | .kil _ r => asB r
  | .frz _ r => asB r
end
section
variable (Γ : Nat → Ct) (W : EWs)
mutual
def semT : T → TSt
  | .set i e => setT i (semE Γ e W)
  | .setc i e => setT i (semE Γ e W)
  | .asg is e => asgT (tupG is) (semE Γ e W)
  | .put i k v => putT i (semE Γ v W) (semE Γ k W) putM
  | .expr e => exprT (semE Γ e W)
  | .ret e => retT (semE Γ e W)
  | .retN => retNT
  | .pass => fun D S => D.nx S
  | .brk => fun D S => D.bk S
  | .never => fun _ _ => False
  | .ifs c a b => ifT (semE Γ c W) (semB a) (semB b)
  | .whl c b => whT (semE Γ c W) (semB b)
  | .fors tg sr b => forS tg.sem (semB b) (semSr Γ sr W)
  | .fkd tg i b => fkdT i (tg.is ++ asB b) tg.sem (semB b)
  | .lend i s => lendT i (asT s) (semT s)
def semB : B → TSt
  | .nil => fun D S => D.nx S
  | .cons s r => seqT (semT s) (semB r)
  | .kil is r => fun D S => semB r D (kills is S)
  | .frz i r => fun D S => match gt S i with
    | some w => (match fzW w with
      | some x => semB r D (st S i (some (.d x)))
      | none => False)
    | none => False
end
end
/-- a value whose making swaps no name -/
def noComp : Expr → Bool
  | .ListComp _ _ _ _ => false
  | .SetComp _ _ _ _ => false
  | .DictComp _ _ _ _ _ => false
  | _ => true
theorem noComp_ok {e : Expr} {t : Option Expr} {l : Nat} {env : Env} (h : noComp e = true) : swapsWith e t l env = pure false := by
  cases e <;> first | rfl | cases h
def swC (nm : Nm) (x : Str) (p : Pos) : Expr → Bool
  | .ListComp elt gs s pos => (nm.sc.names.lookup x == some .local) && (p.line == pos.line) && !(s.names.any fun (n, k) => n == x && (k == .local || k == .cell))
  | _ => false
def noTup : Expr → Bool
  | .Tuple _ _ _ => false
  | _ => true
theorem noTup_ok {e : Expr} {es : List Expr} {kk : Nat} {p : Pos} {env : Env} (h : noTup e = true) : swappedStores [.Tuple es kk p] e env = pure none := by
  unfold swappedStores
  cases e
  case Tuple => simp [noTup] at h
  all_goals rfl
theorem sub_swap {x k v : Expr} {p : Pos} {env : Env} : swappedStores [.Subscript x k p] v env = pure none := by
  unfold swappedStores; cases v <;> rfl
theorem sub_sole {x k v : Expr} {p : Pos} {l : Nat} {env : Env} : swapsWithSole [.Subscript x k p] v l env = pure false := by
  unfold swapsWithSole swapsWith; cases v <;> rfl
theorem tup_sole {es : List Expr} {kk : Nat} {v : Expr} {p : Pos} {l : Nat} {env : Env} : swapsWithSole [.Tuple es kk p] v l env = pure false := by
  unfold swapsWithSole swapsWith; cases v <;> rfl
theorem swC_sets {nm : Nm} {x : Str} {p : Pos} {elt : Expr} {gs : List Comprehension} {s : Scope} {pos : Pos} {l : Nat} {env : Env} (hs : env.scope = nm.sc) (hk : nm.sc.kind = .function) (h : swC nm x p (.ListComp elt gs s pos) = true) : swapsWith (.ListComp elt gs s pos) (some (.Name x p)) l env = pure true ∧ nm.sc.names.lookup x = some .local := by
  simp only [swC, Bool.and_eq_true, Bool.not_eq_true'] at h
  obtain ⟨⟨h1, h2⟩, h3⟩ := h
  have h1' := eq_of_beq h1
  exact ⟨sw_true (by rw [hs]; exact hk) (by rw [hs]; exact h1') h2 h3, h1'⟩
theorem swC_no {nm : Nm} {x : Str} {p : Pos} {elt : Expr} {gs : List Comprehension} {s : Scope} {pos : Pos} {l : Nat} {env : Env} (hs : env.scope = nm.sc) (hk : nm.sc.kind = .function) (h : swC nm x p (.ListComp elt gs s pos) = false) : swapsWith (.ListComp elt gs s pos) (some (.Name x p)) l env = pure false := by
  unfold swC at h
  unfold swapsWith Env.blockKind Env.kindOf
  simp only [hs, hk]
  have : ((if ScopeKind.function.isAnnotationScope = true then ScopeKind.function else ScopeKind.function) == ScopeKind.function) = true := rfl
  simp only [this, Bool.true_and]
  show (pure _ : Sem Bool) = _
  congr 1
mutual
def ckT : T → Nm → Stmt → Bool
  | .set i e, nm, a => match a with
    | .Assign [.Name x p] v _ => locC nm i x && ckE e nm v && (noComp v || (match v with
      | .ListComp _ _ _ _ => !(swC nm x p v)
      | _ => false))
    | _ => false
  | .setc i e, nm, a => match a with
    | .Assign [.Name x p] v _ => locC nm i x && ckE e nm v && swC nm x p v && (match e with
      | .comp _ _ _ _ _ => true
      | .compO _ _ _ _ _ => true
      | _ => false)
    | _ => false
  | .asg is e, nm, a => match a with
    | .Assign [.Tuple es _ _] v _ => tgC.go nm is is es && noTup v && ckE e nm v
    | _ => false
  | .put i k v, nm, a => match a with
    | .Assign [.Subscript x y _] z _ => nameC nm i x && pIx y && ckE k nm y && ckE v nm z
    | _ => false
  | .expr e, nm, a => match a with
    | .Expr v _ => noComp v && ckE e nm v
    | _ => false
  | .ret e, nm, a => match a with
    | .Return (some v) _ => ckE e nm v
    | _ => false
  | .retN, _, a => match a with
    | .Return none _ => true
    | _ => false
  | .pass, _, a => match a with
    | .Pass _ => true
    | _ => false
  | .brk, _, a => match a with
    | .Break _ => true
    | _ => false
  | .never, _, _ => true
  | .ifs c b d, nm, a => match a with
    | .If t x y _ => ckE c nm t && ckB b nm x && ckB d nm y
    | _ => false
  | .whl c b, nm, a => match a with
    | .While t x [] _ => ckE c nm t && ckB b nm x
    | _ => false
  | .fors tg sr b, nm, a => match a with
    | .For t it x [] _ => noSet it && decide (∀ i ∈ sr.pls, i ∉ tg.is ++ asB b) && tgC nm tg.is tg t && ckSr sr nm it t && ckB b nm x
    | _ => false
  | .fkd tg i b, nm, a => match a with
    | .For t it x [] _ => noSet it && decide (i ∉ tg.is ++ asB b) && nameC nm i it && tgC nm tg.is tg t && ckB b nm x
    | _ => false
  | .lend i s, nm, a => decide (i ∉ asT s) && ckT s nm a
def ckB : B → Nm → List Stmt → Bool
  | .nil, _, as => match as with
    | [] => true
    | _ => false
  | .cons s r, nm, as => match as with
    | a :: as => ckT s nm a && ckB r nm as
    | _ => false
  | .kil _ r, nm, as => ckB r nm as
  | .frz _ r, nm, as => ckB r nm as
end
theorem NmOk.wk {X : Cx} {A A' : List Nat} (h : ∀ i ∈ A, i ∈ A') : ∀ {es : List Expr} {is : List Nat}, NmOk X A es is → NmOk X A' es is
  | _, _, .nil => .nil
  | _, _, .cons a b c d r => .cons a b (h _ c) d (NmOk.wk h r)
theorem SG.wk {X : Cx} {o : Og} {tg : Expr} {A A' : List Nat} {g : TGt} (h : SG X o tg A g) (s : ∀ i ∈ A, i ∈ A') : SG X o tg A' g := by
  intro v w fv σ S ω fs K wd r rs q
  refine wG.mono (h v w fv σ S ω fs K wd r rs q) fun σ' H' ⟨S', ω', fs', e1, e2, e3, e4, e5⟩ => ⟨S', ω', fs', e1, e2, e3, e4.mono s, e5⟩
mutual
theorem okT {Γ : Nat → Ct} {k : Nat} {X : Cx} {nm : Nm} {o : Og} {W : EWs} (F : Fit Γ k X nm) (xo : XOk X o W) (hp : PassesOwn (model X.prog X.w) X.A X.env X.xe) : ∀ (s : T) {a : Stmt}, ckT s nm a = true → SS X o a (asT s) (semT Γ W s)
  | .set i e, a, h => by
    unfold ckT at h
    split at h
    · simp only [Bool.and_eq_true] at h
      obtain ⟨⟨h1, h2⟩, h3⟩ := h
      obtain ⟨a1, a2, a3⟩ := F.loc h1
      refine ss_set (by rw [F.N]; exact F.nd) a1 a2 (okE e F xo h2).1 (List.mem_singleton.mpr rfl) ?_ a3
      rw [Bool.or_eq_true] at h3
      rcases h3 with h3 | h3
      · exact noComp_ok h3
      · split at h3
        · exact swC_no F.sc F.kd (by simpa using h3)
        · cases h3
    · cases h
  | .setc i e, a, h => by
    unfold ckT at h
    split at h
    · simp only [Bool.and_eq_true] at h
      obtain ⟨⟨⟨h1, h2⟩, h3⟩, h4⟩ := h
      obtain ⟨a1, a2, a3⟩ := F.loc h1
      cases e
      case comp own tg sr tt el =>
        unfold ckE at h2
        split at h2
        · simp only [Bool.and_eq_true, decide_eq_true_eq] at h2
          obtain ⟨⟨⟨⟨⟨⟨h1, h2⟩, h5⟩, h6⟩, h7⟩, h8⟩, h9⟩ := h2
          have ok := blkOk_by h1
          rw [← F.N, ← F.sc] at ok
          have hown : (ownP nm own).map (·.2) = own := by unfold ownP; rw [List.map_map]; exact List.map_id _
          have FB := fun s H0 C cl fp => F.blk ok.kind s H0 C cl fp
          have it := okOe tt (o := o) FB h8
          obtain ⟨s1, s2⟩ := swC_sets F.sc F.kd h3 (l := _)
          exact ss_of_lc F.calm (by rw [F.N]; exact F.nd) a1 (by rw [F.sc]; exact s2) (List.mem_singleton.mpr rfl) s1 ok it h2 fun σ S ω fp Q wd rs q => by
            rw [hown]
            exact comp_read (own := own) (okSr sr F xo h7) (fun s H0 C cl fp => tg_ok (FB s H0 C cl fp) h6) it (fun s H0 C cl fp => (okE el (FB s H0 C cl fp) XOk.none h9).1) h5 wd rs q
        · cases h2
      case compO own tg sr tt el =>
        unfold ckE at h2
        split at h2
        · simp only [Bool.and_eq_true, decide_eq_true_eq] at h2
          obtain ⟨⟨⟨⟨⟨⟨h1, h2⟩, h5⟩, h6⟩, h7⟩, h8⟩, h9⟩ := h2
          have ok := blkOk_by h1
          rw [← F.N, ← F.sc] at ok
          have hown : (ownP nm own).map (·.2) = own := by unfold ownP; rw [List.map_map]; exact List.map_id _
          have FB := fun s H0 C cl fp => F.blk ok.kind s H0 C cl fp
          have it := okOe tt (o := o) FB h8
          obtain ⟨s1, s2⟩ := swC_sets F.sc F.kd h3 (l := _)
          exact ss_of_lc F.calm (by rw [F.N]; exact F.nd) a1 (by rw [F.sc]; exact s2) (List.mem_singleton.mpr rfl) s1 ok it h2 fun σ S ω fp Q wd rs q => by
            rw [hown]
            exact compO_read (own := own) (okSr sr F xo h7) (fun s H0 C cl fp => tg_ok (FB s H0 C cl fp) h6) it (fun s H0 C cl fp => (okE el (FB s H0 C cl fp) XOk.none h9).1) h5 wd rs q
        · cases h2
      all_goals cases h4
    · cases h
  | .asg is e, a, h => by
    unfold ckT at h
    split at h
    · simp only [Bool.and_eq_true] at h
      obtain ⟨⟨h1, h2⟩, h3⟩ := h
      exact ss_asg (okE e F xo h3).1 (sg_tup F.calm (by rw [F.N]; exact F.nd) (nmOk_of F h1)) tup_sole (noTup_ok h2) rfl
    · cases h
  | .put i kk v, a, h => by
    unfold ckT at h
    split at h
    · simp only [Bool.and_eq_true] at h
      obtain ⟨⟨⟨h1, h2⟩, h3⟩, h4⟩ := h
      have hu := F.u200
      exact ss_put (F.vis h1) (ps_putM (by omega)) (okE v F xo h4).1 (okE kk F xo h3).1 (pIx_ok h2) (pIx_sl h2) sub_sole sub_swap
    · cases h
  | .expr e, a, h => by
    unfold ckT at h
    split at h
    · simp only [Bool.and_eq_true] at h
      exact ss_expr (okE e F xo h.2).1 (noComp_ok h.1)
    · cases h
  | .ret e, a, h => by
    unfold ckT at h
    split at h
    · exact ss_ret (okE e F xo h).1
    · cases h
  | .retN, a, h => by
    unfold ckT at h
    split at h
    · exact ss_retN
    · cases h
  | .pass, a, h => by
    unfold ckT at h
    split at h
    · exact ss_pass
    · cases h
  | .brk, a, h => by
    unfold ckT at h
    split at h
    · exact ss_break
    · cases h
  | .never, a, h => ss_never
  | .ifs c b d, a, h => by
    unfold ckT at h
    split at h
    · simp only [Bool.and_eq_true] at h
      obtain ⟨⟨h1, h2⟩, h3⟩ := h
      exact ss_if (okE c F xo h1).2 ((okB F xo hp b h2).wk fun i m => List.mem_append_left _ m) ((okB F xo hp d h3).wk fun i m => List.mem_append_right _ m)
    · cases h
  | .whl c b, a, h => by
    unfold ckT at h
    split at h
    · simp only [Bool.and_eq_true] at h
      exact ss_while hp (okE c F xo h.1).2 (okB F xo hp b h.2)
    · cases h
  | .fors tg sr b, a, h => by
    unfold ckT at h
    split at h
    · simp only [Bool.and_eq_true, decide_eq_true_eq] at h
      obtain ⟨⟨⟨⟨h1, h2⟩, h3⟩, h4⟩, h5⟩ := h
      exact ss_forS hp F.calm (okSr sr F xo h4) ((tg_ok F h3).wk fun i m => List.mem_append_left _ m) ((okB F xo hp b h5).wk fun i m => List.mem_append_right _ m) h2 h1
    · cases h
  | .fkd tg i b, a, h => by
    unfold ckT at h
    split at h
    · simp only [Bool.and_eq_true, decide_eq_true_eq] at h
      obtain ⟨⟨⟨⟨h1, h2⟩, h3⟩, h4⟩, h5⟩ := h
      exact ss_fkd hp F.calm (F.vis h3) ((tg_ok F h4).wk fun i m => List.mem_append_left _ m) ((okB F xo hp b h5).wk fun i m => List.mem_append_right _ m) h2 h1
    · cases h
  | .lend i s, a, h => by
    unfold ckT at h
    simp only [Bool.and_eq_true, decide_eq_true_eq] at h
    exact ss_lend (okT F xo hp s h.2) h.1
theorem okB {Γ : Nat → Ct} {k : Nat} {X : Cx} {nm : Nm} {o : Og} {W : EWs} (F : Fit Γ k X nm) (xo : XOk X o W) (hp : PassesOwn (model X.prog X.w) X.A X.env X.xe) : ∀ (b : B) {as : List Stmt}, ckB b nm as = true → SB X o as (asB b) (semB Γ W b)
  | .nil, as, h => by
    unfold ckB at h
    split at h
    · exact sb_nil
    · cases h
  | .cons s r, as, h => by
    unfold ckB at h
    split at h
    · rw [Bool.and_eq_true] at h
      exact sb_cons ((okT F xo hp s h.1).wk fun i m => List.mem_append_left _ m) ((okB F xo hp r h.2).wk fun i m => List.mem_append_right _ m)
    · cases h
  | .kil is r, as, h => by
    unfold ckB at h
    have hr := okB F xo hp r h
    intro σ S ω fp D wd rs q
    obtain ⟨f', r1, s1⟩ := rs.kills is
    have E : Ext ω fp ω f' := (Ext.refl wd.wd).sub s1
    exact wSs.mono (hr σ (kills is S) ω f' D (wd.trans E) r1 q) (endsOf.up (A := []) E (Keep.refl _ σ) (fun _ m => nomatch m) (fun _ m => m))
  | .frz i r, as, h => by
    unfold ckB at h
    have hr := okB F xo hp r h
    intro σ S ω fp D wd rs q
    unfold semB at q
    cases hg : gt S i with
    | none => rw [hg] at q; exact q.elim
    | some w =>
      rw [hg] at q
      cases hz : fzW w with
      | none => simp only [hz] at q
      | some x =>
        simp only [hz] at q
        obtain ⟨v, f1, f2, hs, r1, rs2, pm⟩ := rs.split hg
        have wd' := wd.wd.perm pm
        obtain ⟨ω', hH, E, Dx⟩ := r1.freeze hz wd' rs2.alloc
        have rs3 : RSs ω' σ (st S i none) f2 := rs2.mono E.bb E.ll fun a _ => by rw [hH]
        obtain ⟨h', f', rs4, pm4, sb4⟩ := rs3.fill (i := i) hs (.d Dx)
        rw [st_st] at rs4
        have E' : Ext ω fp ω' h' := ((E.permL pm.symm).sub sb4).permR pm4.symm
        rw [← hH]
        exact wSs.mono (hr σ _ ω' h' D (wd.trans E') rs4 q) (endsOf.up (A := []) E' (Keep.refl _ σ) (fun _ m => nomatch m) (fun _ m => m))
end
end MV

namespace MV
open PySem PySem.Spec PyProof.Rows L2
/-! ### a def keeps its contract -/
theorem lent_rs {ω : Wo} : ∀ {ms : List AK} {vs : List V} {σ : L2.St} {S : WSt} {f : List Addr}, RSs ω σ S f → ms.length = vs.length → vs.length ≤ σ.length → (∀ i : Nat, ms[i]? = some AK.io → σ[i]? = (vs.map some)[i]?) → ∃ f', RSs ω (vs.map some) (lentOf ms S) f' ∧ f'.Sublist f
  | [], [], σ, S, f, r, _, _, _ => ⟨[], by
      have e : lentOf [] S = [] := by cases S <;> rfl
      rw [e]; exact .nil, List.nil_sublist _⟩
  | [], _ :: _, _, _, _, _, e, _, _ => by simp at e
  | _ :: _, [], _, _, _, _, e, _, _ => by simp at e
  | m :: ms, v :: vs, [], S, f, r, e, h, _ => by simp at h
  | m :: ms, v :: vs, ov :: σ, [], f, r, e, h, k => by cases r
  | m :: ms, v :: vs, ov :: σ, none :: S, f, r, e, h, k => by
    cases r with | dead r =>
    obtain ⟨f', a, b⟩ := lent_rs (ms := ms) (vs := vs) r (by simpa using e) (by simpa using h) fun i hi => by simpa using k (i + 1) (by simpa using hi)
    refine ⟨f', ?_, b⟩
    have e2 : lentOf (m :: ms) (none :: S) = none :: lentOf ms S := by cases m <;> rfl
    rw [e2]
    exact .dead a
  | m :: ms, v :: vs, ov :: σ, some w :: S, f, r, e, h, k => by
    cases r with | live r1 r =>
    rename_i v1 f1 g1
    obtain ⟨f', a, b⟩ := lent_rs (ms := ms) (vs := vs) r (by simpa using e) (by simpa using h) fun i hi => by simpa using k (i + 1) (by simpa using hi)
    cases m with
    | io =>
      have := k 0 rfl
      simp at this
      subst this
      exact ⟨f1 ++ f', .live r1 a, List.Sublist.append (List.Sublist.refl _) b⟩
    | dat => exact ⟨f', .dead a, b.trans (List.sublist_append_right _ _)⟩
    | vw => exact ⟨f', .dead a, b.trans (List.sublist_append_right _ _)⟩
/-- what is known of the lent ones behind an exception: instances alone -/
def lentX : List AK → List W → WSt → WSt
  | .io :: ms, .ins a _ _ :: ws, some (.ins b C fs) :: S => (if a = b then some (.ins b C fs) else none) :: lentX ms ws S
  | _ :: ms, _ :: ws, _ :: S => none :: lentX ms ws S
  | _, _, _ => []
theorem lentX_rs {ω0 ω : Wo} : ∀ {ms : List AK} {ws : List W} {vs : List V} {f0 : List Addr} {σ : L2.St} {S : WSt} {f : List Addr}, RWs ω0 vs ws f0 → RSs ω σ S f → ms.length = vs.length → vs.length ≤ σ.length → ∃ f', RSs ω (vs.map some) (lentX ms ws S) f' ∧ f'.Sublist f
  | [], ws, vs, f0, σ, S, f, r0, r, e, _ => by
    cases vs with
    | nil =>
      refine ⟨[], ?_, List.nil_sublist _⟩
      have : lentX [] ws S = [] := by cases ws <;> cases S <;> rfl
      rw [this]; exact .nil
    | cons _ _ => simp at e
  | m :: ms, ws, vs, f0, σ, S, f, r0, r, e, h => by
    cases r0 with
    | nil => simp at e
    | @cons v w fa fb vs ws ra rb =>
      cases r with
      | nil => simp at h
      | @dead ov σ S f r =>
        obtain ⟨f', a, b⟩ := lentX_rs (ms := ms) rb r (by simpa using e) (by simpa using h)
        refine ⟨f', ?_, b⟩
        have : lentX (m :: ms) (w :: ws) (none :: S) = none :: lentX ms ws S := by cases m <;> cases w <;> rfl
        rw [this]; exact .dead a
      | @live v1 w1 σ S f g r1 r =>
        obtain ⟨f', a, b⟩ := lentX_rs (ms := ms) rb r (by simpa using e) (by simpa using h)
        have dflt : lentX (m :: ms) (w :: ws) (some w1 :: S) = none :: lentX ms ws S → ∃ f', RSs ω ((v :: vs).map some) (lentX (m :: ms) (w :: ws) (some w1 :: S)) f' ∧ f'.Sublist (f ++ g) := fun q => by
          rw [q]; exact ⟨f', .dead a, b.trans (List.sublist_append_right _ _)⟩
        cases m with
        | dat => exact dflt rfl
        | vw => exact dflt rfl
        | io =>
          cases w with
          | ins a0 C0 fs0 =>
            cases w1 with
            | ins b1 C1 fs1 =>
              by_cases q : a0 = b1
              · subst q
                have : lentX (.io :: ms) (.ins a0 C0 fs0 :: ws) (some (.ins a0 C1 fs1) :: S) = some (.ins a0 C1 fs1) :: lentX ms ws S := by simp [lentX]
                rw [this]
                have hv : v = v1 := by cases ra; cases r1; rfl
                subst hv
                exact ⟨f ++ f', .live r1 a, List.Sublist.append (List.Sublist.refl _) b⟩
              · exact dflt (by simp [lentX, q])
            | _ => exact dflt rfl
          | _ => exact dflt rfl
theorem rs_start {ω : Wo} {n : Nat} : ∀ {vs : List V} {ws : List W} {f : List Addr}, RWs ω vs ws f → RSs ω (vs.map some ++ List.replicate n none) (ws.map some ++ List.replicate n none) f
  | _, _, _, .nil => by
    show RSs ω (List.replicate n none) (List.replicate n none) []
    induction n with
    | zero => exact .nil
    | succ n ih => exact .dead ih
  | _, _, _, .cons r t => .live r (rs_start t)
/-- the slots at the entry -/
def startW (n : Nat) (ws : List W) : WSt := ws.map some ++ List.replicate (n - ws.length) none
/-- what a def's body is to do for its contract -/
def Keeps (Γ : Nat → Ct) (body : B) (n : Nat) (ms : List AK) (ct : Ct) : Prop := ∀ ws R RE, ct ws R RE → ws.length = ms.length ∧
  semB Γ (fun x S => RE x (lentX ms ws S)) body { nx := fun S => R (.d .none) (lentOf ms S), rt := fun w S => R w (lentOf ms S) } (startW n ws)
def ioFree (A : List Nat) : Nat → List AK → Bool
  | _, [] => true
  | i, .io :: ms => decide (i ∉ A) && ioFree A (i + 1) ms
  | i, _ :: ms => ioFree A (i + 1) ms
theorem ioFree_at {A : List Nat} : ∀ {j : Nat} {ms : List AK}, ioFree A j ms = true → ∀ i : Nat, ms[i]? = some AK.io → j + i ∉ A
  | _, [], _, i, e => by simp at e
  | j, m :: ms, h, 0, e => by
    simp at e; subst e
    simp only [ioFree, Bool.and_eq_true, decide_eq_true_eq] at h
    exact h.1
  | j, m :: ms, h, i + 1, e => by
    have h' : ioFree A (j + 1) ms = true := by
      cases m <;> simp only [ioFree, Bool.and_eq_true] at h <;> first | exact h.2 | exact h
    have := ioFree_at h' i (by simpa using e)
    rw [show j + (i + 1) = j + 1 + i by omega]
    exact this
/-- the defs that may be called, the module's numbers and texts -/
structure Tab (P : Program) (w : World) (K : Frag) (mg : Str → Option Value) (base : Heap) (Γ : Nat → Ct) (k : Nat) (fs : List (Nat × Str)) (gs : List (Str × Key)) : Prop where
  bl : ∀ x ∈ bNames, mg x = none
  fns : ∀ j x, fs.lookup j = some x → ∃ f fd ps, FnOk P w K mg base (L2.CX P w) k f fd ps (spOf (Γ j)) ∧ mg x = some (.ref f) ∧ PySem.W.keepIn K (.ref f) = true ∧ Binds K fd ps []
  gs : ∀ x d, (x, d) ∈ gs → ∃ u, mg x = some u ∧ RelV (kV d) u
theorem fn_mv {P : Program} {w : World} {K : Frag} {mg : Str → Option Value} {base : Heap} {Γ : Nat → Ct} {k : Nat} {fs : List (Nat × Str)} {gs : List (Str × Key)} (tb : Tab P w K mg base Γ k fs gs) {x qual : Str} {st : Stmt} {f : Addr} {fd : FuncData} {N ps : List Str} {body : B} {ms : List AK} {ct : Ct}
    (F : L2.Fun K x qual st f fd) (S : FnScope N ps (defScope st)) (ck : ckB body ⟨N, defScope st, fun _ => true, fs, gs⟩ (defBody st) = true) (hm : ms.length = ps.length) (hio : ioFree (asB body) 0 ms = true) (hk : Keeps Γ body N.length ms ct) :
    FnOk P w K mg base (L2.CX P w) (k + 1) f fd ps (spOf ct) := by
  refine F.okX S (fun vs H Q E h => ?_) fun cdv A outer s H vs Q E hr h => ?_
  · obtain ⟨ws, ω, fp, R, RE, rfl, wd, rw, c, h1, h2⟩ := h
    rw [RWs.length rw, (hk ws R RE c).1, hm]
  · obtain ⟨ws, ω, fp, R, RE, rfl, wd, rw', c, h1, h2⟩ := h
    obtain ⟨hl, sem⟩ := hk ws R RE c
    have hvl : vs.length = ms.length := by rw [RWs.length rw', hl]
    have hNl : ms.length ≤ N.length := by
      rw [hm]
      have := congrArg List.length S.pre
      rw [List.length_take] at this
      omega
    let X := cxOf (L2.CX P w) P w K mg base N qual (defScope st) f cdv A outer s ω.H E
    let o : Og := ⟨ω, fp⟩
    let EW : EWs := fun x S => RE x (lentX ms ws S)
    have hst : RSs ω (L2.start N vs) (startW N.length ws) fp := by
      unfold L2.start startW
      rw [show N.length - ws.length = N.length - vs.length by rw [RWs.length rw']]
      exact rs_start rw'
    have slen : (L2.start N vs).length = N.length := by
      unfold L2.start
      rw [List.length_append, List.length_map, List.length_replicate]
      omega
    have FX : Fit Γ k X ⟨N, defScope st, fun _ => true, fs, gs⟩ :=
      ⟨rfl, S.nd, rfl, S.kind, fun _ _ => rfl, rfl, hr, tb.bl, tb.fns, tb.gs⟩
    have fin : ∀ {wv : W} {S' : WSt} {ω' : Wo} {fv fs' : List Addr} {σ' : L2.St} {v : V}, Ext ω fp ω' (fv ++ fs') → RW ω' v wv fv → RSs ω' σ' S' fs' → Keep (asB body) (L2.start N vs) σ' → R wv (lentOf ms S') → Q v ω'.H := by
      intro wv S' ω' fv fs' σ' v E1 r1 r2 kp q
      obtain ⟨f', r3, s3⟩ := lent_rs (ms := ms) (vs := vs) r2 hvl.symm (by rw [kp.1, slen]; omega) fun i hi => by
        have := ioFree_at hio i hi
        rw [kp.2 i (by simpa using this)]
        unfold L2.start
        have : i < vs.length := by
          rw [hvl]
          exact (List.getElem?_eq_some_iff.mp hi).1
        rw [List.getElem?_append_left (by simpa using this)]
      exact h1 wv _ q v ω' fv f' (E1.sub (List.Sublist.append (List.Sublist.refl _) s3)) r1 r3
    have tk0 : Takes X (fun c d _ H => E c d H) := takes_of (X := X) rfl rfl rfl (E := E) rfl
    have tk : Takes X (wishOf o EW) := fun u s' hx => tk0 u s' (by
      obtain ⟨a, B, sI, pins, σ, H, cls, d, e1, I, e3, e4, e5, e6, e7, e8, x, S', ω', fs', rfl, E1, r1, rfl, xd, q⟩ := hx
      obtain ⟨f', r3, s3⟩ := lentX_rs (ms := ms) rw' r1 hvl.symm (by rw [I.len]; show vs.length ≤ N.length; omega)
      exact ⟨a, B, sI, pins, σ, _, _, d, e1, I, e3, e4, e5, e6, e7, e8, h2 x _ q d ω' f' (E1.sub s3) r3 xd⟩)
    refine ⟨_, pSs (X := X) _, wSs.mono (okB FX (XOk.of_takes tk) (passes_of (X := X) rfl) body ck (L2.start N vs) (startW N.length ws) ω fp _ (Ext.refl wd) hst sem) ⟨?_, ?_, ?_, ?_⟩⟩
    · rintro σ' H' ⟨S', ω', fs', rfl, E1, r1, kp, q⟩
      exact fin (fv := []) E1 (.d .non) r1 kp q
    · rintro v H' ⟨wv, S', ω', fv, fs', σ', rfl, E1, rv, r1, kp, q⟩
      exact fin E1 rv r1 kp q
    · rintro σ' H' ⟨S', ω', fs', rfl, E1, r1, kp, q⟩
      exact q.elim
    · rintro σ' H' ⟨S', ω', fs', rfl, E1, r1, kp, q⟩
      exact q.elim
theorem Tab.up {P : Program} {w : World} {K : Frag} {mg : Str → Option Value} {base : Heap} {Γ : Nat → Ct} {j k : Nat} {fs : List (Nat × Str)} {gs : List (Str × Key)} (tb : Tab P w K mg base Γ j fs gs) (h : j ≤ k) : Tab P w K mg base Γ k fs gs :=
  ⟨tb.bl, fun i x e => (tb.fns i x e).elim fun f ⟨fd, ps, F, r⟩ => ⟨f, fd, ps, F.mono h, r⟩, tb.gs⟩
/-- one def more -/
theorem Tab.add {P : Program} {w : World} {K : Frag} {mg : Str → Option Value} {base : Heap} {Γ : Nat → Ct} {k : Nat} {fs : List (Nat × Str)} {gs : List (Str × Key)} (tb : Tab P w K mg base Γ k fs gs) {i : Nat} {x : Str} {f : Addr} {fd : FuncData} {ps : List Str}
    (F : FnOk P w K mg base (L2.CX P w) (k + 1) f fd ps (spOf (Γ i))) (hm : mg x = some (.ref f)) (hk : PySem.W.keepIn K (.ref f) = true) (hb : Binds K fd ps []) : Tab P w K mg base Γ (k + 1) ((i, x) :: fs) gs :=
  ⟨tb.bl, fun j y e => by
    rw [List.lookup_cons] at e
    by_cases q : j = i
    · subst q
      rw [beq_self_eq_true] at e
      obtain rfl := Option.some.inj e
      exact ⟨f, fd, ps, F, hm, hk, hb⟩
    · rw [show (j == i) = false by simpa using q] at e
      exact (tb.up (Nat.le_succ k)).fns j y e, tb.gs⟩
end MV

namespace MV
open PySem PySem.Spec PyProof.Rows L2
/-! ### the plain tools -/
/-- a truth is looked at -/
def onBl (w : W) (K : Bool → Prop) : Prop := match w with
  | .d (.bool b) => K b
  | _ => False
theorem onBl_b {b : Bool} {K : Bool → Prop} : onBl (.d (.bool b)) K = K b := rfl
theorem notV_e {t : TW} : notV t = fun S Q => t S fun w S' => onBl w fun b => Q (.d (.bool (!b))) S' := rfl
theorem andV_e {t u : TW} : andV t u = fun S Q => t S fun w S' => onBl w fun b => if b = true then u S' Q else Q (.d (.bool false)) S' := by
  funext S Q; unfold andV; congr 1; funext w S'; unfold onBl
  split <;> first | rfl | (rename_i b; cases b <;> simp_all) | (split <;> simp_all)
theorem orV_e {t u : TW} : orV t u = fun S Q => t S fun w S' => onBl w fun b => if b = true then Q (.d (.bool true)) S' else u S' Q := by
  funext S Q; unfold orV; congr 1; funext w S'; unfold onBl
  split <;> first | rfl | (rename_i b; cases b <;> simp_all) | (split <;> simp_all)
theorem tst_e {t : TW} : tst t = fun S Q => t S fun w S' => onBl w fun b => Q b S' := rfl
theorem ifT_e {tc : TW} {t u : TSt} : ifT tc t u = fun D S => tst tc S fun b S' => if b = true then t D S' else u D S' := by
  funext D S; unfold ifT; congr 1; funext b S'; cases b <;> rfl
theorem chnT_e {p q : CmpOp} {us uc : TWs} : chnT p q us uc = fun S Q => us S fun ws S1 => match ws with
  | [.d (.int i), .d (.int j)] => if icmp p i j = true then uc S1 fun zs S2 => (match zs with
      | [.d (.int k)] => Q (.d (.bool (icmp q j k))) S2
      | _ => False) else Q (.d (.bool false)) S1
  | _ => False := by
  funext S Q; unfold chnT; congr 1; funext ws S1
  split
  · rename_i i j
    by_cases h : icmp p i j = true
    · first | (simp only [h, if_true]; rfl) | simp only [h, if_true]
    · simp [h]
  · rename_i hn
    first | rfl | (split; (rename_i i j; exact (hn i j rfl).elim); rfl)
theorem ite_decide {p : Prop} [Decidable p] {α : Sort _} {a b : α} : (if decide p = true then a else b) = if p then a else b := by simp
theorem ite_not_decide {p : Prop} [Decidable p] {α : Sort _} {a b : α} : (if (!decide p) = true then a else b) = if p then b else a := by
  by_cases h : p <;> simp [h]
/-! whole numbers in lists -/
def isort (ns : List Int) : List Int := ns.mergeSort fun a b => decide (a ≤ b)
theorem isort_perm (ns : List Int) : (isort ns).Perm ns := List.mergeSort_perm _ _
theorem isort_le (ns : List Int) : (isort ns).Pairwise (· ≤ ·) := by
  have := List.pairwise_mergeSort (le := fun a b : Int => decide (a ≤ b)) (fun a b c h1 h2 => by simp at *; omega) (fun a b => by simp; omega) ns
  exact this.imp fun h => by simpa using h
theorem mem_isort {ns : List Int} {a : Int} : a ∈ isort ns ↔ a ∈ ns := (isort_perm ns).mem_iff
theorem isort_lt {ns : List Int} (h : ns.Nodup) : (isort ns).Pairwise (· < ·) := by
  have h2 : (isort ns).Nodup := (isort_perm ns).nodup_iff.mpr h
  exact ((isort_le ns).and h2).imp fun ⟨a, b⟩ => by omega
/-- rising lists with the same members are the same -/
theorem lt_ext {as bs : List Int} (ha : as.Pairwise (· < ·)) (hb : bs.Pairwise (· < ·)) (h : ∀ x, x ∈ as ↔ x ∈ bs) : as = bs := by
  have n1 : as.Nodup := ha.imp fun h => by omega
  have n2 : bs.Nodup := hb.imp fun h => by omega
  have p : as.Perm bs := (List.perm_ext_iff_of_nodup n1 n2).mpr h
  exact List.Perm.eq_of_pairwise (le := fun a b => a < b) (fun a b _ _ h1 h2 => by omega) ha hb p
theorem isort_id {ns : List Int} (h : ns.Pairwise (· ≤ ·)) : isort ns = ns :=
  List.Perm.eq_of_pairwise (le := fun a b => a ≤ b) (fun a b _ _ h1 h2 => by omega) (isort_le ns) h (isort_perm ns)
theorem eqvAll_map {α : Type} [DecidableEq α] {f : α → PyData} (hf : ∀ a b, PyData.eqv (f a) (f b) = decide (a = b)) : ∀ xs ys : List α, PyData.eqvAll (xs.map f) (ys.map f) = decide (xs = ys)
  | [], [] => by simp [PyData.eqvAll]
  | [], _ :: _ => by simp [PyData.eqvAll]
  | _ :: _, [] => by simp [PyData.eqvAll]
  | x :: xs, y :: ys => by
    rw [List.map_cons, List.map_cons]
    show (PyData.eqv (f x) (f y) && PyData.eqvAll (xs.map f) (ys.map f)) = _
    rw [hf, eqvAll_map hf]
    by_cases h : x = y <;> by_cases h2 : xs = ys <;> simp [h, h2]
theorem eqv_int (a b : Int) : PyData.eqv (.int a) (.int b) = decide (a = b) := by
  show (a == b) = _
  by_cases h : a = b <;> simp [h]
theorem eqv_dI (a b : List Int) : PyData.eqv (.list (a.map PyData.int)) (.list (b.map PyData.int)) = decide (a = b) := eqvAll_map eqv_int a b
theorem eqv_tI (a b : List Int) : PyData.eqv (.tuple (a.map PyData.int)) (.tuple (b.map PyData.int)) = decide (a = b) := eqvAll_map eqv_int a b
theorem eqv_dII (a b : List (List Int)) : PyData.eqv (.list (a.map fun r => .list (r.map PyData.int))) (.list (b.map fun r => .list (r.map PyData.int))) = decide (a = b) := eqvAll_map eqv_dI a b
theorem eqv_tII (a b : List (List Int)) : PyData.eqv (.tuple (a.map fun r => .tuple (r.map PyData.int))) (.tuple (b.map fun r => .tuple (r.map PyData.int))) = decide (a = b) := eqvAll_map eqv_tI a b
theorem lay_map {α : Type} {f : α → PyData} (hf : ∀ a, (f a).canLay0 = true) : ∀ xs : List α, PyData.canLayAll0 (xs.map f) = true
  | [] => rfl
  | x :: xs => by
    rw [List.map_cons]
    show ((f x).canLay0 && PyData.canLayAll0 (xs.map f)) = true
    rw [hf, lay_map hf xs]; rfl
theorem depth_map {α : Type} {f : α → PyData} {n : Nat} (hf : ∀ a, (f a).depth ≤ n) : ∀ xs : List α, PyData.depthAll (xs.map f) ≤ n
  | [] => Nat.zero_le _
  | x :: xs => by
    rw [List.map_cons]
    show max (f x).depth (PyData.depthAll (xs.map f)) ≤ n
    have h1 := hf x
    have h2 := depth_map hf xs
    omega
theorem shp_of {d : PyData} (h1 : d.canLay0 = true) (h2 : d.depth ≤ 64) : SeqAt.shaped d = true := by
  unfold SeqAt.shaped; rw [h1]; simp [h2]
theorem shp_int (n : Int) : SeqAt.shaped (.int n) = true := rfl
theorem lay_dI (ns : List Int) : (PyData.list (ns.map PyData.int)).canLay0 = true := lay_map (fun _ => rfl) ns
theorem lay_tI (ns : List Int) : (PyData.tuple (ns.map PyData.int)).canLay0 = true := lay_map (fun _ => rfl) ns
theorem dep_dI (ns : List Int) : (PyData.list (ns.map PyData.int)).depth ≤ 1 := by
  have := depth_map (f := PyData.int) (n := 0) (fun _ => Nat.le_refl _) ns
  show PyData.depthAll _ + 1 ≤ 1
  omega
theorem dep_tI (ns : List Int) : (PyData.tuple (ns.map PyData.int)).depth ≤ 1 := dep_dI ns
theorem shp_dI (ns : List Int) : SeqAt.shaped (.list (ns.map PyData.int)) = true := shp_of (lay_dI ns) (Nat.le_trans (dep_dI ns) (by decide))
theorem shp_tI (ns : List Int) : SeqAt.shaped (.tuple (ns.map PyData.int)) = true := shp_of (lay_tI ns) (Nat.le_trans (dep_tI ns) (by decide))
theorem shp_dII (a : List (List Int)) : SeqAt.shaped (.list (a.map fun r => .list (r.map PyData.int))) = true := shp_of (lay_map lay_dI a) (by
  have := depth_map (f := fun r : List Int => PyData.list (r.map PyData.int)) (n := 1) dep_dI a
  show PyData.depthAll _ + 1 ≤ 64
  omega)
theorem shp_tII (a : List (List Int)) : SeqAt.shaped (.tuple (a.map fun r => .tuple (r.map PyData.int))) = true := shp_of (lay_map lay_tI a) (by
  have := depth_map (f := fun r : List Int => PyData.tuple (r.map PyData.int)) (n := 1) dep_tI a
  show PyData.depthAll _ + 1 ≤ 64
  omega)
theorem any_map {α : Type} [DecidableEq α] {f : α → PyData} (hf : ∀ a b, PyData.eqv (f a) (f b) = decide (a = b)) (x : α) (xs : List α) : ((xs.map f).any fun z => PyData.eqv z (f x)) = decide (x ∈ xs) := by
  rw [List.any_map]
  induction xs with
  | nil => simp
  | cons a r ih =>
    rw [List.any_cons, ih]
    simp only [Function.comp_apply, hf, List.mem_cons]
    by_cases h : a = x
    · subst h; simp
    · have h' : ¬ x = a := fun e => h e.symm
      simp [h, h']
theorem any_int (x : Int) (xs : List Int) : ((xs.map PyData.int).any fun z => PyData.eqv z (.int x)) = decide (x ∈ xs) := any_map eqv_int x xs
theorem atI_map {α β : Type} (f : α → β) (xs : List α) (n : Int) : L2.atI (xs.map f) n = (L2.atI xs n).map f := by
  unfold L2.atI
  rw [List.length_map]
  cases ixN xs.length n with
  | none => rfl
  | some j => simp
theorem atI_nat' {α : Type} (xs : List α) (j : Nat) (h : j < xs.length) : L2.atI xs (j : Int) = some (xs[j]) := atI_nat (List.getElem?_eq_getElem h)
theorem atI_of {α : Type} {xs : List α} {i : Int} {v : α} (h0 : 0 ≤ i) (h : xs[i.toNat]? = some v) : L2.atI xs i = some v := by
  have := atI_nat (xs := xs) (j := i.toNat) h
  rwa [Int.toNat_of_nonneg h0] at this
/-! sorted -/
theorem alike_dI (a b : List Int) : PySem.W.alike (.list (a.map PyData.int)) (.list (b.map PyData.int)) = true ∨ True := .inr trivial
theorem all_int (ns : List Int) : PySem.W.AllAlike (ns.map PyData.int) := PySem.W.AllAlike.of fun _ _ => rfl
theorem sortable_int (ns : List Int) : PySem.W.Sortable (ns.map PyData.int) := PySem.W.Sortable.others fun _ => ⟨(fun h => nomatch h), fun _ h => nomatch h⟩
theorem depth_int (ns : List Int) : ∀ x ∈ ns.map PyData.int, x.depth ≤ 64 := fun x m => by
  obtain ⟨n, _, rfl⟩ := List.mem_map.mp m
  exact Nat.zero_le _
theorem all_dI (a : List (List Int)) : PySem.W.AllAlike (a.map fun r => PyData.list (r.map PyData.int)) := PySem.W.AllAlike.of fun b c => PySem.W.alike_ints b c
theorem sortable_dI (a : List (List Int)) : PySem.W.Sortable (a.map fun r => PyData.list (r.map PyData.int)) := PySem.W.Sortable.others fun _ => ⟨(fun h => nomatch h), fun _ h => nomatch h⟩
theorem depth_dI (a : List (List Int)) : ∀ x ∈ a.map (fun r => PyData.list (r.map PyData.int)), x.depth ≤ 64 := fun x m => by
  obtain ⟨n, _, rfl⟩ := List.mem_map.mp m
  exact Nat.le_trans (dep_dI n) (by decide)
def rsort (a : List (List Int)) : List (List Int) := a.mergeSort fun x y => decide (x ≤ y)
theorem srt_rows (a : List (List Int)) : srtD (a.map fun r => PyData.list (r.map PyData.int)) = (rsort a).map fun r => PyData.list (r.map PyData.int) := by
  refine (List.map_mergeSort (f := fun r : List Int => PyData.list (r.map PyData.int)) fun x _ y _ => ?_).symm
  exact (congrFun (congrFun (PySem.W.dataLe_rows (fun r : List Int => r)) x) y).symm
theorem sorted_ol {ns : List Int} {Q : W → Prop} : sortedW [.ol (ns.map PyData.int)] Q = Q (.ol ((isort ns).map PyData.int)) := by
  unfold sortedW
  simp only [asL, all_int, sortable_int, true_and]
  rw [srt_map]
  exact propext ⟨fun h => h.2, fun h => ⟨depth_int ns, h⟩⟩
theorem sorted_vl {ns : List Int} {Q : W → Prop} : sortedW [.vl (ns.map PyData.int)] Q = Q (.ol ((isort ns).map PyData.int)) := sorted_ol
theorem sorted_dl {ns : List Int} {Q : W → Prop} : sortedW [.d (.list (ns.map PyData.int))] Q = Q (.ol ((isort ns).map PyData.int)) := sorted_ol
theorem sorted_olr {a : List (List Int)} {Q : W → Prop} : sortedW [.ol (a.map fun r => PyData.list (r.map PyData.int))] Q = Q (.ol ((rsort a).map fun r => PyData.list (r.map PyData.int))) := by
  unfold sortedW
  simp only [asL, all_dI, sortable_dI, true_and]
  rw [srt_rows]
  exact propext ⟨fun h => h.2, fun h => ⟨depth_dI a, h⟩⟩
theorem rdWs_vl (a : List (List Int)) : rdWs (a.map fun r => W.vl (r.map PyData.int)) = some (a.map fun r => PyData.list (r.map PyData.int)) := by
  induction a with
  | nil => rfl
  | cons x r ih =>
    rw [List.map_cons]
    show (match rdW (W.vl (x.map PyData.int)), rdWs (r.map fun r => W.vl (r.map PyData.int)) with
      | some x, some xs => some (x :: xs)
      | _, _ => none) = _
    rw [ih]; rfl
theorem rdWs_ol (a : List (List Int)) : rdWs (a.map fun r => W.ol (r.map PyData.int)) = some (a.map fun r => PyData.list (r.map PyData.int)) := by
  induction a with
  | nil => rfl
  | cons x r ih =>
    rw [List.map_cons]
    show (match rdW (W.ol (x.map PyData.int)), rdWs (r.map fun r => W.ol (r.map PyData.int)) with
      | some x, some xs => some (x :: xs)
      | _, _ => none) = _
    rw [ih]; rfl
theorem cvVs_ol (a : List (List Int)) : cvVs (a.map fun r => W.ol (r.map PyData.int)) = some (a.map fun r => W.vl (r.map PyData.int)) := by
  induction a with
  | nil => rfl
  | cons x r ih =>
    rw [List.map_cons]
    show (match cvV (W.ol (x.map PyData.int)), cvVs (r.map fun r => W.ol (r.map PyData.int)) with
      | some x, some xs => some (x :: xs)
      | _, _ => none) = _
    rw [ih]; rfl
theorem rsort_id {a : List (List Int)} (h : a.Pairwise (· ≤ ·)) : rsort a = a :=
  List.mergeSort_of_pairwise (h.imp fun h => by simpa using h)
theorem sorted_vw {a : List (List Int)} {Q : W → Prop} (h : ∀ zs, rdWs zs = some ((rsort a).map fun r => PyData.list (r.map PyData.int)) → Q (.ow zs)) : sortedW [.vw (a.map fun r => W.vl (r.map PyData.int))] Q :=
  ⟨_, rdWs_vl a, all_dI a, sortable_dI a, depth_dI a, fun zs e _ => h zs (by rw [e, srt_rows])⟩
/-! {x: True, ..} as a set -/
def kT (ns : List Int) : List (Key × PyData) := ns.map fun n => (Sum.inl n, PyData.bool true)
theorem kT_length (ns : List Int) : (kT ns).length = ns.length := List.length_map _
theorem lkp_kT (ns : List Int) (q : Int) : (lkp (kT ns) (.inl q)).isSome = decide (q ∈ ns) := by
  unfold lkp kT
  induction ns with
  | nil => simp
  | cons a r ih =>
    rw [List.map_cons, List.find?_cons]
    by_cases h : a = q
    · subst h; simp
    · have h' : ¬ q = a := fun e => h e.symm
      have : decide ((Sum.inl a : Key) = Sum.inl q) = false := by simp [h]
      rw [this]
      simp only [List.mem_cons, h', false_or]
      exact ih
theorem putP_kT (ns : List Int) (q : Int) : putP (kT ns) (.inl q) (.bool true) = if q ∈ ns then kT ns else kT (ns ++ [q]) := by
  have e : ((kT ns).any fun kv => decide (kv.1 = Sum.inl q)) = decide (q ∈ ns) := by
    unfold kT
    rw [List.any_map]
    induction ns with
    | nil => simp
    | cons a r ih =>
      rw [List.any_cons, ih]
      by_cases h : a = q
      · subst h; simp
      · have h' : ¬ q = a := fun e => h e.symm
        simp [h, h']
  unfold putP
  rw [e]
  by_cases h : q ∈ ns
  · rw [if_pos (decide_eq_true h), if_pos h]
    unfold kT
    rw [List.map_map]
    refine List.map_congr_left fun a _ => ?_
    show (if (Sum.inl a : Key) = Sum.inl q then _ else _) = _
    by_cases h2 : (Sum.inl a : Key) = Sum.inl q
    · rw [if_pos h2]
    · rw [if_neg h2]
  · rw [if_neg (by simp [h]), if_neg h]
    unfold kT
    rw [List.map_append]; rfl
theorem sorted_kT {ns : List Int} {Q : W → Prop} : sortedW [.od (kT ns)] Q = (ns.length < 64 ∧ Q (.ol ((isort ns).map PyData.int))) := by
  have e : (kT ns).map (·.1) = ns.map Sum.inl := by unfold kT; rw [List.map_map]; rfl
  unfold sortedW
  simp only [asL, asK, e]
  refine propext ⟨fun ⟨ks, h1, h2, h3⟩ => ?_, fun ⟨h1, h2⟩ => ⟨ns, rfl, h1, by rw [srt_map]; exact h2⟩⟩
  have h4 : ns = ks := (List.map_inj_right fun a b h => Sum.inl.inj h).mp h1
  subst h4
  rw [srt_map] at h3
  exact ⟨h2, h3⟩
/-! kinds -/
theorem isiF : isiB "NoneType" "int" = false ∧ isiB "NoneType" "bool" = false ∧ isiB "NoneType" "tuple" = false ∧ isiB "NoneType" "list" = false ∧ isiB "NoneType" "str" = false ∧ isiB "bool" "int" = true ∧ isiB "bool" "bool" = true ∧ isiB "bool" "tuple" = false ∧ isiB "bool" "list" = false ∧ isiB "bool" "str" = false ∧ isiB "int" "int" = true ∧ isiB "int" "bool" = false ∧ isiB "int" "tuple" = false ∧ isiB "int" "list" = false ∧ isiB "int" "str" = false ∧ isiB "str" "int" = false ∧ isiB "str" "bool" = false ∧ isiB "str" "tuple" = false ∧ isiB "str" "list" = false ∧ isiB "str" "str" = true ∧ isiB "list" "int" = false ∧ isiB "list" "bool" = false ∧ isiB "list" "tuple" = false ∧ isiB "list" "list" = true ∧ isiB "list" "str" = false ∧ isiB "tuple" "int" = false ∧ isiB "tuple" "bool" = false ∧ isiB "tuple" "tuple" = true ∧ isiB "tuple" "list" = false ∧ isiB "tuple" "str" = false ∧ isiB "dict" "int" = false ∧ isiB "dict" "bool" = false ∧ isiB "dict" "tuple" = false ∧ isiB "dict" "list" = false ∧ isiB "dict" "str" = false := by decide
theorem kdF : kdNames.contains "NoneType" = true ∧ kdNames.contains "bool" = true ∧ kdNames.contains "int" = true ∧ kdNames.contains "str" = true ∧ kdNames.contains "list" = true ∧ kdNames.contains "tuple" = true ∧ kdNames.contains "dict" = true := by decide
theorem kindF : (∀ n, kindW (.d (.int n)) = "int") ∧ (∀ n, kindW (.d (.bool n)) = "bool") ∧ (∀ n, kindW (.d (.str n)) = "str") ∧ kindW (.d .none) = "NoneType" ∧ (∀ n, kindW (.d (.list n)) = "list") ∧ (∀ n, kindW (.d (.tuple n)) = "tuple") ∧ (∀ n, kindW (.vl n) = "list") ∧ (∀ n, kindW (.ol n) = "list") ∧ (∀ n, kindW (.vw n) = "list") ∧ (∀ n, kindW (.ow n) = "list") ∧ (∀ n, kindW (.vd n) = "dict") ∧ (∀ n, kindW (.od n) = "dict") ∧ (∀ n, kindW (.tw n) = "tuple") :=
  ⟨fun _ => rfl, fun _ => rfl, fun _ => rfl, rfl, fun _ => rfl, fun _ => rfl, fun _ => rfl, fun _ => rfl, fun _ => rfl, fun _ => rfl, fun _ => rfl, fun _ => rfl, fun _ => rfl⟩
/-! in -/
theorem in_L {neg : Bool} {q : Int} {ns : List Int} {Q : W → Prop} : inW neg (.d (.int q)) (.vl (ns.map PyData.int)) Q = Q (.d (.bool (neg ^^ decide (q ∈ ns)))) ∧ inW neg (.d (.int q)) (.ol (ns.map PyData.int)) Q = Q (.d (.bool (neg ^^ decide (q ∈ ns))))
    ∧ inW neg (.d (.int q)) (.d (.list (ns.map PyData.int))) Q = Q (.d (.bool (neg ^^ decide (q ∈ ns)))) ∧ inW neg (.d (.int q)) (.d (.tuple (ns.map PyData.int))) Q = Q (.d (.bool (neg ^^ decide (q ∈ ns)))) := by
  refine ⟨?_, ?_, ?_, ?_⟩ <;> simp only [inW, asK, rdW, shp_int, shp_dI, shp_tI, true_and, any_int]
theorem in_kT {neg : Bool} {q : Int} {ns : List Int} {Q : W → Prop} : inW neg (.d (.int q)) (.od (kT ns)) Q = Q (.d (.bool (neg ^^ decide (q ∈ ns)))) ∧ inW neg (.d (.int q)) (.vd (kT ns)) Q = Q (.d (.bool (neg ^^ decide (q ∈ ns)))) := by
  constructor <;> simp only [inW, asK, rdW, keyD, lkp_kT]
/-- a pair of whole numbers -/
abbrev pI (p : Int × Int) : PyData := .tuple [.int p.1, .int p.2]
theorem eqv_pI (a b : Int × Int) : PyData.eqv (pI a) (pI b) = decide (a = b) := by
  obtain ⟨a1, a2⟩ := a
  obtain ⟨b1, b2⟩ := b
  show ((a1 == b1) && ((a2 == b2) && true)) = _
  by_cases h : a1 = b1 <;> by_cases h2 : a2 = b2 <;> simp [h, h2]
theorem lay_pI (p : Int × Int) : (pI p).canLay0 = true := rfl
theorem dep_pI (p : Int × Int) : (pI p).depth ≤ 1 := Nat.le_refl _
theorem in_pI {neg : Bool} {a b : Int} {ps : List (Int × Int)} {Q : W → Prop} : inW neg (.d (.tuple [.int a, .int b])) (.ol (ps.map pI)) Q = Q (.d (.bool (neg ^^ decide ((a, b) ∈ ps)))) := by
  have h := any_map eqv_pI (a, b) ps
  have s2 : SeqAt.shaped (.list (ps.map pI)) = true := shp_of (lay_map lay_pI ps) (by
    have := depth_map (f := pI) (n := 1) dep_pI ps
    show PyData.depthAll _ + 1 ≤ 64
    omega)
  have s1 : SeqAt.shaped (.tuple [.int a, .int b]) = true := rfl
  simp only [inW, asK, rdW, s1, s2, true_and]
  rw [show PyData.tuple [.int a, .int b] = pI (a, b) from rfl, h]
  exact congrArg Q (congrArg W.d (congrArg PyData.bool (congrArg (neg ^^ ·) (decide_eq_decide.mpr Iff.rfl))))
/-- the head of a loop -/
theorem forL_hd {g : TGt} {tb : TSt} {chk : WSt → Prop} {w : W} {r : List W} {D : WD} {S : WSt} {K : WSt → Prop} (hK : forL g tb chk r D = K) : forL g tb chk (w :: r) D S = (chk S ∧ g w S fun S1 => tb { D with nx := fun S2 => chk S2 ∧ K S2, ct := fun S2 => chk S2 ∧ K S2, bk := D.nx } S1) := by
  subst hK; rfl
theorem forL_nil {g : TGt} {tb : TSt} {chk : WSt → Prop} {D : WD} {S : WSt} : forL g tb chk [] D S = D.nx S := rfl
theorem whN_hd {tc : TW} {tb : TSt} {D : WD} {n : Nat} {S : WSt} {K : WSt → Prop} (hK : whN tc tb D n = K) : whN tc tb D (n + 1) S = tst tc S fun b S' => if b = true then tb { D with nx := K, ct := K, bk := D.nx } S' else D.nx S' := by
  subst hK
  show tst tc S _ = _
  congr 1
  funext b S'
  cases b <;> rfl
theorem noVs_ol (a : List (List Int)) : noVs (a.map fun r => W.ol (r.map PyData.int)) = true := by
  induction a with
  | nil => rfl
  | cons x r ih => rw [List.map_cons]; show (noV (W.ol _) && noVs _) = true; rw [ih]; rfl
theorem shp_nil : SeqAt.shaped (.list []) = true := rfl
theorem eqv_nil (c : List Int) : PyData.eqv (.list (c.map PyData.int)) (.list []) = decide (c = []) := by
  have := eqv_dI c []
  exact this
end MV

namespace MV
open PySem PySem.Spec PyProof.Rows L2
/-! ### the end of a law -/
/-- a def of the module behind the top -/
structure DefAt (K : Frag) (x : Str) (st : Stmt) : Prop where
  ex : ∃ (f : Addr) (oc kV dc pm cd ct : Value) (od an : Option Addr) (sl : Array (Option Value)), PySem.W.nsIn K mainGlobals x = some (some (.ref f)) ∧
    K.lookup f = some ⟨oc, od, .func (PySem.W.fnOf x x (defArgs st) (defBody st) (defScope st) .none kV dc pm an cd ct), sl⟩ ∧ PySem.W.codeIn K cd x = true ∧ PySem.W.keepIn K (.ref f) = true
theorem DefAt.of {K : Frag} {x : Str} {st : Stmt} {f : Addr} {oc kV dc pm cd ct : Value} {od an : Option Addr} {sl : Array (Option Value)} (a : PySem.W.nsIn K mainGlobals x = some (some (.ref f)))
    (l : K.lookup f = some ⟨oc, od, .func (PySem.W.fnOf x x (defArgs st) (defBody st) (defScope st) .none kV dc pm an cd ct), sl⟩) (c : PySem.W.codeIn K cd x = true) (k : PySem.W.keepIn K (.ref f) = true) : DefAt K x st :=
  ⟨f, oc, kV, dc, pm, cd, ct, od, an, sl, a, l, c, k⟩
/-- how a def of these parameters binds -/
def BindOk (st : Stmt) (x : Str) (ps : List Str) : Prop := ∀ (kV doc pm : Value) (an : Option Addr) (cdv ct : Value) (us : List Value), us.length = ps.length → bindArgs (PySem.W.fnOf x x (defArgs st) (defBody st) (defScope st) .none kV doc pm an cdv ct) ⟨us, []⟩ = pure (ps.zip us)
theorem tab0 {P : Program} {w : World} {K : Frag} {mg : Str → Option Value} {base : Heap} {Γ : Nat → Ct} {gs : List (Str × Key)} (bl : ∀ x ∈ bNames, mg x = none) (g : ∀ x d, (x, d) ∈ gs → ∃ u, mg x = some u ∧ RelV (kV d) u) : Tab P w K mg base Γ 0 [] gs :=
  ⟨bl, fun j x e => (by cases e), g⟩
theorem Tab.next {P : Program} {w : World} {K : Frag} {mg : Str → Option Value} {base h : Heap} {Γ : Nat → Ct} {k : Nat} {fs : List (Nat × Str)} {gs : List (Str × Key)} (tb : Tab P w K mg base Γ k fs gs) (X : K.In h) (G : h.Ns mainGlobals mg) {x : Str} {st : Stmt} (d : DefAt K x st)
    (i : Nat) {N ps : List Str} {body : B} {ms : List AK} (S : FnScope N ps (defScope st)) (ck : ckB body ⟨N, defScope st, fun _ => true, fs, gs⟩ (defBody st) = true) (hb : BindOk st x ps) (hm : ms.length = ps.length) (hio : ioFree (asB body) 0 ms = true) (hk : Keeps Γ body N.length ms (Γ i)) :
    Tab P w K mg base Γ (k + 1) ((i, x) :: fs) gs := by
  obtain ⟨f, oc, kV, dc, pm, cd, ct, od, an, sl, a, l, c, kp⟩ := d.ex
  have F := fun_mk (st := st) l c kp
  exact tb.add (fn_mv tb F S ck hm hio hk) (PySem.W.mg_of X G a) kp (F.binds hb)
def noLst (K : Frag) : Bool := K.all fun p => match p.2.cls with
  | .type s => !(s == "list")
  | _ => true
theorem noLst_at {K : Frag} (h : noLst K = true) {a : Addr} {o : Obj} (e : K.lookup a = some o) : o.cls ≠ .type "list" := by
  intro z
  induction K with
  | nil => cases e
  | cons p r ih =>
    obtain ⟨b, u⟩ := p
    unfold noLst at h ih
    rw [List.all_cons, Bool.and_eq_true] at h
    rw [List.lookup_cons] at e
    split at e
    · obtain rfl := Option.some.inj e
      have := h.1
      rw [z] at this
      simp at this
    · exact ih h.2 e
theorem bl_of {K : Frag} {h : Heap} {mg : Str → Option Value} (X : K.In h) (G : h.Ns mainGlobals mg) (z : ∀ x ∈ bNames, PySem.W.nsIn K mainGlobals x = some none) : ∀ x ∈ bNames, mg x = none := fun x m => PySem.W.mg_none_of X G (z x m)
theorem walk_mv {l : PySem.W.OpenLaw} {k : Nat} {q : Program} {loose : List Str} {XP : (Str → Option Value) → Heap → Prop} {YP : World → Heap → Prop} {d : DefRec} {K : Params → Frag} {ct : Ct}
    (hn : l.most = some 63) (hdf : d.params.defaults = []) (hr : Room k callerA) (hY : ∀ (w : World) (h : Heap), YP w h → (K w.params).In h) (hL : ∀ w : World, noLst (K w.params) = true)
    (F : ∀ (w : World) (mg : Str → Option Value) (fa : Addr) (h : Heap), (K w.params).In h → h.Ns mainGlobals mg → mg d.name = some (.ref fa) →
      ∃ fd : FuncData, (∀ (s : Shared) (u : Value), BindsTo s fd ⟨[u], []⟩ [("script", u)]) ∧ ∀ base : Heap, (K w.params).In base → base.Ns mainGlobals mg → FnOk l.prog w (K w.params) mg base (L2.CX l.prog w) k fa fd ["script"] (spOf ct))
    (hc : ∀ (ns : List Int) (R : W → WSt → Prop) (RE : EWs), ns.length ≤ 63 → R (.d (.bool true)) [none] → ct [.vl (ns.map PyData.int)] R RE) : PySem.W.WalkO q loose XP YP l.row.toRowW d [] (fun f vs => PySem.call f vs) := by
  refine L2.walk_of (n := 63) (k := k) (x := "script") (CX := fun w => L2.CX l.prog w) (sp := fun _ => spOf ct) hn (by decide) hdf hr hY F (fun w H a ns hl hO hS => ?_) fun w H s e s' z => ?_
  · have hR : Rd H a (.lst (ns.map V.int)) := by
      rcases hS with hS | ⟨o, its, n, e, hcl, _⟩
      · exact hS
      · exact absurd hcl (noLst_at (hL w) e)
    refine ⟨[.vl (ns.map PyData.int)], ⟨fun _ => none, H, H⟩, [], fun w _ => w = .d (.bool true), fun _ _ => False, rfl, ⟨fun a o e => (by cases e), Le.refl _, List.nodup_nil, fun a m => nomatch m⟩, .cons (f := []) (g := []) (.vl hR (DqAll.of_ints ns)) .nil, hc ns _ _ hl rfl, fun wv wso e v ω' fv fs E r _ => ?_, fun x wso e => e.elim⟩
    subst e
    cases r with
    | d d0 =>
      cases d0
      rfl
  · obtain ⟨a, B, H', cls, d, _, _, _, _, _, _, _, z⟩ := z
    exact z
theorem law_mv {P : Program} {w : World} {K : Frag} {mg : Str → Option Value} {h : Heap} {Γ : Nat → Ct} {k : Nat} {fs : List (Nat × Str)} {gs : List (Str × Key)} {fa : Addr} {ct : Ct} (X : K.In h) (G : h.Ns mainGlobals mg) (hmg : mg "law" = some (.ref fa))
    (tb : ∀ base : Heap, K.In base → base.Ns mainGlobals mg → Tab P w K mg base Γ k fs gs) {st : Stmt} (d : DefAt K "law" st) {N : List Str} {body : B} (S : FnScope N ["script"] (defScope st)) (ck : ckB body ⟨N, defScope st, fun _ => true, fs, gs⟩ (defBody st) = true)
    (hb : BindOk st "law" ["script"]) (hio : ioFree (asB body) 0 [.vw] = true) (hk : Keeps Γ body N.length [.vw] ct) :
    ∃ fd : FuncData, (∀ (s : Shared) (u : Value), BindsTo s fd ⟨[u], []⟩ [("script", u)]) ∧ ∀ base : Heap, K.In base → base.Ns mainGlobals mg → FnOk P w K mg base (L2.CX P w) (k + 1) fa fd ["script"] (spOf ct) := by
  obtain ⟨f, oc, kV, dc, pm, cd, ctv, od, an, sl, a, l, c, kp⟩ := d.ex
  have e := hmg.symm.trans (PySem.W.mg_of X G a)
  cases e
  have F := fun_mk (st := st) l c kp
  exact ⟨_, fun s u => .of_eq (hb kV dc pm an cd ctv [u] rfl), fun base h1 h2 => fn_mv (tb base h1 h2) F S ck rfl hio hk⟩
end MV

namespace MV
open PySem PySem.Spec PyProof.Rows L2
/-! ### results: a value, an exception, or none of what is covered -/
structure Xc where
  c : Nat
  f : List (Str × PyData)
inductive Res (α : Type) where
  | ok (a : α) | er (x : Xc) | no
namespace Res
def bind {α β : Type} (m : Res α) (f : α → Res β) : Res β := match m with
  | ok a => f a
  | er x => er x
  | no => no
@[simp] theorem ok_bind {α β : Type} (a : α) (f : α → Res β) : Res.bind (.ok a) f = f a := rfl
@[simp] theorem er_bind {α β : Type} (x : Xc) (f : α → Res β) : Res.bind (.er x) f = .er x := rfl
@[simp] theorem no_bind {α β : Type} (f : α → Res β) : Res.bind .no f = .no := rfl
theorem bind_assoc {α β γ : Type} (m : Res α) (f : α → Res β) (g : β → Res γ) : Res.bind (Res.bind m f) g = Res.bind m fun a => Res.bind (f a) g := by
  cases m <;> rfl
end Res
def wpR {α : Type} (m : Res α) (P : α → Prop) (X : Xc → Prop) : Prop := match m with
  | .ok a => P a
  | .er x => X x
  | .no => False
theorem wpR_bind {α β : Type} {m : Res α} {f : α → Res β} {P : β → Prop} {X : Xc → Prop} : wpR (Res.bind m f) P X ↔ wpR m (fun a => wpR (f a) P X) X := by
  cases m <;> exact Iff.rfl
theorem wpR_mono {α : Type} {m : Res α} {P P' : α → Prop} {X X' : Xc → Prop} (h : wpR m P X) (hp : ∀ a, P a → P' a) (hx : ∀ x, X x → X' x) : wpR m P' X' := by
  cases m with
  | ok a => exact hp a h
  | er x => exact hx x h
  | no => exact h
/-- if, of results -/
def ifR {α : Type} (b : Bool) (x y : Res α) : Res α := if b = true then x else y
@[simp] theorem ifR_true {α : Type} {x y : Res α} : ifR true x y = x := rfl
@[simp] theorem ifR_false {α : Type} {x y : Res α} : ifR false x y = y := rfl
theorem ifR_eq {α : Type} {b : Bool} {x y : Res α} : ifR b x y = if b = true then x else y := rfl
theorem ifR_dec {α : Type} {p : Prop} [Decidable p] {x y : Res α} : ifR (decide p) x y = if p then x else y := by unfold ifR; simp
theorem ifR_ndec {α : Type} {p : Prop} [Decidable p] {x y : Res α} : ifR (!decide p) x y = if p then y else x := by
  unfold ifR; by_cases h : p <;> simp [h]
/-! ### loops -/
inductive Ctl (τ ρ : Type) where
  | nx (t : τ) | bk (t : τ) | rt (r : ρ)
def forM {α τ : Type} : List α → τ → (α → τ → Res τ) → Res τ
  | [], t, _ => .ok t
  | x :: r, t, f => Res.bind (f x t) fun t => forM r t f
def forC {α τ ρ : Type} : List α → τ → (α → τ → Res (Ctl τ ρ)) → Res (τ ⊕ ρ)
  | [], t, _ => .ok (.inl t)
  | x :: r, t, f => Res.bind (f x t) fun c => match c with
    | .nx t => forC r t f
    | .bk t => .ok (.inl t)
    | .rt v => .ok (.inr v)
/-- at most n turns -/
def whN' {τ ρ : Type} (c : τ → Res Bool) (f : τ → Res (Ctl τ ρ)) : Nat → τ → Option (Res (τ ⊕ ρ))
  | 0, _ => none
  | n + 1, t => match c t with
    | .ok true => (match f t with
      | .ok (.nx t) => whN' c f n t
      | .ok (.bk t) => some (.ok (.inl t))
      | .ok (.rt v) => some (.ok (.inr v))
      | .er x => some (.er x)
      | .no => some .no)
    | .ok false => some (.ok (.inl t))
    | .er x => some (.er x)
    | .no => some .no
theorem whN'_up {τ ρ : Type} {c : τ → Res Bool} {f : τ → Res (Ctl τ ρ)} : ∀ {n : Nat} {t : τ} {r : Res (τ ⊕ ρ)}, whN' c f n t = some r → ∀ {k : Nat}, n ≤ k → whN' c f k t = some r
  | 0, _, _, h, _, _ => by cases h
  | n + 1, t, r, h, 0, hk => by omega
  | n + 1, t, r, h, k + 1, hk => by
    unfold whN' at h ⊢
    cases hc : c t with
    | ok b =>
      rw [hc] at h
      cases b with
      | false => exact h
      | true =>
        simp only at h ⊢
        cases hf : f t with
        | ok q =>
          rw [hf] at h
          cases q with
          | nx t' => exact whN'_up (n := n) h (by omega)
          | bk t' => exact h
          | rt v => exact h
        | er x => rw [hf] at h; exact h
        | no => rw [hf] at h; exact h
    | er x => rw [hc] at h; exact h
    | no => rw [hc] at h; exact h
open Classical in
noncomputable def whileC {τ ρ : Type} (c : τ → Res Bool) (f : τ → Res (Ctl τ ρ)) (t : τ) : Res (τ ⊕ ρ) :=
  if h : ∃ n r, whN' c f n t = some r then h.choose_spec.choose else .no
theorem whileC_of {τ ρ : Type} {c : τ → Res Bool} {f : τ → Res (Ctl τ ρ)} {t : τ} {n : Nat} {r : Res (τ ⊕ ρ)} (h : whN' c f n t = some r) : whileC c f t = r := by
  unfold whileC
  have hh : ∃ n r, whN' c f n t = some r := ⟨n, r, h⟩
  rw [dif_pos hh]
  have h2 := hh.choose_spec.choose_spec
  have a := whN'_up h (Nat.le_max_left n hh.choose)
  have b := whN'_up h2 (Nat.le_max_right n hh.choose)
  rw [a] at b
  exact (Option.some.inj b).symm
theorem whileC_eq {τ ρ : Type} (c : τ → Res Bool) (f : τ → Res (Ctl τ ρ)) (t : τ) : whileC c f t = Res.bind (c t) fun b => if b = true then Res.bind (f t) fun q => (match q with
    | .nx t => whileC c f t
    | .bk t => .ok (.inl t)
    | .rt v => .ok (.inr v)) else .ok (.inl t) := by
  by_cases h : ∃ n r, whN' c f n t = some r
  · obtain ⟨n, r, h⟩ := h
    rw [whileC_of h]
    cases n with
    | zero => cases h
    | succ n =>
      unfold whN' at h
      cases hc : c t with
      | ok b =>
        rw [hc] at h
        cases b with
        | false => simpa using (Option.some.inj h).symm
        | true =>
          simp only at h
          simp only [Res.ok_bind, if_true]
          cases hf : f t with
          | ok q =>
            rw [hf] at h
            cases q with
            | nx t' => exact (whileC_of h).symm
            | bk t' => exact (Option.some.inj h).symm
            | rt v => exact (Option.some.inj h).symm
          | er x => rw [hf] at h; exact (Option.some.inj h).symm
          | no => rw [hf] at h; exact (Option.some.inj h).symm
      | er x => rw [hc] at h; exact (Option.some.inj h).symm
      | no => rw [hc] at h; exact (Option.some.inj h).symm
  · have e : whileC c f t = .no := by unfold whileC; rw [dif_neg h]
    rw [e]
    cases hc : c t with
    | ok b =>
      cases b with
      | false => exact absurd ⟨1, _, by unfold whN'; rw [hc]⟩ h
      | true =>
        simp only [Res.ok_bind, if_true]
        cases hf : f t with
        | ok q =>
          cases q with
          | nx t' =>
            simp only [Res.ok_bind]
            unfold whileC
            rw [dif_neg]
            rintro ⟨n, r, h2⟩
            exact h ⟨n + 1, r, by unfold whN'; rw [hc]; simp only; rw [hf]; exact h2⟩
          | bk t' => exact absurd ⟨1, _, by unfold whN'; rw [hc]; simp only; rw [hf]⟩ h
          | rt v => exact absurd ⟨1, _, by unfold whN'; rw [hc]; simp only; rw [hf]⟩ h
        | er x => exact absurd ⟨1, _, by unfold whN'; rw [hc]; simp only; rw [hf]⟩ h
        | no => rfl
    | er x => exact absurd ⟨1, _, by unfold whN'; rw [hc]⟩ h
    | no => rfl
/-- a while without a way out of its middle -/
noncomputable def whileM {τ : Type} (c : τ → Res Bool) (f : τ → Res τ) (t : τ) : Res τ := Res.bind (whileC (ρ := Empty) c (fun t => Res.bind (f t) fun t => .ok (.nx t)) t) fun q => match q with
  | .inl t => .ok t
  | .inr v => nomatch v
theorem whileM_eq {τ : Type} (c : τ → Res Bool) (f : τ → Res τ) (t : τ) : whileM c f t = Res.bind (c t) fun b => if b = true then Res.bind (f t) fun t => whileM c f t else .ok t := by
  unfold whileM
  rw [whileC_eq]
  cases c t with
  | ok b =>
    cases b with
    | false => rfl
    | true =>
      simp only [Res.ok_bind, if_true]
      cases f t <;> rfl
  | er x => rfl
  | no => rfl
/-! comprehensions -/
def mapC {α β : Type} (f : α → Res β) : List α → List β → Res (List β)
  | [], acc => .ok acc
  | x :: r, acc => Res.bind (f x) fun y => if acc.length < sizeLine then mapC f r (acc ++ [y]) else .no
def filC {α β : Type} (p : α → Res Bool) (f : α → Res β) : List α → List β → Res (List β)
  | [], acc => .ok acc
  | x :: r, acc => Res.bind (p x) fun b => if b = true then Res.bind (f x) fun y => if acc.length < sizeLine then filC p f r (acc ++ [y]) else .no else filC p f r acc
/-! ### encodings -/
structure En (α : Type) where
  e : α → PyData
  lay : ∀ a, (e a).canLay0 = true
  n : Nat
  dep : ∀ a, (e a).depth ≤ n
def enI : En Int := ⟨PyData.int, fun _ => rfl, 0, fun _ => Nat.le_refl _⟩
def enB : En Bool := ⟨PyData.bool, fun _ => rfl, 0, fun _ => Nat.le_refl _⟩
def enN : En Unit := ⟨fun _ => PyData.none, fun _ => rfl, 0, fun _ => Nat.le_refl _⟩
def enL {α : Type} (c : En α) : En (List α) := ⟨fun xs => .list (xs.map c.e), fun xs => lay_map c.lay xs, c.n + 1, fun xs => Nat.succ_le_succ (depth_map c.dep xs)⟩
def enT {α : Type} (c : En α) : En (List α) := ⟨fun xs => .tuple (xs.map c.e), fun xs => lay_map c.lay xs, c.n + 1, fun xs => Nat.succ_le_succ (depth_map c.dep xs)⟩
def enP {α β : Type} (c : En α) (d : En β) : En (α × β) := ⟨fun p => .tuple [c.e p.1, d.e p.2], fun p => by
  show (PyData.canLay0 (c.e p.1) && (PyData.canLay0 (d.e p.2) && true)) = true
  rw [c.lay, d.lay]; rfl, max c.n d.n + 1, fun p => by
  have h1 := c.dep p.1
  have h2 := d.dep p.2
  show max (c.e p.1).depth (max (d.e p.2).depth 0) + 1 ≤ _
  omega⟩
def enP3 {α β γ : Type} (c : En α) (d : En β) (g : En γ) : En (α × β × γ) := ⟨fun p => .tuple [c.e p.1, d.e p.2.1, g.e p.2.2], fun p => by
  show (PyData.canLay0 (c.e p.1) && (PyData.canLay0 (d.e p.2.1) && (PyData.canLay0 (g.e p.2.2) && true))) = true
  rw [c.lay, d.lay, g.lay]; rfl, max c.n (max d.n g.n) + 1, fun p => by
  have h1 := c.dep p.1
  have h2 := d.dep p.2.1
  have h3 := g.dep p.2.2
  show max (c.e p.1).depth (max (d.e p.2.1).depth (max (g.e p.2.2).depth 0)) + 1 ≤ _
  omega⟩
def enO {α : Type} (c : En α) : En (Option α) := ⟨fun o => match o with
  | none => .none
  | some a => c.e a, fun o => by cases o <;> first | rfl | exact c.lay _, c.n, fun o => by cases o <;> first | exact Nat.zero_le _ | exact c.dep _⟩
theorem En.shp {α : Type} (c : En α) (h : c.n ≤ 64) (a : α) : SeqAt.shaped (c.e a) = true := shp_of (c.lay a) (Nat.le_trans (c.dep a) h)
/-- Python's = is equality -/
class EqOk {α : Type} [DecidableEq α] (c : En α) : Prop where
  eq : ∀ a b, PyData.eqv (c.e a) (c.e b) = decide (a = b)
instance : EqOk enI := ⟨eqv_int⟩
instance : EqOk enB := ⟨fun a b => by show (a == b) = _; cases a <;> cases b <;> rfl⟩
instance {α : Type} [DecidableEq α] (c : En α) [h : EqOk c] : EqOk (enL c) := ⟨fun a b => eqvAll_map h.eq a b⟩
instance {α : Type} [DecidableEq α] (c : En α) [h : EqOk c] : EqOk (enT c) := ⟨fun a b => eqvAll_map h.eq a b⟩
instance {α β : Type} [DecidableEq α] [DecidableEq β] (c : En α) (d : En β) [h : EqOk c] [k : EqOk d] : EqOk (enP c d) := ⟨fun a b => by
  obtain ⟨a1, a2⟩ := a
  obtain ⟨b1, b2⟩ := b
  show (PyData.eqv (c.e a1) (c.e b1) && (PyData.eqv (d.e a2) (d.e b2) && true)) = _
  rw [h.eq, k.eq]
  by_cases h : a1 = b1 <;> by_cases h2 : a2 = b2 <;> simp [h, h2]⟩
instance {α β γ : Type} [DecidableEq α] [DecidableEq β] [DecidableEq γ] (c : En α) (d : En β) (g : En γ) [h : EqOk c] [k : EqOk d] [l : EqOk g] : EqOk (enP3 c d g) := ⟨fun a b => by
  obtain ⟨a1, a2, a3⟩ := a
  obtain ⟨b1, b2, b3⟩ := b
  show (PyData.eqv (c.e a1) (c.e b1) && (PyData.eqv (d.e a2) (d.e b2) && (PyData.eqv (g.e a3) (g.e b3) && true))) = _
  rw [h.eq, k.eq, l.eq]
  by_cases h : a1 = b1 <;> by_cases h2 : a2 = b2 <;> by_cases h3 : a3 = b3 <;> simp [h, h2, h3]⟩
/-- never None -/
class NoNon {α : Type} (c : En α) : Prop where
  l : ∀ a, PyData.eqv .none (c.e a) = false
  r : ∀ a, PyData.eqv (c.e a) .none = false
  n : ∀ a, c.e a ≠ .none
instance : NoNon enI := ⟨fun _ => rfl, fun _ => rfl, fun _ h => nomatch h⟩
instance : NoNon enB := ⟨fun _ => rfl, fun _ => rfl, fun _ h => nomatch h⟩
instance {α : Type} (c : En α) : NoNon (enL c) := ⟨fun _ => rfl, fun _ => rfl, fun _ h => nomatch h⟩
instance {α : Type} (c : En α) : NoNon (enT c) := ⟨fun _ => rfl, fun _ => rfl, fun _ h => nomatch h⟩
instance {α β : Type} (c : En α) (d : En β) : NoNon (enP c d) := ⟨fun _ => rfl, fun _ => rfl, fun _ h => nomatch h⟩
instance {α β γ : Type} (c : En α) (d : En β) (g : En γ) : NoNon (enP3 c d g) := ⟨fun _ => rfl, fun _ => rfl, fun _ h => nomatch h⟩
instance {α : Type} [DecidableEq α] (c : En α) [h : EqOk c] [k : NoNon c] : EqOk (enO c) := ⟨fun a b => by
  cases a with
  | none =>
    cases b with
    | none => rfl
    | some b => exact (k.l b).trans (by simp)
  | some a =>
    cases b with
    | none => exact (k.r a).trans (by simp)
    | some b => exact (h.eq a b).trans (by simp)⟩
/-! ### what a slot holds -/
abbrev kD {α : Type} (c : En α) (a : α) : W := .d (c.e a)
abbrev kOl {α : Type} (c : En α) (xs : List α) : W := .ol (xs.map c.e)
abbrev kVl {α : Type} (c : En α) (xs : List α) : W := .vl (xs.map c.e)
abbrev kOw {α : Type} (k : α → W) (xs : List α) : W := .ow (xs.map k)
abbrev kVw {α : Type} (k : α → W) (xs : List α) : W := .vw (xs.map k)
abbrev kS (ns : List Int) : W := .od (kT ns)
abbrev kVs (ns : List Int) : W := .vd (kT ns)
abbrev kX (w : W) : W := w
def idP (d : PyData) : W := .d d
end MV

namespace MV
open PySem PySem.Spec PyProof.Rows L2
/-! ### what an expression does, by its result -/
section
variable (xn : Xc → Exn) (Γ : Nat → Ct) (EW : EWs)
def XS (X : Xc → Prop) (S : WSt) : Prop := ∀ x, X x → EW (xn x) S
def JS (e : E) (S : WSt) {α : Type} (m : Res α) (k : α → W) (S' : α → WSt) : Prop := ∀ (Q : QW) (X : Xc → Prop), XS xn EW X S → wpR m (fun a => Q (k a) (S' a)) X → semE Γ e EW S Q
abbrev JE (e : E) (S : WSt) {α : Type} (m : Res α) (k : α → W) : Prop := JS xn Γ EW e S m k (fun _ => S)
def JO (os : Os) (S : WSt) {α : Type} (m : Res α) (ks : α → List W) : Prop := ∀ (Q : QWs) (X : Xc → Prop), XS xn EW X S → wpR m (fun a => Q (ks a) S) X → semO Γ os EW S Q
def JX (es : Es) (S : WSt) {α : Type} (m : Res α) (ks : α → List W) (S' : α → WSt) : Prop := ∀ (Q : QWs) (X : Xc → Prop), XS xn EW X S → wpR m (fun a => Q (ks a) (S' a)) X → semX Γ es EW S Q
def JC (cs : Cs) (S : WSt) {α : Type} (m : Res α) (ts : α → List Tm) (S' : α → WSt) : Prop := ∀ (Q : QT) (X : Xc → Prop), XS xn EW X S → wpR m (fun a => Q (ts a) (S' a)) X → semC Γ cs EW S Q
def JSr (sr : Sr) (S : WSt) {α β : Type} (m : Res β) (xs : β → List α) (k : α → W) (chk : β → WSt → Prop) (S' : β → WSt) : Prop := ∀ (K : List W → (WSt → Prop) → WSt → Prop) (X : Xc → Prop), XS xn EW X S → wpR m (fun a => K ((xs a).map k) (chk a) (S' a)) X → semSr Γ sr EW S K
end
/-- of an answer, where there is one -/
def ofOpt {α : Type} : Option α → Res α
  | some a => .ok a
  | none => .no
def chkR {α : Type} (p : Prop) [Decidable p] (a : α) : Res α := if p then .ok a else .no
@[simp] theorem ofOpt_some {α : Type} (a : α) : ofOpt (some a) = .ok a := rfl
@[simp] theorem ofOpt_none {α : Type} : ofOpt (none : Option α) = .no := rfl
theorem chkR_pos {α : Type} {p : Prop} [Decidable p] {a : α} (h : p) : chkR p a = .ok a := if_pos h
/-- not to be looked into by computation -/
noncomputable def lock {α : Type} (a : α) : α := Classical.choose (⟨a, rfl⟩ : ∃ b, b = a)
theorem lock_eq {α : Type} (a : α) : lock a = a := Classical.choose_spec (⟨a, rfl⟩ : ∃ b, b = a)
/-- x[n] -/
@[irreducible] noncomputable def getI {α : Type} (xs : List α) (n : Int) : Res α := lock (ofOpt (L2.atI xs n))
theorem getI_def {α : Type} (xs : List α) (n : Int) : getI xs n = ofOpt (L2.atI xs n) := by unfold getI; exact lock_eq _
/-- operations by values: they raise nothing that is covered -/
structure Op1 (r : B1) (ws : List W) {α : Type} (m : Res α) (k : α → W) : Prop where
  ne : ∀ x, m ≠ .er x
  run : ∀ Q : W → Prop, wpR m (fun a => Q (k a)) (fun _ => False) → r ws Q
theorem Op1.of {r : B1} {ws : List W} {α : Type} {m m' : Res α} {k : α → W} (e : m' = m) (h : Op1 r ws m k) : Op1 r ws m' k := e ▸ h
theorem Op1.use {r : B1} {ws : List W} {α : Type} {m : Res α} {k : α → W} (h : Op1 r ws m k) {Q : W → Prop} {X : Xc → Prop} (q : wpR m (fun a => Q (k a)) X) : r ws Q := by
  refine h.run Q ?_
  cases e : m with
  | ok a => rw [e] at q; exact q
  | er x => exact absurd e (h.ne x)
  | no => rw [e] at q; exact q
theorem Op1.ok {r : B1} {ws : List W} {α : Type} {a : α} {k : α → W} (h : ∀ Q : W → Prop, Q (k a) → r ws Q) : Op1 r ws (.ok a) k := ⟨(fun _ h => nomatch h), fun Q q => h Q q⟩
theorem Op1.opt {r : B1} {ws : List W} {α : Type} {o : Option α} {k : α → W} (h : ∀ a, o = some a → ∀ Q : W → Prop, Q (k a) → r ws Q) : Op1 r ws (ofOpt o) k := ⟨(fun _ h => by cases o <;> cases h), (fun Q q => by
  cases o with
  | none => exact q.elim
  | some a => exact h a rfl Q q)⟩
theorem Op1.chk {r : B1} {ws : List W} {α : Type} {p : Prop} [Decidable p] {a : α} {k : α → W} (h : p → ∀ Q : W → Prop, Q (k a) → r ws Q) : Op1 r ws (chkR p a) k := ⟨(fun _ h => by
  unfold chkR at h
  split at h <;> cases h), (fun Q q => by
  unfold chkR at q
  split at q
  · exact h ‹_› Q q
  · exact q.elim)⟩
abbrev Op2 (r : B2) (w1 w2 : W) {α : Type} (m : Res α) (k : α → W) : Prop := Op1 (ap2 r) [w1, w2] m k
section
variable {xn : Xc → Exn} {Γ : Nat → Ct} {EW : EWs} {S : WSt} {α β γ : Type}
theorem JS.cast {e : E} {m m' : Res α} {k : α → W} {S' : α → WSt} (h : JS xn Γ EW e S m k S') (hm : m' = m) : JS xn Γ EW e S m' k S' := hm ▸ h
theorem j_int (n : Int) : JE xn Γ EW (.int n) S (.ok n) (kD enI) := fun Q X hx h => by unfold semE; exact h
theorem j_bl (b : Bool) : JE xn Γ EW (.bl b) S (.ok b) (kD enB) := fun Q X hx h => by unfold semE; exact h
theorem j_non : JE xn Γ EW .non S (.ok ()) (kD enN) := fun Q X hx h => by unfold semE; exact h
/-- None, where a thing or None is due -/
theorem j_nonO (c : En α) : JE xn Γ EW .non S (.ok (none : Option α)) (kD (enO c)) := fun Q X hx h => by unfold semE; exact h
theorem j_globI {x : Str} {n : Int} : JE xn Γ EW (.glob x (.inl n)) S (.ok n) (kD enI) := fun Q X hx h => by unfold semE; exact h
/-- a name that never changes -/
theorem j_var {i : Nat} (c : En α) (a : α) (h : gt S i = some (kD c a)) (h2 : st S i (some (kD c a)) = S) : JE xn Γ EW (.var i) S (.ok a) (kD c) := fun Q X hx q => by
  unfold semE varW
  rw [h]
  show Q _ (st S i (some (kD c a)))
  rw [h2]; exact q
/-- a name that is frozen -/
theorem j_frz {i : Nat} (c : En α) (a : α) {w : W} (h : gt S i = some w) (hw : fzW w = some (c.e a)) : JS xn Γ EW (.var i) S (.ok a) (kD c) (fun _ => st S i (some (kD c a))) := fun Q X hx q => by
  unfold semE varW
  rw [h]
  show (match fzW w with
    | some x => Q (.d x) (st S i (some (.d x)))
    | none => False)
  rw [hw]; exact q
theorem j_mv {i : Nat} (k : α → W) (a : α) (h : gt S i = some (k a)) : JS xn Γ EW (.mv i) S (.ok a) k (fun _ => st S i none) := fun Q X hx q => by
  unfold semE mvW
  rw [h]; exact q
/-- by other words for its value -/
theorem JS.by {e : E} {m : Res α} {k : α → W} {S' : α → WSt} (h : JS xn Γ EW e S m k S') {k2 : β → W} (f : α → β) (ek : ∀ a, k2 (f a) = k a) {S2 : β → WSt} (e2 : ∀ a, S2 (f a) = S' a) : JS xn Γ EW e S (m.bind fun a => .ok (f a)) k2 S2 := fun Q X hx q => by
  refine h Q X hx ?_
  rw [wpR_bind] at q
  exact wpR_mono q (fun a q => by rw [← ek, ← e2]; exact q) (fun _ h => h)
theorem j_some_ {e : E} {m : Res α} {c : En α} (h : JE xn Γ EW e S m (kD c)) : JE xn Γ EW e S (m.bind fun a => .ok (some a)) (kD (enO c)) := JS.by (S2 := fun _ => S) h some (fun _ => rfl) (fun _ => rfl)
theorem j_some {e : E} {m : Res α} {c : En α} (h : JE xn Γ EW e S m (kD c)) {M0 : Res _} (hm : M0 = (m.bind fun a => .ok (some a))) : JE xn Γ EW e S M0 (kD (enO c)) := by
  subst hm; exact j_some_ h
/-! operands -/
theorem jo_nil : JO xn Γ EW .nil S (.ok ()) (fun _ => []) := fun Q X hx h => by unfold semO; exact h
theorem jo_pl {i : Nat} {w : W} {r : Os} {m : Res β} {ks : β → List W} (h : gt S i = some w) (hr : JO xn Γ EW r S m ks) : JO xn Γ EW (.pl i r) S m (fun b => w :: ks b) := fun Q X hx q => by
  unfold semO plW
  rw [h]
  refine hr _ X hx (wpR_mono q (fun b q => ?_) fun _ h => h)
  simp only [h]; exact q
theorem jo_p {e : E} {a : α} {k : α → W} {r : Os} {m : Res β} {ks : β → List W} (h : JE xn Γ EW e S (.ok a) k) (hr : JO xn Γ EW r S m ks) : JO xn Γ EW (.ex e r) S m (fun b => k a :: ks b) := fun Q X hx q => by
  unfold semO
  exact h _ X hx (hr _ X hx q)
theorem jo_m {e : E} {m : Res α} {k : α → W} {r : Os} {ws : List W} (h : JE xn Γ EW e S m k) (hr : JO xn Γ EW r S (.ok ()) fun _ => ws) : JO xn Γ EW (.ex e r) S m (fun a => k a :: ws) := fun Q X hx q => by
  unfold semO
  refine h _ X hx (wpR_mono q (fun b q => ?_) fun _ h => h)
  exact hr _ X hx q
theorem jo_mm_ {e : E} {m : Res α} {k : α → W} {r : Os} {m2 : α → Res β} {ks : α → β → List W} (h : JE xn Γ EW e S m k) (hr : ∀ a, JO xn Γ EW r S (m2 a) (ks a)) : JO xn Γ EW (.ex e r) S (m.bind fun a => (m2 a).bind fun b => .ok (a, b)) (fun p => k p.1 :: ks p.1 p.2) := fun Q X hx q => by
  unfold semO
  refine h _ X hx ?_
  rw [wpR_bind] at q
  refine wpR_mono q (fun a q => ?_) fun _ h => h
  rw [wpR_bind] at q
  exact hr a _ X hx q
theorem jo_mm {e : E} {m : Res α} {k : α → W} {r : Os} {m2 : α → Res β} {ks : α → β → List W} (h : JE xn Γ EW e S m k) (hr : ∀ a, JO xn Γ EW r S (m2 a) (ks a)) {M0 : Res _} (hm : M0 = (m.bind fun a => (m2 a).bind fun b => .ok (a, b))) : JO xn Γ EW (.ex e r) S M0 (fun p => k p.1 :: ks p.1 p.2) := by
  subst hm; exact jo_mm_ h hr
/-- an item of a list of things, where it stands -/
theorem jo_pi_ {i : Nat} {e : E} {m : Res Int} {k : α → W} {xs : List α} (h : gt S i = some (kOw k xs) ∨ gt S i = some (kVw k xs)) (hr : JE xn Γ EW e S m (kD enI)) : JO xn Γ EW (.pi i e) S (m.bind fun n => getI xs n) (fun a => [k a]) := fun Q X hx q => by
  rw [wpR_bind] at q
  rcases h with h | h <;>
  · unfold semO piW
    rw [h]
    refine hr _ X hx (wpR_mono q (fun n q => ?_) fun _ h => h)
    simp only [h]
    show (match L2.atI (xs.map k) n with
      | some w => Q [w] S
      | none => False)
    rw [getI_def] at q
    rw [atI_map]
    cases he : L2.atI xs n with
    | none => rw [he] at q; exact q
    | some a => rw [he] at q; exact q
theorem jo_pi {i : Nat} {e : E} {m : Res Int} {k : α → W} {xs : List α} (h : gt S i = some (kOw k xs) ∨ gt S i = some (kVw k xs)) (hr : JE xn Γ EW e S m (kD enI)) {M0 : Res _} (hm : M0 = (m.bind fun n => getI xs n)) : JO xn Γ EW (.pi i e) S M0 (fun a => [k a]) := by
  subst hm; exact jo_pi_ h hr
/-! operations -/
theorem j_bin_ {op : Operator} {os : Os} {m : Res α} {ks : α → List W} {m2 : α → Res β} {k : β → W} (h : JO xn Γ EW os S m ks) (o : ∀ a, Op1 (ap2 (opW op)) (ks a) (m2 a) k) : JE xn Γ EW (.bin op os) S (m.bind m2) k := fun Q X hx q => by
  unfold semE onB
  rw [wpR_bind] at q
  exact h _ X hx (wpR_mono q (fun a q => (o a).use q) fun _ h => h)
theorem j_bin {op : Operator} {os : Os} {m : Res α} {ks : α → List W} {m2 : α → Res β} {k : β → W} (h : JO xn Γ EW os S m ks) (o : ∀ a, Op1 (ap2 (opW op)) (ks a) (m2 a) k) {M0 : Res _} (hm : M0 = (m.bind m2)) : JE xn Γ EW (.bin op os) S M0 k := by
  subst hm; exact j_bin_ h o
theorem j_cmp_ {op : CmpOp} {os : Os} {m : Res α} {ks : α → List W} {m2 : α → Res β} {k : β → W} (h : JO xn Γ EW os S m ks) (o : ∀ a, Op1 (ap2 (cmpW op)) (ks a) (m2 a) k) : JE xn Γ EW (.cmp op os) S (m.bind m2) k := fun Q X hx q => by
  unfold semE onB
  rw [wpR_bind] at q
  exact h _ X hx (wpR_mono q (fun a q => (o a).use q) fun _ h => h)
theorem j_cmp {op : CmpOp} {os : Os} {m : Res α} {ks : α → List W} {m2 : α → Res β} {k : β → W} (h : JO xn Γ EW os S m ks) (o : ∀ a, Op1 (ap2 (cmpW op)) (ks a) (m2 a) k) {M0 : Res _} (hm : M0 = (m.bind m2)) : JE xn Γ EW (.cmp op os) S M0 k := by
  subst hm; exact j_cmp_ h o
theorem j_idx_ {os : Os} {m : Res α} {ks : α → List W} {m2 : α → Res β} {k : β → W} (h : JO xn Γ EW os S m ks) (o : ∀ a, Op1 (ap2 idxW) (ks a) (m2 a) k) : JE xn Γ EW (.idx os) S (m.bind m2) k := fun Q X hx q => by
  unfold semE onB
  rw [wpR_bind] at q
  exact h _ X hx (wpR_mono q (fun a q => (o a).use q) fun _ h => h)
theorem j_idx {os : Os} {m : Res α} {ks : α → List W} {m2 : α → Res β} {k : β → W} (h : JO xn Γ EW os S m ks) (o : ∀ a, Op1 (ap2 idxW) (ks a) (m2 a) k) {M0 : Res _} (hm : M0 = (m.bind m2)) : JE xn Γ EW (.idx os) S M0 k := by
  subst hm; exact j_idx_ h o
theorem j_bf_ {f : BF} {os : Os} {m : Res α} {ks : α → List W} {m2 : α → Res β} {k : β → W} (h : JO xn Γ EW os S m ks) (o : ∀ a, Op1 f.sem (ks a) (m2 a) k) : JE xn Γ EW (.bf f os) S (m.bind m2) k := fun Q X hx q => by
  unfold semE onB
  rw [wpR_bind] at q
  exact h _ X hx (wpR_mono q (fun a q => (o a).use q) fun _ h => h)
theorem j_bf {f : BF} {os : Os} {m : Res α} {ks : α → List W} {m2 : α → Res β} {k : β → W} (h : JO xn Γ EW os S m ks) (o : ∀ a, Op1 f.sem (ks a) (m2 a) k) {M0 : Res _} (hm : M0 = (m.bind m2)) : JE xn Γ EW (.bf f os) S M0 k := by
  subst hm; exact j_bf_ h o
/-! truths -/
theorem j_nt_ {e : E} {m : Res Bool} (h : JE xn Γ EW e S m (kD enB)) : JE xn Γ EW (.nt e) S (m.bind fun b => .ok (!b)) (kD enB) := fun Q X hx q => by
  unfold semE notV
  rw [wpR_bind] at q
  exact h _ X hx (wpR_mono q (fun b q => q) fun _ h => h)
theorem j_nt {e : E} {m : Res Bool} (h : JE xn Γ EW e S m (kD enB)) {M0 : Res _} (hm : M0 = (m.bind fun b => .ok (!b))) : JE xn Γ EW (.nt e) S M0 (kD enB) := by
  subst hm; exact j_nt_ h
def JAn (xn : Xc → Exn) (Γ : Nat → Ct) (EW : EWs) (es : Es) (S : WSt) (m : Res Bool) : Prop := ∀ (Q : QW) (X : Xc → Prop), XS xn EW X S → wpR m (fun a => Q (kD enB a) S) X → semAn Γ es EW S Q
def JOr (xn : Xc → Exn) (Γ : Nat → Ct) (EW : EWs) (es : Es) (S : WSt) (m : Res Bool) : Prop := ∀ (Q : QW) (X : Xc → Prop), XS xn EW X S → wpR m (fun a => Q (kD enB a) S) X → semOr Γ es EW S Q
theorem jan_1 {e : E} {m : Res Bool} (h : JE xn Γ EW e S m (kD enB)) : JAn xn Γ EW (.cons e .nil) S m := fun Q X hx q => by unfold semAn; exact h Q X hx q
theorem jor_1 {e : E} {m : Res Bool} (h : JE xn Γ EW e S m (kD enB)) : JOr xn Γ EW (.cons e .nil) S m := fun Q X hx q => by unfold semOr; exact h Q X hx q
theorem jan_m_ {e : E} {f : E} {r : Es} {m n : Res Bool} (h : JE xn Γ EW e S m (kD enB)) (h2 : JAn xn Γ EW (.cons f r) S n) : JAn xn Γ EW (.cons e (.cons f r)) S (m.bind fun b => ifR b n (.ok false)) := fun Q X hx q => by
  unfold semAn andV
  rw [wpR_bind] at q
  refine h _ X hx (wpR_mono q (fun b q => ?_) fun _ h => h)
  cases b with
  | true => exact h2 Q X hx q
  | false => exact q
theorem jan_m {e : E} {f : E} {r : Es} {m n : Res Bool} (h : JE xn Γ EW e S m (kD enB)) (h2 : JAn xn Γ EW (.cons f r) S n) {M0 : Res _} (hm : M0 = (m.bind fun b => ifR b n (.ok false))) : JAn xn Γ EW (.cons e (.cons f r)) S M0 := by
  subst hm; exact jan_m_ h h2
theorem jor_m_ {e : E} {f : E} {r : Es} {m n : Res Bool} (h : JE xn Γ EW e S m (kD enB)) (h2 : JOr xn Γ EW (.cons f r) S n) : JOr xn Γ EW (.cons e (.cons f r)) S (m.bind fun b => ifR b (.ok true) n) := fun Q X hx q => by
  unfold semOr orV
  rw [wpR_bind] at q
  refine h _ X hx (wpR_mono q (fun b q => ?_) fun _ h => h)
  cases b with
  | true => exact q
  | false => exact h2 Q X hx q
theorem jor_m {e : E} {f : E} {r : Es} {m n : Res Bool} (h : JE xn Γ EW e S m (kD enB)) (h2 : JOr xn Γ EW (.cons f r) S n) {M0 : Res _} (hm : M0 = (m.bind fun b => ifR b (.ok true) n)) : JOr xn Γ EW (.cons e (.cons f r)) S M0 := by
  subst hm; exact jor_m_ h h2
theorem jan_p {e : E} {f : E} {r : Es} {x y : Bool} (h : JE xn Γ EW e S (.ok x) (kD enB)) (h2 : JAn xn Γ EW (.cons f r) S (.ok y)) : JAn xn Γ EW (.cons e (.cons f r)) S (.ok (x && y)) := fun Q X hx q => by
  refine jan_m_ h h2 Q X hx ?_
  cases x <;> exact q
theorem jor_p {e : E} {f : E} {r : Es} {x y : Bool} (h : JE xn Γ EW e S (.ok x) (kD enB)) (h2 : JOr xn Γ EW (.cons f r) S (.ok y)) : JOr xn Γ EW (.cons e (.cons f r)) S (.ok (x || y)) := fun Q X hx q => by
  refine jor_m_ h h2 Q X hx ?_
  cases x <;> exact q
theorem j_an {es : Es} {m : Res Bool} (h : JAn xn Γ EW es S m) : JE xn Γ EW (.an es) S m (kD enB) := fun Q X hx q => by unfold semE; exact h Q X hx q
theorem j_or {es : Es} {m : Res Bool} (h : JOr xn Γ EW es S m) : JE xn Γ EW (.orr es) S m (kD enB) := fun Q X hx q => by unfold semE; exact h Q X hx q
theorem j_neg_ {e : E} {m : Res Int} (h : JE xn Γ EW e S m (kD enI)) : JE xn Γ EW (.neg e) S (m.bind fun b => .ok (-b)) (kD enI) := fun Q X hx q => by
  unfold semE negV
  rw [wpR_bind] at q
  exact h _ X hx (wpR_mono q (fun b q => q) fun _ h => h)
theorem j_neg {e : E} {m : Res Int} (h : JE xn Γ EW e S m (kD enI)) {M0 : Res _} (hm : M0 = (m.bind fun b => .ok (-b))) : JE xn Γ EW (.neg e) S M0 (kD enI) := by
  subst hm; exact j_neg_ h
/-- a < b < c, of whole numbers that are there -/
theorem j_chn {p q : CmpOp} {os oc : Os} {i j k : Int} (h : JO xn Γ EW os S (.ok ()) fun _ => [kD enI i, kD enI j]) (h2 : JO xn Γ EW oc S (.ok ()) fun _ => [kD enI k]) : JE xn Γ EW (.chn p q os oc) S (.ok (icmp p i j && icmp q j k)) (kD enB) := fun Q X hx z => by
  unfold semE chnT
  refine h _ X hx ?_
  show (match icmp p i j with
    | true => semO Γ oc EW S fun zs S2 => (match zs with
      | [.d (.int k)] => Q (.d (.bool (icmp q j k))) S2
      | _ => False)
    | false => Q (.d (.bool false)) S)
  have z' : Q (kD enB (icmp p i j && icmp q j k)) S := z
  cases e : icmp p i j with
  | true => rw [e] at z'; exact h2 _ X hx z'
  | false => rw [e] at z'; exact z'
/-! values in a row -/
theorem jx_nil : JX xn Γ EW .nil S (.ok ()) (fun _ => []) (fun _ => S) := fun Q X hx h => by unfold semX; exact h
theorem jx_p {e : E} {a : α} {k : α → W} {r : Es} {m : Res β} {ks : β → List W} (h : JE xn Γ EW e S (.ok a) k) {S' : β → WSt} (hr : JX xn Γ EW r S m ks S') : JX xn Γ EW (.cons e r) S m (fun b => k a :: ks b) S' := fun Q X hx q => by
  unfold semX
  exact h _ X hx (hr _ X hx q)
/-- with a change of the slots that no exception behind it sees -/
theorem jx_s {e : E} {a : α} {k : α → W} {r : Es} {ws : List W} {S1 S2 : WSt} (h : JS xn Γ EW e S (.ok a) k (fun _ => S1)) (hr : JX xn Γ EW r S1 (.ok ()) (fun _ => ws) (fun _ => S2)) : JX xn Γ EW (.cons e r) S (.ok ()) (fun _ => k a :: ws) (fun _ => S2) := fun Q X hx q => by
  unfold semX
  exact h _ X hx (hr _ (fun _ => False) (fun _ h => h.elim) q)
theorem jx_m {e : E} {m : Res α} {k : α → W} {r : Es} {ws : List W} (h : JE xn Γ EW e S m k) (hr : JX xn Γ EW r S (.ok ()) (fun _ => ws) (fun _ => S)) : JX xn Γ EW (.cons e r) S m (fun a => k a :: ws) (fun _ => S) := fun Q X hx q => by
  unfold semX
  refine h _ X hx (wpR_mono q (fun b q => ?_) fun _ h => h)
  exact hr _ X hx q
end
end MV

namespace MV
open PySem PySem.Spec PyProof.Rows L2
/-! ### operations of typed values -/
instance (i j : Int) : Decidable (CMul i j) := inferInstanceAs (Decidable (_ ∨ _))
instance (i j : Int) : Decidable (CDiv i j) := inferInstanceAs (Decidable (_ ∧ _))
instance (i j : Int) : Decidable (CPow i j) := inferInstanceAs (Decidable (_ ∧ _))
instance (i j : Int) : Decidable (RgOk i j) := inferInstanceAs (Decidable (_ ∧ _))
@[irreducible] noncomputable def mulR (i j : Int) : Res Int := lock (chkR (CMul i j) (i * j))
theorem mulR_def (i j : Int) : mulR i j = chkR (CMul i j) (i * j) := by unfold mulR; exact lock_eq _
@[irreducible] noncomputable def divR (i j : Int) : Res Int := lock (chkR (CDiv i j) (i / j))
theorem divR_def (i j : Int) : divR i j = chkR (CDiv i j) (i / j) := by unfold divR; exact lock_eq _
@[irreducible] noncomputable def modR (i j : Int) : Res Int := lock (chkR (0 < j) (i % j))
theorem modR_def (i j : Int) : modR i j = chkR (0 < j) (i % j) := by unfold modR; exact lock_eq _
@[irreducible] noncomputable def powR (i j : Int) : Res Int := lock (chkR (CPow i j) (i ^ j.toNat))
theorem powR_def (i j : Int) : powR i j = chkR (CPow i j) (i ^ j.toNat) := by unfold powR; exact lock_eq _
@[irreducible] noncomputable def catT {α : Type} (xs ys : List α) : Res (List α) := lock (chkR (xs.length + ys.length ≤ sizeLine) (xs ++ ys))
theorem catT_def {α : Type} (xs ys : List α) : catT xs ys = chkR (xs.length + ys.length ≤ sizeLine) (xs ++ ys) := by unfold catT; exact lock_eq _
@[irreducible] noncomputable def extR {α : Type} (xs ys : List α) : Res (List α) := lock (chkR (xs.length + ys.length ≤ sizeLine) (xs ++ ys))
theorem extR_def {α : Type} (xs ys : List α) : extR xs ys = chkR (xs.length + ys.length ≤ sizeLine) (xs ++ ys) := by unfold extR; exact lock_eq _
@[irreducible] noncomputable def sortS (ns : List Int) : Res (List Int) := lock (chkR (ns.length < 64) (isort ns))
theorem sortS_def (ns : List Int) : sortS ns = chkR (ns.length < 64) (isort ns) := by unfold sortS; exact lock_eq _
theorem mulR_ok {i j : Int} (h : CMul i j) : mulR i j = .ok (i * j) := by unfold mulR; rw [lock_eq]; exact chkR_pos h
theorem divR_ok {i j : Int} (h : CDiv i j) : divR i j = .ok (i / j) := by unfold divR; rw [lock_eq]; exact chkR_pos h
theorem modR_ok {i j : Int} (h : 0 < j) : modR i j = .ok (i % j) := by unfold modR; rw [lock_eq]; exact chkR_pos h
theorem powR_ok {i j : Int} (h : CPow i j) : powR i j = .ok (i ^ j.toNat) := by unfold powR; rw [lock_eq]; exact chkR_pos h
theorem extR_ok {α : Type} {xs ys : List α} (h : xs.length + ys.length ≤ sizeLine) : extR xs ys = .ok (xs ++ ys) := by unfold extR; rw [lock_eq]; exact chkR_pos h
theorem catT_ok {α : Type} {xs ys : List α} (h : xs.length + ys.length ≤ sizeLine) : catT xs ys = .ok (xs ++ ys) := by unfold catT; rw [lock_eq]; exact chkR_pos h
/-- x * k -/
@[irreducible] noncomputable def repT {α : Type} (xs : List α) (k : Int) : Res (List α) := lock (chkR (xs ≠ [] ∧ 1 ≤ k ∧ k ≤ 1000 ∧ xs.length ≤ 1000) (List.replicate k.toNat xs).flatten)
theorem repT_def {α : Type} (xs : List α) (k : Int) : repT xs k = chkR (xs ≠ [] ∧ 1 ≤ k ∧ k ≤ 1000 ∧ xs.length ≤ 1000) (List.replicate k.toNat xs).flatten := by unfold repT; exact lock_eq _
@[irreducible] noncomputable def repL {α : Type} (xs : List α) (k : Int) : Res (List α) := lock (chkR (xs.length ≤ 1000 ∧ -1000 ≤ k ∧ k ≤ 1000) (List.replicate k.toNat xs).flatten)
theorem repL_def {α : Type} (xs : List α) (k : Int) : repL xs k = chkR (xs.length ≤ 1000 ∧ -1000 ≤ k ∧ k ≤ 1000) (List.replicate k.toNat xs).flatten := by unfold repL; exact lock_eq _
theorem sortS_ok {ns : List Int} (h : ns.length < 64) : sortS ns = .ok (isort ns) := by unfold sortS; rw [lock_eq]; exact chkR_pos h
section
variable {α β γ : Type}
theorem o_add {i j : Int} : Op2 (opW .Add) (kD enI i) (kD enI j) (.ok (i + j)) (kD enI) := .ok fun _ q => q
theorem o_sub {i j : Int} : Op2 (opW .Sub) (kD enI i) (kD enI j) (.ok (i - j)) (kD enI) := .ok fun _ q => q
theorem o_mul {i j : Int} : Op2 (opW .Mult) (kD enI i) (kD enI j) (mulR i j) (kD enI) := .of (mulR_def _ _) <| .chk fun h _ q => ⟨h, q⟩
theorem o_mulc {i j : Int} (h : CMul i j) : Op2 (opW .Mult) (kD enI i) (kD enI j) (.ok (i * j)) (kD enI) := .ok fun _ q => ⟨h, q⟩
theorem o_div {i j : Int} : Op2 (opW .FloorDiv) (kD enI i) (kD enI j) (divR i j) (kD enI) := .of (divR_def _ _) <| .chk fun h _ q => ⟨h, q⟩
theorem o_divc {i j : Int} (h : CDiv i j) : Op2 (opW .FloorDiv) (kD enI i) (kD enI j) (.ok (i / j)) (kD enI) := .ok fun _ q => ⟨h, q⟩
theorem o_mod {i j : Int} : Op2 (opW .Mod) (kD enI i) (kD enI j) (modR i j) (kD enI) := .of (modR_def _ _) <| .chk fun h _ q => ⟨h, q⟩
theorem o_modc {i j : Int} (h : 0 < j) : Op2 (opW .Mod) (kD enI i) (kD enI j) (.ok (i % j)) (kD enI) := .ok fun _ q => ⟨h, q⟩
theorem o_pow {i j : Int} : Op2 (opW .Pow) (kD enI i) (kD enI j) (powR i j) (kD enI) := .of (powR_def _ _) <| .chk fun h _ q => ⟨h, q⟩
theorem o_powc {i j : Int} (h : CPow i j) : Op2 (opW .Pow) (kD enI i) (kD enI j) (.ok (i ^ j.toNat)) (kD enI) := .ok fun _ q => ⟨h, q⟩
/-- lists joined -/
theorem o_addL (c : En α) {xs ys : List α} {w1 w2 : W} (h1 : asL w1 = some (xs.map c.e)) (h2 : asL w2 = some (ys.map c.e)) : Op2 (opW .Add) w1 w2 (extR xs ys) (kOl c) := .of (extR_def _ _) <| .chk fun h Q q => by
  have q' : Q (.ol (xs.map c.e ++ ys.map c.e)) := by rw [← List.map_append]; exact q
  show addW w1 w2 Q
  have fin : ∃ xs ys, asL w1 = some xs ∧ asL w2 = some ys ∧ xs.length + ys.length ≤ sizeLine ∧ Q (.ol (xs ++ ys)) := ⟨_, _, h1, h2, by simpa using h, q'⟩
  unfold addW
  split
  · simp [asL] at h1
  · simp [asL] at h1
  · simp [asL] at h1
  · exact fin
/-- tuples joined, the first one not empty -/
theorem o_addT (c : En α) {xs ys : List α} : Op2 (opW .Add) (kD (enT c) xs) (kD (enT c) ys) (catT xs ys) (kD (enT c)) := .of (catT_def _ _) <| .chk fun h Q q => by
  have q' : Q (.d (.tuple (xs.map c.e ++ ys.map c.e))) := by rw [← List.map_append]; exact q
  exact ⟨by simpa using h, q'⟩
theorem rep_map (f : α → β) (xs : List α) (n : Nat) : ((List.replicate n xs).flatten).map f = (List.replicate n (xs.map f)).flatten := by
  rw [List.map_flatten, List.map_replicate]
theorem o_repT (c : En α) {xs : List α} {k : Int} : Op2 (opW .Mult) (kD (enT c) xs) (kD enI k) (repT xs k) (kD (enT c)) := .of (repT_def _ _) <| .chk fun h Q q => by
  have q' : Q (.d (.tuple (List.replicate k.toNat (xs.map c.e)).flatten)) := by rw [← rep_map]; exact q
  exact ⟨by simpa using h.1, h.2.1, h.2.2.1, by simpa using h.2.2.2, q'⟩
theorem o_repL (c : En α) {xs : List α} {k : Int} : Op2 (opW .Mult) (kOl c xs) (kD enI k) (repL xs k) (kOl c) := .of (repL_def _ _) <| .chk fun h Q q => by
  have q' : Q (.ol (List.replicate k.toNat (xs.map c.e)).flatten) := by rw [← rep_map]; exact q
  exact ⟨by simpa using h.1, h.2.1, h.2.2, q'⟩
/-- is True, is False -/
theorem o_isB {b k : Bool} : Op2 (cmpW .Is) (kD enB b) (kD enB k) (.ok (b == k)) (kD enB) := .ok fun Q q => by
  show Q (.d (.bool (false ^^ (b == k))))
  rw [Bool.false_xor]; exact q
theorem o_isntB {b k : Bool} : Op2 (cmpW .IsNot) (kD enB b) (kD enB k) (.ok (!(b == k))) (kD enB) := .ok fun Q q => by
  show Q (.d (.bool (true ^^ (b == k))))
  rw [Bool.true_xor]; exact q
theorem o_lt {i j : Int} : Op2 (cmpW .Lt) (kD enI i) (kD enI j) (.ok (decide (i < j))) (kD enB) := .ok fun _ q => q
theorem o_le {i j : Int} : Op2 (cmpW .LtE) (kD enI i) (kD enI j) (.ok (decide (i ≤ j))) (kD enB) := .ok fun _ q => q
theorem o_gt {i j : Int} : Op2 (cmpW .Gt) (kD enI i) (kD enI j) (.ok (decide (j < i))) (kD enB) := .ok fun _ q => q
theorem o_ge {i j : Int} : Op2 (cmpW .GtE) (kD enI i) (kD enI j) (.ok (decide (j ≤ i))) (kD enB) := .ok fun _ q => q
theorem o_eqI {i j : Int} : Op2 (cmpW .Eq) (kD enI i) (kD enI j) (.ok (decide (i = j))) (kD enB) := .ok fun _ q => q
theorem o_neI {i j : Int} : Op2 (cmpW .NotEq) (kD enI i) (kD enI j) (.ok (!decide (i = j))) (kD enB) := .ok fun _ q => q
/-- things of one kind, by what is read of them -/
theorem o_eqG {x y : PyData} {w1 w2 : W} (h1 : rdW w1 = some x) (h2 : rdW w2 = some y) (s1 : SeqAt.shaped x = true) (s2 : SeqAt.shaped y = true) : Op2 (cmpW .Eq) w1 w2 (.ok (PyData.eqv x y)) (kD enB) := .ok fun Q q => by
  show eqW w1 w2 Q
  have fin : ∃ x y, rdW w1 = some x ∧ rdW w2 = some y ∧ SeqAt.shaped x = true ∧ SeqAt.shaped y = true ∧ Q (.d (.bool (PyData.eqv x y))) := ⟨_, _, h1, h2, s1, s2, q⟩
  unfold eqW
  split
  · rename_i i j
    obtain rfl := Option.some.inj (h1.symm.trans rfl)
    obtain rfl := Option.some.inj (h2.symm.trans rfl)
    have q' : Q (.d (.bool (PyData.eqv (.int i) (.int j)))) := q
    rwa [eqv_int] at q'
  · exact fin
theorem o_neG {x y : PyData} {w1 w2 : W} (h1 : rdW w1 = some x) (h2 : rdW w2 = some y) (s1 : SeqAt.shaped x = true) (s2 : SeqAt.shaped y = true) : Op2 (cmpW .NotEq) w1 w2 (.ok (!PyData.eqv x y)) (kD enB) := .ok fun Q q => by
  show neW w1 w2 Q
  have fin : ∃ x y, rdW w1 = some x ∧ rdW w2 = some y ∧ SeqAt.shaped x = true ∧ SeqAt.shaped y = true ∧ Q (.d (.bool (!PyData.eqv x y))) := ⟨_, _, h1, h2, s1, s2, q⟩
  unfold neW
  split
  · rename_i i j
    obtain rfl := Option.some.inj (h1.symm.trans rfl)
    obtain rfl := Option.some.inj (h2.symm.trans rfl)
    have q' : Q (.d (.bool (!PyData.eqv (.int i) (.int j)))) := q
    rwa [eqv_int] at q'
  · exact fin
theorem Op1.conv {r : B1} {ws : List W} {a b : α} {k : α → W} (h : Op1 r ws (.ok a) k) (e : b = a) : Op1 r ws (.ok b) k := e ▸ h
theorem o_eq [DecidableEq α] (c : En α) [k : EqOk c] {a b : α} {w1 w2 : W} (h1 : rdW w1 = some (c.e a)) (h2 : rdW w2 = some (c.e b)) (hn : c.n ≤ 64 := by decide) : Op2 (cmpW .Eq) w1 w2 (.ok (decide (a = b))) (kD enB) :=
  (o_eqG h1 h2 (c.shp hn a) (c.shp hn b)).conv (k.eq a b).symm
theorem o_ne [DecidableEq α] (c : En α) [k : EqOk c] {a b : α} {w1 w2 : W} (h1 : rdW w1 = some (c.e a)) (h2 : rdW w2 = some (c.e b)) (hn : c.n ≤ 64 := by decide) : Op2 (cmpW .NotEq) w1 w2 (.ok (!decide (a = b))) (kD enB) :=
  (o_neG h1 h2 (c.shp hn a) (c.shp hn b)).conv (congrArg (!·) (k.eq a b).symm)
/-- is None -/
theorem o_is (c : En α) [k : NoNon c] {o : Option α} : Op2 (cmpW .Is) (kD (enO c) o) (kD enN ()) (.ok o.isNone) (kD enB) := .ok fun Q q => by
  cases o with
  | none => exact q
  | some a =>
    show isW false (.d (c.e a)) (.d .none) Q
    have := k.n a
    unfold isW
    simp only
    split
    · rename_i h; exact absurd (W.d.inj h) this
    · exact q
theorem o_isnt (c : En α) [k : NoNon c] {o : Option α} : Op2 (cmpW .IsNot) (kD (enO c) o) (kD enN ()) (.ok o.isSome) (kD enB) := .ok fun Q q => by
  cases o with
  | none => exact q
  | some a =>
    show isW true (.d (c.e a)) (.d .none) Q
    have := k.n a
    unfold isW
    simp only
    split
    · rename_i h; exact absurd (W.d.inj h) this
    · exact q
/-- x in a list or a tuple of such -/
theorem o_inG (neg : Bool) [DecidableEq α] (c : En α) [k : EqOk c] {a : α} {xs : List α} {w1 w2 : W} (h1 : rdW w1 = some (c.e a)) (hk : asK w2 = none) (h2 : rdW w2 = some (.list (xs.map c.e)) ∨ rdW w2 = some (.tuple (xs.map c.e))) (hn : c.n + 1 ≤ 64) : ∀ Q : W → Prop, Q (.d (.bool (neg ^^ decide (a ∈ xs)))) → inW neg w1 w2 Q := fun Q q => by
  have s1 := c.shp (by omega) a
  have e := any_map k.eq a xs
  unfold inW
  simp only [hk, h1]
  rcases h2 with h2 | h2
  · have s2 : SeqAt.shaped (.list (xs.map c.e)) = true := (enL c).shp hn xs
    simp only [h2]
    exact ⟨s1, s2, by rw [e]; exact q⟩
  · have s2 : SeqAt.shaped (.tuple (xs.map c.e)) = true := (enT c).shp hn xs
    simp only [h2]
    exact ⟨s1, s2, by rw [e]; exact q⟩
theorem o_in [DecidableEq α] (c : En α) [k : EqOk c] {a : α} {xs : List α} {w1 w2 : W} (h1 : rdW w1 = some (c.e a)) (hk : asK w2 = none) (h2 : rdW w2 = some (.list (xs.map c.e)) ∨ rdW w2 = some (.tuple (xs.map c.e))) (hn : c.n + 1 ≤ 64 := by decide) : Op2 (cmpW .In) w1 w2 (.ok (decide (a ∈ xs))) (kD enB) :=
  .ok fun Q q => o_inG false c h1 hk h2 hn Q (by rw [Bool.false_xor]; exact q)
theorem o_nin [DecidableEq α] (c : En α) [k : EqOk c] {a : α} {xs : List α} {w1 w2 : W} (h1 : rdW w1 = some (c.e a)) (hk : asK w2 = none) (h2 : rdW w2 = some (.list (xs.map c.e)) ∨ rdW w2 = some (.tuple (xs.map c.e))) (hn : c.n + 1 ≤ 64 := by decide) : Op2 (cmpW .NotIn) w1 w2 (.ok (!decide (a ∈ xs))) (kD enB) :=
  .ok fun Q q => o_inG true c h1 hk h2 hn Q (by rw [Bool.true_xor]; exact q)
theorem o_inS {q : Int} {ns : List Int} {w : W} (h : asK w = some (kT ns)) : Op2 (cmpW .In) (kD enI q) w (.ok (decide (q ∈ ns))) (kD enB) := .ok fun Q z => by
  show inW false (kD enI q) w Q
  unfold inW
  simp only [h]
  show Q (.d (.bool (false ^^ (lkp (kT ns) (.inl q)).isSome)))
  rw [lkp_kT, Bool.false_xor]; exact z
theorem o_ninS {q : Int} {ns : List Int} {w : W} (h : asK w = some (kT ns)) : Op2 (cmpW .NotIn) (kD enI q) w (.ok (!decide (q ∈ ns))) (kD enB) := .ok fun Q z => by
  show inW true (kD enI q) w Q
  unfold inW
  simp only [h]
  show Q (.d (.bool (true ^^ (lkp (kT ns) (.inl q)).isSome)))
  rw [lkp_kT, Bool.true_xor]; exact z
/-! x[n] -/
theorem o_idx (c : En α) {xs : List α} {n : Int} {w : W} (h : asS w = some (xs.map c.e)) : Op2 idxW w (kD enI n) (getI xs n) (kD c) := .of (getI_def _ _) <| .opt fun a e Q q => by
  show idxW w (W.d (PyData.int n)) Q
  unfold idxW
  simp only [h, atI_map, e]
  exact q
theorem o_idx0 (c : En α) (d : En β) {p : α × β} : Op2 idxW (kD (enP c d) p) (kD enI 0) (.ok p.1) (kD c) := .ok fun Q q => q
theorem o_idx1 (c : En α) (d : En β) {p : α × β} : Op2 idxW (kD (enP c d) p) (kD enI 1) (.ok p.2) (kD d) := .ok fun Q q => q
theorem o_idxm1 (c : En α) (d : En β) {p : α × β} : Op2 idxW (kD (enP c d) p) (kD enI (-1)) (.ok p.2) (kD d) := .ok fun Q q => q
theorem o_idx30 (c : En α) (d : En β) (g : En γ) {p : α × β × γ} : Op2 idxW (kD (enP3 c d g) p) (kD enI 0) (.ok p.1) (kD c) := .ok fun Q q => q
theorem o_idx31 (c : En α) (d : En β) (g : En γ) {p : α × β × γ} : Op2 idxW (kD (enP3 c d g) p) (kD enI 1) (.ok p.2.1) (kD d) := .ok fun Q q => q
theorem o_idx32 (c : En α) (d : En β) (g : En γ) {p : α × β × γ} : Op2 idxW (kD (enP3 c d g) p) (kD enI 2) (.ok p.2.2) (kD g) := .ok fun Q q => q
theorem o_idxw (k : α → W) {xs : List α} {n : Int} : Op2 idxW (kVw k xs) (kD enI n) (getI xs n) k := .of (getI_def _ _) <| .opt fun a e Q q => by
  show idxW (kVw k xs) (W.d (PyData.int n)) Q
  have h : L2.atI (xs.map k) n = some (k a) := by rw [atI_map, e]; rfl
  unfold idxW
  simp only [asS, asK, h]
  exact q
/-! built-in calls -/
theorem o_len (f : α → PyData) {xs : List α} {w : W} (h : asS w = some (xs.map f)) : Op1 lenW [w] (.ok (xs.length : Int)) (kD enI) := .ok fun Q q => by
  unfold lenW
  simp only [h, List.length_map]
  exact q
theorem o_lenw (k : α → W) {xs : List α} {w : W} (h : w = kOw k xs ∨ w = kVw k xs) : Op1 lenW [w] (.ok (xs.length : Int)) (kD enI) := .ok fun Q q => by
  rcases h with rfl | rfl <;>
  · unfold lenW
    simp only [asS, asK, List.length_map]
    exact q
theorem o_lenS {ns : List Int} {w : W} (h : asK w = some (kT ns)) (h2 : asS w = none) : Op1 lenW [w] (.ok (ns.length : Int)) (kD enI) := .ok fun Q q => by
  unfold lenW
  simp only [h2, h, kT_length]
  exact q
theorem o_list (c : En α) {xs : List α} {w : W} (h : asS w = some (xs.map c.e)) : Op1 listW [w] (.ok xs) (kOl c) := .ok fun Q q => by
  unfold listW
  simp only [h]
  exact q
theorem dKeys_kT (ns : List Int) : dKeys (kT ns) = ns.map PyData.int := by
  unfold dKeys kT; rw [List.map_map]; rfl
theorem o_listS {ns : List Int} : Op1 listW [kS ns] (.ok ns) (kOl enI) := .ok fun Q q => by
  unfold listW
  simp only [asS]
  rw [dKeys_kT]; exact q
theorem o_tuple (c : En α) {xs : List α} {w : W} (h : asS w = some (xs.map c.e)) : Op1 tupleW [w] (.ok xs) (kD (enT c)) := .ok fun Q q => by
  unfold tupleW
  simp only [h]
  exact q
theorem o_sortI {ns : List Int} {w : W} (h : asL w = some (ns.map PyData.int)) : Op1 sortedW [w] (.ok (isort ns)) (kOl enI) := .ok fun Q q => by
  unfold sortedW
  simp only [h]
  exact ⟨all_int _, sortable_int _, depth_int ns, by rw [srt_map]; exact q⟩
theorem o_sortS {ns : List Int} {w : W} (h : asK w = some (kT ns)) (h2 : asL w = none) : Op1 sortedW [w] (sortS ns) (kOl enI) := .of (sortS_def _) <| .chk fun hl Q q => by
  have e : (kT ns).map (·.1) = ns.map Sum.inl := by unfold kT; rw [List.map_map]; rfl
  unfold sortedW
  simp only [h2, h]
  exact ⟨ns, e, hl, by rw [srt_map]; exact q⟩
theorem o_sortL {a : List (List Int)} {w : W} (h : asL w = some (a.map (enL enI).e)) : Op1 sortedW [w] (.ok (rsort a)) (kOl (enL enI)) := .ok fun Q q => by
  unfold sortedW
  simp only [h]
  exact ⟨all_dI a, sortable_dI a, depth_dI a, by
    have := srt_rows a
    rw [show srtD (a.map (enL enI).e) = _ from this]; exact q⟩
theorem o_sum {ns : List Int} {w : W} (h : asL w = some (ns.map PyData.int)) : Op1 sumW [w] (.ok ns.sum) (kD enI) := .ok fun Q q => by
  unfold sumW
  simp only [h]
  exact ⟨ns, rfl, q⟩
theorem o_max2 {i j : Int} : Op1 maxW [kD enI i, kD enI j] (.ok (max i j)) (kD enI) := .ok fun Q q => by
  show Q (.d (.int (if j > i then j else i)))
  have e : (if j > i then j else i) = max i j := by split <;> omega
  rw [e]; exact q
theorem o_min2 {i j : Int} : Op1 minW [kD enI i, kD enI j] (.ok (min i j)) (kD enI) := .ok fun Q q => by
  show Q (.d (.int (if j < i then j else i)))
  have e : (if j < i then j else i) = min i j := by split <;> omega
  rw [e]; exact q
theorem o_max {ns : List Int} {w : W} (h : asL w = some (ns.map PyData.int)) (h1 : ∀ i j, [w] ≠ [W.d (.int i), W.d (.int j)] := by intro _ _ h; cases h) : Op1 maxW [w] (ofOpt ns.max?) (kD enI) := .opt fun a e Q q => by
  unfold maxW
  simp only [h]
  obtain ⟨m1, m2⟩ := List.max?_eq_some_iff.mp e
  refine ⟨ns, rfl, (fun z => by rw [z] at m1; cases m1), fun m hm hle => ?_⟩
  have : m = a := by
    have := hle a m1
    have := m2 m hm
    omega
  rw [this]; exact q
theorem o_any {bs : List Bool} {w : W} (h : asL w = some (bs.map PyData.bool)) : Op1 anyW [w] (.ok (bs.any id)) (kD enB) := .ok fun Q q => by
  unfold anyW
  simp only [h]
  exact ⟨bs, rfl, q⟩
theorem o_all {bs : List Bool} {w : W} (h : asL w = some (bs.map PyData.bool)) : Op1 allW [w] (.ok (bs.all id)) (kD enB) := .ok fun Q q => by
  unfold allW
  simp only [h]
  exact ⟨bs, rfl, q⟩
theorem o_intB {b : Bool} : Op1 intW [kD enB b] (.ok (if b = true then 1 else 0)) (kD enI) := .ok fun Q q => q
theorem o_intI {n : Int} : Op1 intW [kD enI n] (.ok n) (kD enI) := .ok fun Q q => q
/-! what is read of lists of lists -/
theorem rdWs_of {k : α → W} {c : En α} (h : ∀ a, rdW (k a) = some (c.e a)) : ∀ xs : List α, rdWs (xs.map k) = some (xs.map c.e)
  | [] => rfl
  | x :: r => by
    rw [List.map_cons]
    show (match rdW (k x), rdWs (r.map k) with
      | some x, some xs => some (x :: xs)
      | _, _ => none) = _
    rw [h, rdWs_of h r]; rfl
theorem rd_ow {k : α → W} {c : En α} (h : ∀ a, rdW (k a) = some (c.e a)) (xs : List α) : rdW (kOw k xs) = some ((enL c).e xs) := by
  show (rdWs (xs.map k)).map PyData.list = _
  rw [rdWs_of h]; rfl
theorem rd_vw {k : α → W} {c : En α} (h : ∀ a, rdW (k a) = some (c.e a)) (xs : List α) : rdW (kVw k xs) = some ((enL c).e xs) := by
  show (rdWs (xs.map k)).map PyData.list = _
  rw [rdWs_of h]; rfl
theorem fzWs_of {k : α → W} {c : En α} (h : ∀ a, fzW (k a) = some (c.e a)) : ∀ xs : List α, fzWs (xs.map k) = some (xs.map c.e)
  | [] => rfl
  | x :: r => by
    rw [List.map_cons]
    show (match fzW (k x), fzWs (r.map k) with
      | some x, some xs => some (x :: xs)
      | _, _ => none) = _
    rw [h, fzWs_of h r]; rfl
theorem fz_ow {k : α → W} {c : En α} (h : ∀ a, fzW (k a) = some (c.e a)) (xs : List α) : fzW (kOw k xs) = some ((enL c).e xs) := by
  show (fzWs (xs.map k)).map PyData.list = _
  rw [fzWs_of h]; rfl
theorem cvVs_of {k k' : α → W} (h : ∀ a, cvV (k a) = some (k' a)) : ∀ xs : List α, cvVs (xs.map k) = some (xs.map k')
  | [] => rfl
  | x :: r => by
    rw [List.map_cons]
    show (match cvV (k x), cvVs (r.map k) with
      | some x, some xs => some (x :: xs)
      | _, _ => none) = _
    rw [h, cvVs_of h r]; rfl
theorem cv_ow {k k' : α → W} (h : ∀ a, cvV (k a) = some (k' a)) (xs : List α) : cvV (kOw k xs) = some (kVw k' xs) := by
  show (cvVs (xs.map k)).map W.vw = _
  rw [cvVs_of h]; rfl
theorem noVs_of {k : α → W} (h : ∀ a, noV (k a) = true) : ∀ xs : List α, noVs (xs.map k) = true
  | [] => rfl
  | x :: r => by
    rw [List.map_cons]
    show (noV (k x) && noVs (r.map k)) = true
    rw [h, noVs_of h r]; rfl
theorem noV_ow {k : α → W} (h : ∀ a, noV (k a) = true) (xs : List α) : noV (kOw k xs) = true := noVs_of h xs
end
end MV

namespace MV
open PySem PySem.Spec PyProof.Rows L2
/-! ### methods, stores, displays, slices -/
theorem eraseIdx_map' {α β : Type} (f : α → β) : ∀ (xs : List α) (k : Nat), (xs.map f).eraseIdx k = (xs.eraseIdx k).map f
  | [], _ => rfl
  | _ :: _, 0 => rfl
  | x :: r, k + 1 => by
    show f x :: (r.map f).eraseIdx k = f x :: (r.eraseIdx k).map f
    rw [eraseIdx_map' f r k]
structure OpM (mb : MB) (w : W) (ws : List W) {α : Type} (m : Res α) (kw kr : α → W) : Prop where
  ne : ∀ x, m ≠ .er x
  run : ∀ Q : W → W → Prop, wpR m (fun a => Q (kw a) (kr a)) (fun _ => False) → mb w ws Q
theorem OpM.of {mb : MB} {w : W} {ws : List W} {α : Type} {m m' : Res α} {kw kr : α → W} (e : m' = m) (h : OpM mb w ws m kw kr) : OpM mb w ws m' kw kr := e ▸ h
theorem OpM.use {mb : MB} {w : W} {ws : List W} {α : Type} {m : Res α} {kw kr : α → W} (h : OpM mb w ws m kw kr) {Q : W → W → Prop} {X : Xc → Prop} (q : wpR m (fun a => Q (kw a) (kr a)) X) : mb w ws Q := by
  refine h.run Q ?_
  cases e : m with
  | ok a => rw [e] at q; exact q
  | er x => exact absurd e (h.ne x)
  | no => rw [e] at q; exact q
theorem chkR_ne {α : Type} {p : Prop} [Decidable p] {a : α} : ∀ x, chkR p a ≠ .er x := fun _ h => by
  unfold chkR at h
  split at h <;> cases h
theorem ofOpt_ne {α : Type} {o : Option α} : ∀ x, ofOpt o ≠ .er x := fun _ h => by cases o <;> cases h
theorem wpR_chk {α : Type} {p : Prop} [Decidable p] {a : α} {P : α → Prop} {X : Xc → Prop} (h : wpR (chkR p a) P X) : p ∧ P a := by
  unfold chkR at h
  split at h
  · exact ⟨‹_›, h⟩
  · exact h.elim
theorem wpR_opt {α : Type} {o : Option α} {P : α → Prop} {X : Xc → Prop} (h : wpR (ofOpt o) P X) : ∃ a, o = some a ∧ P a := by
  cases o with
  | none => exact h.elim
  | some a => exact ⟨a, rfl, h⟩
abbrev kNn {α : Type} (_ : α) : W := .d .none
/-- the last item, and what is ahead of it -/
@[irreducible] noncomputable def popR {α : Type} (xs : List α) : Res (α × List α) := lock (ofOpt (xs.getLast?.map fun a => (a, xs.dropLast)))
theorem popR_def {α : Type} (xs : List α) : popR xs = ofOpt (xs.getLast?.map fun a => (a, xs.dropLast)) := by unfold popR; exact lock_eq _
@[irreducible] noncomputable def popAt {α : Type} (xs : List α) (i : Int) : Res (α × List α) := lock (if -(2 ^ 63) ≤ i ∧ i < 2 ^ 63 then ofOpt ((seqIndex? i xs.length).bind fun k => xs[k]?.map fun a => (a, xs.eraseIdx k)) else .no)
theorem popAt_def {α : Type} (xs : List α) (i : Int) : popAt xs i = if -(2 ^ 63) ≤ i ∧ i < 2 ^ 63 then ofOpt ((seqIndex? i xs.length).bind fun k => xs[k]?.map fun a => (a, xs.eraseIdx k)) else .no := by unfold popAt; exact lock_eq _
@[irreducible] noncomputable def apR {α : Type} (xs : List α) (a : α) : Res (List α) := lock (chkR (xs.length < sizeLine) (xs ++ [a]))
theorem apR_def {α : Type} (xs : List α) (a : α) : apR xs a = chkR (xs.length < sizeLine) (xs ++ [a]) := by unfold apR; exact lock_eq _
@[irreducible] noncomputable def insR {α : Type} (xs : List α) (i : Int) (a : α) : Res (List α) := lock (chkR (xs.length < sizeLine ∧ 0 ≤ i ∧ i < 2 ^ 63) (xs.take i.toNat ++ [a] ++ xs.drop i.toNat))
theorem insR_def {α : Type} (xs : List α) (i : Int) (a : α) : insR xs i a = chkR (xs.length < sizeLine ∧ 0 ≤ i ∧ i < 2 ^ 63) (xs.take i.toNat ++ [a] ++ xs.drop i.toNat) := by unfold insR; exact lock_eq _
@[irreducible] noncomputable def setI {α : Type} (xs : List α) (n : Int) (a : α) : Res (List α) := lock (ofOpt ((ixN xs.length n).map fun j => xs.set j a))
theorem setI_def {α : Type} (xs : List α) (n : Int) (a : α) : setI xs n a = ofOpt ((ixN xs.length n).map fun j => xs.set j a) := by unfold setI; exact lock_eq _
/-- {x: True, ..}: one more -/
def insS (ns : List Int) (n : Int) : List Int := if n ∈ ns then ns else ns ++ [n]
@[irreducible] noncomputable def putS (ns : List Int) (n : Int) : Res (List Int) := lock (chkR (ns.length < sizeLine) (insS ns n))
theorem putS_def (ns : List Int) (n : Int) : putS ns n = chkR (ns.length < sizeLine) (insS ns n) := by unfold putS; exact lock_eq _
section
variable {α β γ : Type}
theorem m_append (c : En α) {xs : List α} {a : α} {w : W} (h : fzW w = some (c.e a)) : OpM appendM (kOl c xs) [w] (apR xs a) (kOl c) kNn := .of (apR_def _ _) ⟨chkR_ne, fun Q q => by
  obtain ⟨h1, q⟩ := wpR_chk q
  unfold appendM
  simp only [h]
  refine ⟨by simpa using h1, ?_⟩
  have q' : Q (.ol ((xs ++ [a]).map c.e)) (.d .none) := q
  rwa [List.map_append] at q'⟩
theorem m_appendO (k : α → W) {xs : List α} {a : α} : OpM appendOM (kOw k xs) [k a] (apR xs a) (kOw k) kNn := .of (apR_def _ _) ⟨chkR_ne, fun Q q => by
  obtain ⟨h1, q⟩ := wpR_chk q
  refine ⟨by simpa using h1, ?_⟩
  have q' : Q (.ow ((xs ++ [a]).map k)) (.d .none) := q
  rwa [List.map_append] at q'⟩
theorem m_pop (c : En α) {xs : List α} : OpM popM (kOl c xs) [] (popR xs) (fun p => kOl c p.2) (fun p => kD c p.1) := .of (popR_def _) ⟨ofOpt_ne, fun Q q => by
  obtain ⟨p, e, q⟩ := wpR_opt q
  obtain ⟨a, e1, rfl⟩ := Option.map_eq_some_iff.mp e
  show (match (xs.map c.e)[(xs.map c.e).length - 1]? with
    | some x => Q (.ol (xs.map c.e).dropLast) (.d x)
    | none => False)
  rw [← List.getLast?_eq_getElem?, List.getLast?_map, e1]
  simp only [Option.map_some]
  have q' : Q (.ol (xs.dropLast.map c.e)) (.d (c.e a)) := q
  rw [List.map_dropLast] at q'
  exact q'⟩
theorem m_popAt (c : En α) {xs : List α} {i : Int} : OpM popM (kOl c xs) [kD enI i] (popAt xs i) (fun p => kOl c p.2) (fun p => kD c p.1) := ⟨(fun x h => by
  rw [popAt_def] at h
  split at h
  · exact ofOpt_ne _ h
  · cases h), fun Q q => by
  rw [popAt_def] at q
  split at q
  · rename_i h
    obtain ⟨p, e, q⟩ := wpR_opt q
    obtain ⟨k, e1, e2⟩ := Option.bind_eq_some_iff.mp e
    obtain ⟨a, e3, rfl⟩ := Option.map_eq_some_iff.mp e2
    refine ⟨h.1, h.2, ?_⟩
    rw [List.length_map, e1]
    simp only
    rw [List.getElem?_map, e3]
    simp only [Option.map_some]
    have q' : Q (.ol ((xs.eraseIdx k).map c.e)) (.d (c.e a)) := q
    rw [eraseIdx_map']
    exact q'
  · exact q.elim⟩
theorem m_clear (c : En α) {xs : List α} : OpM clearM (kOl c xs) [] (.ok ([] : List α)) (kOl c) kNn := ⟨(fun _ h => nomatch h), fun Q q => q⟩
theorem m_clearO (k : β → W) (c : En α) {xs : List β} : OpM clearM (kOw k xs) [] (.ok ([] : List α)) (kOl c) kNn := ⟨(fun _ h => nomatch h), fun Q q => q⟩
theorem m_reverse (c : En α) {xs : List α} : OpM reverseM (kOl c xs) [] (.ok xs.reverse) (kOl c) kNn := ⟨(fun _ h => nomatch h), fun Q q => by
  have q' : Q (.ol (xs.reverse.map c.e)) (.d .none) := q
  rw [List.map_reverse] at q'
  exact q'⟩
theorem m_extend (c : En α) {xs ys : List α} {w : W} (h : asL w = some (ys.map c.e)) : OpM extendM (kOl c xs) [w] (extR xs ys) (kOl c) kNn := .of (extR_def _ _) ⟨chkR_ne, fun Q q => by
  obtain ⟨h1, q⟩ := wpR_chk q
  unfold extendM
  simp only [h]
  refine ⟨by simpa using h1, ?_⟩
  have q' : Q (.ol ((xs ++ ys).map c.e)) (.d .none) := q
  rwa [List.map_append] at q'⟩
theorem m_insert (c : En α) {xs : List α} {i : Int} {a : α} {w : W} (h : fzW w = some (c.e a)) : OpM insertM (kOl c xs) [kD enI i, w] (insR xs i a) (kOl c) kNn := .of (insR_def _ _ _) ⟨chkR_ne, fun Q q => by
  obtain ⟨h1, q⟩ := wpR_chk q
  show (match fzW w with
    | some x => (xs.map c.e).length < sizeLine ∧ 0 ≤ i ∧ i < 2 ^ 63 ∧ Q (.ol ((xs.map c.e).take i.toNat ++ [x] ++ (xs.map c.e).drop i.toNat)) (.d .none)
    | none => False)
  rw [h]
  refine ⟨by simpa using h1.1, h1.2.1, h1.2.2, ?_⟩
  have q' : Q (.ol ((xs.take i.toNat ++ [a] ++ xs.drop i.toNat).map c.e)) (.d .none) := q
  rw [List.map_append, List.map_append, List.map_take, List.map_drop] at q'
  exact q'⟩
/-! x[i] = e -/
structure OpP (w : W) (x : PyData) (u : W) {α : Type} (m : Res α) (k : α → W) : Prop where
  ne : ∀ x, m ≠ .er x
  run : ∀ Q : W → Prop, wpR m (fun a => Q (k a)) (fun _ => False) → putM w x u Q
theorem OpP.of {w : W} {x : PyData} {u : W} {α : Type} {m m' : Res α} {k : α → W} (e : m' = m) (h : OpP w x u m k) : OpP w x u m' k := e ▸ h
theorem OpP.use {w : W} {x : PyData} {u : W} {α : Type} {m : Res α} {k : α → W} (h : OpP w x u m k) {Q : W → Prop} {X : Xc → Prop} (q : wpR m (fun a => Q (k a)) X) : putM w x u Q := by
  refine h.run Q ?_
  cases e : m with
  | ok a => rw [e] at q; exact q
  | er x => exact absurd e (h.ne x)
  | no => rw [e] at q; exact q
theorem p_list (c : En α) {xs : List α} {n : Int} {a : α} {u : W} (h : fzW u = some (c.e a)) : OpP (kOl c xs) (.int n) u (setI xs n a) (kOl c) := .of (setI_def _ _ _) ⟨ofOpt_ne, fun Q q => by
  obtain ⟨p, e, q⟩ := wpR_opt q
  obtain ⟨j, e1, rfl⟩ := Option.map_eq_some_iff.mp e
  unfold putM
  simp only [h, List.length_map, e1]
  have q' : Q (.ol ((xs.set j a).map c.e)) := q
  rw [List.map_set] at q'
  exact q'⟩
theorem p_ow (k : α → W) {xs : List α} {n : Int} {a : α} : OpP (kOw k xs) (.int n) (k a) (setI xs n a) (kOw k) := .of (setI_def _ _ _) ⟨ofOpt_ne, fun Q q => by
  obtain ⟨p, e, q⟩ := wpR_opt q
  obtain ⟨j, e1, rfl⟩ := Option.map_eq_some_iff.mp e
  unfold putM
  simp only [List.length_map, e1]
  have q' : Q (.ow ((xs.set j a).map k)) := q
  rw [List.map_set] at q'
  exact q'⟩
theorem p_set {ns : List Int} {n : Int} : OpP (kS ns) (.int n) (kD enB true) (putS ns n) kS := .of (putS_def _ _) ⟨chkR_ne, fun Q q => by
  obtain ⟨h1, q⟩ := wpR_chk q
  show (kT ns).length < sizeLine ∧ Q (.od (putP (kT ns) (.inl n) (.bool true)))
  rw [kT_length, putP_kT]
  refine ⟨h1, ?_⟩
  have q' : Q (.od (kT (insS ns n))) := q
  unfold insS at q'
  split
  · rename_i m; rwa [if_pos m] at q'
  · rename_i m; rwa [if_neg m] at q'⟩
end
section
variable {xn : Xc → Exn} {Γ : Nat → Ct} {EW : EWs} {S : WSt} {α β γ : Type}
theorem j_meth_ {i : Nat} {mf : MF} {es : Es} {w w1 : W} {m : Res α} {ks : α → List W} {S1 : WSt} {m2 : α → Res β} {kw kr : β → W} (h : gt S i = some w) (hl : isLst w = true) (jx : JX xn Γ EW es S m ks fun _ => S1) (h1 : gt S1 i = some w1) (o : ∀ a, OpM mf.sem w1 (ks a) (m2 a) kw kr) :
    JS xn Γ EW (.meth i mf es) S (m.bind m2) kr (fun b => st S1 i (some (kw b))) := fun Q X hx q => by
  unfold semE methT
  rw [wpR_bind] at q
  rw [h]
  refine ⟨hl, jx _ X hx (wpR_mono q (fun a q => ?_) fun _ h => h)⟩
  simp only [h1]
  exact (o a).use q
theorem j_meth {i : Nat} {mf : MF} {es : Es} {w w1 : W} {m : Res α} {ks : α → List W} {S1 : WSt} {m2 : α → Res β} {kw kr : β → W} (h : gt S i = some w) (hl : isLst w = true) (jx : JX xn Γ EW es S m ks fun _ => S1) (h1 : gt S1 i = some w1) (o : ∀ a, OpM mf.sem w1 (ks a) (m2 a) kw kr) {M0 : Res _} (hm : M0 = (m.bind m2)) : JS xn Γ EW (.meth i mf es) S M0 kr (fun b => st S1 i (some (kw b))) := by
  subst hm; exact j_meth_ h hl jx h1 o
/-- x[i].m(e) -/
noncomputable def onItem (xs : List γ) (n : Int) (f : γ → Res γ) : Res (List γ) := Res.bind (getI xs n) fun x => Res.bind (f x) fun y => setI xs n y
theorem getI_ix {xs : List γ} {n : Int} {x : γ} (e : L2.atI xs n = some x) : ∃ j, ixN xs.length n = some j ∧ xs[j]? = some x := Option.bind_eq_some_iff.mp e
theorem j_methP_ {i : Nat} {mf : MF} {e : E} {es : Es} {k : γ → W} {xs : List γ} {m0 : Res Int} {a : α} {ks : List W} {m2 : γ → Res γ} {S1 : WSt} (h : gt S i = some (kOw k xs)) (hl : ∀ x, isLst (k x) = true) (je : JE xn Γ EW e S m0 (kD enI)) (jx : JX xn Γ EW es (st S i none) (.ok a) (fun _ => ks) fun _ => S1)
    (o : ∀ x, OpM mf.sem (k x) ks (m2 x) k kNn) : JS xn Γ EW (.methP i e mf es) S (m0.bind fun n => onItem xs n m2) (kNn) (fun ys => st S1 i (some (kOw k ys))) := fun Q X hx q => by
  unfold semE methPT
  rw [wpR_bind] at q
  rw [h]
  refine je _ X hx (wpR_mono q (fun n q => ?_) fun _ h => h)
  unfold onItem at q; rw [getI_def] at q
  rw [wpR_bind] at q
  obtain ⟨x, e, q⟩ := wpR_opt q
  rw [wpR_bind] at q
  obtain ⟨j, e1, e2⟩ := getI_ix e
  show (match W.d (.int n), gt S i with
    | .d (.int n), some (.ow ws) => (match ixN ws.length n with
      | some j => (match ws[j]? with
        | some w0 => isLst w0 = true ∧ semX Γ es EW (st S i none) fun vs S2 => mf.sem w0 vs fun w' r => Q r (st S2 i (some (.ow (ws.set j w'))))
        | none => False)
      | none => False)
    | _, _ => False)
  rw [h]
  simp only [List.length_map, e1, List.getElem?_map, e2, Option.map_some]
  refine ⟨hl x, jx _ (fun _ => False) (fun _ h => h.elim) ((o x).use (X := X) (wpR_mono q (fun y q => ?_) fun _ h => h))⟩
  rw [setI_def] at q
  obtain ⟨ys, e3, q⟩ := wpR_opt q
  rw [e1] at e3
  obtain rfl := Option.some.inj e3
  have q' : Q (.d .none) (st S1 i (some (.ow ((xs.set j y).map k)))) := q
  rw [List.map_set] at q'
  exact q'
theorem j_methP {i : Nat} {mf : MF} {e : E} {es : Es} {k : γ → W} {xs : List γ} {m0 : Res Int} {a : α} {ks : List W} {m2 : γ → Res γ} {S1 : WSt} (h : gt S i = some (kOw k xs)) (hl : ∀ x, isLst (k x) = true) (je : JE xn Γ EW e S m0 (kD enI)) (jx : JX xn Γ EW es (st S i none) (.ok a) (fun _ => ks) fun _ => S1)
    (o : ∀ x, OpM mf.sem (k x) ks (m2 x) k kNn) {M0 : Res _} (hm : M0 = (m0.bind fun n => onItem xs n m2)) : JS xn Γ EW (.methP i e mf es) S M0 (kNn) (fun ys => st S1 i (some (kOw k ys))) := by
  subst hm; exact j_methP_ h hl je jx o
/-! displays -/
theorem j_tup_ {es : Es} {m : Res α} {ks : α → List W} {S' : α → WSt} (h : JX xn Γ EW es S m ks S') (c : En β) (f : α → β) {S2 : β → WSt} (hS : ∀ a, S' a = S2 (f a)) (hf : ∀ a, ∃ l, fzWs (ks a) = some l ∧ l.length ≤ 1000 ∧ c.e (f a) = .tuple l) : JS xn Γ EW (.tup es) S (m.bind fun a => .ok (f a)) (kD c) S2 := fun Q X hx q => by
  unfold semE dispT
  rw [wpR_bind] at q
  refine h _ X hx (wpR_mono q (fun a q => ?_) fun _ h => h)
  obtain ⟨l, e1, e2, e3⟩ := hf a
  rw [e1]
  refine ⟨by unfold sizeLine; omega, ?_⟩
  have q' : Q (.d (c.e (f a))) (S2 (f a)) := q
  rw [e3, ← hS] at q'
  exact q'
theorem j_tup {es : Es} {m : Res α} {ks : α → List W} {S' : α → WSt} (h : JX xn Γ EW es S m ks S') (c : En β) (f : α → β) {S2 : β → WSt} (hS : ∀ a, S' a = S2 (f a)) (hf : ∀ a, ∃ l, fzWs (ks a) = some l ∧ l.length ≤ 1000 ∧ c.e (f a) = .tuple l) {M0 : Res _} (hm : M0 = (m.bind fun a => .ok (f a))) : JS xn Γ EW (.tup es) S M0 (kD c) S2 := by
  subst hm; exact j_tup_ h c f hS hf
theorem j_lst_ {es : Es} {m : Res α} {ks : α → List W} {S' : α → WSt} (h : JX xn Γ EW es S m ks S') (c : En β) (f : α → List β) {S2 : List β → WSt} (hS : ∀ a, S' a = S2 (f a)) (hf : ∀ a, fzWs (ks a) = some ((f a).map c.e) ∧ (f a).length ≤ 1000) : JS xn Γ EW (.lst es) S (m.bind fun a => .ok (f a)) (kOl c) S2 := fun Q X hx q => by
  unfold semE dispL
  rw [wpR_bind] at q
  refine h _ X hx (wpR_mono q (fun a q => ?_) fun _ h => h)
  obtain ⟨e1, e2⟩ := hf a
  rw [e1]
  refine ⟨by unfold sizeLine; rw [List.length_map]; omega, ?_⟩
  have q' : Q (kOl c (f a)) (S2 (f a)) := q
  rw [← hS] at q'
  exact q'
theorem j_lst {es : Es} {m : Res α} {ks : α → List W} {S' : α → WSt} (h : JX xn Γ EW es S m ks S') (c : En β) (f : α → List β) {S2 : List β → WSt} (hS : ∀ a, S' a = S2 (f a)) (hf : ∀ a, fzWs (ks a) = some ((f a).map c.e) ∧ (f a).length ≤ 1000) {M0 : Res _} (hm : M0 = (m.bind fun a => .ok (f a))) : JS xn Γ EW (.lst es) S M0 (kOl c) S2 := by
  subst hm; exact j_lst_ h c f hS hf
theorem j_lstw_ {es : Es} {m : Res α} {ks : α → List W} {S' : α → WSt} (h : JX xn Γ EW es S m ks S') (k : β → W) (f : α → List β) {S2 : List β → WSt} (hS : ∀ a, S' a = S2 (f a)) (hf : ∀ a, ks a = (f a).map k ∧ (f a).length ≤ 1000) : JS xn Γ EW (.lstw es) S (m.bind fun a => .ok (f a)) (kOw k) S2 := fun Q X hx q => by
  unfold semE dispLW
  rw [wpR_bind] at q
  refine h _ X hx (wpR_mono q (fun a q => ?_) fun _ h => h)
  obtain ⟨e1, e2⟩ := hf a
  rw [e1]
  refine ⟨by unfold sizeLine; rw [List.length_map]; omega, ?_⟩
  have q' : Q (kOw k (f a)) (S2 (f a)) := q
  rw [← hS] at q'
  exact q'
theorem j_lstw {es : Es} {m : Res α} {ks : α → List W} {S' : α → WSt} (h : JX xn Γ EW es S m ks S') (k : β → W) (f : α → List β) {S2 : List β → WSt} (hS : ∀ a, S' a = S2 (f a)) (hf : ∀ a, ks a = (f a).map k ∧ (f a).length ≤ 1000) {M0 : Res _} (hm : M0 = (m.bind fun a => .ok (f a))) : JS xn Γ EW (.lstw es) S M0 (kOw k) S2 := by
  subst hm; exact j_lstw_ h k f hS hf
theorem j_dict0S : JE xn Γ EW .dict0 S (.ok ([] : List Int)) kS := fun Q X hx q => by unfold semE dict0; exact q
theorem j_dict1S {es : Es} {n : Int} (h : JX xn Γ EW es S (.ok ()) (fun _ => [kD enI n, kD enB true]) fun _ => S) : JE xn Γ EW (.dict1 es) S (.ok [n]) kS := fun Q X hx q => by
  unfold semE dict1
  exact h _ X hx q
/-! slices -/
def cutI {α : Type} (xs : List α) (lo hi : Option Int) : List α := cutP xs lo hi
theorem cutP_map (f : α → β) (xs : List α) (lo hi : Option Int) : cutP (xs.map f) lo hi = (cutP xs lo hi).map f := by
  unfold cutP
  rw [List.length_map, List.map_take, List.map_drop]
theorem j_slo_ {os : Os} {m : Res γ} {w : W} {f : γ → Int} {xs : List α} (c : En α) (h : JO xn Γ EW os S m fun a => [w, kD enI (f a)]) (hw : asL w = some (xs.map c.e)) : JE xn Γ EW (.slo os) S (m.bind fun a => .ok (cutP xs (some (f a)) none)) (kOl c) := fun Q X hx q => by
  unfold semE slLo
  rw [wpR_bind] at q
  refine h _ X hx (wpR_mono q (fun a q => ?_) fun _ h => h)
  show slcW (some (f a)) none w fun r => Q r S
  unfold slcW
  rw [hw]
  show Q (.ol (cutP (xs.map c.e) _ _)) S
  rw [cutP_map]; exact q
theorem j_slo {os : Os} {m : Res γ} {w : W} {f : γ → Int} {xs : List α} (c : En α) (h : JO xn Γ EW os S m fun a => [w, kD enI (f a)]) (hw : asL w = some (xs.map c.e)) {M0 : Res _} (hm : M0 = (m.bind fun a => .ok (cutP xs (some (f a)) none))) : JE xn Γ EW (.slo os) S M0 (kOl c) := by
  subst hm; exact j_slo_ c h hw
theorem j_shi_ {os : Os} {m : Res γ} {w : W} {f : γ → Int} {xs : List α} (c : En α) (h : JO xn Γ EW os S m fun a => [w, kD enI (f a)]) (hw : asL w = some (xs.map c.e)) : JE xn Γ EW (.shi os) S (m.bind fun a => .ok (cutP xs none (some (f a)))) (kOl c) := fun Q X hx q => by
  unfold semE slHi
  rw [wpR_bind] at q
  refine h _ X hx (wpR_mono q (fun a q => ?_) fun _ h => h)
  show slcW none (some (f a)) w fun r => Q r S
  unfold slcW
  rw [hw]
  show Q (.ol (cutP (xs.map c.e) _ _)) S
  rw [cutP_map]; exact q
theorem j_shi {os : Os} {m : Res γ} {w : W} {f : γ → Int} {xs : List α} (c : En α) (h : JO xn Γ EW os S m fun a => [w, kD enI (f a)]) (hw : asL w = some (xs.map c.e)) {M0 : Res _} (hm : M0 = (m.bind fun a => .ok (cutP xs none (some (f a))))) : JE xn Γ EW (.shi os) S M0 (kOl c) := by
  subst hm; exact j_shi_ c h hw
theorem j_sloT {os : Os} {m : Res γ} {f : γ → Int} {xs : List α} (c : En α) (h : JO xn Γ EW os S m fun a => [kD (enT c) xs, kD enI (f a)]) {M0 : Res _} (hm : M0 = m.bind fun a => .ok (cutP xs (some (f a)) none)) : JE xn Γ EW (.slo os) S M0 (kD (enT c)) := fun Q X hx q => by
  subst hm
  unfold semE slLo
  rw [wpR_bind] at q
  refine h _ X hx (wpR_mono q (fun a q => ?_) fun _ h => h)
  show Q (.d (.tuple (cutP (xs.map c.e) _ _))) S
  rw [cutP_map]; exact q
theorem j_shiT {os : Os} {m : Res γ} {f : γ → Int} {xs : List α} (c : En α) (h : JO xn Γ EW os S m fun a => [kD (enT c) xs, kD enI (f a)]) {M0 : Res _} (hm : M0 = m.bind fun a => .ok (cutP xs none (some (f a)))) : JE xn Γ EW (.shi os) S M0 (kD (enT c)) := fun Q X hx q => by
  subst hm
  unfold semE slHi
  rw [wpR_bind] at q
  refine h _ X hx (wpR_mono q (fun a q => ?_) fun _ h => h)
  show Q (.d (.tuple (cutP (xs.map c.e) _ _))) S
  rw [cutP_map]; exact q
/-- x[a:b] -/
theorem j_slp {i : Nat} {b c : E} {x y : Int} {w : W} {xs : List α} (cc : En α) (h : gt S i = some w) (hb : JE xn Γ EW b S (.ok x) (kD enI)) (hc : JE xn Γ EW c S (.ok y) (kD enI)) (hw : asL w = some (xs.map cc.e)) : JE xn Γ EW (.slp i b c) S (.ok (cutP xs (some x) (some y))) (kOl cc) := fun Q X hx q => by
  unfold semE slLHp
  rw [h]
  refine hb _ X hx ?_
  simp only [wpR]
  show semE Γ c EW S _
  refine hc _ X hx ?_
  simp only [wpR, h]
  show slcW (some x) (some y) w fun r => Q r S
  unfold slcW
  rw [hw]
  show Q (.ol (cutP (xs.map cc.e) _ _)) S
  rw [cutP_map]; exact q
/-! isinstance -/
theorem j_isi {T : String} {os : Os} {w : W} {v : Bool} (h : JO xn Γ EW os S (.ok ()) fun _ => [w]) (hk : kdNames.contains (kindW w) = true) (hv : isiB (kindW w) T = v) : JE xn Γ EW (.isi T os) S (.ok v) (kD enB) := fun Q X hx q => by
  unfold semE isiT
  exact h _ X hx ⟨hk, by rw [hv]; exact q⟩
/-! list(range(..)), sorted(set(..)) -/
def rngI (lo hi : Int) : List Int := (List.range (hi - lo).toNat).map fun (k : Nat) => lo + (k : Int)
theorem rngP_I (lo hi : Int) : rngP lo hi = (rngI lo hi).map PyData.int := by
  unfold rngP rngI; rw [List.map_map]; rfl
@[irreducible] noncomputable def lrgR (n : Int) : Res (List Int) := lock (chkR (RgOk 0 n) (rngI 0 n))
@[irreducible] noncomputable def lrgR2 (i n : Int) : Res (List Int) := lock (chkR (RgOk i n) (rngI i n))
theorem lrgR_ok {n : Int} (h0 : 0 ≤ n) (h : n ≤ 16777216) : lrgR n = .ok (rngI 0 n) := by unfold lrgR; rw [lock_eq]; exact chkR_pos (RgOk.of_le (Int.le_refl _) h (by decide) h0)
theorem j_lrg1_ {os : Os} {m : Res γ} {f : γ → Int} (h : JO xn Γ EW os S m fun a => [kD enI (f a)]) : JE xn Γ EW (.lrg os) S (m.bind fun a => lrgR (f a)) (kOl enI) := fun Q X hx q => by
  unfold semE lrgT
  unfold lrgR at q; simp only [lock_eq] at q
  rw [wpR_bind] at q
  refine h _ X hx (wpR_mono q (fun a q => ?_) fun _ h => h)
  obtain ⟨h1, q⟩ := wpR_chk q
  exact ⟨h1, by rw [rngP_I]; exact q⟩
theorem j_lrg1 {os : Os} {m : Res γ} {f : γ → Int} (h : JO xn Γ EW os S m fun a => [kD enI (f a)]) {M0 : Res _} (hm : M0 = (m.bind fun a => lrgR (f a))) : JE xn Γ EW (.lrg os) S M0 (kOl enI) := by
  subst hm; exact j_lrg1_ h
def dedup (ns : List Int) : List Int := ns.foldl insS []
theorem mem_insS {ns : List Int} {n q : Int} : q ∈ insS ns n ↔ q ∈ ns ∨ q = n := by
  unfold insS
  split
  · constructor
    · exact .inl
    · rintro (h | rfl) <;> assumption
  · simp
theorem mem_dedup {ns : List Int} {q : Int} : q ∈ dedup ns ↔ q ∈ ns := by
  unfold dedup
  have : ∀ (ns acc : List Int), q ∈ ns.foldl insS acc ↔ q ∈ acc ∨ q ∈ ns := by
    intro ns
    induction ns with
    | nil => intro acc; simp
    | cons a r ih => intro acc; rw [List.foldl_cons, ih, mem_insS]; simp [or_assoc, or_comm, or_left_comm]
  simpa using this ns []
theorem insS_nodup {ns : List Int} {n : Int} (h : ns.Nodup) : (insS ns n).Nodup := by
  unfold insS
  split
  · exact h
  · rename_i m
    rw [List.nodup_append]
    exact ⟨h, by simp, fun a ha b hb e => by
      obtain rfl : b = n := by simpa using hb
      exact m (e ▸ ha)⟩
theorem dedup_nodup (ns : List Int) : (dedup ns).Nodup := by
  unfold dedup
  have : ∀ (ns acc : List Int), acc.Nodup → (ns.foldl insS acc).Nodup := by
    intro ns
    induction ns with
    | nil => intro acc h; exact h
    | cons a r ih => intro acc h; rw [List.foldl_cons]; exact ih _ (insS_nodup h)
  exact this ns [] List.nodup_nil
def sset (ns : List Int) : List Int := isort (dedup ns)
@[irreducible] noncomputable def ssetR (ns : List Int) : Res (List Int) := lock (chkR (ns.length < 64) (sset ns))
theorem ssetR_ok {ns : List Int} (h : ns.length < 64) : ssetR ns = .ok (sset ns) := by unfold ssetR; rw [lock_eq]; exact chkR_pos h
theorem sset_lt (ns : List Int) : (sset ns).Pairwise (· < ·) := isort_lt (dedup_nodup ns)
theorem mem_sset {ns : List Int} {q : Int} : q ∈ sset ns ↔ q ∈ ns := by unfold sset; rw [mem_isort, mem_dedup]
theorem j_sset_ {os : Os} {m : Res γ} {w : γ → W} {f : γ → List Int} (h : JO xn Γ EW os S m fun a => [w a]) (hw : ∀ a, asL (w a) = some ((f a).map PyData.int)) : JE xn Γ EW (.sset os) S (m.bind fun a => ssetR (f a)) (kOl enI) := fun Q X hx q => by
  unfold semE ssetT
  unfold ssetR at q; simp only [lock_eq] at q
  rw [wpR_bind] at q
  refine h _ X hx (wpR_mono q (fun a q => ?_) fun _ h => h)
  obtain ⟨h1, q⟩ := wpR_chk q
  simp only [hw]
  refine ⟨f a, rfl, h1, fun ms m1 m2 => ?_⟩
  have e : ms = sset (f a) := lt_ext m1 (sset_lt _) fun x => by rw [m2, mem_sset]
  rw [e]; exact q
theorem j_sset {os : Os} {m : Res γ} {w : γ → W} {f : γ → List Int} (h : JO xn Γ EW os S m fun a => [w a]) (hw : ∀ a, asL (w a) = some ((f a).map PyData.int)) {M0 : Res _} (hm : M0 = (m.bind fun a => ssetR (f a))) : JE xn Γ EW (.sset os) S M0 (kOl enI) := by
  subst hm; exact j_sset_ h hw
/-! ### sources -/
@[irreducible] noncomputable def rng1 (n : Int) : Res (List Int) := lock (chkR (-(2 ^ 62) ≤ n ∧ n < 2 ^ 62) (rngI 0 n))
@[irreducible] noncomputable def rng2 (i n : Int) : Res (List Int) := lock (chkR (-(2 ^ 62) ≤ i ∧ i < 2 ^ 62 ∧ -(2 ^ 62) ≤ n ∧ n < 2 ^ 62) (rngI i n))
theorem rng1_ok {n : Int} (h : -4611686018427387904 ≤ n ∧ n < 4611686018427387904) : rng1 n = .ok (rngI 0 n) := by unfold rng1; rw [lock_eq]; exact chkR_pos h
theorem rng2_ok {i n : Int} (h : -4611686018427387904 ≤ i ∧ i < 4611686018427387904) (h2 : -4611686018427387904 ≤ n ∧ n < 4611686018427387904) : rng2 i n = .ok (rngI i n) := by unfold rng2; rw [lock_eq]; exact chkR_pos ⟨h.1, h.2, h2.1, h2.2⟩
def itemsE : W → Option (List W)
  | .vl xs => some (xs.map W.d)
  | .vw ws => some ws
  | w => match fzW w with
    | some x => itemsD x
    | none => none
theorem items_go {w : W} {ws : List W} {K : List W → (WSt → Prop) → WSt → Prop} (q : K ws (fun _ => True) S) : itemsE w = some ws → (match w with
  | .vl xs => K (xs.map W.d) (fun _ => True) S
  | .vw ws => K ws (fun _ => True) S
  | w => match fzW w with
    | some x => (match itemsD x with
      | some ws => K ws (fun _ => True) S
      | none => False)
    | none => False) := by
  have go : ∀ o : Option PyData, (match o with
      | some x => itemsD x
      | none => none) = some ws → (match o with
      | some x => (match itemsD x with
        | some ws => K ws (fun _ => True) S
        | none => False)
      | none => False) := by
    intro o e
    cases o with
    | none => cases e
    | some x =>
      simp only at e ⊢
      rw [e]; exact q
  intro e
  cases w with
  | vl xs =>
    simp only [itemsE, Option.some.injEq] at e
    subst e; exact q
  | vw xs =>
    simp only [itemsE, Option.some.injEq] at e
    subst e; exact q
  | d x => exact go (fzW (W.d x)) e
  | vd x => exact go (fzW (W.vd x)) e
  | ol x => exact go (fzW (W.ol x)) e
  | od x => exact go (fzW (W.od x)) e
  | ow x => exact go (fzW (W.ow x)) e
  | tw x => exact go (fzW (W.tw x)) e
  | ins a b c => exact go (fzW (W.ins a b c)) e
theorem js_exp {e : E} {m : Res β} {k : β → W} {S' : β → WSt} {xs : β → List α} {kx : α → W} (h : JS xn Γ EW e S m k S') (hi : ∀ a, itemsE (k a) = some ((xs a).map kx)) : JSr xn Γ EW (.exp e) S m xs kx (fun _ _ => True) S' := fun K X hx q => by
  unfold semSr srcE
  refine h _ X hx (wpR_mono q (fun a q => ?_) fun _ h => h)
  exact items_go q (hi a)
theorem js_pl {i : Nat} {w : W} {xs : List α} {kx : α → W} (h : gt S i = some w) (hi : itemsW w = some (xs.map kx)) : JSr xn Γ EW (.pl i) S (.ok ()) (fun _ => xs) kx (fun _ => chkW i w) (fun _ => S) := fun K X hx q => by
  unfold semSr srcP
  rw [h]
  simp only [hi]
  exact q
theorem js_r1_ {os : Os} {m : Res γ} {f : γ → Int} (h : JO xn Γ EW os S m fun a => [kD enI (f a)]) : JSr xn Γ EW (.r1 os) S (m.bind fun a => rng1 (f a)) id (kD enI) (fun _ _ => True) (fun _ => S) := fun K X hx q => by
  unfold semSr srcR1
  unfold rng1 at q; simp only [lock_eq] at q
  rw [wpR_bind] at q
  refine h _ X hx (wpR_mono q (fun a q => ?_) fun _ h => h)
  obtain ⟨h1, q⟩ := wpR_chk q
  refine ⟨h1.1, h1.2, ?_⟩
  have e : rngW 0 (f a).toNat = (rngI 0 (f a)).map (kD enI) := by
    unfold rngW rngI
    rw [List.map_map, Int.sub_zero]; rfl
  rw [e]; exact q
theorem js_r1 {os : Os} {m : Res γ} {f : γ → Int} (h : JO xn Γ EW os S m fun a => [kD enI (f a)]) {M0 : Res _} (hm : M0 = (m.bind fun a => rng1 (f a))) : JSr xn Γ EW (.r1 os) S M0 id (kD enI) (fun _ _ => True) (fun _ => S) := by
  subst hm; exact js_r1_ h
theorem js_r2_ {os : Os} {m : Res γ} {f g : γ → Int} (h : JO xn Γ EW os S m fun a => [kD enI (f a), kD enI (g a)]) : JSr xn Γ EW (.r2 os) S (m.bind fun a => rng2 (f a) (g a)) id (kD enI) (fun _ _ => True) (fun _ => S) := fun K X hx q => by
  unfold semSr srcR2
  unfold rng2 at q; simp only [lock_eq] at q
  rw [wpR_bind] at q
  refine h _ X hx (wpR_mono q (fun a q => ?_) fun _ h => h)
  obtain ⟨h1, q⟩ := wpR_chk q
  refine ⟨h1, ?_⟩
  have e : rngW (f a) (g a - f a).toNat = (rngI (f a) (g a)).map (kD enI) := by
    unfold rngW rngI
    rw [List.map_map]; rfl
  rw [e]; exact q
theorem js_r2 {os : Os} {m : Res γ} {f g : γ → Int} (h : JO xn Γ EW os S m fun a => [kD enI (f a), kD enI (g a)]) {M0 : Res _} (hm : M0 = (m.bind fun a => rng2 (f a) (g a))) : JSr xn Γ EW (.r2 os) S M0 id (kD enI) (fun _ _ => True) (fun _ => S) := by
  subst hm; exact js_r2_ h
theorem itD_L (c : En α) (xs : List α) : itemsE (kD (enL c) xs) = some (xs.map (kD c)) := by
  show some ((xs.map c.e).map W.d) = _
  rw [List.map_map]; rfl
theorem itD_T (c : En α) (xs : List α) : itemsE (kD (enT c) xs) = some (xs.map (kD c)) := by
  show some ((xs.map c.e).map W.d) = _
  rw [List.map_map]; rfl
theorem itE_ol (c : En α) (xs : List α) : itemsE (kOl c xs) = some (xs.map (kD c)) := itD_L c xs
theorem itE_vl (c : En α) (xs : List α) : itemsE (kVl c xs) = some (xs.map (kD c)) := itD_L c xs
theorem itE_vw (k : α → W) (xs : List α) : itemsE (kVw k xs) = some (xs.map k) := rfl
theorem itE_ow {k : α → W} {c : En α} (h : ∀ a, fzW (k a) = some (c.e a)) (xs : List α) : itemsE (kOw k xs) = some (xs.map (kD c)) := by
  show (match fzW (kOw k xs) with
    | some x => itemsD x
    | none => none) = _
  rw [fz_ow h]
  exact itD_L c xs
theorem itW_L (c : En α) (xs : List α) : itemsW (kD (enL c) xs) = some (xs.map (kD c)) := itD_L c xs
theorem itW_T (c : En α) (xs : List α) : itemsW (kD (enT c) xs) = some (xs.map (kD c)) := itD_T c xs
theorem itW_ol (c : En α) (xs : List α) : itemsW (kOl c xs) = some (xs.map (kD c)) := itD_L c xs
theorem itW_vl (c : En α) (xs : List α) : itemsW (kVl c xs) = some (xs.map (kD c)) := itD_L c xs
theorem itW_vw (k : α → W) (xs : List α) : itemsW (kVw k xs) = some (xs.map k) := rfl
end
end MV

namespace MV
open PySem PySem.Spec PyProof.Rows L2
/-! ### comprehensions -/
/-- what may not raise -/
def ner {α : Type} (m : Res α) : Res α := match m with
  | .ok a => .ok a
  | .er _ => .no
  | .no => .no
@[simp] theorem ner_ok {α : Type} (a : α) : ner (.ok a) = .ok a := rfl
theorem wpR_ner {α : Type} {m : Res α} {P : α → Prop} {X : Xc → Prop} (h : wpR (ner m) P X) : wpR m P (fun _ => False) := by
  cases m with
  | ok a => exact h
  | er x => exact h
  | no => exact h
section
variable {xn : Xc → Exn} {Γ : Nat → Ct} {EW : EWs} {S : WSt} {α β γ δ : Type}
theorem compL_map {own : List Nat} {g : TGt} {e : E} {kx : α → W} {S : WSt} {Sx : α → WSt} {Sy : α → γ → WSt} {chk : WSt → Prop} {f : α → Res γ} {ke : γ → W} {c : En γ} (hg : ∀ x (K : WSt → Prop), K (Sx x) → g (kx x) S K) (he : ∀ x, JS xn Γ noEW e (Sx x) (f x) ke (Sy x)) (hf : ∀ y, fzW (ke y) = some (c.e y)) (hk : ∀ x y, kills own (Sy x y) = S) (hc : chk S) :
    ∀ (xs : List α) (acc : List γ) (Q : List PyData → WSt → Prop), wpR (mapC f xs acc) (fun r => Q (r.map c.e) S) (fun _ => False) → compL own g none (semE Γ e noEW) chk (xs.map kx) (acc.map c.e) S Q
  | [], acc, Q, q => q
  | x :: r, acc, Q, q => by
    unfold mapC at q
    rw [wpR_bind] at q
    rw [List.map_cons]
    unfold compL
    refine hg x _ (he x _ (fun _ => False) (fun _ h => h.elim) (wpR_mono q (fun y q => ?_) fun _ h => h))
    split at q
    · rename_i hl
      rw [hf, hk]
      refine ⟨by simpa using hl, hc, ?_⟩
      have := compL_map hg he hf hk hc r (acc ++ [y]) Q q
      rw [List.map_append] at this
      exact this
    · exact q.elim
theorem compL_fil {own : List Nat} {g : TGt} {e p : E} {kx : α → W} {S : WSt} {Sx : α → WSt} {Sy : α → γ → WSt} {chk : WSt → Prop} {f : α → Res γ} {pf : α → Res Bool} {ke : γ → W} {c : En γ} (hg : ∀ x (K : WSt → Prop), K (Sx x) → g (kx x) S K) (hp : ∀ x, JE xn Γ noEW p (Sx x) (pf x) (kD enB)) (he : ∀ x, JS xn Γ noEW e (Sx x) (f x) ke (Sy x)) (hf : ∀ y, fzW (ke y) = some (c.e y))
    (hk : ∀ x y, kills own (Sy x y) = S) (hk0 : ∀ x, kills own (Sx x) = S) (hc : chk S) :
    ∀ (xs : List α) (acc : List γ) (Q : List PyData → WSt → Prop), wpR (filC pf f xs acc) (fun r => Q (r.map c.e) S) (fun _ => False) → compL own g (some (semE Γ p noEW)) (semE Γ e noEW) chk (xs.map kx) (acc.map c.e) S Q
  | [], acc, Q, q => q
  | x :: r, acc, Q, q => by
    unfold filC at q
    rw [wpR_bind] at q
    rw [List.map_cons]
    unfold compL
    refine hg x _ (hp x _ (fun _ => False) (fun _ h => h.elim) (wpR_mono q (fun b q => ?_) fun _ h => h))
    cases b with
    | false =>
      refine ⟨by rw [hk0]; exact hc, ?_⟩
      rw [hk0]
      exact compL_fil hg hp he hf hk hk0 hc r acc Q q
    | true =>
      simp only [if_true] at q
      rw [wpR_bind] at q
      refine he x _ (fun _ => False) (fun _ h => h.elim) (wpR_mono q (fun y q => ?_) fun _ h => h)
      split at q
      · rename_i hl
        rw [hf, hk]
        refine ⟨by simpa using hl, hc, ?_⟩
        have := compL_fil hg hp he hf hk hk0 hc r (acc ++ [y]) Q q
        rw [List.map_append] at this
        exact this
      · exact q.elim
theorem j_map_ {own : List Nat} {tg : Tg} {sr : Sr} {e : E} {m : Res β} {xs : β → List α} {kx : α → W} {chk : β → WSt → Prop} {S1 S2 : WSt} {Sx : α → WSt} {Sy : α → γ → WSt} {f : α → Res γ} {ke : γ → W} (c : En γ) (hs : JSr xn Γ EW sr S m xs kx chk fun _ => S1) (hg : ∀ x (K : WSt → Prop), K (Sx x) → tg.sem (kx x) (kills own S1) K) (he : ∀ x, JS xn Γ noEW e (Sx x) (f x) ke (Sy x)) (hf : ∀ y, fzW (ke y) = some (c.e y))
    (hk : ∀ x y, kills own (Sy x y) = kills own S1) (hc : ∀ b, chk b (kills own S1)) (hr : rst own S1 (kills own S1) = S2) : JS xn Γ EW (.comp own tg sr .none e) S (m.bind fun b => ner (mapC f (xs b) [])) (kOl c) (fun _ => S2) := fun Q X hx q => by
  unfold semE compT
  rw [wpR_bind] at q
  refine hs _ X hx (wpR_mono q (fun b q => ?_) fun _ h => h)
  unfold semOe
  refine compL_map (c := c) hg he hf hk (hc b) (xs b) [] _ ?_
  rw [hr]
  exact wpR_ner q
theorem j_map {own : List Nat} {tg : Tg} {sr : Sr} {e : E} {m : Res β} {xs : β → List α} {kx : α → W} {chk : β → WSt → Prop} {S1 S2 : WSt} {Sx : α → WSt} {Sy : α → γ → WSt} {f : α → Res γ} {ke : γ → W} (c : En γ) (hs : JSr xn Γ EW sr S m xs kx chk fun _ => S1) (hg : ∀ x (K : WSt → Prop), K (Sx x) → tg.sem (kx x) (kills own S1) K) (he : ∀ x, JS xn Γ noEW e (Sx x) (f x) ke (Sy x)) (hf : ∀ y, fzW (ke y) = some (c.e y))
    (hk : ∀ x y, kills own (Sy x y) = kills own S1) (hc : ∀ b, chk b (kills own S1)) (hr : rst own S1 (kills own S1) = S2) {M0 : Res _} (hm : M0 = (m.bind fun b => ner (mapC f (xs b) []))) : JS xn Γ EW (.comp own tg sr .none e) S M0 (kOl c) (fun _ => S2) := by
  subst hm; exact j_map_ c hs hg he hf hk hc hr
theorem j_fil_ {own : List Nat} {tg : Tg} {sr : Sr} {e p : E} {m : Res β} {xs : β → List α} {kx : α → W} {chk : β → WSt → Prop} {S1 S2 : WSt} {Sx : α → WSt} {Sy : α → γ → WSt} {f : α → Res γ} {pf : α → Res Bool} {ke : γ → W} (c : En γ) (hs : JSr xn Γ EW sr S m xs kx chk fun _ => S1) (hg : ∀ x (K : WSt → Prop), K (Sx x) → tg.sem (kx x) (kills own S1) K) (hp : ∀ x, JE xn Γ noEW p (Sx x) (pf x) (kD enB)) (he : ∀ x, JS xn Γ noEW e (Sx x) (f x) ke (Sy x)) (hf : ∀ y, fzW (ke y) = some (c.e y))
    (hk : ∀ x y, kills own (Sy x y) = kills own S1) (hk0 : ∀ x, kills own (Sx x) = kills own S1) (hc : ∀ b, chk b (kills own S1)) (hr : rst own S1 (kills own S1) = S2) : JS xn Γ EW (.comp own tg sr (.some p) e) S (m.bind fun b => ner (filC pf f (xs b) [])) (kOl c) (fun _ => S2) := fun Q X hx q => by
  unfold semE compT
  rw [wpR_bind] at q
  refine hs _ X hx (wpR_mono q (fun b q => ?_) fun _ h => h)
  unfold semOe
  refine compL_fil (c := c) hg hp he hf hk hk0 (hc b) (xs b) [] _ ?_
  rw [hr]
  exact wpR_ner q
theorem j_fil {own : List Nat} {tg : Tg} {sr : Sr} {e p : E} {m : Res β} {xs : β → List α} {kx : α → W} {chk : β → WSt → Prop} {S1 S2 : WSt} {Sx : α → WSt} {Sy : α → γ → WSt} {f : α → Res γ} {pf : α → Res Bool} {ke : γ → W} (c : En γ) (hs : JSr xn Γ EW sr S m xs kx chk fun _ => S1) (hg : ∀ x (K : WSt → Prop), K (Sx x) → tg.sem (kx x) (kills own S1) K) (hp : ∀ x, JE xn Γ noEW p (Sx x) (pf x) (kD enB)) (he : ∀ x, JS xn Γ noEW e (Sx x) (f x) ke (Sy x)) (hf : ∀ y, fzW (ke y) = some (c.e y))
    (hk : ∀ x y, kills own (Sy x y) = kills own S1) (hk0 : ∀ x, kills own (Sx x) = kills own S1) (hc : ∀ b, chk b (kills own S1)) (hr : rst own S1 (kills own S1) = S2) {M0 : Res _} (hm : M0 = (m.bind fun b => ner (filC pf f (xs b) []))) : JS xn Γ EW (.comp own tg sr (.some p) e) S M0 (kOl c) (fun _ => S2) := by
  subst hm; exact j_fil_ c hs hg hp he hf hk hk0 hc hr
/-! things of one's own, in a list -/
theorem compLO_map {own : List Nat} {g : TGt} {e : E} {kx : α → W} {S : WSt} {Sx : α → WSt} {Sy : α → γ → WSt} {chk : WSt → Prop} {f : α → Res γ} {ke : γ → W} (hg : ∀ x (K : WSt → Prop), K (Sx x) → g (kx x) S K) (he : ∀ x, JS xn Γ noEW e (Sx x) (f x) ke (Sy x)) (hk : ∀ x y, kills own (Sy x y) = S) (hc : chk S) :
    ∀ (xs : List α) (acc : List γ) (Q : List W → WSt → Prop), wpR (mapC f xs acc) (fun r => Q (r.map ke) S) (fun _ => False) → compLO own g none (semE Γ e noEW) chk (xs.map kx) (acc.map ke) S Q
  | [], acc, Q, q => q
  | x :: r, acc, Q, q => by
    unfold mapC at q
    rw [wpR_bind] at q
    rw [List.map_cons]
    unfold compLO
    refine hg x _ (he x _ (fun _ => False) (fun _ h => h.elim) (wpR_mono q (fun y q => ?_) fun _ h => h))
    split at q
    · rename_i hl
      rw [hk]
      refine ⟨by simpa using hl, hc, ?_⟩
      have := compLO_map hg he hk hc r (acc ++ [y]) Q q
      rw [List.map_append] at this
      exact this
    · exact q.elim
theorem j_mapO_ {own : List Nat} {tg : Tg} {sr : Sr} {e : E} {m : Res β} {xs : β → List α} {kx : α → W} {chk : β → WSt → Prop} {S1 S2 : WSt} {Sx : α → WSt} {Sy : α → γ → WSt} {f : α → Res γ} {ke : γ → W} (hs : JSr xn Γ EW sr S m xs kx chk fun _ => S1) (hg : ∀ x (K : WSt → Prop), K (Sx x) → tg.sem (kx x) (kills own S1) K) (he : ∀ x, JS xn Γ noEW e (Sx x) (f x) ke (Sy x))
    (hk : ∀ x y, kills own (Sy x y) = kills own S1) (hc : ∀ b, chk b (kills own S1)) (hr : rst own S1 (kills own S1) = S2) : JS xn Γ EW (.compO own tg sr .none e) S (m.bind fun b => ner (mapC f (xs b) [])) (kOw ke) (fun _ => S2) := fun Q X hx q => by
  unfold semE compOT
  rw [wpR_bind] at q
  refine hs _ X hx (wpR_mono q (fun b q => ?_) fun _ h => h)
  unfold semOe
  refine compLO_map hg he hk (hc b) (xs b) [] _ ?_
  rw [hr]
  exact wpR_ner q
theorem j_mapO {own : List Nat} {tg : Tg} {sr : Sr} {e : E} {m : Res β} {xs : β → List α} {kx : α → W} {chk : β → WSt → Prop} {S1 S2 : WSt} {Sx : α → WSt} {Sy : α → γ → WSt} {f : α → Res γ} {ke : γ → W} (hs : JSr xn Γ EW sr S m xs kx chk fun _ => S1) (hg : ∀ x (K : WSt → Prop), K (Sx x) → tg.sem (kx x) (kills own S1) K) (he : ∀ x, JS xn Γ noEW e (Sx x) (f x) ke (Sy x))
    (hk : ∀ x y, kills own (Sy x y) = kills own S1) (hc : ∀ b, chk b (kills own S1)) (hr : rst own S1 (kills own S1) = S2) {M0 : Res _} (hm : M0 = (m.bind fun b => ner (mapC f (xs b) []))) : JS xn Γ EW (.compO own tg sr .none e) S M0 (kOw ke) (fun _ => S2) := by
  subst hm; exact j_mapO_ hs hg he hk hc hr
/-! ### calls -/
theorem jc_nil : JC xn Γ EW .nil S (.ok ()) (fun _ => []) (fun _ => S) := fun Q X hx h => by unfold semC; exact h
theorem jc_pl {i : Nat} {w : W} {r : Cs} {m : Res β} {ts : β → List Tm} {S' : β → WSt} (h : gt S i = some w) (hr : JC xn Γ EW r S m ts S') : JC xn Γ EW (.pl i r) S m (fun b => .pl i :: ts b) S' := fun Q X hx q => by
  unfold semC plC
  rw [h]
  exact hr _ X hx q
theorem jc_p {e : E} {a : α} {k : α → W} {r : Cs} {m : Res β} {ts : β → List Tm} {S' : β → WSt} (h : JE xn Γ EW e S (.ok a) k) (hr : JC xn Γ EW r S m ts S') : JC xn Γ EW (.ex e r) S m (fun b => .w (k a) :: ts b) S' := fun Q X hx q => by
  unfold semC
  exact h _ X hx (hr _ X hx q)
theorem jc_m {e : E} {m : Res α} {k : α → W} {r : Cs} {ts : List Tm} (h : JE xn Γ EW e S m k) (hr : JC xn Γ EW r S (.ok ()) (fun _ => ts) (fun _ => S)) : JC xn Γ EW (.ex e r) S m (fun a => .w (k a) :: ts) (fun _ => S) := fun Q X hx q => by
  unfold semC
  refine h _ X hx (wpR_mono q (fun a q => ?_) fun _ h => h)
  exact hr _ X hx q
theorem jc_mm_ {e : E} {m : Res α} {k : α → W} {r : Cs} {m2 : α → Res β} {ts : α → β → List Tm} (h : JE xn Γ EW e S m k) (hr : ∀ a, JC xn Γ EW r S (m2 a) (ts a) (fun _ => S)) : JC xn Γ EW (.ex e r) S (m.bind fun a => (m2 a).bind fun b => .ok (a, b)) (fun p => .w (k p.1) :: ts p.1 p.2) (fun _ => S) := fun Q X hx q => by
  unfold semC
  rw [wpR_bind] at q
  refine h _ X hx (wpR_mono q (fun a q => ?_) fun _ h => h)
  rw [wpR_bind] at q
  exact hr a _ X hx q
theorem jc_mm {e : E} {m : Res α} {k : α → W} {r : Cs} {m2 : α → Res β} {ts : α → β → List Tm} (h : JE xn Γ EW e S m k) (hr : ∀ a, JC xn Γ EW r S (m2 a) (ts a) (fun _ => S)) {M0 : Res _} (hm : M0 = (m.bind fun a => (m2 a).bind fun b => .ok (a, b))) : JC xn Γ EW (.ex e r) S M0 (fun p => .w (k p.1) :: ts p.1 p.2) (fun _ => S) := by
  subst hm; exact jc_mm_ h hr
/-- with a change of the slots, which no exception behind it sees -/
theorem jc_s {e : E} {a : α} {k : α → W} {r : Cs} {ts : List Tm} {S1 S2 : WSt} (h : JS xn Γ EW e S (.ok a) k (fun _ => S1)) (hr : JC xn Γ EW r S1 (.ok ()) (fun _ => ts) (fun _ => S2)) : JC xn Γ EW (.ex e r) S (.ok ()) (fun _ => .w (k a) :: ts) (fun _ => S2) := fun Q X hx q => by
  unfold semC
  exact h _ X hx (hr _ (fun _ => False) (fun _ h => h.elim) q)
end
section
variable {S S' : WSt} {ms : List AK} {ts : List Tm} {ws : List W} {w w' : W} {x : PyData} {i : Nat}
theorem ia_nil : inArgs [] [] S S' = some [] := rfl
theorem ia_dw (r : inArgs ms ts S S' = some ws) : inArgs (.dat :: ms) (.w (.d x) :: ts) S S' = some (.d x :: ws) := by unfold inArgs; rw [r]; rfl
theorem ia_dp (h : gt S' i = some (.d x)) (r : inArgs ms ts S S' = some ws) : inArgs (.dat :: ms) (.pl i :: ts) S S' = some (.d x :: ws) := by unfold inArgs; rw [h]; simp only; rw [r]; rfl
theorem ia_vw (h : cvV w = some w') (r : inArgs ms ts S S' = some ws) : inArgs (.vw :: ms) (.w w :: ts) S S' = some (w' :: ws) := by unfold inArgs; rw [h, r]
theorem ia_vp (h : gt S' i = some w) (c : cvV w = some w') (r : inArgs ms ts S S' = some ws) : inArgs (.vw :: ms) (.pl i :: ts) S S' = some (w' :: ws) := by unfold inArgs; rw [h]; simp only; rw [c, r]
theorem ia_io (h : gt S i = some w) (r : inArgs ms ts (st S i none) S' = some ws) : inArgs (.io :: ms) (.pl i :: ts) S S' = some (w :: ws) := by unfold inArgs; rw [h, r]
end
section
variable {xn : Xc → Exn} {Γ : Nat → Ct} {EW : EWs} {S : WSt} {α β γ δ : Type}
/-- what a contract promises of a call -/
def CtF (xn : Xc → Exn) (ct : Ct) (ws : List W) (m : Res α) (k : α → W) (l : α → WSt) (lx : WSt) : Prop := ∀ R RE, wpR m (fun a => R (k a) (l a)) (fun x => RE (xn x) lx) → ct ws R RE
/-- nothing lent -/
theorem j_call_ {j : Nat} {ms : List AK} {cs : Cs} {ct : Ct} {m : Res α} {ts : α → List Tm} {ws : α → List W} {fm : α → Res β} {k : β → W} {l lx : WSt} (hΓ : Γ j = ct) (jc : JC xn Γ EW cs S m ts fun _ => S) (ho : ∀ a, outIo ms (ts a) S = S) (hi : ∀ a, inArgs ms (ts a) S S = some (ws a)) (hf : ∀ a, CtF xn ct (ws a) (fm a) k (fun _ => l) lx)
    (hv : ∀ b, noV (k b) = true) (hl : noVo l = true) (hlx : noVo lx = true) (hb : ∀ a, backIo ms (ts a) l S = S) (hbx : ∀ a, backIo ms (ts a) lx S = S) : JE xn Γ EW (.call j ms cs) S (m.bind fm) k := fun Q X hx q => by
  unfold semE callT
  rw [wpR_bind] at q
  refine jc _ X hx (wpR_mono q (fun a q => ?_) fun _ h => h)
  rw [ho, hi]
  simp only [hΓ]
  refine hf a _ _ (wpR_mono q (fun b q => ⟨hv b, hl, by rw [hb]; exact q⟩) fun x h => ⟨hlx, by rw [hbx]; exact hx x h⟩)
theorem j_call {j : Nat} {ms : List AK} {cs : Cs} {ct : Ct} {m : Res α} {ts : α → List Tm} {ws : α → List W} {fm : α → Res β} {k : β → W} {l lx : WSt} (hΓ : Γ j = ct) (jc : JC xn Γ EW cs S m ts fun _ => S) (ho : ∀ a, outIo ms (ts a) S = S) (hi : ∀ a, inArgs ms (ts a) S S = some (ws a)) (hf : ∀ a, CtF xn ct (ws a) (fm a) k (fun _ => l) lx)
    (hv : ∀ b, noV (k b) = true) (hl : noVo l = true) (hlx : noVo lx = true) (hb : ∀ a, backIo ms (ts a) l S = S) (hbx : ∀ a, backIo ms (ts a) lx S = S) {M0 : Res _} (hm : M0 = (m.bind fm)) : JE xn Γ EW (.call j ms cs) S M0 k := by
  subst hm; exact j_call_ hΓ jc ho hi hf hv hl hlx hb hbx
/-- with what is lent; where it raises, the slots are as they were -/
theorem j_callS_ {j : Nat} {ms : List AK} {cs : Cs} {ct : Ct} {m : Res α} {ts : α → List Tm} {S1 So Sx : WSt} {ws : α → List W} {fm : α → Res β} {k : β → W} {l : β → WSt} {lx : WSt} {S' : β → WSt} (hΓ : Γ j = ct) (jc : JC xn Γ EW cs S m ts fun _ => S1) (ho : ∀ a, outIo ms (ts a) S1 = So) (hi : ∀ a, inArgs ms (ts a) S1 So = some (ws a)) (hf : ∀ a, CtF xn ct (ws a) (fm a) k l lx)
    (hv : ∀ b, noV (k b) = true) (hl : ∀ b, noVo (l b) = true) (hlx : noVo lx = true) (hb : ∀ a b, backIo ms (ts a) (l b) So = S' b) (hbx : ∀ a, backIo ms (ts a) lx So = Sx) (hX : ∀ X, XS xn EW X S → XS xn EW X Sx) : JS xn Γ EW (.call j ms cs) S (m.bind fm) k S' := fun Q X hx q => by
  unfold semE callT
  rw [wpR_bind] at q
  refine jc _ X hx (wpR_mono q (fun a q => ?_) fun _ h => h)
  rw [ho, hi]
  simp only [hΓ]
  refine hf a _ _ (wpR_mono q (fun b q => ⟨hv b, hl b, by rw [hb]; exact q⟩) fun x h => ⟨hlx, by rw [hbx]; exact hX X hx x h⟩)
theorem j_callS {j : Nat} {ms : List AK} {cs : Cs} {ct : Ct} {m : Res α} {ts : α → List Tm} {S1 So Sx : WSt} {ws : α → List W} {fm : α → Res β} {k : β → W} {l : β → WSt} {lx : WSt} {S' : β → WSt} (hΓ : Γ j = ct) (jc : JC xn Γ EW cs S m ts fun _ => S1) (ho : ∀ a, outIo ms (ts a) S1 = So) (hi : ∀ a, inArgs ms (ts a) S1 So = some (ws a)) (hf : ∀ a, CtF xn ct (ws a) (fm a) k l lx)
    (hv : ∀ b, noV (k b) = true) (hl : ∀ b, noVo (l b) = true) (hlx : noVo lx = true) (hb : ∀ a b, backIo ms (ts a) (l b) So = S' b) (hbx : ∀ a, backIo ms (ts a) lx So = Sx) (hX : ∀ X, XS xn EW X S → XS xn EW X Sx) {M0 : Res _} (hm : M0 = (m.bind fm)) : JS xn Γ EW (.call j ms cs) S M0 k S' := by
  subst hm; exact j_callS_ hΓ jc ho hi hf hv hl hlx hb hbx hX
end
/-- from what a result satisfies -/
def Sim {α : Type} (M : Res α) (P : α → Prop) (X : Xc → Prop) (T : Prop) : Prop := wpR M P X → T
/-! ### statements -/
section
variable {xn : Xc → Exn} {Γ : Nat → Ct} {EW : EWs} {S : WSt} {α β γ δ τ ρ ε : Type} {D : WD} {r : B} {P : ε → Prop} {X : Xc → Prop} {M : Res ε}
theorem b_end {t : ε} (h : P t → D.nx S) : Sim (.ok t) P X (semB Γ EW .nil D S) := fun q => by unfold semB; exact h q
theorem b_go (h : Sim M P X (D.nx S)) : Sim M P X (semB Γ EW .nil D S) := fun q => by unfold semB; exact h q
theorem b_kil {is : List Nat} (S' : WSt) (e : kills is S = S') (h : Sim M P X (semB Γ EW r D S')) : Sim M P X (semB Γ EW (.kil is r) D S) := fun q => by unfold semB; rw [e]; exact h q
theorem b_frz {i : Nat} {w : W} {x : PyData} (h : gt S i = some w) (e : fzW w = some x) {S' : WSt} (hS : st S i (some (.d x)) = S') (K : Sim M P X (semB Γ EW r D S')) : Sim M P X (semB Γ EW (.frz i r) D S) := fun q => by
  unfold semB
  simp only [h, e, hS]
  exact K q
theorem b_set {i : Nat} {e : E} {m : Res α} {k : α → W} {S' : α → WSt} {f : α → Res ε} (j : JS xn Γ EW e S m k S') (hx : XS xn EW X S) (hm : M = Res.bind m f) (K : ∀ a, Sim (f a) P X (semB Γ EW r D (st (S' a) i (some (k a))))) : Sim M P X (semB Γ EW (.cons (.set i e) r) D S) := fun q => by
  subst hm
  rw [wpR_bind] at q
  unfold semB seqT semT setT
  exact j _ X hx (wpR_mono q (fun a q => K a q) fun _ h => h)
theorem b_setc {i : Nat} {e : E} {m : Res α} {k : α → W} {S' : α → WSt} {f : α → Res ε} (j : JS xn Γ EW e S m k S') (hx : XS xn EW X S) (hm : M = Res.bind m f) (K : ∀ a, Sim (f a) P X (semB Γ EW r D (st (S' a) i (some (k a))))) : Sim M P X (semB Γ EW (.cons (.setc i e) r) D S) := fun q => by
  subst hm
  rw [wpR_bind] at q
  unfold semB seqT semT setT
  exact j _ X hx (wpR_mono q (fun a q => K a q) fun _ h => h)
theorem b_asg {is : List Nat} {e : E} {m : Res α} {k : α → W} {S' : α → WSt} {f : α → Res ε} {ws : α → List W} (j : JS xn Γ EW e S m k S') (hp : ∀ a, partsW (k a) = some (ws a) ∧ (ws a).length = is.length) (hx : XS xn EW X S) (hm : M = Res.bind m f) (K : ∀ a, Sim (f a) P X (semB Γ EW r D (stAll is (ws a) (S' a)))) : Sim M P X (semB Γ EW (.cons (.asg is e) r) D S) := fun q => by
  subst hm
  rw [wpR_bind] at q
  unfold semB seqT semT asgT
  refine j _ X hx (wpR_mono q (fun a q => ?_) fun _ h => h)
  unfold tupG
  rw [(hp a).1]
  exact ⟨(hp a).2, K a q⟩
theorem b_expr {e : E} {m : Res α} {k : α → W} {S' : α → WSt} {f : α → Res ε} (j : JS xn Γ EW e S m k S') (hx : XS xn EW X S) (hm : M = Res.bind m f) (K : ∀ a, Sim (f a) P X (semB Γ EW r D (S' a))) : Sim M P X (semB Γ EW (.cons (.expr e) r) D S) := fun q => by
  subst hm
  rw [wpR_bind] at q
  unfold semB seqT semT exprT
  exact j _ X hx (wpR_mono q (fun a q => K a q) fun _ h => h)
theorem b_put {i : Nat} {kk v : E} {w : W} {mv : Res α} {kv : α → W} {mk : Res β} {kk' : β → W} {x : β → PyData} {m2 : α → β → Res γ} {k2 : γ → W} {f : γ → Res ε} (h : gt S i = some w) (jv : JE xn Γ EW v S mv kv) (jk : JE xn Γ EW kk S mk kk') (hk : ∀ b, rdW (kk' b) = some (x b)) (o : ∀ a b, OpP w (x b) (kv a) (m2 a b) k2) (hx : XS xn EW X S) (hm : M = Res.bind mv fun a => Res.bind mk fun b => Res.bind (m2 a b) f)
    (K : ∀ c, wpR (f c) P X → semB Γ EW r D (st S i (some (k2 c)))) : Sim M P X (semB Γ EW (.cons (.put i kk v) r) D S) := fun q => by
  subst hm
  rw [wpR_bind] at q
  unfold semB seqT semT putT
  refine jv _ X hx (wpR_mono q (fun a q => ?_) fun _ h => h)
  rw [wpR_bind] at q
  rw [h]
  refine jk _ X hx (wpR_mono q (fun b q => ?_) fun _ h => h)
  rw [wpR_bind] at q
  rw [h, hk]
  exact (o a b).use (X := X) (wpR_mono q (fun c q => K c q) fun _ h => h)
/-- with a value and a place that are there -/
theorem b_putP {i : Nat} {kk v : E} {w : W} {a : α} {kv : α → W} {b : β} {kk' : β → W} {x : PyData} {m2 : Res γ} {k2 : γ → W} {f : γ → Res ε} (h : gt S i = some w) (jv : JE xn Γ EW v S (.ok a) kv) (jk : JE xn Γ EW kk S (.ok b) kk') (hk : rdW (kk' b) = some x) (o : OpP w x (kv a) m2 k2) (hx : XS xn EW X S) (hm : M = Res.bind m2 f)
    (K : ∀ c, Sim (f c) P X (semB Γ EW r D (st S i (some (k2 c))))) : Sim M P X (semB Γ EW (.cons (.put i kk v) r) D S) := fun q => by
  subst hm
  rw [wpR_bind] at q
  unfold semB seqT semT putT
  refine jv _ X hx ?_
  simp only [wpR, h]
  refine jk _ X hx ?_
  simp only [wpR, h, hk]
  exact o.use (X := X) (wpR_mono q (fun c q => K c q) fun _ h => h)
theorem b_ret {e : E} {m : Res α} {k : α → W} {S' : α → WSt} {f : α → Res ε} (j : JS xn Γ EW e S m k S') (hx : XS xn EW X S) (hm : M = Res.bind m f) (K : ∀ a, Sim (f a) P X (D.rt (k a) (S' a))) : Sim M P X (semB Γ EW (.cons (.ret e) r) D S) := fun q => by
  subst hm
  rw [wpR_bind] at q
  unfold semB seqT semT retT
  exact j _ X hx (wpR_mono q (fun a q => K a q) fun _ h => h)
theorem b_retN (K : Sim M P X (D.rt (.d .none) S)) : Sim M P X (semB Γ EW (.cons .retN r) D S) := fun q => by
  unfold semB seqT semT retNT
  exact K q
theorem b_pass (K : Sim M P X (semB Γ EW r D S)) : Sim M P X (semB Γ EW (.cons .pass r) D S) := fun q => by
  unfold semB seqT semT
  exact K q
theorem b_brk (K : Sim M P X (D.bk S)) : Sim M P X (semB Γ EW (.cons .brk r) D S) := fun q => by
  unfold semB seqT semT
  exact K q
/-- if, one way out of it at most -/
theorem b_if {c : E} {b1 b2 : B} {m : Res Bool} {A B' : Res ε} (j : JE xn Γ EW c S m (kD enB)) (hx : XS xn EW X S) (hm : M = Res.bind m fun b => ifR b A B') (h1 : Sim A P X (semB Γ EW b1 { D with nx := semB Γ EW r D } S)) (h2 : Sim B' P X (semB Γ EW b2 { D with nx := semB Γ EW r D } S)) : Sim M P X (semB Γ EW (.cons (.ifs c b1 b2) r) D S) := fun q => by
  subst hm
  rw [wpR_bind] at q
  unfold semB seqT semT ifT tst
  refine j _ X hx (wpR_mono q (fun b q => ?_) fun _ h => h)
  cases b with
  | true => exact h1 q
  | false => exact h2 q
/-- if, both ways going on -/
theorem b_ifN {c : E} {b1 b2 : B} {m : Res Bool} {A B' : Res τ} {f : τ → Res ε} (St : τ → WSt) (j : JE xn Γ EW c S m (kD enB)) (hx : XS xn EW X S) (hm : M = Res.bind (Res.bind m fun b => ifR b A B') f) (h1 : ∀ (N : WSt → Prop) (P' : τ → Prop), (∀ t, P' t → N (St t)) → Sim A P' X (semB Γ EW b1 { D with nx := N } S)) (h2 : ∀ (N : WSt → Prop) (P' : τ → Prop), (∀ t, P' t → N (St t)) → Sim B' P' X (semB Γ EW b2 { D with nx := N } S))
    (K : ∀ t, Sim (f t) P X (semB Γ EW r D (St t))) : Sim M P X (semB Γ EW (.cons (.ifs c b1 b2) r) D S) := fun q => by
  subst hm
  rw [wpR_bind, wpR_bind] at q
  unfold semB seqT semT ifT tst
  refine j _ X hx (wpR_mono q (fun b q => ?_) fun _ h => h)
  cases b with
  | true => exact h1 _ _ K q
  | false => exact h2 _ _ K q
/-- if, with ways out -/
theorem b_ifC {c : E} {b1 b2 : B} {m : Res Bool} {A B' : Res (τ ⊕ ρ)} {f : τ ⊕ ρ → Res ε} (St : τ → WSt) (Pr : ρ → Prop) (j : JE xn Γ EW c S m (kD enB)) (hx : XS xn EW X S) (hm : M = Res.bind (Res.bind m fun b => ifR b A B') f) (hr : ∀ v, wpR (f (.inr v)) P X → Pr v)
    (h1 : ∀ (N : WSt → Prop) (P' : τ ⊕ ρ → Prop), (∀ t, P' (.inl t) → N (St t)) → (∀ v, P' (.inr v) → Pr v) → Sim A P' X (semB Γ EW b1 { D with nx := N } S)) (h2 : ∀ (N : WSt → Prop) (P' : τ ⊕ ρ → Prop), (∀ t, P' (.inl t) → N (St t)) → (∀ v, P' (.inr v) → Pr v) → Sim B' P' X (semB Γ EW b2 { D with nx := N } S))
    (K : ∀ t, Sim (f (.inl t)) P X (semB Γ EW r D (St t))) : Sim M P X (semB Γ EW (.cons (.ifs c b1 b2) r) D S) := fun q => by
  subst hm
  rw [wpR_bind, wpR_bind] at q
  unfold semB seqT semT ifT tst
  refine j _ X hx (wpR_mono q (fun b q => ?_) fun _ h => h)
  cases b with
  | true => exact h1 _ (fun z => wpR (f z) P X) K hr q
  | false => exact h2 _ (fun z => wpR (f z) P X) K hr q
/-! for -/
theorem forL_M {g : TGt} {tb : TSt} {chk : WSt → Prop} {kx : α → W} {St : τ → WSt} {f : α → τ → Res τ} {Sx : α → τ → WSt} (hg : ∀ x t (K : WSt → Prop), K (Sx x t) → g (kx x) (St t) K) (hc : ∀ t, chk (St t)) (hb : ∀ x t (N : WSt → Prop) (P' : τ → Prop), (∀ t, P' t → N (St t)) → wpR (f x t) P' X → tb { D with nx := N, ct := N, bk := D.nx } (Sx x t)) :
    ∀ (xs : List α) (t : τ), wpR (forM xs t f) (fun t => D.nx (St t)) X → forL g tb chk (xs.map kx) D (St t)
  | [], t, q => q
  | x :: r, t, q => by
    unfold forM at q
    rw [wpR_bind] at q
    rw [List.map_cons]
    unfold forL
    refine ⟨hc t, hg x t _ (hb x t _ (fun t => wpR (forM r t f) (fun t => D.nx (St t)) X) (fun t q => ⟨hc t, forL_M hg hc hb r t q⟩) q)⟩
theorem forL_C {g : TGt} {tb : TSt} {chk : WSt → Prop} {kx : α → W} {St : τ → WSt} {f : α → τ → Res (Ctl τ ρ)} {Sx : α → τ → WSt} {Pr : ρ → Prop} (hg : ∀ x t (K : WSt → Prop), K (Sx x t) → g (kx x) (St t) K) (hc : ∀ t, chk (St t)) (hb : ∀ x t (N : WSt → Prop) (P' : Ctl τ ρ → Prop), (∀ t, P' (.nx t) → N (St t)) → (∀ t, P' (.bk t) → D.nx (St t)) → (∀ v, P' (.rt v) → Pr v) → wpR (f x t) P' X → tb { D with nx := N, ct := N, bk := D.nx } (Sx x t)) :
    ∀ (xs : List α) (t : τ), wpR (forC xs t f) (fun z => match z with
      | .inl t => D.nx (St t)
      | .inr v => Pr v) X → forL g tb chk (xs.map kx) D (St t)
  | [], t, q => q
  | x :: r, t, q => by
    unfold forC at q
    rw [wpR_bind] at q
    rw [List.map_cons]
    unfold forL
    refine ⟨hc t, hg x t _ (hb x t _ (fun c => wpR (match c with
      | .nx t => forC r t f
      | .bk t => .ok (.inl t)
      | .rt v => .ok (.inr v)) (fun z => match z with
      | .inl t => D.nx (St t)
      | .inr v => Pr v) X) (fun t q => ⟨hc t, forL_C hg hc hb r t q⟩) (fun t q => q) (fun v q => q) q)⟩
theorem b_for {tg : Tg} {sr : Sr} {b : B} {m : Res β} {xs : β → List α} {kx : α → W} {chk : β → WSt → Prop} {S1 : β → WSt} {f : α → τ → Res τ} {F : τ → Res ε} {Sx : α → τ → WSt} (St : τ → WSt) (t0 : β → τ) (js : JSr xn Γ EW sr S m xs kx chk S1) (hx : XS xn EW X S) (hm : M = Res.bind m fun a => Res.bind (forM (xs a) (t0 a) f) F) (hS : ∀ a, S1 a = St (t0 a)) (hg : ∀ x t (K : WSt → Prop), K (Sx x t) → tg.sem (kx x) (St t) K) (hc : ∀ a t, chk a (St t))
    (hb : ∀ x t (D : WD) (N : WSt → Prop) (P' : τ → Prop), (∀ t, P' t → N (St t)) → Sim (f x t) P' X (semB Γ EW b { D with nx := N } (Sx x t))) (K : ∀ t, Sim (F t) P X (semB Γ EW r D (St t))) : Sim M P X (semB Γ EW (.cons (.fors tg sr b) r) D S) := fun q => by
  subst hm
  rw [wpR_bind] at q
  unfold semB seqT semT forS
  refine js _ X hx (wpR_mono q (fun a q => ?_) fun _ h => h)
  rw [wpR_bind] at q
  rw [hS]
  refine forL_M hg (hc a) (fun x t N P' h1 h2 => hb x t { D with nx := N, ct := N, bk := semB Γ EW r D } N P' h1 h2) (xs a) (t0 a) (wpR_mono q K fun _ h => h)
theorem b_forC {tg : Tg} {sr : Sr} {b : B} {m : Res β} {xs : β → List α} {kx : α → W} {chk : β → WSt → Prop} {S1 : β → WSt} {f : α → τ → Res (Ctl τ ρ)} {F : τ ⊕ ρ → Res ε} {Sx : α → τ → WSt} (St : τ → WSt) (t0 : β → τ) (Pr : ρ → Prop) (js : JSr xn Γ EW sr S m xs kx chk S1) (hx : XS xn EW X S) (hm : M = Res.bind m fun a => Res.bind (forC (xs a) (t0 a) f) F) (hS : ∀ a, S1 a = St (t0 a)) (hg : ∀ x t (K : WSt → Prop), K (Sx x t) → tg.sem (kx x) (St t) K) (hc : ∀ a t, chk a (St t)) (hr : ∀ v, wpR (F (.inr v)) P X → Pr v)
    (hb : ∀ x t (N B' : WSt → Prop) (P' : Ctl τ ρ → Prop), (∀ t, P' (.nx t) → N (St t)) → (∀ t, P' (.bk t) → B' (St t)) → (∀ v, P' (.rt v) → Pr v) → Sim (f x t) P' X (semB Γ EW b { D with nx := N, ct := N, bk := B' } (Sx x t))) (K : ∀ t, Sim (F (.inl t)) P X (semB Γ EW r D (St t))) : Sim M P X (semB Γ EW (.cons (.fors tg sr b) r) D S) := fun q => by
  subst hm
  rw [wpR_bind] at q
  unfold semB seqT semT forS
  refine js _ X hx (wpR_mono q (fun a q => ?_) fun _ h => h)
  rw [wpR_bind] at q
  rw [hS]
  refine forL_C (Pr := Pr) hg (hc a) (fun x t N P' h1 h2 h3 h4 => hb x t N (semB Γ EW r D) P' h1 h2 h3 h4) (xs a) (t0 a) (wpR_mono q (fun z q => ?_) fun _ h => h)
  cases z with
  | inl t => exact K t q
  | inr v => exact hr v q
/-! while -/
theorem whileC_wp {c : τ → Res Bool} {f : τ → Res (Ctl τ ρ)} {t : τ} {P : τ ⊕ ρ → Prop} {X : Xc → Prop} (h : wpR (whileC c f t) P X) : ∃ n r, whN' c f n t = some r ∧ wpR r P X := by
  by_cases e : ∃ n r, whN' c f n t = some r
  · obtain ⟨n, r, e⟩ := e
    rw [whileC_of e] at h
    exact ⟨n, r, e, h⟩
  · unfold whileC at h
    rw [dif_neg e] at h
    exact h.elim
theorem whN_C {ce : E} {tb : TSt} {St : τ → WSt} {c : τ → Res Bool} {f : τ → Res (Ctl τ ρ)} {Pr : ρ → Prop} (hx : ∀ t, XS xn EW X (St t)) (hc : ∀ t, JE xn Γ EW ce (St t) (c t) (kD enB)) (hb : ∀ t (N : WSt → Prop) (P' : Ctl τ ρ → Prop), (∀ t, P' (.nx t) → N (St t)) → (∀ t, P' (.bk t) → D.nx (St t)) → (∀ v, P' (.rt v) → Pr v) → wpR (f t) P' X → tb { D with nx := N, ct := N, bk := D.nx } (St t)) :
    ∀ (n : Nat) (t : τ) (z : Res (τ ⊕ ρ)), whN' c f n t = some z → wpR z (fun z => match z with
      | .inl t => D.nx (St t)
      | .inr v => Pr v) X → whN (semE Γ ce EW) tb D n (St t)
  | 0, _, _, e, _ => by cases e
  | n + 1, t, z, e, q => by
    unfold whN' at e
    unfold whN tst
    refine hc t _ X (hx t) ?_
    cases h : c t with
    | ok b =>
      rw [h] at e
      cases b with
      | false =>
        obtain rfl := Option.some.inj e
        exact q
      | true =>
        simp only at e
        show tb { D with nx := whN (semE Γ ce EW) tb D n, ct := whN (semE Γ ce EW) tb D n, bk := D.nx } (St t)
        refine hb t _ (fun y => match y with
          | .nx t' => ∃ z, whN' c f n t' = some z ∧ wpR z (fun z => match z with
            | .inl t => D.nx (St t)
            | .inr v => Pr v) X
          | .bk t' => D.nx (St t')
          | .rt v => Pr v) (fun t' ⟨z, e, q⟩ => whN_C hx hc hb n t' z e q) (fun _ q => q) (fun _ q => q) ?_
        cases h2 : f t with
        | ok y =>
          rw [h2] at e
          cases y with
          | nx t' => exact ⟨z, e, q⟩
          | bk t' =>
            obtain rfl := Option.some.inj e
            exact q
          | rt v =>
            obtain rfl := Option.some.inj e
            exact q
        | er x =>
          rw [h2] at e
          obtain rfl := Option.some.inj e
          exact q
        | no =>
          rw [h2] at e
          obtain rfl := Option.some.inj e
          exact q
    | er x =>
      rw [h] at e
      obtain rfl := Option.some.inj e
      exact q
    | no =>
      rw [h] at e
      obtain rfl := Option.some.inj e
      exact q
theorem b_whileC {ce : E} {b : B} {c : τ → Res Bool} {f : τ → Res (Ctl τ ρ)} {F : τ ⊕ ρ → Res ε} (St : τ → WSt) (t0 : τ) (Pr : ρ → Prop) (hx : ∀ t, XS xn EW X (St t)) (hc : ∀ t, JE xn Γ EW ce (St t) (c t) (kD enB)) (hm : M = Res.bind (whileC c f t0) F) (hS : S = St t0) (hr : ∀ v, wpR (F (.inr v)) P X → Pr v)
    (hb : ∀ t (N B' : WSt → Prop) (P' : Ctl τ ρ → Prop), (∀ t, P' (.nx t) → N (St t)) → (∀ t, P' (.bk t) → B' (St t)) → (∀ v, P' (.rt v) → Pr v) → Sim (f t) P' X (semB Γ EW b { D with nx := N, ct := N, bk := B' } (St t))) (K : ∀ t, Sim (F (.inl t)) P X (semB Γ EW r D (St t))) : Sim M P X (semB Γ EW (.cons (.whl ce b) r) D S) := fun q => by
  subst hm
  rw [wpR_bind] at q
  unfold semB seqT semT whT
  obtain ⟨n, z, e, q⟩ := whileC_wp q
  refine ⟨n, ?_⟩
  rw [hS]
  refine whN_C (Pr := Pr) hx hc (fun t N P' h1 h2 h3 h4 => hb t N (semB Γ EW r D) P' h1 h2 h3 h4) n t0 z e (wpR_mono q (fun y q => ?_) fun _ h => h)
  cases y with
  | inl t => exact K t q
  | inr v => exact hr v q
theorem b_while {ce : E} {b : B} {c : τ → Res Bool} {f : τ → Res τ} {F : τ → Res ε} (St : τ → WSt) (t0 : τ) (hx : ∀ t, XS xn EW X (St t)) (hc : ∀ t, JE xn Γ EW ce (St t) (c t) (kD enB)) (hm : M = Res.bind (whileM c f t0) F) (hS : S = St t0)
    (hb : ∀ t (D : WD) (N : WSt → Prop) (P' : τ → Prop), (∀ t, P' t → N (St t)) → Sim (f t) P' X (semB Γ EW b { D with nx := N } (St t))) (K : ∀ t, Sim (F t) P X (semB Γ EW r D (St t))) : Sim M P X (semB Γ EW (.cons (.whl ce b) r) D S) := fun q => by
  subst hm
  rw [wpR_bind] at q
  unfold whileM at q
  rw [wpR_bind] at q
  unfold semB seqT semT whT
  obtain ⟨n, z, e, q⟩ := whileC_wp q
  refine ⟨n, ?_⟩
  rw [hS]
  refine whN_C (Pr := fun _ => True) hx hc (fun t N P' h1 h2 h3 h4 => ?_) n t0 z e (wpR_mono q (fun y q => ?_) fun _ h => h)
  · rw [wpR_bind] at h4
    exact hb t { D with nx := N, ct := N, bk := semB Γ EW r D } N (fun t => P' (.nx t)) h1 h4
  · cases y with
    | inl t => exact K t q
    | inr v => exact nomatch v
end
end MV

namespace MV
open PySem PySem.Spec PyProof.Rows L2
theorem bind_ok {α : Type} (m : Res α) : Res.bind m .ok = m := by cases m <;> rfl
def noIo : List AK → Bool
  | [] => true
  | .io :: _ => false
  | _ :: ms => noIo ms
theorem lentX_none : ∀ (ms : List AK) (ws : List W) (S : WSt), noIo ms = true → ws.length = ms.length → ms.length ≤ S.length → lentX ms ws S = ms.map fun _ => none
  | [], ws, S, _, _, _ => by cases ws <;> cases S <;> rfl
  | m :: ms, [], S, _, h, _ => by simp at h
  | m :: ms, w :: ws, [], _, _, h => by simp at h
  | m :: ms, w :: ws, s :: S, h, h1, h2 => by
    have ih := lentX_none ms ws S (by cases m <;> first | exact h | cases h) (by simpa using h1) (by simpa using h2)
    cases m with
    | io => cases h
    | dat => show none :: lentX ms ws S = none :: _; rw [ih]
    | vw => show none :: lentX ms ws S = none :: _; rw [ih]
section
variable {xn : Xc → Exn} {Γ : Nat → Ct} {EW : EWs} {S : WSt} {α : Type}
/-- xs[w.pop()] -/
theorem j_idxPop_ (c : En α) {xs : List α} {ws : List Int} {wx : W} {ix iw : Nat} (h1 : gt S ix = some wx) (h2 : gt S iw = some (kOl enI ws)) (h3 : asS wx = some (xs.map c.e)) (h4 : ∀ w, gt (st S iw w) ix = some wx) :
    JS xn Γ EW (.idx (.pl ix (.ex (.meth iw .pop .nil) .nil))) S (Res.bind (popR ws) fun p => Res.bind (getI xs p.1) fun a => .ok (a, p.2)) (fun q => kD c q.1) (fun q => st S iw (some (kOl enI q.2))) := fun Q X hx q => by
  unfold semE onB semO plW
  rw [h1]
  rw [wpR_bind] at q
  simp only [semO]
  refine j_meth_ (S := S) (i := iw) (mf := .pop) h2 rfl jx_nil h2 (fun _ => m_pop enI) _ X hx ?_
  simp only [Res.ok_bind]
  refine wpR_mono q (fun p q => ?_) fun _ h => h
  rw [wpR_bind] at q
  rw [h4]
  exact (o_idx c h3).use (X := X) (wpR_mono q (fun a q => q) fun _ h => h)
theorem j_idxPop (c : En α) {xs : List α} {ws : List Int} {wx : W} {ix iw : Nat} (h1 : gt S ix = some wx) (h2 : gt S iw = some (kOl enI ws)) (h3 : asS wx = some (xs.map c.e)) (h4 : ∀ w, gt (st S iw w) ix = some wx) {M0 : Res _} (hm : M0 = (Res.bind (popR ws) fun p => Res.bind (getI xs p.1) fun a => .ok (a, p.2))) : JS xn Γ EW (.idx (.pl ix (.ex (.meth iw .pop .nil) .nil))) S M0 (fun q => kD c q.1) (fun q => st S iw (some (kOl enI q.2))) := by
  subst hm; exact j_idxPop_ c h1 h2 h3 h4
end
/-! ### what is known not to be None -/
def unO {α : Type} : Option α → Res α
  | some a => .ok a
  | none => .no
@[simp] theorem unO_some {α : Type} (a : α) : unO (some a) = .ok a := rfl
theorem b_un {Γ : Nat → Ct} {EW : EWs} {D : WD} {r : B} {α ε : Type} {f : α → Res ε} {P : ε → Prop} {X : Xc → Prop} (SS : Option α → WSt) (v : Option α) (h : ∀ y, Sim (f y) P X (semB Γ EW r D (SS (some y)))) : Sim (Res.bind (unO v) f) P X (semB Γ EW r D (SS v)) := by
  cases v with
  | none => exact fun q => q.elim
  | some y => exact h y
section
variable {xn : Xc → Exn} {Γ : Nat → Ct} {EW : EWs}
theorem j_un {α β : Type} {e : E} {m : α → Res β} {k : β → W} (SS : Option α → WSt) (v : Option α) (h : ∀ y, JE xn Γ EW e (SS (some y)) (m y) k) {M0 : Res β} (hm : M0 = Res.bind (unO v) m) : JE xn Γ EW e (SS v) M0 k := by
  subst hm
  cases v with
  | none => exact fun Q X hx q => q.elim
  | some y => exact h y
end
end MV

namespace MV
open PySem PySem.Spec PyProof.Rows L2
/-! ### expressions that change slots -/
/-- exceptions do not see the slots -/
def Flat (EW : EWs) : Prop := ∀ x S S', S.length = S'.length → EW x S → EW x S'
theorem flat_no : Flat noEW := fun _ _ _ _ h => h
theorem XS.flat {xn : Xc → Exn} {EW : EWs} {X : Xc → Prop} {S S' : WSt} (hE : Flat EW) (h : XS xn EW X S) (e : S'.length = S.length) : XS xn EW X S' := fun x hx => hE _ _ _ e.symm (h x hx)
def noIns : List AK → List W → Bool
  | .io :: ms, .ins _ _ _ :: ws => false
  | _ :: ms, _ :: ws => noIns ms ws
  | _, _ => true
theorem lentX_no : ∀ (ms : List AK) (ws : List W) (S : WSt), noIns ms ws = true → ws.length = ms.length → ms.length ≤ S.length → lentX ms ws S = ms.map fun _ => none
  | [], ws, S, _, _, _ => by cases ws <;> cases S <;> rfl
  | m :: ms, [], S, _, h, _ => by simp at h
  | m :: ms, w :: ws, [], _, _, h => by simp at h
  | m :: ms, w :: ws, s :: S, h, h1, h2 => by
    have hi : noIns ms ws = true := by cases m <;> cases w <;> first | exact h | cases h
    have ih := lentX_no ms ws S hi (by simpa using h1) (by simpa using h2)
    have : lentX (m :: ms) (w :: ws) (s :: S) = none :: lentX ms ws S := by
      cases m <;> cases w <;> first | rfl | cases h
    rw [this, ih]; rfl
theorem lentX_len : ∀ (ms : List AK) (ws : List W) (S S' : WSt), noIns ms ws = true → S.length = S'.length → lentX ms ws S = lentX ms ws S'
  | [], ws, S, S', _, _ => by cases ws <;> cases S <;> cases S' <;> rfl
  | m :: ms, [], S, S', _, _ => by cases m <;> cases S <;> cases S' <;> rfl
  | m :: ms, w :: ws, [], [], _, _ => rfl
  | m :: ms, w :: ws, [], s :: S', _, h => by simp at h
  | m :: ms, w :: ws, s :: S, [], _, h => by simp at h
  | m :: ms, w :: ws, s :: S, s' :: S', h, h1 => by
    have hi : noIns ms ws = true := by cases m <;> cases w <;> first | exact h | cases h
    have ih := lentX_len ms ws S S' hi (by simpa using h1)
    have e : ∀ (s : Option W) (S : WSt), lentX (m :: ms) (w :: ws) (s :: S) = none :: lentX ms ws S := fun s S => by
      cases m <;> cases w <;> first | rfl | cases h
    rw [e, e, ih]
theorem flat_lent {ms : List AK} {ws : List W} {RE : Exn → WSt → Prop} (h : noIns ms ws = true) : Flat (fun x S => RE x (lentX ms ws S)) := fun x S S' e q => by
  show RE x (lentX ms ws S')
  rw [← lentX_len ms ws S S' h e]; exact q
section
variable {xn : Xc → Exn} {Γ : Nat → Ct} {EW : EWs} {S : WSt} {α β γ δ : Type}
def JOs (xn : Xc → Exn) (Γ : Nat → Ct) (EW : EWs) (os : Os) (S : WSt) {α : Type} (m : Res α) (ks : α → List W) (S' : α → WSt) : Prop := ∀ (Q : QWs) (X : Xc → Prop), XS xn EW X S → wpR m (fun a => Q (ks a) (S' a)) X → semO Γ os EW S Q
theorem JO.s {os : Os} {m : Res α} {ks : α → List W} (h : JO xn Γ EW os S m ks) : JOs xn Γ EW os S m ks (fun _ => S) := h
theorem jos_nil : JOs xn Γ EW .nil S (.ok ()) (fun _ => []) (fun _ => S) := jo_nil
theorem jos_p {e : E} {a : α} {k : α → W} {r : Os} {m : Res β} {ks : β → List W} {S' : β → WSt} (h : JE xn Γ EW e S (.ok a) k) (hr : JOs xn Γ EW r S m ks S') : JOs xn Γ EW (.ex e r) S m (fun b => k a :: ks b) S' := fun Q X hx q => by
  unfold semO
  exact h _ X hx (hr _ X hx q)
theorem jos_pl {i : Nat} {w : W} {r : Os} {m : Res β} {ks : β → List W} {S' : β → WSt} (h : gt S i = some w) (hr : JOs xn Γ EW r S m ks S') (h2 : ∀ b, gt (S' b) i = some w) : JOs xn Γ EW (.pl i r) S m (fun b => w :: ks b) S' := fun Q X hx q => by
  unfold semO plW
  rw [h]
  refine hr _ X hx (wpR_mono q (fun b q => ?_) fun _ h => h)
  simp only [h2]; exact q
/-- the last one that is a result -/
theorem jos_1 (hE : Flat EW) {e : E} {m : Res α} {k : α → W} {S' : α → WSt} {r : Os} {ws : α → List W} {S2 : α → WSt} (h : JS xn Γ EW e S m k S') (hl : ∀ a, (S' a).length = S.length) (hr : ∀ a, JOs xn Γ EW r (S' a) (.ok ()) (fun _ => ws a) (fun _ => S2 a)) : JOs xn Γ EW (.ex e r) S m (fun a => k a :: ws a) S2 := fun Q X hx q => by
  unfold semO
  refine h _ X hx (wpR_mono q (fun a q => ?_) fun _ h => h)
  exact hr a _ X (hx.flat hE (hl a)) q
theorem jos_s (hE : Flat EW) {e : E} {m : Res α} {k : α → W} {S' : α → WSt} {r : Os} {m2 : α → Res β} {ks : α → β → List W} {S2 : α → β → WSt} (h : JS xn Γ EW e S m k S') (hl : ∀ a, (S' a).length = S.length) (hr : ∀ a, JOs xn Γ EW r (S' a) (m2 a) (ks a) (S2 a)) {M0 : Res (α × β)} (hm : M0 = m.bind fun a => (m2 a).bind fun b => .ok (a, b)) : JOs xn Γ EW (.ex e r) S M0 (fun p => k p.1 :: ks p.1 p.2) (fun p => S2 p.1 p.2) := fun Q X hx q => by
  subst hm
  unfold semO
  rw [wpR_bind] at q
  refine h _ X hx (wpR_mono q (fun a q => ?_) fun _ h => h)
  rw [wpR_bind] at q
  exact hr a _ X (hx.flat hE (hl a)) q
/-! values in a row -/
theorem jx_1 (hE : Flat EW) {e : E} {m : Res α} {k : α → W} {S' : α → WSt} {r : Es} {ws : α → List W} {S2 : α → WSt} (h : JS xn Γ EW e S m k S') (hl : ∀ a, (S' a).length = S.length) (hr : ∀ a, JX xn Γ EW r (S' a) (.ok ()) (fun _ => ws a) (fun _ => S2 a)) : JX xn Γ EW (.cons e r) S m (fun a => k a :: ws a) S2 := fun Q X hx q => by
  unfold semX
  refine h _ X hx (wpR_mono q (fun a q => ?_) fun _ h => h)
  exact hr a _ X (hx.flat hE (hl a)) q
theorem jx_ms (hE : Flat EW) {e : E} {m : Res α} {k : α → W} {S' : α → WSt} {r : Es} {m2 : α → Res β} {ks : α → β → List W} {S2 : α → β → WSt} (h : JS xn Γ EW e S m k S') (hl : ∀ a, (S' a).length = S.length) (hr : ∀ a, JX xn Γ EW r (S' a) (m2 a) (ks a) (S2 a)) {M0 : Res (α × β)} (hm : M0 = m.bind fun a => (m2 a).bind fun b => .ok (a, b)) : JX xn Γ EW (.cons e r) S M0 (fun p => k p.1 :: ks p.1 p.2) (fun p => S2 p.1 p.2) := fun Q X hx q => by
  subst hm
  unfold semX
  rw [wpR_bind] at q
  refine h _ X hx (wpR_mono q (fun a q => ?_) fun _ h => h)
  rw [wpR_bind] at q
  exact hr a _ X (hx.flat hE (hl a)) q
/-! arguments -/
theorem jc_1 (hE : Flat EW) {e : E} {m : Res α} {k : α → W} {S' : α → WSt} {r : Cs} {ts : α → List Tm} {S2 : α → WSt} (h : JS xn Γ EW e S m k S') (hl : ∀ a, (S' a).length = S.length) (hr : ∀ a, JC xn Γ EW r (S' a) (.ok ()) (fun _ => ts a) (fun _ => S2 a)) : JC xn Γ EW (.ex e r) S m (fun a => .w (k a) :: ts a) S2 := fun Q X hx q => by
  unfold semC
  refine h _ X hx (wpR_mono q (fun a q => ?_) fun _ h => h)
  exact hr a _ X (hx.flat hE (hl a)) q
theorem jc_ms (hE : Flat EW) {e : E} {m : Res α} {k : α → W} {S' : α → WSt} {r : Cs} {m2 : α → Res β} {ts : α → β → List Tm} {S2 : α → β → WSt} (h : JS xn Γ EW e S m k S') (hl : ∀ a, (S' a).length = S.length) (hr : ∀ a, JC xn Γ EW r (S' a) (m2 a) (ts a) (S2 a)) {M0 : Res (α × β)} (hm : M0 = m.bind fun a => (m2 a).bind fun b => .ok (a, b)) : JC xn Γ EW (.ex e r) S M0 (fun p => .w (k p.1) :: ts p.1 p.2) (fun p => S2 p.1 p.2) := fun Q X hx q => by
  subst hm
  unfold semC
  rw [wpR_bind] at q
  refine h _ X hx (wpR_mono q (fun a q => ?_) fun _ h => h)
  rw [wpR_bind] at q
  exact hr a _ X (hx.flat hE (hl a)) q
/-! operations: on what is there; S' behind the operands -/
theorem ju_onP {r : B1} {os : Os} {m : Res α} {ks : α → List W} {S' : α → WSt} {g : α → β} {k : β → W} (h : JOs xn Γ EW os S m ks S') (o : ∀ a, Op1 r (ks a) (.ok (g a)) k) {Q : QW} {X : Xc → Prop} (hx : XS xn EW X S) (q : wpR m (fun a => Q (k (g a)) (S' a)) X) : onB r (semO Γ os EW) S Q := by
  unfold onB
  exact h _ X hx (wpR_mono q (fun a q => (o a).use (X := X) q) fun _ h => h)
theorem ju_onM {r : B1} {os : Os} {m : Res α} {ks : α → List W} {S' : α → WSt} {m2 : α → Res β} {k : β → W} (h : JOs xn Γ EW os S m ks S') (o : ∀ a, Op1 r (ks a) (m2 a) k) {Q : QW} {X : Xc → Prop} (hx : XS xn EW X S) (q : wpR (m.bind fun a => (m2 a).bind fun b => .ok (b, a)) (fun p => Q (k p.1) (S' p.2)) X) : onB r (semO Γ os EW) S Q := by
  unfold onB
  rw [wpR_bind] at q
  refine h _ X hx (wpR_mono q (fun a q => ?_) fun _ h => h)
  rw [wpR_bind] at q
  exact (o a).use (X := X) q
theorem ju_binP {op : Operator} {os : Os} {m : Res α} {ks : α → List W} {S' : α → WSt} {g : α → β} {k : β → W} (h : JOs xn Γ EW os S m ks S') (o : ∀ a, Op1 (ap2 (opW op)) (ks a) (.ok (g a)) k) : JS xn Γ EW (.bin op os) S m (fun a => k (g a)) S' := fun Q X hx q => by unfold semE; exact ju_onP h o hx q
theorem ju_binM {op : Operator} {os : Os} {m : Res α} {ks : α → List W} {S' : α → WSt} {m2 : α → Res β} {k : β → W} (h : JOs xn Γ EW os S m ks S') (o : ∀ a, Op1 (ap2 (opW op)) (ks a) (m2 a) k) {M0 : Res (β × α)} (hm : M0 = m.bind fun a => (m2 a).bind fun b => .ok (b, a)) : JS xn Γ EW (.bin op os) S M0 (fun p => k p.1) (fun p => S' p.2) := fun Q X hx q => by subst hm; unfold semE; exact ju_onM h o hx q
theorem ju_cmpP {op : CmpOp} {os : Os} {m : Res α} {ks : α → List W} {S' : α → WSt} {g : α → β} {k : β → W} (h : JOs xn Γ EW os S m ks S') (o : ∀ a, Op1 (ap2 (cmpW op)) (ks a) (.ok (g a)) k) : JS xn Γ EW (.cmp op os) S m (fun a => k (g a)) S' := fun Q X hx q => by unfold semE; exact ju_onP h o hx q
theorem ju_idxP {os : Os} {m : Res α} {ks : α → List W} {S' : α → WSt} {g : α → β} {k : β → W} (h : JOs xn Γ EW os S m ks S') (o : ∀ a, Op1 (ap2 idxW) (ks a) (.ok (g a)) k) : JS xn Γ EW (.idx os) S m (fun a => k (g a)) S' := fun Q X hx q => by unfold semE; exact ju_onP h o hx q
theorem ju_idxM {os : Os} {m : Res α} {ks : α → List W} {S' : α → WSt} {m2 : α → Res β} {k : β → W} (h : JOs xn Γ EW os S m ks S') (o : ∀ a, Op1 (ap2 idxW) (ks a) (m2 a) k) {M0 : Res (β × α)} (hm : M0 = m.bind fun a => (m2 a).bind fun b => .ok (b, a)) : JS xn Γ EW (.idx os) S M0 (fun p => k p.1) (fun p => S' p.2) := fun Q X hx q => by subst hm; unfold semE; exact ju_onM h o hx q
theorem ju_bfP {f : BF} {os : Os} {m : Res α} {ks : α → List W} {S' : α → WSt} {g : α → β} {k : β → W} (h : JOs xn Γ EW os S m ks S') (o : ∀ a, Op1 f.sem (ks a) (.ok (g a)) k) : JS xn Γ EW (.bf f os) S m (fun a => k (g a)) S' := fun Q X hx q => by unfold semE; exact ju_onP h o hx q
theorem ju_bfM {f : BF} {os : Os} {m : Res α} {ks : α → List W} {S' : α → WSt} {m2 : α → Res β} {k : β → W} (h : JOs xn Γ EW os S m ks S') (o : ∀ a, Op1 f.sem (ks a) (m2 a) k) {M0 : Res (β × α)} (hm : M0 = m.bind fun a => (m2 a).bind fun b => .ok (b, a)) : JS xn Γ EW (.bf f os) S M0 (fun p => k p.1) (fun p => S' p.2) := fun Q X hx q => by subst hm; unfold semE; exact ju_onM h o hx q
theorem ju_nt {e : E} {m : Res α} {g : α → Bool} {S' : α → WSt} (h : JS xn Γ EW e S m (fun a => kD enB (g a)) S') : JS xn Γ EW (.nt e) S m (fun a => kD enB (!g a)) S' := fun Q X hx q => by
  unfold semE notV
  exact h _ X hx (wpR_mono q (fun b q => q) fun _ h => h)
theorem ju_neg {e : E} {m : Res α} {g : α → Int} {S' : α → WSt} (h : JS xn Γ EW e S m (fun a => kD enI (g a)) S') : JS xn Γ EW (.neg e) S m (fun a => kD enI (-g a)) S' := fun Q X hx q => by
  unfold semE negV
  exact h _ X hx (wpR_mono q (fun b q => q) fun _ h => h)
theorem ju_tup {es : Es} {m : Res α} {ks : α → List W} {S' : α → WSt} (h : JX xn Γ EW es S m ks S') (c : En β) (f : α → β) (hf : ∀ a, ∃ l, fzWs (ks a) = some l ∧ l.length ≤ 1000 ∧ c.e (f a) = .tuple l) : JS xn Γ EW (.tup es) S m (fun a => kD c (f a)) S' := fun Q X hx q => by
  unfold semE dispT
  refine h _ X hx (wpR_mono q (fun a q => ?_) fun _ h => h)
  obtain ⟨l, e1, e2, e3⟩ := hf a
  rw [e1]
  refine ⟨by unfold sizeLine; omega, ?_⟩
  have q' : Q (.d (c.e (f a))) (S' a) := q
  rw [e3] at q'
  exact q'
theorem ju_lst {es : Es} {m : Res α} {ks : α → List W} {S' : α → WSt} (h : JX xn Γ EW es S m ks S') (c : En β) (f : α → List β) (hf : ∀ a, fzWs (ks a) = some ((f a).map c.e) ∧ (f a).length ≤ 1000) : JS xn Γ EW (.lst es) S m (fun a => kOl c (f a)) S' := fun Q X hx q => by
  unfold semE dispL
  refine h _ X hx (wpR_mono q (fun a q => ?_) fun _ h => h)
  obtain ⟨e1, e2⟩ := hf a
  rw [e1]
  exact ⟨by unfold sizeLine; rw [List.length_map]; omega, q⟩
theorem ju_some {e : E} {m : Res α} {c : En β} {g : α → β} {S' : α → WSt} (h : JS xn Γ EW e S m (fun a => kD c (g a)) S') : JS xn Γ EW e S m (fun a => kD (enO c) (some (g a))) S' := h
/-! calls, with what is lent -/
theorem j_callU (hE : Flat EW) {j : Nat} {ms : List AK} {cs : Cs} {ct : Ct} {m : Res α} {ts : α → List Tm} {S1 So : α → WSt} {ws : α → List W} {fm : α → Res β} {k : β → W} {l : β → WSt} {lx : WSt} {S' : β → WSt} (hΓ : Γ j = ct) (jc : JC xn Γ EW cs S m ts S1) (ho : ∀ a, outIo ms (ts a) (S1 a) = So a) (hi : ∀ a, inArgs ms (ts a) (S1 a) (So a) = some (ws a)) (hf : ∀ a, CtF xn ct (ws a) (fm a) k l lx)
    (hv : ∀ b, noV (k b) = true) (hl : ∀ b, noVo (l b) = true) (hlx : noVo lx = true) (hb : ∀ a b, backIo ms (ts a) (l b) (So a) = S' b) (hbx : ∀ a, (backIo ms (ts a) lx (So a)).length = S.length) {M0 : Res _} (hm : M0 = (m.bind fm)) : JS xn Γ EW (.call j ms cs) S M0 k S' := fun Q X hx q => by
  subst hm
  unfold semE callT
  rw [wpR_bind] at q
  refine jc _ X hx (wpR_mono q (fun a q => ?_) fun _ h => h)
  simp only [ho, hi]
  simp only [hΓ]
  refine hf a _ _ (wpR_mono q (fun b q => ⟨hv b, hl b, by rw [hb]; exact q⟩) fun x h => ⟨hlx, hx.flat hE (hbx a) x h⟩)
/-! range of what changes slots -/
theorem js_r1S {os : Os} {m : Res γ} {f : γ → Int} {S' : γ → WSt} (h : JOs xn Γ EW os S m (fun a => [kD enI (f a)]) S') {M0 : Res (List Int × γ)} (hm : M0 = m.bind fun a => (rng1 (f a)).bind fun r => .ok (r, a)) : JSr xn Γ EW (.r1 os) S M0 (fun p => p.1) (kD enI) (fun _ _ => True) (fun p => S' p.2) := fun K X hx q => by
  subst hm
  unfold semSr srcR1
  unfold rng1 at q; simp only [lock_eq] at q
  rw [wpR_bind] at q
  refine h _ X hx (wpR_mono q (fun a q => ?_) fun _ h => h)
  rw [wpR_bind] at q
  obtain ⟨h1, q⟩ := wpR_chk q
  refine ⟨h1.1, h1.2, ?_⟩
  have e : rngW 0 (f a).toNat = (rngI 0 (f a)).map (kD enI) := by
    unfold rngW rngI
    rw [List.map_map, Int.sub_zero]; rfl
  rw [e]; exact q
end
/-! statements -/
section
variable {xn : Xc → Exn} {Γ : Nat → Ct} {EW : EWs} {S : WSt} {α β γ δ τ ρ ε : Type} {D : WD} {r : B} {P : ε → Prop} {X : Xc → Prop} {M : Res ε}
theorem b_ifS {c : E} {b1 b2 : B} {m : Res α} {g : α → Bool} {S' : α → WSt} {A B' : α → Res ε} (j : JS xn Γ EW c S m (fun a => kD enB (g a)) S') (hx : XS xn EW X S) (hm : M = Res.bind m fun a => ifR (g a) (A a) (B' a)) (h1 : ∀ a, Sim (A a) P X (semB Γ EW b1 { D with nx := semB Γ EW r D } (S' a))) (h2 : ∀ a, Sim (B' a) P X (semB Γ EW b2 { D with nx := semB Γ EW r D } (S' a))) : Sim M P X (semB Γ EW (.cons (.ifs c b1 b2) r) D S) := fun q => by
  subst hm
  rw [wpR_bind] at q
  unfold semB seqT semT ifT tst
  refine j _ X hx (wpR_mono q (fun a q => ?_) fun _ h => h)
  show (match g a with
    | true => semB Γ EW b1 { D with nx := semB Γ EW r D } (S' a)
    | false => semB Γ EW b2 { D with nx := semB Γ EW r D } (S' a))
  cases e : g a with
  | true => rw [e] at q; exact h1 a q
  | false => rw [e] at q; exact h2 a q
theorem b_ifNS {c : E} {b1 b2 : B} {m : Res α} {g : α → Bool} {S' : α → WSt} {A B' : α → Res τ} {f : τ → Res ε} (St : τ → WSt) (j : JS xn Γ EW c S m (fun a => kD enB (g a)) S') (hx : XS xn EW X S) (hm : M = Res.bind (Res.bind m fun a => ifR (g a) (A a) (B' a)) f) (h1 : ∀ a (N : WSt → Prop) (P' : τ → Prop), (∀ t, P' t → N (St t)) → Sim (A a) P' X (semB Γ EW b1 { D with nx := N } (S' a))) (h2 : ∀ a (N : WSt → Prop) (P' : τ → Prop), (∀ t, P' t → N (St t)) → Sim (B' a) P' X (semB Γ EW b2 { D with nx := N } (S' a)))
    (K : ∀ t, Sim (f t) P X (semB Γ EW r D (St t))) : Sim M P X (semB Γ EW (.cons (.ifs c b1 b2) r) D S) := fun q => by
  subst hm
  rw [wpR_bind, wpR_bind] at q
  unfold semB seqT semT ifT tst
  refine j _ X hx (wpR_mono q (fun a q => ?_) fun _ h => h)
  show (match g a with
    | true => semB Γ EW b1 { D with nx := semB Γ EW r D } (S' a)
    | false => semB Γ EW b2 { D with nx := semB Γ EW r D } (S' a))
  cases e : g a with
  | true => rw [e] at q; exact h1 a _ _ K q
  | false => rw [e] at q; exact h2 a _ _ K q
/-- for k in d: a dict of whole numbers of one's own -/
theorem b_fkd {tg : Tg} {i : Nat} {b : B} {ns : List Int} {f : Int → τ → Res τ} {F : τ → Res ε} {Sx : Int → τ → WSt} (St : τ → WSt) (t0 : τ) (h : gt S i = some (kS ns)) (hS : st S i none = St t0) (hm : M = Res.bind (forM ns t0 f) F) (hg : ∀ x t (K : WSt → Prop), K (Sx x t) → tg.sem (kD enI x) (St t) K) (bo : ∀ t, backOk (tg.is ++ asB b) 0 S (st (St t) i none))
    (hb : ∀ x t (D : WD) (N : WSt → Prop) (P' : τ → Prop), (∀ t, P' t → N (St t)) → Sim (f x t) P' X (semB Γ EW b { D with nx := N } (Sx x t))) (K : ∀ t, Sim (F t) P X (semB Γ EW r D (st (St t) i (some (kS ns))))) : Sim M P X (semB Γ EW (.cons (.fkd tg i b) r) D S) := fun q => by
  subst hm
  rw [wpR_bind] at q
  unfold semB seqT semT fkdT
  rw [h]
  have e : (kT ns).map (fun p => W.d (dKey p.1)) = ns.map (kD enI) := by
    unfold kT; rw [List.map_map]; rfl
  show forL tg.sem (semB Γ EW b) (fun _ => True) ((kT ns).map fun p => W.d (dKey p.1)) _ (st S i none)
  rw [e, hS]
  refine forL_M (chk := fun _ => True) hg (fun _ => trivial) (fun x t N P' h1 h2 => ?_) ns t0 (wpR_mono q (fun t q => ⟨bo t, K t q⟩) fun _ h => h)
  exact hb x t { nx := N, rt := _, bk := _, ct := N } N P' h1 h2
/-- the value is there, the place is a result -/
theorem b_putK {i : Nat} {kk v : E} {w : W} {a : α} {kv : α → W} {mk : Res β} {kk' : β → W} {x : β → PyData} {m2 : β → Res γ} {k2 : γ → W} {f : γ → Res ε} (h : gt S i = some w) (jv : JE xn Γ EW v S (.ok a) kv) (jk : JE xn Γ EW kk S mk kk') (hk : ∀ b, rdW (kk' b) = some (x b)) (o : ∀ b, OpP w (x b) (kv a) (m2 b) k2) (hx : XS xn EW X S) (hm : M = Res.bind mk fun b => Res.bind (m2 b) f)
    (K : ∀ c, Sim (f c) P X (semB Γ EW r D (st S i (some (k2 c))))) : Sim M P X (semB Γ EW (.cons (.put i kk v) r) D S) := fun q => by
  subst hm
  rw [wpR_bind] at q
  unfold semB seqT semT putT
  refine jv _ X hx ?_
  simp only [wpR, h]
  refine jk _ X hx (wpR_mono q (fun b q => ?_) fun _ h => h)
  rw [wpR_bind] at q
  simp only [h, hk]
  exact (o b).use (X := X) (wpR_mono q (fun c q => K c q) fun _ h => h)
theorem b_putS {i : Nat} {kk v : E} {w : α → W} {mv : Res α} {kv : α → W} {S1 : α → WSt} {b : α → β} {kk' : β → W} {x : α → PyData} {m2 : α → Res γ} {k2 : γ → W} {f : α → γ → Res ε} (hE : Flat EW) (h0 : ∃ w, gt S i = some w) (jv : JS xn Γ EW v S mv kv S1) (hl : ∀ a, (S1 a).length = S.length) (h : ∀ a, gt (S1 a) i = some (w a)) (jk : ∀ a, JE xn Γ EW kk (S1 a) (.ok (b a)) kk') (hk : ∀ a, rdW (kk' (b a)) = some (x a)) (o : ∀ a, OpP (w a) (x a) (kv a) (m2 a) k2) (hx : XS xn EW X S) (hm : M = Res.bind mv fun a => Res.bind (m2 a) (f a))
    (K : ∀ a c, Sim (f a c) P X (semB Γ EW r D (st (S1 a) i (some (k2 c))))) : Sim M P X (semB Γ EW (.cons (.put i kk v) r) D S) := fun q => by
  subst hm
  rw [wpR_bind] at q
  unfold semB seqT semT putT
  refine jv _ X hx (wpR_mono q (fun a q => ?_) fun _ h => h)
  rw [wpR_bind] at q
  simp only [h]
  refine jk a _ X (hx.flat hE (hl a)) ?_
  simp only [wpR, h, hk]
  exact (o a).use (X := X) (wpR_mono q (fun c q => K a c q) fun _ h => h)
end
section
variable {xn : Xc → Exn} {Γ : Nat → Ct} {EW : EWs}
theorem jan_un {α : Type} {es : Es} {m : α → Res Bool} (SS : Option α → WSt) (v : Option α) (h : ∀ y, JAn xn Γ EW es (SS (some y)) (m y)) {M0 : Res Bool} (hm : M0 = Res.bind (unO v) m) : JAn xn Γ EW es (SS v) M0 := by
  subst hm
  cases v with
  | none => exact fun Q X hx q => q.elim
  | some y => exact h y
theorem jor_un {α : Type} {es : Es} {m : α → Res Bool} (SS : Option α → WSt) (v : Option α) (h : ∀ y, JOr xn Γ EW es (SS (some y)) (m y)) {M0 : Res Bool} (hm : M0 = Res.bind (unO v) m) : JOr xn Γ EW es (SS v) M0 := by
  subst hm
  cases v with
  | none => exact fun Q X hx q => q.elim
  | some y => exact h y
end
/-! ### xs.remove(k) -/
theorem first_of {k : Int} : ∀ {ns : List Int}, k ∈ ns → ∃ j : Nat, ns[j]? = some k ∧ (∀ m : Nat, m < j → ns[m]? ≠ some k) ∧ ns.eraseIdx j = ns.erase k
  | [], h => by cases h
  | n :: ns, h => by
    by_cases e : n = k
    · subst e
      exact ⟨0, rfl, fun m hm => by omega, by simp⟩
    · have h' : k ∈ ns := by
        rcases List.mem_cons.mp h with rfl | h
        · exact absurd rfl e
        · exact h
      obtain ⟨j, h1, h2, h3⟩ := first_of h'
      refine ⟨j + 1, by simpa using h1, fun m hm => ?_, ?_⟩
      · cases m with
        | zero => simpa using e
        | succ m => simpa using h2 m (by omega)
      · rw [List.eraseIdx_cons_succ, h3, List.erase_cons_tail (by simpa using e)]
@[irreducible] noncomputable def remR (ns : List Int) (k : Int) : Res (List Int) := lock (chkR (k ∈ ns) (ns.erase k))
theorem remR_def (ns : List Int) (k : Int) : remR ns k = chkR (k ∈ ns) (ns.erase k) := by unfold remR; exact lock_eq _
theorem remR_ok {ns : List Int} {k : Int} (h : k ∈ ns) : remR ns k = .ok (ns.erase k) := by rw [remR_def]; exact chkR_pos h
theorem m_remove {ns : List Int} {k : Int} : OpM removeM (kOl enI ns) [kD enI k] (remR ns k) (kOl enI) kNn := .of (remR_def _ _) ⟨chkR_ne, fun Q q => by
  obtain ⟨h1, q⟩ := wpR_chk q
  obtain ⟨j, e1, e2, e3⟩ := first_of h1
  exact ⟨ns, j, rfl, e1, e2, by rw [e3]; exact q⟩⟩
/-! ### texts, one of two kinds -/
/-- a text that can lie in the heap -/
abbrev Tx := { x : Str // (PyData.str x).canLay0 = true }
def tx (x : Str) (h : (PyData.str x).canLay0 = true := by decide +kernel) : Tx := ⟨x, h⟩
def enS : En Tx := ⟨fun x => PyData.str x.1, fun x => x.2, 0, fun _ => Nat.le_of_eq (by simp [PyData.depth])⟩
theorem eqv_txt (a b : Str) : PyData.eqv (.str a) (.str b) = decide (a = b) := by
  unfold PyData.eqv
  rw [Bool.eq_iff_iff, beq_iff_eq, decide_eq_true_iff]
instance : EqOk enS := ⟨fun a b => by
  show PyData.eqv (.str a.1) (.str b.1) = _
  rw [eqv_txt, decide_eq_decide, Subtype.ext_iff]⟩
def enU {α β : Type} (c : En α) (d : En β) : En (α ⊕ β) := ⟨fun x => match x with
  | .inl a => c.e a
  | .inr b => d.e b, fun x => by cases x <;> first | exact c.lay _ | exact d.lay _, max c.n d.n, fun x => by
  cases x with
  | inl a => exact Nat.le_trans (c.dep a) (Nat.le_max_left _ _)
  | inr b => exact Nat.le_trans (d.dep b) (Nat.le_max_right _ _)⟩
def unR {α β : Type} : α ⊕ β → Res β
  | .inr b => .ok b
  | .inl _ => .no
@[simp] theorem unR_inr {α β : Type} (b : β) : unR (.inr b : α ⊕ β) = .ok b := rfl
def unL {α β : Type} : α ⊕ β → Res α
  | .inl a => .ok a
  | .inr _ => .no
@[simp] theorem unL_inl {α β : Type} (a : α) : unL (.inl a : α ⊕ β) = .ok a := rfl
section
variable {Γ : Nat → Ct} {EW : EWs} {D : WD} {r : B} {α β ε : Type} {P : ε → Prop} {X : Xc → Prop}
theorem b_unR {f : β → Res ε} (SS : α ⊕ β → WSt) (v : α ⊕ β) (h : ∀ y, Sim (f y) P X (semB Γ EW r D (SS (.inr y)))) : Sim (Res.bind (unR v) f) P X (semB Γ EW r D (SS v)) := by
  cases v with
  | inl _ => exact fun q => q.elim
  | inr y => exact h y
theorem b_unL {f : α → Res ε} (SS : α ⊕ β → WSt) (v : α ⊕ β) (h : ∀ y, Sim (f y) P X (semB Γ EW r D (SS (.inl y)))) : Sim (Res.bind (unL v) f) P X (semB Γ EW r D (SS v)) := by
  cases v with
  | inl y => exact h y
  | inr _ => exact fun q => q.elim
end
/-- isinstance(x, T), of a thing of one of two kinds -/
def isU {α β : Type} (b1 b2 : Bool) : α ⊕ β → Bool
  | .inl _ => b1
  | .inr _ => b2
@[simp] theorem isU_inl {α β : Type} (b1 b2 : Bool) (a : α) : isU b1 b2 (.inl a : α ⊕ β) = b1 := rfl
@[simp] theorem isU_inr {α β : Type} (b1 b2 : Bool) (a : β) : isU b1 b2 (.inr a : α ⊕ β) = b2 := rfl
section
variable {xn : Xc → Exn} {Γ : Nat → Ct} {EW : EWs} {S : WSt} {α β γ δ : Type}
theorem j_str (x : Tx) : JE xn Γ EW (.str x.1) S (.ok x) (kD enS) := fun Q X hx h => by unfold semE; exact h
theorem j_inl {e : E} {m : Res α} {c : En α} (d : En β) (h : JE xn Γ EW e S m (kD c)) {M0 : Res (α ⊕ β)} (hm : M0 = m.bind fun a => .ok (.inl a)) : JE xn Γ EW e S M0 (kD (enU c d)) := by
  subst hm; exact JS.by (S2 := fun _ => S) h Sum.inl (fun _ => rfl) (fun _ => rfl)
theorem j_inr {e : E} {m : Res β} (c : En α) {d : En β} (h : JE xn Γ EW e S m (kD d)) {M0 : Res (α ⊕ β)} (hm : M0 = m.bind fun a => .ok (.inr a)) : JE xn Γ EW e S M0 (kD (enU c d)) := by
  subst hm; exact JS.by (S2 := fun _ => S) h Sum.inr (fun _ => rfl) (fun _ => rfl)
theorem j_isiU {T w1 w2 : String} {os : Os} {c : En α} {d : En β} {x : α ⊕ β} (b1 b2 : Bool) (h : JO xn Γ EW os S (.ok ()) fun _ => [kD (enU c d) x]) (h1 : ∀ a, kindW (kD c a) = w1) (h2 : ∀ a, kindW (kD d a) = w2) (k1 : kdNames.contains w1 = true) (k2 : kdNames.contains w2 = true) (v1 : isiB w1 T = b1) (v2 : isiB w2 T = b2) : JE xn Γ EW (.isi T os) S (.ok (isU b1 b2 x)) (kD enB) := by
  cases x with
  | inl a =>
    have e : kindW (kD (enU c d) (.inl a)) = w1 := h1 a
    exact j_isi h (by rw [e]; exact k1) (by rw [e]; exact v1)
  | inr b =>
    have e : kindW (kD (enU c d) (.inr b)) = w2 := h2 b
    exact j_isi h (by rw [e]; exact k2) (by rw [e]; exact v2)
/-- t[::-1] -/
theorem j_rvt {e : E} {m : Res (List α)} (c : En α) (h : JE xn Γ EW e S m (kD (enT c))) {M0 : Res (List α)} (hm : M0 = m.bind fun xs => .ok xs.reverse) : JE xn Γ EW (.rvt e) S M0 (kD (enT c)) := fun Q X hx q => by
  subst hm
  unfold semE rvtT
  rw [wpR_bind] at q
  refine h _ X hx (wpR_mono q (fun a q => ?_) fun _ h => h)
  have q' : Q (.d (.tuple (a.reverse.map c.e))) S := q
  rw [List.map_reverse] at q'
  exact q'
/-- slices of what is made -/
theorem j_shiE {os : Os} {m : Res γ} {ks : γ → List W} {xs : γ → List α} {f : γ → Int} (c : En α) (h : JO xn Γ EW os S m ks) (hk : ∀ a, ks a = [kOl c (xs a), kD enI (f a)]) {M0 : Res (List α)} (hm : M0 = m.bind fun a => .ok (cutP (xs a) none (some (f a)))) : JE xn Γ EW (.shi os) S M0 (kOl c) := fun Q X hx q => by
  subst hm
  unfold semE slHi
  rw [wpR_bind] at q
  refine h _ X hx (wpR_mono q (fun a q => ?_) fun _ h => h)
  rw [hk]
  have q' : Q (kOl c (cutP (xs a) none (some (f a)))) S := q
  show slcW none (some (f a)) (kOl c (xs a)) fun r => Q r S
  unfold slcW
  show Q (.ol (cutP ((xs a).map c.e) none (some (f a)))) S
  rw [cutP_map]; exact q'
end
/-! ### in a row of rows -/
abbrev memB {α : Type} [inst : DecidableEq α] (a : α) (xs : List α) : Bool := @decide (a ∈ xs) (@List.instDecidableMemOfLawfulBEq α (@instBEqOfDecidableEq α inst) _ a xs)
theorem memB_eq {α : Type} [DecidableEq α] {a : α} {xs : List α} [Decidable (a ∈ xs)] : memB a xs = decide (a ∈ xs) := by
  unfold memB
  rw [decide_eq_decide]
/-! ### a list or a tuple, that is only read -/
def kSq {α : Type} (c : En α) (b : Bool) (xs : List α) : W := match b with
  | true => kVl c xs
  | false => kD (enT c) xs
theorem asS_sq {α : Type} (c : En α) (b : Bool) (xs : List α) : asS (kSq c b xs) = some (xs.map c.e) := by cases b <;> rfl
theorem cv_sq {α : Type} (c : En α) (b : Bool) (xs : List α) : cvV (kSq c b xs) = some (kSq c b xs) := by cases b <;> rfl
/-! ### rows of two things of one's own -/
abbrev kR2 {α β : Type} (c : En α) (d : En β) (p : α × β) : W := .ol [c.e p.1, d.e p.2]
section
variable {xn : Xc → Exn} {Γ : Nat → Ct} {EW : EWs} {S : WSt} {α β γ δ : Type}
theorem j_rec2 {es : Es} {ks : List W} (h : JX xn Γ EW es S (.ok ()) (fun _ => ks) (fun _ => S)) (c : En α) (d : En β) (p : α × β) (hf : fzWs ks = some [c.e p.1, d.e p.2]) : JE xn Γ EW (.lst es) S (.ok p) (kR2 c d) := fun Q X hx q => by
  unfold semE dispL
  refine h _ X hx ?_
  show (match fzWs ks with
    | some ds => ds.length ≤ sizeLine ∧ Q (.ol ds) S
    | none => False)
  rw [hf]
  exact ⟨by show 2 ≤ sizeLine; decide, q⟩
theorem o_idxR0 (c : En α) (d : En β) {p : α × β} : Op2 idxW (kR2 c d p) (kD enI 0) (.ok p.1) (kD c) := .ok fun Q q => q
theorem o_idxR1 (c : En α) (d : En β) {p : α × β} : Op2 idxW (kR2 c d p) (kD enI 1) (.ok p.2) (kD d) := .ok fun Q q => q
theorem p_rec0 (c : En α) (d : En β) {p : α × β} {a : α} {u : W} (h : fzW u = some (c.e a)) : OpP (kR2 c d p) (.int 0) u (.ok (a, p.2)) (kR2 c d) := ⟨(fun _ h => nomatch h), fun Q q => by
  unfold putM
  simp only [h]
  exact q⟩
theorem p_rec1 (c : En α) (d : En β) {p : α × β} {b : β} {u : W} (h : fzW u = some (d.e b)) : OpP (kR2 c d p) (.int 1) u (.ok (p.1, b)) (kR2 c d) := ⟨(fun _ h => nomatch h), fun Q q => by
  unfold putM
  simp only [h]
  exact q⟩
end
end MV

namespace MV
open PySem PySem.Spec PyProof.Rows L2
/-! ### the end of a law whose script is data -/
theorem walk_mvD {l : PySem.W.OpenLaw} {k : Nat} {q : Program} {loose : List Str} {XP : (Str → Option Value) → Heap → Prop} {YP : World → Heap → Prop} {d : DefRec} {K : Params → Frag} {ct : Ct}
    (hn : l.most = some 63) (hdf : d.params.defaults = []) (hr : Room k callerA) (hY : ∀ (w : World) (h : Heap), YP w h → (K w.params).In h) (hL : ∀ w : World, noLst (K w.params) = true)
    (F : ∀ (w : World) (mg : Str → Option Value) (fa : Addr) (h : Heap), (K w.params).In h → h.Ns mainGlobals mg → mg d.name = some (.ref fa) →
      ∃ fd : FuncData, (∀ (s : Shared) (u : Value), BindsTo s fd ⟨[u], []⟩ [("script", u)]) ∧ ∀ base : Heap, (K w.params).In base → base.Ns mainGlobals mg → FnOk l.prog w (K w.params) mg base (L2.CX l.prog w) k fa fd ["script"] (spOf ct))
    (hc : ∀ (ns : List Int) (R : W → WSt → Prop) (RE : EWs), ns.length ≤ 63 → R (.d (.bool true)) [none] → ct [.d (.list (ns.map PyData.int))] R RE) : PySem.W.WalkO q loose XP YP l.row.toRowW d [] (fun f vs => PySem.call f vs) := by
  refine L2.walk_of (n := 63) (k := k) (x := "script") (CX := fun w => L2.CX l.prog w) (sp := fun _ => spOf ct) hn (by decide) hdf hr hY F (fun w H a ns hl hO hS => ?_) fun w H s e s' z => ?_
  · have hR : Rd H a (.lst (ns.map V.int)) := by
      rcases hS with hS | ⟨o, its, n, e, hcl, _⟩
      · exact hS
      · exact absurd hcl (noLst_at (hL w) e)
    refine ⟨[.d (.list (ns.map PyData.int))], ⟨H, H, H⟩, [], fun w _ => w = .d (.bool true), fun _ _ => False, rfl, ⟨Le.refl _, Le.refl _, List.nodup_nil, fun a m => nomatch m⟩, .cons (f := []) (g := []) (.d (.lst hR (DqAll.of_ints ns))) .nil, hc ns _ _ hl rfl, fun wv wso e v ω' fv fs E r _ => ?_, fun x wso e => e.elim⟩
    subst e
    cases r with
    | d d0 =>
      cases d0
      rfl
  · obtain ⟨a, B, H', cls, d, _, _, _, _, _, _, _, z⟩ := z
    exact z
theorem law_mvD {P : Program} {w : World} {K : Frag} {mg : Str → Option Value} {h : Heap} {Γ : Nat → Ct} {k : Nat} {fs : List (Nat × Str)} {gs : List (Str × Key)} {fa : Addr} {ct : Ct} (X : K.In h) (G : h.Ns mainGlobals mg) (hmg : mg "law" = some (.ref fa))
    (tb : ∀ base : Heap, K.In base → base.Ns mainGlobals mg → Tab P w K mg base Γ k fs gs) {st : Stmt} (d : DefAt K "law" st) {N : List Str} {body : B} (S : FnScope N ["script"] (defScope st)) (ck : ckB body ⟨N, defScope st, fun _ => true, fs, gs⟩ (defBody st) = true)
    (hb : BindOk st "law" ["script"]) (hio : ioFree (asB body) 0 [.dat] = true) (hk : Keeps Γ body N.length [.dat] ct) :
    ∃ fd : FuncData, (∀ (s : Shared) (u : Value), BindsTo s fd ⟨[u], []⟩ [("script", u)]) ∧ ∀ base : Heap, K.In base → base.Ns mainGlobals mg → FnOk P w K mg base (L2.CX P w) (k + 1) fa fd ["script"] (spOf ct) := by
  obtain ⟨f, oc, kV, dc, pm, cd, ctv, od, an, sl, a, l, c, kp⟩ := d.ex
  have e := hmg.symm.trans (PySem.W.mg_of X G a)
  cases e
  have F := fun_mk (st := st) l c kp
  exact ⟨_, fun s u => .of_eq (hb kV dc pm an cd ctv [u] rfl), fun base h1 h2 => fn_mv (tb base h1 h2) F S ck rfl hio hk⟩
end MV

namespace MV
open PySem PySem.Spec PyProof.Rows L2
/-! ### boards as graphs -/
/-- the points joined to p -/
def nb (bd : List (List Int)) (p : Int) : List Int := (bd[p.toNat]?).getD []
structure Bd (bd : List (List Int)) : Prop where
  le : bd.length ≤ 36
  inr : ∀ p, ∀ q ∈ nb bd p, 0 ≤ q ∧ q < bd.length
  up : ∀ p, (nb bd p).Pairwise (· < ·)
  sym : ∀ p q : Int, 0 ≤ p → p < bd.length → q ∈ nb bd p → p ∈ nb bd q
abbrev bdD (bd : List (List Int)) : PyData := .tuple (bd.map fun r => .tuple (r.map PyData.int))
/-- from s one comes to it, along lines, by points that are ok -/
inductive Rch (bd : List (List Int)) (ok : Int → Bool) (s : Int) : Int → Prop
  | base : Rch bd ok s s
  | step {p q : Int} : Rch bd ok s p → q ∈ nb bd p → ok q = true → Rch bd ok s q
def OnB (bd : List (List Int)) (p : Int) : Prop := 0 ≤ p ∧ p < bd.length
theorem at_bd {bd : List (List Int)} {p : Int} (h : OnB bd p) : L2.atI (bd.map fun r => PyData.tuple (r.map PyData.int)) p = some (.tuple ((nb bd p).map PyData.int)) := by
  rw [atI_map]
  have hlt : p.toNat < bd.length := by obtain ⟨u, v⟩ := h; omega
  have e : bd[p.toNat]? = some (nb bd p) := by unfold nb; rw [List.getElem?_eq_getElem hlt]; rfl
  rw [atI_of h.1 e]; rfl
theorem Rch.on {bd : List (List Int)} {ok : Int → Bool} {s q : Int} (B : Bd bd) (hs : OnB bd s) (h : Rch bd ok s q) : OnB bd q := by
  cases h with
  | base => exact hs
  | step _ m _ => exact B.inr _ _ m
theorem len_on {bd : List (List Int)} {F : List Int} (nd : F.Nodup) (h : ∀ x ∈ F, OnB bd x) : F.length ≤ bd.length := by
  have h1 : (F.map Int.toNat).Nodup := by
    rw [List.Nodup, List.pairwise_map]
    refine List.Pairwise.imp_of_mem (fun {a b} ha hb hab e => hab ?_) nd
    have := (h a ha).1; have := (h b hb).1; omega
  have h2 := List.Nodup.length_le_of_subset h1 (l₂ := List.range bd.length) fun x m => by
    obtain ⟨a, ha, rfl⟩ := List.mem_map.mp m
    obtain ⟨u, v⟩ := h a ha
    exact List.mem_range.mpr (by omega)
  simpa using h2
/-- what a row of neighbours adds to what is found -/
def news (ok : Int → Bool) : List Int → List Int → List Int
  | _, [] => []
  | F, q :: r => if ok q = true ∧ q ∉ F then q :: news ok (F ++ [q]) r else news ok F r
theorem news_sub {ok : Int → Bool} : ∀ {r F : List Int} {x : Int}, x ∈ news ok F r → x ∈ r ∧ ok x = true ∧ x ∉ F
  | [], F, x, h => by simp [news] at h
  | q :: r, F, x, h => by
    unfold news at h
    split at h
    · rename_i c
      rcases List.mem_cons.mp h with rfl | h
      · exact ⟨List.mem_cons_self, c⟩
      · obtain ⟨a, b, d⟩ := news_sub h
        exact ⟨List.mem_cons_of_mem _ a, b, fun m => d (List.mem_append_left _ m)⟩
    · obtain ⟨a, b, d⟩ := news_sub h
      exact ⟨List.mem_cons_of_mem _ a, b, d⟩
theorem news_all {ok : Int → Bool} : ∀ {r F : List Int} {x : Int}, x ∈ r → ok x = true → x ∈ F ++ news ok F r
  | q :: r, F, x, m, h => by
    unfold news
    split
    · rename_i c
      rcases List.mem_cons.mp m with rfl | m
      · simp
      · have := news_all (F := F ++ [q]) m h
        simpa using this
    · rename_i c
      rcases List.mem_cons.mp m with rfl | m
      · have : x ∈ F := by
          by_cases q : x ∈ F
          · exact q
          · exact absurd ⟨h, q⟩ c
        exact List.mem_append_left _ this
      · exact news_all m h
theorem news_nodup {ok : Int → Bool} : ∀ {r F : List Int}, F.Nodup → (F ++ news ok F r).Nodup
  | [], F, h => by simpa [news] using h
  | q :: r, F, h => by
    unfold news
    split
    · rename_i c
      have h2 : (F ++ [q]).Nodup := by
        rw [List.nodup_append]
        exact ⟨h, by simp, fun a ha b hb e => by simp at hb; subst hb; subst e; exact c.2 ha⟩
      have := news_nodup (r := r) (ok := ok) h2
      simpa using this
    · exact news_nodup h
/-- found, closed but at those that wait -/
structure Srch (bd : List (List Int)) (ok : Int → Bool) (s : Int) (F Wt : List Int) : Prop where
  nd : F.Nodup
  st : s ∈ F
  rch : ∀ x ∈ F, Rch bd ok s x
  sub : ∀ x ∈ Wt, x ∈ F
  nw : Wt.Nodup
  cl : ∀ x ∈ F, x ∉ Wt → ∀ q ∈ nb bd x, ok q = true → q ∈ F
theorem Srch.done {bd : List (List Int)} {ok : Int → Bool} {s : Int} {F : List Int} (h : Srch bd ok s F []) : ∀ x, x ∈ F ↔ Rch bd ok s x := by
  intro x
  refine ⟨h.rch x, fun r => ?_⟩
  induction r with
  | base => exact h.st
  | step _ m k ih => exact h.cl _ ih (by simp) _ m k
theorem Srch.start (bd : List (List Int)) (ok : Int → Bool) (s : Int) : Srch bd ok s [s] [s] :=
  ⟨by simp, by simp, fun x m => (by simpa using m : x = s) ▸ .base, fun x m => m, by simp, fun x m n => absurd m n⟩
theorem Srch.turn {bd : List (List Int)} {ok : Int → Bool} {s : Int} {F Wt : List Int} {p : Int} (h : Srch bd ok s F (Wt ++ [p])) :
    Srch bd ok s (F ++ news ok F (nb bd p)) (Wt ++ news ok F (nb bd p)) := by
  have hp : p ∈ F := h.sub p (by simp)
  refine ⟨news_nodup h.nd, List.mem_append_left _ h.st, fun x m => ?_, fun x m => ?_, ?_, fun x m n q mq kq => ?_⟩
  · rcases List.mem_append.mp m with m | m
    · exact h.rch x m
    · obtain ⟨a, b, _⟩ := news_sub m
      exact .step (h.rch p hp) a b
  · rcases List.mem_append.mp m with m | m
    · exact List.mem_append_left _ (h.sub x (List.mem_append_left _ m))
    · exact List.mem_append_right _ m
  · have h1 := (List.nodup_append.mp h.nw).1
    have h2 := (List.nodup_append.mp (news_nodup (ok := ok) (r := nb bd p) h.nd)).2.1
    refine List.nodup_append.mpr ⟨h1, h2, fun a ha b hb e => ?_⟩
    subst e
    exact (news_sub hb).2.2 (h.sub a (List.mem_append_left _ ha))
  · rcases List.mem_append.mp m with m | m
    · by_cases e : x = p
      · subst e; exact news_all mq kq
      · refine List.mem_append_left _ (h.cl x m (fun z => ?_) q mq kq)
        rcases List.mem_append.mp z with z | z
        · exact n (List.mem_append_left _ z)
        · exact e (by simpa using z)
    · exact absurd (List.mem_append_right _ m) n
theorem Rch.trans {bd : List (List Int)} {ok : Int → Bool} {a b c : Int} (h : Rch bd ok a b) (k : Rch bd ok b c) : Rch bd ok a c := by
  induction k with
  | base => exact h
  | step _ m q ih => exact .step ih m q
theorem Rch.ok {bd : List (List Int)} {ok : Int → Bool} {a b : Int} (h : Rch bd ok a b) (ha : ok a = true) : ok b = true := by
  cases h with
  | base => exact ha
  | step _ _ q => exact q
theorem Rch.symm {bd : List (List Int)} {ok : Int → Bool} {a b : Int} (B : Bd bd) (ha : OnB bd a) (oa : ok a = true) (h : Rch bd ok a b) : Rch bd ok b a := by
  induction h with
  | base => exact .base
  | @step p q r m k ih =>
    have hp := r.on B ha
    exact Rch.trans (.step .base (B.sym p q hp.1 hp.2 m) (r.ok oa)) ih
theorem head_least {c : List Int} {p : Int} (hc : c.Pairwise (· < ·)) (hp : p ∈ c) (hl : ∀ q ∈ c, p ≤ q) : c.head? = some p := by
  cases c with
  | nil => cases hp
  | cons a r =>
    rcases List.mem_cons.mp hp with rfl | m
    · rfl
    · have h1 := (List.pairwise_cons.mp hc).1 p m
      have h2 := hl a List.mem_cons_self
      omega
/-- ns cut into parts, up to done -/
structure Cut (bd : List (List Int)) (ns done : List Int) (cs : List (List Int)) (sn : List Int) : Prop where
  part : ∀ c ∈ cs, c.Pairwise (· < ·) ∧ ∃ p, c.head? = some p ∧ p ∈ done ∧ ∀ q, q ∈ c ↔ Rch bd (fun x => decide (x ∈ ns)) p q
  nd : sn.Nodup
  seen : ∀ x, x ∈ sn ↔ ∃ c ∈ cs, x ∈ c
  all : ∀ p ∈ done, p ∈ sn
  up : cs.Pairwise fun a b => ∃ x y, a.head? = some x ∧ b.head? = some y ∧ x < y
  ln : cs.length ≤ done.length
  fl : cs.flatten = sn
theorem Cut.start (bd : List (List Int)) (ns : List Int) : Cut bd ns [] [] [] := ⟨by simp, by simp, by simp, by simp, by simp, by simp, rfl⟩
theorem Cut.old {bd : List (List Int)} {ns done : List Int} {cs : List (List Int)} {sn : List Int} {p : Int} (h : Cut bd ns done cs sn) (m : p ∈ sn) : Cut bd ns (done ++ [p]) cs sn :=
  ⟨fun c hc => (h.part c hc).imp id fun ⟨x, a, b, d⟩ => ⟨x, a, List.mem_append_left _ b, d⟩, h.nd, h.seen, fun x hx => by
    rcases List.mem_append.mp hx with hx | hx
    · exact h.all x hx
    · obtain rfl : x = p := by simpa using hx
      exact m, h.up, by have := h.ln; simp; omega, h.fl⟩
theorem Cut.new {bd : List (List Int)} {ns done rest : List Int} {cs : List (List Int)} {sn c : List Int} {p : Int} (B : Bd bd) (hn : ns.Pairwise (· < ·)) (hb : ∀ x ∈ ns, OnB bd x) (e : ns = done ++ p :: rest) (h : Cut bd ns done cs sn) (m : p ∉ sn)
    (hc : c.Pairwise (· < ·)) (hr : ∀ q, q ∈ c ↔ Rch bd (fun x => decide (x ∈ ns)) p q) : Cut bd ns (done ++ [p]) (cs ++ [c]) (sn ++ c) := by
  have pn : p ∈ ns := by rw [e]; simp
  have pc : p ∈ c := (hr p).mpr .base
  have okp : (fun x => decide (x ∈ ns)) p = true := by simpa using pn
  have far : ∀ q ∈ c, q ∉ sn := fun q hq hs => by
    obtain ⟨c', hc', m'⟩ := (h.seen q).mp hs
    obtain ⟨_, p', _, hp', hr'⟩ := h.part c' hc'
    have r1 : Rch bd (fun x => decide (x ∈ ns)) p' q := (hr' q).mp m'
    have r2 := Rch.symm B (hb p pn) okp ((hr q).mp hq)
    exact m ((h.seen p).mpr ⟨c', hc', (hr' p).mpr (r1.trans r2)⟩)
  have inN : ∀ q ∈ c, q ∈ ns := fun q hq => by simpa using ((hr q).mp hq).ok okp
  have hd : c.head? = some p := head_least hc pc fun q hq => by
    have hq2 := inN q hq
    rw [e] at hq2
    rcases List.mem_append.mp hq2 with z | z
    · exact absurd (h.all q z) (far q hq)
    · rcases List.mem_cons.mp z with rfl | z
      · exact Int.le_refl _
      · rw [e] at hn
        have := (List.pairwise_cons.mp (List.pairwise_append.mp hn).2.1).1 q z
        omega
  refine ⟨fun x hx => ?_, ?_, fun x => ?_, fun x hx => ?_, ?_, by have := h.ln; simp; omega, by rw [List.flatten_append, h.fl]; simp⟩
  · rcases List.mem_append.mp hx with hx | hx
    · exact (h.part x hx).imp id fun ⟨x, a, b, d⟩ => ⟨x, a, List.mem_append_left _ b, d⟩
    · obtain rfl : x = c := by simpa using hx
      exact ⟨hc, p, hd, by simp, hr⟩
  · exact List.nodup_append.mpr ⟨h.nd, hc.imp fun h => by omega, fun a ha b hb' e => far b hb' (e ▸ ha)⟩
  · rw [List.mem_append, h.seen]
    constructor
    · rintro (⟨c', a, b⟩ | b)
      · exact ⟨c', List.mem_append_left _ a, b⟩
      · exact ⟨c, by simp, b⟩
    · rintro ⟨c', a, b⟩
      rcases List.mem_append.mp a with a | a
      · exact .inl ⟨c', a, b⟩
      · obtain rfl : c' = c := by simpa using a
        exact .inr b
  · rcases List.mem_append.mp hx with hx | hx
    · exact List.mem_append_left _ (h.all x hx)
    · obtain rfl : x = p := by simpa using hx
      exact List.mem_append_right _ pc
  · refine List.pairwise_append.mpr ⟨h.up, by simp, fun a ha b hb' => ?_⟩
    obtain rfl : b = c := by simpa using hb'
    obtain ⟨_, p', hp', hd', _⟩ := h.part a ha
    refine ⟨p', p, hp', hd, ?_⟩
    rw [e] at hn
    exact (List.pairwise_append.mp hn).2.2 p' hd' p (by simp)
theorem Cut.least {bd : List (List Int)} {ns done : List Int} {cs : List (List Int)} {sn c : List Int} {p : Int} (h : Cut bd ns done cs sn) (hc : c ∈ cs) (e : c.head? = some p) : ∀ q ∈ c, p ≤ q := by
  intro q m
  cases c with
  | nil => cases e
  | cons a r =>
    obtain rfl : a = p := by simpa using e
    rcases List.mem_cons.mp m with rfl | m
    · exact Int.le_refl _
    · have := (List.pairwise_cons.mp (h.part _ hc).1).1 q m
      omega
theorem Cut.mem_heads {bd : List (List Int)} {ns : List Int} {cs : List (List Int)} {sn : List Int} (B : Bd bd) (hb : ∀ x ∈ ns, OnB bd x) (h : Cut bd ns ns cs sn) (x : Int) : x ∈ cs.map (·.headD 0) ↔ x ∈ ns ∧ ∀ q, Rch bd (fun x => decide (x ∈ ns)) x q → x ≤ q := by
  rw [List.mem_map]
  constructor
  · rintro ⟨c, hc, rfl⟩
    obtain ⟨_, p, hp, hn, hr⟩ := h.part c hc
    have e : c.headD 0 = p := by cases c with
      | nil => cases hp
      | cons a r => simpa using hp
    rw [e]
    exact ⟨hn, fun q hq => h.least hc hp q ((hr q).mpr hq)⟩
  · rintro ⟨hx, hl⟩
    obtain ⟨c, hc, m⟩ := (h.seen x).mp (h.all x hx)
    obtain ⟨_, p, hp, hn, hr⟩ := h.part c hc
    have e : c.headD 0 = p := by cases c with
      | nil => cases hp
      | cons a r => simpa using hp
    refine ⟨c, hc, ?_⟩
    rw [e]
    have r1 := Rch.symm B (hb p hn) (by simpa using hn) ((hr x).mp m)
    have h1 := hl p r1
    have h2 := h.least hc hp x m
    omega
theorem heads_ext {P : List Int → Prop} (hP : ∀ a b, P a → P b → a.headD 0 = b.headD 0 → a = b) : ∀ {as bs : List (List Int)}, as.map (·.headD 0) = bs.map (·.headD 0) → (∀ a ∈ as, P a) → (∀ b ∈ bs, P b) → as = bs
  | [], [], _, _, _ => rfl
  | [], _ :: _, e, _, _ => by simp at e
  | _ :: _, [], e, _, _ => by simp at e
  | a :: as, b :: bs, e, h1, h2 => by
    rw [List.map_cons, List.map_cons] at e
    injection e with e1 e2
    rw [hP a b (h1 a (by simp)) (h2 b (by simp)) e1, heads_ext hP e2 (fun x m => h1 x (by simp [m])) (fun x m => h2 x (by simp [m]))]
theorem Cut.heads_lt {bd : List (List Int)} {ns done : List Int} {cs : List (List Int)} {sn : List Int} (h : Cut bd ns done cs sn) : (cs.map (·.headD 0)).Pairwise (· < ·) := by
  rw [List.pairwise_map]
  refine h.up.imp fun {a b} ⟨x, y, e1, e2, l⟩ => ?_
  have f : ∀ {c : List Int} {p : Int}, c.head? = some p → c.headD 0 = p := fun {c p} e => by cases c with
    | nil => cases e
    | cons a r => simpa using e
  rw [f e1, f e2]; exact l
theorem Cut.one {bd : List (List Int)} {ns : List Int} {cs cs' : List (List Int)} {sn sn' : List Int} (B : Bd bd) (hb : ∀ x ∈ ns, OnB bd x) (h : Cut bd ns ns cs sn) (h' : Cut bd ns ns cs' sn') : cs = cs' := by
  refine heads_ext (P := fun c => c.Pairwise (· < ·) ∧ ∀ q, q ∈ c ↔ Rch bd (fun x => decide (x ∈ ns)) (c.headD 0) q) (fun a b ha hb e => ?_) (lt_ext h.heads_lt h'.heads_lt fun x => by rw [h.mem_heads B hb, h'.mem_heads B hb]) ?_ ?_
  · exact lt_ext ha.1 hb.1 fun q => by rw [ha.2, hb.2, e]
  all_goals
    intro c hc
    obtain ⟨h1, p, hp, hn, hr⟩ := Cut.part ‹_› c hc
    have e : c.headD 0 = p := by cases c with
      | nil => cases hp
      | cons a r => simpa using hp
    exact ⟨h1, by rw [e]; exact hr⟩
end MV

namespace MV
open PySem PySem.Spec PyProof.Rows L2
/-! ### plain tools -/
/-- it ends well, with such a value -/
def Ok {α : Type} (m : Res α) (P : α → Prop) : Prop := ∃ a, m = .ok a ∧ P a
section
variable {α β τ ρ : Type}
theorem Ok.of {a : α} {P : α → Prop} (h : P a) : Ok (.ok a) P := ⟨a, rfl, h⟩
theorem Ok.eq {m : Res α} {a : α} {P : α → Prop} (e : m = .ok a) (h : P a) : Ok m P := ⟨a, e, h⟩
theorem Ok.mono {m : Res α} {P Q : α → Prop} (h : Ok m P) (k : ∀ a, P a → Q a) : Ok m Q := h.elim fun a ⟨e, p⟩ => ⟨a, e, k a p⟩
theorem Ok.bind {m : Res α} {Q : α → Prop} {f : α → Res β} {P : β → Prop} (h : Ok m Q) (k : ∀ a, Q a → Ok (f a) P) : Ok (m.bind f) P := by
  obtain ⟨a, rfl, q⟩ := h
  exact k a q
theorem Ok.bindE {m : Res α} {a : α} {f : α → Res β} {P : β → Prop} (e : m = .ok a) (k : Ok (f a) P) : Ok (m.bind f) P := by
  subst e; exact k
theorem Ok.ifR {b : Bool} {x y : Res α} {P : α → Prop} (h : b = true → Ok x P) (k : b = false → Ok y P) : Ok (MV.ifR b x y) P := by
  cases b with
  | true => exact h rfl
  | false => exact k rfl
theorem Ok.forM {xs : List α} {t0 : τ} {f : α → τ → Res τ} {P : τ → Prop} (I : τ → Prop) (h0 : I t0) (hs : ∀ x ∈ xs, ∀ t, I t → Ok (f x t) I) (hp : ∀ t, I t → P t) : Ok (MV.forM xs t0 f) P := by
  induction xs generalizing t0 with
  | nil => exact .of (hp _ h0)
  | cons x r ih =>
    unfold MV.forM
    exact .bind (hs x (by simp) t0 h0) fun t h => ih h fun y m => hs y (by simp [m])
/-- with what was gone through -/
theorem Ok.forP {xs : List α} {t0 : τ} {f : α → τ → Res τ} {P : τ → Prop} (I : List α → τ → Prop) (h0 : I [] t0) (hs : ∀ pre x post t, xs = pre ++ x :: post → I pre t → Ok (f x t) (I (pre ++ [x]))) (hp : ∀ t, I xs t → P t) : Ok (MV.forM xs t0 f) P := by
  have : ∀ (post pre : List α) (t : τ), xs = pre ++ post → I pre t → Ok (MV.forM post t f) (I xs) := by
    intro post
    induction post with
    | nil => intro pre t e h; rw [List.append_nil] at e; subst e; exact .of h
    | cons x r ih =>
      intro pre t e h
      unfold MV.forM
      exact .bind (hs pre x r t e h) fun t h => ih _ t (by rw [e]; simp) h
  exact (this xs [] t0 rfl h0).mono hp
theorem Ok.forC {xs : List α} {t0 : τ} {f : α → τ → Res (Ctl τ ρ)} {P : τ ⊕ ρ → Prop} (I : τ → Prop) (h0 : I t0) (hs : ∀ x ∈ xs, ∀ t, I t → Ok (f x t) fun c => ∃ t', c = .nx t' ∧ I t') (hp : ∀ t, I t → P (.inl t)) : Ok (MV.forC xs t0 f) P := by
  induction xs generalizing t0 with
  | nil => exact .of (hp _ h0)
  | cons x r ih =>
    unfold MV.forC
    refine .bind (hs x (by simp) t0 h0) fun c ⟨t', e, h⟩ => ?_
    subst e
    exact ih h fun y m => hs y (by simp [m])
theorem Ok.forCP {xs : List α} {t0 : τ} {f : α → τ → Res (Ctl τ ρ)} {P : τ ⊕ ρ → Prop} (I : List α → τ → Prop) (h0 : I [] t0) (hs : ∀ pre x post t, xs = pre ++ x :: post → I pre t → Ok (f x t) fun c => ∃ t', c = .nx t' ∧ I (pre ++ [x]) t') (hp : ∀ t, I xs t → P (.inl t)) : Ok (MV.forC xs t0 f) P := by
  have : ∀ (post pre : List α) (t : τ), xs = pre ++ post → I pre t → Ok (MV.forC post t f) fun z => ∃ t', z = .inl t' ∧ I xs t' := by
    intro post
    induction post with
    | nil => intro pre t e h; rw [List.append_nil] at e; subst e; exact .of ⟨t, rfl, h⟩
    | cons x r ih =>
      intro pre t e h
      unfold MV.forC
      refine .bind (hs pre x r t e h) fun c ⟨t', e', h⟩ => ?_
      subst e'
      exact ih _ t' (by rw [e]; simp) h
  exact (this xs [] t0 rfl h0).mono fun z ⟨t', e, h⟩ => e ▸ hp t' h
/-- a while, by a measure -/
theorem Ok.whileM {c : τ → Res Bool} {f : τ → Res τ} {t0 : τ} {P : τ → Prop} (I : τ → Prop) (μ : τ → Nat) (h0 : I t0) (hs : ∀ t, I t → Ok (c t) fun b => (b = true → Ok (f t) fun t' => I t' ∧ μ t' < μ t) ∧ (b = false → P t)) : Ok (MV.whileM c f t0) P := by
  have : ∀ (n : Nat) (t : τ), μ t < n → I t → Ok (MV.whileM c f t) P := by
    intro n
    induction n with
    | zero => intro t h; omega
    | succ n ih =>
      intro t hm h
      rw [whileM_eq]
      refine .bind (hs t h) fun b ⟨h1, h2⟩ => ?_
      cases b with
      | true =>
        rw [if_pos rfl]
        exact .bind (h1 rfl) fun t' ⟨a, b⟩ => ih t' (by omega) a
      | false => exact .of (h2 rfl)
  exact this _ t0 (Nat.lt_succ_self _) h0
theorem Ok.whileC {c : τ → Res Bool} {f : τ → Res (Ctl τ ρ)} {t0 : τ} {P : τ ⊕ ρ → Prop} (I : τ → Prop) (μ : τ → Nat) (h0 : I t0) (hs : ∀ t, I t → Ok (c t) fun b => (b = true → Ok (f t) fun q => match q with
    | .nx t' => I t' ∧ μ t' < μ t
    | .bk t' => P (.inl t')
    | .rt v => P (.inr v)) ∧ (b = false → P (.inl t))) : Ok (MV.whileC c f t0) P := by
  have : ∀ (n : Nat) (t : τ), μ t < n → I t → Ok (MV.whileC c f t) P := by
    intro n
    induction n with
    | zero => intro t h; omega
    | succ n ih =>
      intro t hm h
      rw [whileC_eq]
      refine .bind (hs t h) fun b ⟨h1, h2⟩ => ?_
      cases b with
      | true =>
        rw [if_pos rfl]
        refine .bind (h1 rfl) fun q hq => ?_
        cases q with
        | nx t' => exact ih t' (by have := hq.2; omega) hq.1
        | bk t' => exact .of hq
        | rt v => exact .of hq
      | false => exact .of (h2 rfl)
  exact this _ t0 (Nat.lt_succ_self _) h0
/-! comprehensions -/
theorem mapC_go {f : α → Res β} {g : α → β} : ∀ (xs : List α) (acc : List β), (∀ x ∈ xs, f x = .ok (g x)) → acc.length + xs.length ≤ sizeLine → mapC f xs acc = .ok (acc ++ xs.map g)
  | [], acc, _, _ => by simp [mapC]
  | x :: r, acc, h, hl => by
    unfold mapC
    rw [h x (by simp)]
    simp only [Res.ok_bind]
    rw [if_pos (by simp at hl; omega), mapC_go r (acc ++ [g x]) (fun y m => h y (by simp [m])) (by simp at hl ⊢; omega)]
    simp
theorem mapC_ok {f : α → Res β} (g : α → β) {xs : List α} (h : ∀ x ∈ xs, f x = .ok (g x)) (hl : xs.length ≤ sizeLine) : ner (mapC f xs []) = .ok (xs.map g) := by
  rw [mapC_go xs [] h (by simpa using hl)]; rfl
theorem filC_go {p : α → Res Bool} {f : α → Res β} {q : α → Bool} {g : α → β} : ∀ (xs : List α) (acc : List β), (∀ x ∈ xs, p x = .ok (q x)) → (∀ x ∈ xs, q x = true → f x = .ok (g x)) → acc.length + xs.length ≤ sizeLine → filC p f xs acc = .ok (acc ++ (xs.filter q).map g)
  | [], acc, _, _, _ => by simp [filC]
  | x :: r, acc, h1, h2, hl => by
    unfold filC
    rw [h1 x (by simp)]
    simp only [Res.ok_bind]
    by_cases c : q x = true
    · rw [if_pos c, h2 x (by simp) c]
      simp only [Res.ok_bind]
      rw [if_pos (by simp at hl; omega), filC_go r (acc ++ [g x]) (fun y m => h1 y (by simp [m])) (fun y m => h2 y (by simp [m])) (by simp at hl ⊢; omega)]
      simp [c]
    · rw [if_neg c, filC_go r acc (fun y m => h1 y (by simp [m])) (fun y m => h2 y (by simp [m])) (by simp at hl ⊢; omega)]
      simp [c]
theorem filC_ok {p : α → Res Bool} {f : α → Res β} (q : α → Bool) (g : α → β) {xs : List α} (h1 : ∀ x ∈ xs, p x = .ok (q x)) (h2 : ∀ x ∈ xs, q x = true → f x = .ok (g x)) (hl : xs.length ≤ sizeLine) : ner (filC p f xs []) = .ok ((xs.filter q).map g) := by
  rw [filC_go xs [] h1 h2 (by simpa using hl)]; rfl
theorem filI_ok {p : α → Res Bool} (q : α → Bool) {xs : List α} (h1 : ∀ x ∈ xs, p x = .ok (q x)) (hl : xs.length ≤ sizeLine) : ner (filC p (fun x => .ok x) xs []) = .ok (xs.filter q) := by
  rw [filC_ok (f := fun x => .ok x) q id h1 (fun _ _ _ => rfl) hl, List.map_id]
theorem mapC_Ok {f : α → Res β} {xs : List α} {P : List β → Prop} (R : α → β → Prop) (h : ∀ x ∈ xs, Ok (f x) (R x)) (hl : xs.length ≤ sizeLine) (hp : ∀ ys : List β, ys.length = xs.length → (∀ y ∈ ys, ∃ x ∈ xs, R x y) → P ys) : Ok (ner (mapC f xs [])) P := by
  have : ∀ (xs' : List α) (acc : List β), (∀ x ∈ xs', x ∈ xs) → acc.length + xs'.length ≤ sizeLine → (∀ y ∈ acc, ∃ x ∈ xs, R x y) → ∃ ys, mapC f xs' acc = .ok ys ∧ ys.length = acc.length + xs'.length ∧ ∀ y ∈ ys, ∃ x ∈ xs, R x y := by
    intro xs'
    induction xs' with
    | nil => intro acc _ _ ha; exact ⟨acc, rfl, by simp, ha⟩
    | cons x r ih =>
      intro acc hs hl ha
      obtain ⟨y, e, hy⟩ := h x (hs x (by simp))
      unfold mapC
      rw [e]
      simp only [Res.ok_bind]
      rw [if_pos (by simp at hl; omega)]
      obtain ⟨ys, e1, e2, e3⟩ := ih (acc ++ [y]) (fun z m => hs z (by simp [m])) (by simp at hl ⊢; omega) (fun z m => by
        rcases List.mem_append.mp m with m | m
        · exact ha z m
        · obtain rfl : z = y := by simpa using m
          exact ⟨x, hs x (by simp), hy⟩)
      exact ⟨ys, e1, by simp at e2 ⊢; omega, e3⟩
  obtain ⟨ys, e1, e2, e3⟩ := this xs [] (fun _ m => m) (by simpa using hl) (fun _ m => nomatch m)
  exact ⟨ys, by rw [e1]; rfl, hp ys (by simpa using e2) e3⟩
/-! single steps -/
/-- the item at n, else d -/
def gd (d : α) (xs : List α) (n : Int) : α := (xs[n.toNat]?).getD d
theorem getI_ok (d : α) {xs : List α} {n : Int} (h : 0 ≤ n ∧ n < xs.length) : getI xs n = .ok (gd d xs n) := by
  rw [getI_def, atI_of h.1 (List.getElem?_eq_getElem (by omega : n.toNat < xs.length))]
  unfold gd
  rw [List.getElem?_eq_getElem (by omega : n.toNat < xs.length)]; rfl
theorem getI_last {xs : List α} {a : α} (h : xs.getLast? = some a) : getI xs (-1) = .ok a := by
  rw [getI_def]
  have hl : 0 < xs.length := by
    cases xs with
    | nil => cases h
    | cons _ _ => simp
  rw [List.getLast?_eq_getElem?] at h
  have : ixN xs.length (-1) = some (xs.length - 1) := by
    unfold ixN
    rw [if_neg (by decide), if_pos (by omega)]
    congr 1
    omega
  unfold L2.atI
  rw [this]
  show ofOpt (xs[xs.length - 1]?) = _
  rw [h]; rfl
theorem getI_nat {xs : List α} {j : Nat} {a : α} (h : xs[j]? = some a) : getI xs (j : Int) = .ok a := by
  rw [getI_def, atI_nat h]; rfl
theorem gd_nat {d : α} {xs : List α} {j : Nat} {a : α} (h : xs[j]? = some a) : gd d xs (j : Int) = a := by
  unfold gd; rw [Int.toNat_natCast, h]; rfl
theorem gd_mem {d : α} {xs : List α} {n : Int} (h : 0 ≤ n ∧ n < xs.length) : gd d xs n ∈ xs := by
  unfold gd
  rw [List.getElem?_eq_getElem (by omega : n.toNat < xs.length)]
  exact List.getElem_mem _
theorem gd_off {d : α} {xs : List α} {n : Int} (h : xs.length ≤ n.toNat) : gd d xs n = d := by
  unfold gd; rw [List.getElem?_eq_none h]; rfl
theorem apR_ok {xs : List α} {a : α} (h : xs.length < 16777216) : apR xs a = .ok (xs ++ [a]) := by
  rw [apR_def]; exact chkR_pos h
theorem putS_ok {ns : List Int} {n : Int} (h : ns.length < 16777216) : putS ns n = .ok (insS ns n) := by
  rw [putS_def]; exact chkR_pos h
theorem setI_ok {xs : List α} {n : Int} {a : α} (h : 0 ≤ n ∧ n < xs.length) : setI xs n a = .ok (xs.set n.toNat a) := by
  rw [setI_def]
  have : ixN xs.length n = some n.toNat := by
    unfold ixN
    rw [if_pos h.1, if_pos h.2]
  rw [this]; rfl
theorem insR_ok {xs : List α} {i : Int} {a : α} (h : xs.length < 16777216) (h0 : 0 ≤ i) (h1 : i < 9223372036854775808) : insR xs i a = .ok (xs.take i.toNat ++ [a] ++ xs.drop i.toNat) := by
  rw [insR_def]; exact chkR_pos ⟨h, h0, h1⟩
theorem popR_ok {xs : List α} {a : α} : popR (xs ++ [a]) = .ok (a, xs) := by
  rw [popR_def]; simp
theorem onItem_ok (d : α) {xs : List α} {n : Int} {f : α → Res α} {y : α} (h : 0 ≤ n ∧ n < xs.length) (e : f (gd d xs n) = .ok y) : onItem xs n f = .ok (xs.set n.toNat y) := by
  unfold onItem
  rw [getI_ok d h]
  simp only [Res.ok_bind]
  rw [e]
  simp only [Res.ok_bind]
  exact setI_ok h
theorem extR_ok' {xs ys : List α} (h : xs.length + ys.length ≤ 16777216) : extR xs ys = .ok (xs ++ ys) := extR_ok h
theorem gd_set {d : α} {xs : List α} {n m : Int} {a : α} (hn : 0 ≤ n ∧ n < xs.length) (hm : 0 ≤ m) : gd d (xs.set n.toNat a) m = if m = n then a else gd d xs m := by
  unfold gd
  by_cases e : m = n
  · subst e
    rw [if_pos rfl, List.getElem?_set_self (by omega)]; rfl
  · rw [if_neg e, List.getElem?_set_ne (by omega)]
end
/-! ranges -/
theorem rngI_length (a b : Int) : (rngI a b).length = (b - a).toNat := by unfold rngI; simp
theorem mem_rngI {a b x : Int} : x ∈ rngI a b ↔ a ≤ x ∧ x < b := by
  unfold rngI
  rw [List.mem_map]
  constructor
  · rintro ⟨k, m, rfl⟩
    have := List.mem_range.mp m
    omega
  · rintro ⟨h0, h1⟩
    exact ⟨(x - a).toNat, List.mem_range.mpr (by omega), by omega⟩
theorem rngI_lt (a b : Int) : (rngI a b).Pairwise (· < ·) := by
  unfold rngI
  rw [List.pairwise_map]
  exact List.pairwise_lt_range.imp fun h => by omega
theorem rngI_snoc {a b : Int} (h : a ≤ b) : rngI a (b + 1) = rngI a b ++ [b] := by
  unfold rngI
  have e : (b + 1 - a).toNat = (b - a).toNat + 1 := by omega
  rw [e, List.range_succ, List.map_append]
  simp; omega
theorem rngI_nil {a b : Int} (h : b ≤ a) : rngI a b = [] := by
  unfold rngI
  rw [show (b - a).toNat = 0 by omega]; rfl
theorem rngI_split {a b : Int} {pre post : List Int} {x : Int} (e : rngI a b = pre ++ x :: post) : pre = rngI a x ∧ a ≤ x ∧ x < b ∧ post = rngI (x + 1) b := by
  have hx : x ∈ rngI a b := by rw [e]; simp
  obtain ⟨h0, h1⟩ := mem_rngI.mp hx
  have hp := rngI_lt a b
  rw [e] at hp
  obtain ⟨p1, p2, p3⟩ := List.pairwise_append.mp hp
  obtain ⟨p4, p5⟩ := List.pairwise_cons.mp p2
  refine ⟨lt_ext p1 (rngI_lt _ _) fun y => ?_, h0, h1, lt_ext p5 (rngI_lt _ _) fun y => ?_⟩
  · rw [mem_rngI]
    constructor
    · intro m
      have := mem_rngI.mp (by rw [e]; simp [m] : y ∈ rngI a b)
      have := p3 y m x (by simp)
      omega
    · intro ⟨q0, q1⟩
      have m : y ∈ rngI a b := mem_rngI.mpr ⟨q0, by omega⟩
      rw [e] at m
      rcases List.mem_append.mp m with m | m
      · exact m
      · rcases List.mem_cons.mp m with m | m
        · omega
        · have := p4 y m; omega
  · rw [mem_rngI]
    constructor
    · intro m
      have := mem_rngI.mp (by rw [e]; simp [m] : y ∈ rngI a b)
      have := p4 y m
      omega
    · intro ⟨q0, q1⟩
      have m : y ∈ rngI a b := mem_rngI.mpr ⟨by omega, q1⟩
      rw [e] at m
      rcases List.mem_append.mp m with m | m
      · have := p3 y m x (by simp); omega
      · rcases List.mem_cons.mp m with m | m
        · omega
        · exact m
/-! points -/
open Classical in
/-- the points below n that are so, rising -/
noncomputable def ptsP (n : Nat) (p : Int → Prop) : List Int := (rngI 0 n).filter fun x => decide (p x)
theorem mem_ptsP {n : Nat} {p : Int → Prop} {x : Int} : x ∈ ptsP n p ↔ (0 ≤ x ∧ x < n) ∧ p x := by
  unfold ptsP
  rw [List.mem_filter, mem_rngI]
  simp
theorem ptsP_lt (n : Nat) (p : Int → Prop) : (ptsP n p).Pairwise (· < ·) := (rngI_lt _ _).filter _
theorem ptsP_nd (n : Nat) (p : Int → Prop) : (ptsP n p).Nodup := (ptsP_lt n p).imp fun h => by omega
theorem ptsP_len (n : Nat) (p : Int → Prop) : (ptsP n p).length ≤ n := by
  unfold ptsP
  exact Nat.le_trans (List.length_filter_le _ _) (by rw [rngI_length]; omega)
theorem eq_ptsP {n : Nat} {p : Int → Prop} {xs : List Int} (h : xs.Pairwise (· < ·)) (m : ∀ x, x ∈ xs ↔ (0 ≤ x ∧ x < n) ∧ p x) : xs = ptsP n p :=
  lt_ext h (ptsP_lt n p) fun x => by rw [m, mem_ptsP]
theorem ptsP_congr {n : Nat} {p q : Int → Prop} (h : ∀ x : Int, 0 ≤ x → x < n → (p x ↔ q x)) : ptsP n p = ptsP n q :=
  eq_ptsP (ptsP_lt n p) fun x => by
    rw [mem_ptsP]
    constructor
    · intro ⟨a, b⟩; exact ⟨a, (h x a.1 a.2).mp b⟩
    · intro ⟨a, b⟩; exact ⟨a, (h x a.1 a.2).mpr b⟩
/-- what a stand holds -/
def hold (sd : List Int) (p : Int) : Int := gd 0 sd p
theorem hold_ok {sd : List Int} {p : Int} (h : 0 ≤ p ∧ p < sd.length) : getI sd p = .ok (hold sd p) := getI_ok 0 h
theorem nb_ok {bd : List (List Int)} {p : Int} (h : OnB bd p) : getI bd p = .ok (nb bd p) := getI_ok [] h
theorem nb_gd (bd : List (List Int)) (p : Int) : gd [] bd p = nb bd p := rfl
/-! slices -/
theorem cutP_lo {α : Type} (xs : List α) (k : Nat) : cutP xs (some (k : Int)) none = xs.drop k := by
  unfold cutP
  rw [HT.sIx_nat, HT.sIx_none]
  by_cases h : k ≤ xs.length
  · rw [Nat.min_eq_left h, List.take_of_length_le (by simp)]
  · rw [Nat.min_eq_right (by omega), List.drop_length, List.take_nil, List.drop_eq_nil_of_le (by omega)]
theorem cutP_hi {α : Type} (xs : List α) (k : Nat) : cutP xs none (some (k : Int)) = xs.take k := by
  unfold cutP
  rw [HT.sIx_nat, HT.sIx_none, List.drop_zero, Nat.sub_zero]
  by_cases h : k ≤ xs.length
  · rw [Nat.min_eq_left h]
  · rw [Nat.min_eq_right (by omega), List.take_length, List.take_of_length_le (by omega)]
theorem cutP_drop {α : Type} (xs : List α) : cutP xs none (some (-1)) = xs.dropLast := by
  unfold cutP
  have e : HT.sIx xs.length xs.length (some (-1)) = xs.length - 1 := by
    show (if (-1 : Int) < 0 then ((-1 : Int) + (xs.length : Int)).toNat else min (-1 : Int).toNat xs.length) = _
    rw [if_pos (by decide)]
    omega
  rw [e, HT.sIx_none, List.drop_zero, Nat.sub_zero, List.dropLast_eq_take]
end MV

namespace MV
open PySem PySem.Spec PyProof.Rows L2
/-- come_to(board, start, some) : 0 board, 1 start, 2 some, 3 found, 4 wait, 5 point -/
noncomputable def f_come_to (board : (List (List Int))) (start : Int) (some_ : (List Int)) : Res (List Int) :=
Res.bind (.ok [start]) fun found =>
Res.bind (.ok [start]) fun wait =>
Res.bind (whileM (τ := (List Int) × (List Int)) (fun t => match t with
| (found, wait) => (.ok (decide (0 < (wait.length : Int))))) (fun t => match t with
| (found, wait) =>
Res.bind (Res.bind (popR wait) fun v2 => Res.bind (getI board v2.1) fun v3 => .ok (v3, v2.2)) fun p4 =>
Res.bind (forM (τ := (List Int) × (List Int)) p4.1 (found, p4.2) (fun point t => match t with
| (found, wait) =>
Res.bind ((ifR ((decide (point ∈ some_)) && (!decide (point ∈ found))) (
Res.bind (putS found point) fun found =>
Res.bind (apR wait point) fun wait =>
.ok ((found, wait))) (
.ok ((found, wait)))) : Res ((List Int) × (List Int))) fun t => match t with
| (found, wait) =>
.ok ((found, wait)))) fun t => match t with
| (found, wait) =>
.ok ((found, wait))) (found, wait)) fun t => match t with
| (found, wait) =>
(sortS found)
def b_come_to_1 : B :=
(.cons (.ifs (.an (.cons (.cmp .In (.pl 5 (.pl 2 .nil))) (.cons (.cmp .NotIn (.pl 5 (.pl 3 .nil))) .nil)))
(.cons (.put 3 (.var 5) (.bl true))
(.cons (.expr (.meth 4 .append (.cons (.var 5) .nil)))
.nil))
.nil)
(.kil [5] .nil))
def b_come_to_2 : B :=
(.cons (.fors (.name 5) (.exp (.idx (.pl 0 (.ex (.meth 4 .pop .nil) .nil)))) b_come_to_1)
.nil)
def c_come_to_2 : E :=
(.cmp .Gt (.ex (.bf .len (.pl 4 .nil)) (.ex (.int 0) .nil)))
def b_come_to : B :=
(.cons (.set 3 (.dict1 (.cons (.var 1) (.cons (.bl true) .nil))))
(.cons (.set 4 (.lst (.cons (.var 1) .nil)))
(.cons (.whl c_come_to_2 b_come_to_2)
(.cons (.ret (.bf .sorted (.pl 3 .nil)))
.nil))))
def n_come_to : List Str := ["board", "start", "some", "found", "wait", "point"]
def m_come_to : List AK := [.dat, .dat, .vw]
def ct_come_to (xn : Xc → Exn) : Ct := fun ws R RE => ∃ (board : (List (List Int))) (start : Int) (some_ : (List Int)), ws = [(kD (enT (enT enI))) board, (kD enI) start, kVs some_] ∧ wpR (f_come_to board start some_) (fun (r : (List Int)) => R ((kOl enI) r) [none, none, none]) (fun x => RE (xn x) [none, none, none])
theorem c_come_to {xn : Xc → Exn} (board : (List (List Int))) (start : Int) (some_ : (List Int)) : CtF xn (ct_come_to xn) [(kD (enT (enT enI))) board, (kD enI) start, kVs some_] (f_come_to board start some_) (fun r => (kOl enI) r) (fun r => [none, none, none]) [none, none, none] := fun R RE h => ⟨board, start, some_, rfl, h⟩
theorem s_come_to {xn : Xc → Exn} {Γ : Nat → Ct}  : Keeps Γ b_come_to 6 m_come_to (ct_come_to xn) := by
  rintro ws R RE ⟨board, start, some_, rfl, h⟩
  refine ⟨rfl, ?_⟩
  revert h
  have hX : ∀ S : WSt, S.length = 6 → XS xn (fun x S => RE x (lentX m_come_to [(kD (enT (enT enI))) board, (kD enI) start, kVs some_] S)) (fun x => RE (xn x) [none, none, none]) S := fun S hl x h => by
    show RE (xn x) (lentX m_come_to [(kD (enT (enT enI))) board, (kD enI) start, kVs some_] S)
    rw [show lentX m_come_to [(kD (enT (enT enI))) board, (kD enI) start, kVs some_] S = [none, none, none] from lentX_no m_come_to [(kD (enT (enT enI))) board, (kD enI) start, kVs some_] S rfl rfl (by rw [hl]; decide)]; exact h
  have hE : Flat (fun x S => RE x (lentX m_come_to [(kD (enT (enT enI))) board, (kD enI) start, kVs some_] S)) := flat_lent rfl
  show Sim (f_come_to board start some_) (fun (r : (List Int)) => R ((kOl enI) r) [none, none, none]) (fun x => RE (xn x) [none, none, none]) (semB Γ (fun x S => RE x (lentX m_come_to [(kD (enT (enT enI))) board, (kD enI) start, kVs some_] S)) b_come_to { nx := fun S => R (.d .none) (lentOf m_come_to S), rt := fun w S => R w (lentOf m_come_to S) } [some ((kD (enT (enT enI))) board), some ((kD enI) start), some (kVs some_), none, none, none])
  refine b_set (j_dict1S (jx_p (j_var (i := 1) enI start rfl rfl) (jx_p (j_bl _) jx_nil))) (hX _ rfl) rfl fun found => ?_
  refine b_set (j_lst (jx_p (j_var (i := 1) enI start rfl rfl) jx_nil) enI (fun _ => [start]) (S2 := fun _ => [some ((kD (enT (enT enI))) board), some ((kD enI) start), some (kVs some_), some (kS found), none, none]) (fun _ => rfl) (fun _ => ⟨rfl, Nat.le_of_ble_eq_true rfl⟩) rfl) (hX _ rfl) rfl fun wait => ?_
  refine b_while (fun t1 => [some ((kD (enT (enT enI))) board), some ((kD enI) start), some (kVs some_), some (kS t1.1), some ((kOl enI) t1.2), none]) (found, wait) (fun _ => (hX _ rfl)) ?_ rfl rfl ?_ ?_
  · rintro ⟨found, wait⟩
    exact (j_cmp (op := .Gt) (jo_p (j_bf (f := .len) (jo_pl (i := 4) rfl jo_nil) (fun _ => (o_len enI.e (xs := wait) rfl)) rfl) (jo_p (j_int _) jo_nil)) (fun _ => o_gt) rfl)
  · rintro ⟨found, wait⟩
    intro D N P' hN
    refine b_for (fun t6 => [some ((kD (enT (enT enI))) board), some ((kD enI) start), some (kVs some_), some (kS t6.1), some ((kOl enI) t6.2), none]) (fun p4 => (found, p4.2)) (js_exp (xs := fun p4 => p4.1) (j_idxPop (ix := 0) (iw := 4) (enT enI) (xs := board) rfl rfl rfl (fun _ => rfl) rfl) (fun _ => itD_T enI _)) (hX _ rfl) rfl (fun _ => rfl) (fun _ _ _ h => h) (fun _ _ => trivial) ?_ ?_
    · intro point
      rintro ⟨found, wait⟩
      intro D N P' hN
      refine b_ifN (fun t7 => [some ((kD (enT (enT enI))) board), some ((kD enI) start), some (kVs some_), some (kS t7.1), some ((kOl enI) t7.2), some ((kD enI) point)]) (j_an (jan_p (j_cmp (op := .In) (jo_pl (i := 5) rfl (jo_pl (i := 2) rfl jo_nil)) (fun _ => (o_inS rfl)) rfl) (jan_1 (j_cmp (op := .NotIn) (jo_pl (i := 5) rfl (jo_pl (i := 3) rfl jo_nil)) (fun _ => (o_ninS rfl)) rfl)))) (hX _ rfl) rfl ?_ ?_ ?_
      · intro N P' hN
        refine b_putP rfl (j_bl _) (j_var (i := 5) enI point rfl rfl) rfl p_set (hX _ rfl) rfl fun found => ?_
        refine b_expr (j_meth (i := 4) (mf := .append) rfl rfl (jx_p (j_var (i := 5) enI point rfl rfl) jx_nil) rfl (fun _ => m_append enI rfl) rfl) (hX _ rfl) rfl fun wait => ?_
        first | exact b_end (fun q => hN _ q) | exact fun q => hN _ q
      · intro N P' hN
        first | exact b_end (fun q => hN _ q) | exact fun q => hN _ q
      · rintro ⟨found, wait⟩
        refine b_kil _ rfl ?_
        first | exact b_end (fun q => hN _ q) | exact fun q => hN _ q
    · rintro ⟨found, wait⟩
      first | exact b_end (fun q => hN _ q) | exact fun q => hN _ q
  · rintro ⟨found, wait⟩
    exact b_ret (f := Res.ok) (j_bf (f := .sorted) (jo_pl (i := 3) rfl jo_nil) (fun _ => (o_sortS (ns := found) rfl rfl)) rfl) (hX _ rfl) (bind_ok _).symm (fun _ q => q)
/-- cut_up(board, some) : 0 board, 1 some, 2 there, 3 point, 4 found, 5 seen, 6 other -/
noncomputable def f_cut_up (board : (List (List Int))) (some_ : (List Int)) : Res (List (List Int)) :=
Res.bind (.ok ([] : List Int)) fun there =>
Res.bind (forM (τ := (List Int)) some_ there (fun point there =>
Res.bind (putS there point) fun there =>
.ok (there))) fun there =>
Res.bind (.ok ([] : List (List Int))) fun found =>
Res.bind (.ok ([] : List Int)) fun seen =>
Res.bind (forM (τ := (List (List Int)) × (List Int)) some_ (found, seen) (fun point t => match t with
| (found, seen) =>
Res.bind ((ifR (!decide (point ∈ seen)) (
Res.bind (Res.bind (f_come_to board point there) fun v4 => (apR found v4)) fun found =>
Res.bind (getI found (-1)) fun l5 =>
Res.bind (forM (τ := (List Int)) l5 seen (fun other seen =>
Res.bind (putS seen other) fun seen =>
.ok (seen))) fun seen =>
.ok ((found, seen))) (
.ok ((found, seen)))) : Res ((List (List Int)) × (List Int))) fun t => match t with
| (found, seen) =>
.ok ((found, seen)))) fun t => match t with
| (found, seen) =>
(.ok found)
def b_cut_up_1 : B :=
(.cons (.put 2 (.var 3) (.bl true))
(.kil [3] .nil))
def b_cut_up_3 : B :=
(.cons (.put 5 (.var 6) (.bl true))
(.kil [6] .nil))
def b_cut_up_4 : B :=
(.cons (.ifs (.cmp .NotIn (.pl 3 (.pl 5 .nil)))
(.cons (.expr (.meth 4 .append (.cons (.call 5 [.dat, .dat, .vw] (.pl 0 (.pl 3 (.pl 2 .nil)))) .nil)))
(.cons (.fors (.name 6) (.exp (.idx (.pl 4 (.ex (.neg (.int 1)) .nil)))) b_cut_up_3)
.nil))
.nil)
(.kil [3] .nil))
def b_cut_up : B :=
(.cons (.set 2 .dict0)
(.cons (.fors (.name 3) (.pl 1) b_cut_up_1)
(.cons (.set 4 (.lst .nil))
(.cons (.set 5 .dict0)
(.cons (.fors (.name 3) (.pl 1) b_cut_up_4)
(.cons (.ret (.mv 4))
.nil))))))
def n_cut_up : List Str := ["board", "some", "there", "point", "found", "seen", "other"]
def m_cut_up : List AK := [.dat, .vw]
def ct_cut_up (xn : Xc → Exn) : Ct := fun ws R RE => ∃ (board : (List (List Int))) (some_ : (List Int)), ws = [(kD (enT (enT enI))) board, (kVl enI) some_] ∧ wpR (f_cut_up board some_) (fun (r : (List (List Int))) => R ((kOl (enL enI)) r) [none, none]) (fun x => RE (xn x) [none, none])
theorem c_cut_up {xn : Xc → Exn} (board : (List (List Int))) (some_ : (List Int)) : CtF xn (ct_cut_up xn) [(kD (enT (enT enI))) board, (kVl enI) some_] (f_cut_up board some_) (fun r => (kOl (enL enI)) r) (fun r => [none, none]) [none, none] := fun R RE h => ⟨board, some_, rfl, h⟩
theorem s_cut_up {xn : Xc → Exn} {Γ : Nat → Ct} (h5 : Γ 5 = ct_come_to xn) : Keeps Γ b_cut_up 7 m_cut_up (ct_cut_up xn) := by
  rintro ws R RE ⟨board, some_, rfl, h⟩
  refine ⟨rfl, ?_⟩
  revert h
  have hX : ∀ S : WSt, S.length = 7 → XS xn (fun x S => RE x (lentX m_cut_up [(kD (enT (enT enI))) board, (kVl enI) some_] S)) (fun x => RE (xn x) [none, none]) S := fun S hl x h => by
    show RE (xn x) (lentX m_cut_up [(kD (enT (enT enI))) board, (kVl enI) some_] S)
    rw [show lentX m_cut_up [(kD (enT (enT enI))) board, (kVl enI) some_] S = [none, none] from lentX_no m_cut_up [(kD (enT (enT enI))) board, (kVl enI) some_] S rfl rfl (by rw [hl]; decide)]; exact h
  have hE : Flat (fun x S => RE x (lentX m_cut_up [(kD (enT (enT enI))) board, (kVl enI) some_] S)) := flat_lent rfl
  show Sim (f_cut_up board some_) (fun (r : (List (List Int))) => R ((kOl (enL enI)) r) [none, none]) (fun x => RE (xn x) [none, none]) (semB Γ (fun x S => RE x (lentX m_cut_up [(kD (enT (enT enI))) board, (kVl enI) some_] S)) b_cut_up { nx := fun S => R (.d .none) (lentOf m_cut_up S), rt := fun w S => R w (lentOf m_cut_up S) } [some ((kD (enT (enT enI))) board), some ((kVl enI) some_), none, none, none, none, none])
  refine b_set j_dict0S (hX _ rfl) rfl fun there => ?_
  refine b_for (fun t1 => [some ((kD (enT (enT enI))) board), some ((kVl enI) some_), some (kS t1), none, none, none, none]) (fun _ => there) (js_pl (i := 1) rfl (itW_vl enI some_)) (hX _ rfl) rfl (fun _ => rfl) (fun _ _ _ h => h) (fun _ _ => trivial) ?_ ?_
  · intro point
    rintro there
    intro D N P' hN
    refine b_putP rfl (j_bl _) (j_var (i := 3) enI point rfl rfl) rfl p_set (hX _ rfl) rfl fun there => ?_
    refine b_kil _ rfl ?_
    first | exact b_end (fun q => hN _ q) | exact fun q => hN _ q
  · rintro there
    refine b_set (j_lst jx_nil (enL enI) (fun _ => ([] : List (List Int))) (S2 := fun _ => [some ((kD (enT (enT enI))) board), some ((kVl enI) some_), some (kS there), none, none, none, none]) (fun _ => rfl) (fun _ => ⟨rfl, Nat.le_of_ble_eq_true rfl⟩) rfl) (hX _ rfl) rfl fun found => ?_
    refine b_set j_dict0S (hX _ rfl) rfl fun seen => ?_
    refine b_for (fun t2 => [some ((kD (enT (enT enI))) board), some ((kVl enI) some_), some (kS there), none, some ((kOl (enL enI)) t2.1), some (kS t2.2), none]) (fun _ => (found, seen)) (js_pl (i := 1) rfl (itW_vl enI some_)) (hX _ rfl) rfl (fun _ => rfl) (fun _ _ _ h => h) (fun _ _ => trivial) ?_ ?_
    · intro point
      rintro ⟨found, seen⟩
      intro D N P' hN
      refine b_ifN (fun t3 => [some ((kD (enT (enT enI))) board), some ((kVl enI) some_), some (kS there), some ((kD enI) point), some ((kOl (enL enI)) t3.1), some (kS t3.2), none]) (j_cmp (op := .NotIn) (jo_pl (i := 3) rfl (jo_pl (i := 5) rfl jo_nil)) (fun _ => (o_ninS rfl)) rfl) (hX _ rfl) rfl ?_ ?_ ?_
      · intro N P' hN
        refine b_expr (j_meth (i := 4) (mf := .append) rfl rfl (jx_m (j_call (j := 5) (ms := [.dat, .dat, .vw]) h5 (jc_pl (i := 0) rfl (jc_pl (i := 3) rfl (jc_pl (i := 2) rfl jc_nil))) (fun _ => rfl) (fun _ => (ia_dp rfl (ia_dp rfl (ia_vp rfl rfl ia_nil)))) (fun _ => c_come_to board point there) (fun _ => rfl) rfl rfl (fun _ => rfl) (fun _ => rfl) rfl) jx_nil) rfl (fun v4 => m_append (enL enI) rfl) rfl) (hX _ rfl) rfl fun found => ?_
        refine b_for (fun t6 => [some ((kD (enT (enT enI))) board), some ((kVl enI) some_), some (kS there), some ((kD enI) point), some ((kOl (enL enI)) found), some (kS t6), none]) (fun l5 => seen) (js_exp (xs := id) (j_idx (jo_pl (i := 4) rfl (jo_p (j_neg (j_int _) rfl) jo_nil)) (fun _ => (o_idx (enL enI) (xs := found) rfl)) rfl) (fun _ => itD_L enI _)) (hX _ rfl) rfl (fun _ => rfl) (fun _ _ _ h => h) (fun _ _ => trivial) ?_ ?_
        · intro other
          rintro seen
          intro D N P' hN
          refine b_putP rfl (j_bl _) (j_var (i := 6) enI other rfl rfl) rfl p_set (hX _ rfl) rfl fun seen => ?_
          refine b_kil _ rfl ?_
          first | exact b_end (fun q => hN _ q) | exact fun q => hN _ q
        · rintro seen
          first | exact b_end (fun q => hN _ q) | exact fun q => hN _ q
      · intro N P' hN
        first | exact b_end (fun q => hN _ q) | exact fun q => hN _ q
      · rintro ⟨found, seen⟩
        refine b_kil _ rfl ?_
        first | exact b_end (fun q => hN _ q) | exact fun q => hN _ q
    · rintro ⟨found, seen⟩
      exact b_ret (f := fun r => .ok r) (j_mv (i := 4) (kOl (enL enI)) found rfl) (hX _ rfl) rfl (fun _ q => q)
/-- points_with(stand, held) : 0 stand, 1 held, 2 point -/
noncomputable def f_points_with (stand : (List Int)) (held : Int) : Res (List Int) :=
(Res.bind (rng1 (stand.length : Int)) fun r1 => (ner (filC (fun x2 => (Res.bind (getI stand x2) fun v3 => .ok (decide (v3 = held)))) (fun x2 => (.ok x2)) r1 [])))
def b_points_with : B :=
(.cons (.ret (.comp [2] (.name 2) (.r1 (.ex (.bf .len (.pl 0 .nil)) .nil)) (.some (.cmp .Eq (.ex (.idx (.pl 0 (.pl 2 .nil))) (.pl 1 .nil)))) (.var 2)))
.nil)
def n_points_with : List Str := ["stand", "held", "point"]
def m_points_with : List AK := [.dat, .dat]
def ct_points_with (xn : Xc → Exn) : Ct := fun ws R RE => ∃ (stand : (List Int)) (held : Int), ws = [(kD (enT enI)) stand, (kD enI) held] ∧ wpR (f_points_with stand held) (fun (r : (List Int)) => R ((kOl enI) r) [none, none]) (fun x => RE (xn x) [none, none])
theorem c_points_with {xn : Xc → Exn} (stand : (List Int)) (held : Int) : CtF xn (ct_points_with xn) [(kD (enT enI)) stand, (kD enI) held] (f_points_with stand held) (fun r => (kOl enI) r) (fun r => [none, none]) [none, none] := fun R RE h => ⟨stand, held, rfl, h⟩
theorem s_points_with {xn : Xc → Exn} {Γ : Nat → Ct}  : Keeps Γ b_points_with 3 m_points_with (ct_points_with xn) := by
  rintro ws R RE ⟨stand, held, rfl, h⟩
  refine ⟨rfl, ?_⟩
  revert h
  have hX : ∀ S : WSt, S.length = 3 → XS xn (fun x S => RE x (lentX m_points_with [(kD (enT enI)) stand, (kD enI) held] S)) (fun x => RE (xn x) [none, none]) S := fun S hl x h => by
    show RE (xn x) (lentX m_points_with [(kD (enT enI)) stand, (kD enI) held] S)
    rw [show lentX m_points_with [(kD (enT enI)) stand, (kD enI) held] S = [none, none] from lentX_no m_points_with [(kD (enT enI)) stand, (kD enI) held] S rfl rfl (by rw [hl]; decide)]; exact h
  have hE : Flat (fun x S => RE x (lentX m_points_with [(kD (enT enI)) stand, (kD enI) held] S)) := flat_lent rfl
  show Sim (f_points_with stand held) (fun (r : (List Int)) => R ((kOl enI) r) [none, none]) (fun x => RE (xn x) [none, none]) (semB Γ (fun x S => RE x (lentX m_points_with [(kD (enT enI)) stand, (kD enI) held] S)) b_points_with { nx := fun S => R (.d .none) (lentOf m_points_with S), rt := fun w S => R w (lentOf m_points_with S) } [some ((kD (enT enI)) stand), some ((kD enI) held), none])
  exact b_ret (f := Res.ok) (j_fil (own := [2]) (tg := (.name 2)) (S1 := [some ((kD (enT enI)) stand), some ((kD enI) held), none]) (Sx := fun x2 => [some ((kD (enT enI)) stand), some ((kD enI) held), some ((kD enI) x2)]) (S2 := [some ((kD (enT enI)) stand), some ((kD enI) held), none]) enI (js_r1 (f := fun _ => (stand.length : Int)) (jo_p (j_bf (f := .len) (jo_pl (i := 0) rfl jo_nil) (fun _ => (o_len enI.e (xs := stand) rfl)) rfl) jo_nil) rfl) (fun _ _ h => h) (fun x2 => (j_cmp (op := .Eq) (jo_m (j_idx (jo_pl (i := 0) rfl (jo_pl (i := 2) rfl jo_nil)) (fun _ => (o_idx enI (xs := stand) rfl)) rfl) (jo_pl (i := 1) rfl jo_nil)) (fun v3 => o_eqI) rfl)) (fun x2 => (j_var (i := 2) enI x2 rfl rfl)) (fun _ => rfl) (fun _ _ => rfl) (fun _ => rfl) (fun _ => trivial) rfl rfl) (hX _ rfl) (bind_ok _).symm (fun _ q => q)
/-- patch(board, stand, point) : 0 board, 1 stand, 2 point, 3 there, 4 other -/
noncomputable def f_patch (board : (List (List Int))) (stand : (List Int)) (point : Int) : Res (List Int) :=
Res.bind (.ok ([] : List Int)) fun there =>
Res.bind (Res.bind (getI stand point) fun v1 => (f_points_with stand v1)) fun l2 =>
Res.bind (forM (τ := (List Int)) l2 there (fun other there =>
Res.bind (putS there other) fun there =>
.ok (there))) fun there =>
(f_come_to board point there)
def b_patch_1 : B :=
(.cons (.put 3 (.var 4) (.bl true))
(.kil [4] .nil))
def b_patch : B :=
(.cons (.set 3 .dict0)
(.cons (.fors (.name 4) (.exp (.call 10 [.dat, .dat] (.pl 1 (.ex (.idx (.pl 1 (.pl 2 .nil))) .nil)))) b_patch_1)
(.cons (.ret (.call 5 [.dat, .dat, .vw] (.pl 0 (.pl 2 (.pl 3 .nil)))))
.nil)))
def n_patch : List Str := ["board", "stand", "point", "there", "other"]
def m_patch : List AK := [.dat, .dat, .dat]
def ct_patch (xn : Xc → Exn) : Ct := fun ws R RE => ∃ (board : (List (List Int))) (stand : (List Int)) (point : Int), ws = [(kD (enT (enT enI))) board, (kD (enT enI)) stand, (kD enI) point] ∧ wpR (f_patch board stand point) (fun (r : (List Int)) => R ((kOl enI) r) [none, none, none]) (fun x => RE (xn x) [none, none, none])
theorem c_patch {xn : Xc → Exn} (board : (List (List Int))) (stand : (List Int)) (point : Int) : CtF xn (ct_patch xn) [(kD (enT (enT enI))) board, (kD (enT enI)) stand, (kD enI) point] (f_patch board stand point) (fun r => (kOl enI) r) (fun r => [none, none, none]) [none, none, none] := fun R RE h => ⟨board, stand, point, rfl, h⟩
theorem s_patch {xn : Xc → Exn} {Γ : Nat → Ct} (h5 : Γ 5 = ct_come_to xn) (h10 : Γ 10 = ct_points_with xn) : Keeps Γ b_patch 5 m_patch (ct_patch xn) := by
  rintro ws R RE ⟨board, stand, point, rfl, h⟩
  refine ⟨rfl, ?_⟩
  revert h
  have hX : ∀ S : WSt, S.length = 5 → XS xn (fun x S => RE x (lentX m_patch [(kD (enT (enT enI))) board, (kD (enT enI)) stand, (kD enI) point] S)) (fun x => RE (xn x) [none, none, none]) S := fun S hl x h => by
    show RE (xn x) (lentX m_patch [(kD (enT (enT enI))) board, (kD (enT enI)) stand, (kD enI) point] S)
    rw [show lentX m_patch [(kD (enT (enT enI))) board, (kD (enT enI)) stand, (kD enI) point] S = [none, none, none] from lentX_no m_patch [(kD (enT (enT enI))) board, (kD (enT enI)) stand, (kD enI) point] S rfl rfl (by rw [hl]; decide)]; exact h
  have hE : Flat (fun x S => RE x (lentX m_patch [(kD (enT (enT enI))) board, (kD (enT enI)) stand, (kD enI) point] S)) := flat_lent rfl
  show Sim (f_patch board stand point) (fun (r : (List Int)) => R ((kOl enI) r) [none, none, none]) (fun x => RE (xn x) [none, none, none]) (semB Γ (fun x S => RE x (lentX m_patch [(kD (enT (enT enI))) board, (kD (enT enI)) stand, (kD enI) point] S)) b_patch { nx := fun S => R (.d .none) (lentOf m_patch S), rt := fun w S => R w (lentOf m_patch S) } [some ((kD (enT (enT enI))) board), some ((kD (enT enI)) stand), some ((kD enI) point), none, none])
  refine b_set j_dict0S (hX _ rfl) rfl fun there => ?_
  refine b_for (fun t3 => [some ((kD (enT (enT enI))) board), some ((kD (enT enI)) stand), some ((kD enI) point), some (kS t3), none]) (fun l2 => there) (js_exp (xs := id) (j_call (j := 10) (ms := [.dat, .dat]) h10 (jc_pl (i := 1) rfl (jc_m (j_idx (jo_pl (i := 1) rfl (jo_pl (i := 2) rfl jo_nil)) (fun _ => (o_idx enI (xs := stand) rfl)) rfl) jc_nil)) (fun _ => rfl) (fun _ => (ia_dp rfl (ia_dw ia_nil))) (fun v1 => c_points_with stand v1) (fun _ => rfl) rfl rfl (fun _ => rfl) (fun _ => rfl) rfl) (fun _ => itE_ol enI _)) (hX _ rfl) rfl (fun _ => rfl) (fun _ _ _ h => h) (fun _ _ => trivial) ?_ ?_
  · intro other
    rintro there
    intro D N P' hN
    refine b_putP rfl (j_bl _) (j_var (i := 4) enI other rfl rfl) rfl p_set (hX _ rfl) rfl fun there => ?_
    refine b_kil _ rfl ?_
    first | exact b_end (fun q => hN _ q) | exact fun q => hN _ q
  · rintro there
    exact b_ret (f := Res.ok) (j_call (j := 5) (ms := [.dat, .dat, .vw]) h5 (jc_pl (i := 0) rfl (jc_pl (i := 2) rfl (jc_pl (i := 3) rfl jc_nil))) (fun _ => rfl) (fun _ => (ia_dp rfl (ia_dp rfl (ia_vp rfl rfl ia_nil)))) (fun _ => c_come_to board point there) (fun _ => rfl) rfl rfl (fun _ => rfl) (fun _ => rfl) rfl) (hX _ rfl) (bind_ok _).symm (fun _ q => q)
/-- rows(board, stand) : 0 board, 1 stand -/
noncomputable def f_rows (board : (List (List Int))) (stand : (List Int)) : Res (List (List Int)) :=
(Res.bind (Res.bind (Res.bind (Res.bind (f_points_with stand 1) fun v1 => (f_cut_up board v1)) fun v4 => Res.bind (Res.bind (f_points_with stand 2) fun v2 => (f_cut_up board v2)) fun v5 => .ok (v4, v5)) fun v3 => (extR v3.1 v3.2)) fun v6 => .ok (rsort v6))
def b_rows : B :=
(.cons (.ret (.bf .sorted (.ex (.bin .Add (.ex (.call 6 [.dat, .vw] (.pl 0 (.ex (.call 10 [.dat, .dat] (.pl 1 (.ex (.int 1) .nil))) .nil))) (.ex (.call 6 [.dat, .vw] (.pl 0 (.ex (.call 10 [.dat, .dat] (.pl 1 (.ex (.int 2) .nil))) .nil))) .nil))) .nil)))
.nil)
def n_rows : List Str := ["board", "stand"]
def m_rows : List AK := [.dat, .dat]
def ct_rows (xn : Xc → Exn) : Ct := fun ws R RE => ∃ (board : (List (List Int))) (stand : (List Int)), ws = [(kD (enT (enT enI))) board, (kD (enT enI)) stand] ∧ wpR (f_rows board stand) (fun (r : (List (List Int))) => R ((kOl (enL enI)) r) [none, none]) (fun x => RE (xn x) [none, none])
theorem c_rows {xn : Xc → Exn} (board : (List (List Int))) (stand : (List Int)) : CtF xn (ct_rows xn) [(kD (enT (enT enI))) board, (kD (enT enI)) stand] (f_rows board stand) (fun r => (kOl (enL enI)) r) (fun r => [none, none]) [none, none] := fun R RE h => ⟨board, stand, rfl, h⟩
theorem s_rows {xn : Xc → Exn} {Γ : Nat → Ct} (h6 : Γ 6 = ct_cut_up xn) (h10 : Γ 10 = ct_points_with xn) : Keeps Γ b_rows 2 m_rows (ct_rows xn) := by
  rintro ws R RE ⟨board, stand, rfl, h⟩
  refine ⟨rfl, ?_⟩
  revert h
  have hX : ∀ S : WSt, S.length = 2 → XS xn (fun x S => RE x (lentX m_rows [(kD (enT (enT enI))) board, (kD (enT enI)) stand] S)) (fun x => RE (xn x) [none, none]) S := fun S hl x h => by
    show RE (xn x) (lentX m_rows [(kD (enT (enT enI))) board, (kD (enT enI)) stand] S)
    rw [show lentX m_rows [(kD (enT (enT enI))) board, (kD (enT enI)) stand] S = [none, none] from lentX_no m_rows [(kD (enT (enT enI))) board, (kD (enT enI)) stand] S rfl rfl (by rw [hl]; decide)]; exact h
  have hE : Flat (fun x S => RE x (lentX m_rows [(kD (enT (enT enI))) board, (kD (enT enI)) stand] S)) := flat_lent rfl
  show Sim (f_rows board stand) (fun (r : (List (List Int))) => R ((kOl (enL enI)) r) [none, none]) (fun x => RE (xn x) [none, none]) (semB Γ (fun x S => RE x (lentX m_rows [(kD (enT (enT enI))) board, (kD (enT enI)) stand] S)) b_rows { nx := fun S => R (.d .none) (lentOf m_rows S), rt := fun w S => R w (lentOf m_rows S) } [some ((kD (enT (enT enI))) board), some ((kD (enT enI)) stand)])
  exact b_ret (f := Res.ok) (j_bf (f := .sorted) (jo_m (j_bin (op := .Add) (jo_mm (j_call (j := 6) (ms := [.dat, .vw]) h6 (jc_pl (i := 0) rfl (jc_m (j_call (j := 10) (ms := [.dat, .dat]) h10 (jc_pl (i := 1) rfl (jc_p (j_int _) jc_nil)) (fun _ => rfl) (fun _ => (ia_dp rfl (ia_dw ia_nil))) (fun _ => c_points_with stand 1) (fun _ => rfl) rfl rfl (fun _ => rfl) (fun _ => rfl) rfl) jc_nil)) (fun _ => rfl) (fun _ => (ia_dp rfl (ia_vw rfl ia_nil))) (fun v1 => c_cut_up board v1) (fun _ => rfl) rfl rfl (fun _ => rfl) (fun _ => rfl) rfl) (fun _ => (jo_m (j_call (j := 6) (ms := [.dat, .vw]) h6 (jc_pl (i := 0) rfl (jc_m (j_call (j := 10) (ms := [.dat, .dat]) h10 (jc_pl (i := 1) rfl (jc_p (j_int _) jc_nil)) (fun _ => rfl) (fun _ => (ia_dp rfl (ia_dw ia_nil))) (fun _ => c_points_with stand 2) (fun _ => rfl) rfl rfl (fun _ => rfl) (fun _ => rfl) rfl) jc_nil)) (fun _ => rfl) (fun _ => (ia_dp rfl (ia_vw rfl ia_nil))) (fun v2 => c_cut_up board v2) (fun _ => rfl) rfl rfl (fun _ => rfl) (fun _ => rfl) rfl) jo_nil)) rfl) (fun v3 => (o_addL (enL enI) (xs := v3.1) (ys := v3.2) rfl rfl)) rfl) jo_nil) (fun v6 => (o_sortL (a := v6) rfl)) rfl) (hX _ rfl) (bind_ok _).symm (fun _ q => q)
/-- lands(board, stand) : 0 board, 1 stand -/
noncomputable def f_lands (board : (List (List Int))) (stand : (List Int)) : Res (List (List Int)) :=
(Res.bind (f_points_with stand 0) fun v1 => (f_cut_up board v1))
def b_lands : B :=
(.cons (.ret (.call 6 [.dat, .vw] (.pl 0 (.ex (.call 10 [.dat, .dat] (.pl 1 (.ex (.int 0) .nil))) .nil))))
.nil)
def n_lands : List Str := ["board", "stand"]
def m_lands : List AK := [.dat, .dat]
def ct_lands (xn : Xc → Exn) : Ct := fun ws R RE => ∃ (board : (List (List Int))) (stand : (List Int)), ws = [(kD (enT (enT enI))) board, (kD (enT enI)) stand] ∧ wpR (f_lands board stand) (fun (r : (List (List Int))) => R ((kOl (enL enI)) r) [none, none]) (fun x => RE (xn x) [none, none])
theorem c_lands {xn : Xc → Exn} (board : (List (List Int))) (stand : (List Int)) : CtF xn (ct_lands xn) [(kD (enT (enT enI))) board, (kD (enT enI)) stand] (f_lands board stand) (fun r => (kOl (enL enI)) r) (fun r => [none, none]) [none, none] := fun R RE h => ⟨board, stand, rfl, h⟩
theorem s_lands {xn : Xc → Exn} {Γ : Nat → Ct} (h6 : Γ 6 = ct_cut_up xn) (h10 : Γ 10 = ct_points_with xn) : Keeps Γ b_lands 2 m_lands (ct_lands xn) := by
  rintro ws R RE ⟨board, stand, rfl, h⟩
  refine ⟨rfl, ?_⟩
  revert h
  have hX : ∀ S : WSt, S.length = 2 → XS xn (fun x S => RE x (lentX m_lands [(kD (enT (enT enI))) board, (kD (enT enI)) stand] S)) (fun x => RE (xn x) [none, none]) S := fun S hl x h => by
    show RE (xn x) (lentX m_lands [(kD (enT (enT enI))) board, (kD (enT enI)) stand] S)
    rw [show lentX m_lands [(kD (enT (enT enI))) board, (kD (enT enI)) stand] S = [none, none] from lentX_no m_lands [(kD (enT (enT enI))) board, (kD (enT enI)) stand] S rfl rfl (by rw [hl]; decide)]; exact h
  have hE : Flat (fun x S => RE x (lentX m_lands [(kD (enT (enT enI))) board, (kD (enT enI)) stand] S)) := flat_lent rfl
  show Sim (f_lands board stand) (fun (r : (List (List Int))) => R ((kOl (enL enI)) r) [none, none]) (fun x => RE (xn x) [none, none]) (semB Γ (fun x S => RE x (lentX m_lands [(kD (enT (enT enI))) board, (kD (enT enI)) stand] S)) b_lands { nx := fun S => R (.d .none) (lentOf m_lands S), rt := fun w S => R w (lentOf m_lands S) } [some ((kD (enT (enT enI))) board), some ((kD (enT enI)) stand)])
  exact b_ret (f := Res.ok) (j_call (j := 6) (ms := [.dat, .vw]) h6 (jc_pl (i := 0) rfl (jc_m (j_call (j := 10) (ms := [.dat, .dat]) h10 (jc_pl (i := 1) rfl (jc_p (j_int _) jc_nil)) (fun _ => rfl) (fun _ => (ia_dp rfl (ia_dw ia_nil))) (fun _ => c_points_with stand 0) (fun _ => rfl) rfl rfl (fun _ => rfl) (fun _ => rfl) rfl) jc_nil)) (fun _ => rfl) (fun _ => (ia_dp rfl (ia_vw rfl ia_nil))) (fun v1 => c_cut_up board v1) (fun _ => rfl) rfl rfl (fun _ => rfl) (fun _ => rfl) rfl) (hX _ rfl) (bind_ok _).symm (fun _ q => q)
/-- edge(board, some) : 0 board, 1 some, 2 found, 3 point, 4 other -/
noncomputable def f_edge (board : (List (List Int))) (some_ : (List Int)) : Res (List Int) :=
Res.bind (.ok ([] : List Int)) fun found =>
Res.bind (forM (τ := (List Int)) some_ found (fun point found =>
Res.bind (getI board point) fun l2 =>
Res.bind (forM (τ := (List Int)) l2 found (fun other found =>
Res.bind (putS found other) fun found =>
.ok (found))) fun found =>
.ok (found))) fun found =>
(sortS found)
def b_edge_1 : B :=
(.cons (.put 2 (.var 4) (.bl true))
(.kil [4] .nil))
def b_edge_2 : B :=
(.cons (.fors (.name 4) (.exp (.idx (.pl 0 (.pl 3 .nil)))) b_edge_1)
(.kil [3] .nil))
def b_edge : B :=
(.cons (.set 2 .dict0)
(.cons (.fors (.name 3) (.pl 1) b_edge_2)
(.cons (.ret (.bf .sorted (.pl 2 .nil)))
.nil)))
def n_edge : List Str := ["board", "some", "found", "point", "other"]
def m_edge : List AK := [.dat, .vw]
def ct_edge (xn : Xc → Exn) : Ct := fun ws R RE => ∃ (board : (List (List Int))) (some_ : (List Int)), ws = [(kD (enT (enT enI))) board, (kVl enI) some_] ∧ wpR (f_edge board some_) (fun (r : (List Int)) => R ((kOl enI) r) [none, none]) (fun x => RE (xn x) [none, none])
theorem c_edge {xn : Xc → Exn} (board : (List (List Int))) (some_ : (List Int)) : CtF xn (ct_edge xn) [(kD (enT (enT enI))) board, (kVl enI) some_] (f_edge board some_) (fun r => (kOl enI) r) (fun r => [none, none]) [none, none] := fun R RE h => ⟨board, some_, rfl, h⟩
theorem s_edge {xn : Xc → Exn} {Γ : Nat → Ct}  : Keeps Γ b_edge 5 m_edge (ct_edge xn) := by
  rintro ws R RE ⟨board, some_, rfl, h⟩
  refine ⟨rfl, ?_⟩
  revert h
  have hX : ∀ S : WSt, S.length = 5 → XS xn (fun x S => RE x (lentX m_edge [(kD (enT (enT enI))) board, (kVl enI) some_] S)) (fun x => RE (xn x) [none, none]) S := fun S hl x h => by
    show RE (xn x) (lentX m_edge [(kD (enT (enT enI))) board, (kVl enI) some_] S)
    rw [show lentX m_edge [(kD (enT (enT enI))) board, (kVl enI) some_] S = [none, none] from lentX_no m_edge [(kD (enT (enT enI))) board, (kVl enI) some_] S rfl rfl (by rw [hl]; decide)]; exact h
  have hE : Flat (fun x S => RE x (lentX m_edge [(kD (enT (enT enI))) board, (kVl enI) some_] S)) := flat_lent rfl
  show Sim (f_edge board some_) (fun (r : (List Int)) => R ((kOl enI) r) [none, none]) (fun x => RE (xn x) [none, none]) (semB Γ (fun x S => RE x (lentX m_edge [(kD (enT (enT enI))) board, (kVl enI) some_] S)) b_edge { nx := fun S => R (.d .none) (lentOf m_edge S), rt := fun w S => R w (lentOf m_edge S) } [some ((kD (enT (enT enI))) board), some ((kVl enI) some_), none, none, none])
  refine b_set j_dict0S (hX _ rfl) rfl fun found => ?_
  refine b_for (fun t1 => [some ((kD (enT (enT enI))) board), some ((kVl enI) some_), some (kS t1), none, none]) (fun _ => found) (js_pl (i := 1) rfl (itW_vl enI some_)) (hX _ rfl) rfl (fun _ => rfl) (fun _ _ _ h => h) (fun _ _ => trivial) ?_ ?_
  · intro point
    rintro found
    intro D N P' hN
    refine b_for (fun t3 => [some ((kD (enT (enT enI))) board), some ((kVl enI) some_), some (kS t3), some ((kD enI) point), none]) (fun l2 => found) (js_exp (xs := id) (j_idx (jo_pl (i := 0) rfl (jo_pl (i := 3) rfl jo_nil)) (fun _ => (o_idx (enT enI) (xs := board) rfl)) rfl) (fun _ => itD_T enI _)) (hX _ rfl) rfl (fun _ => rfl) (fun _ _ _ h => h) (fun _ _ => trivial) ?_ ?_
    · intro other
      rintro found
      intro D N P' hN
      refine b_putP rfl (j_bl _) (j_var (i := 4) enI other rfl rfl) rfl p_set (hX _ rfl) rfl fun found => ?_
      refine b_kil _ rfl ?_
      first | exact b_end (fun q => hN _ q) | exact fun q => hN _ q
    · rintro found
      refine b_kil _ rfl ?_
      first | exact b_end (fun q => hN _ q) | exact fun q => hN _ q
  · rintro found
    exact b_ret (f := Res.ok) (j_bf (f := .sorted) (jo_pl (i := 2) rfl jo_nil) (fun _ => (o_sortS (ns := found) rfl rfl)) rfl) (hX _ rfl) (bind_ok _).symm (fun _ q => q)
/-- breaths(board, stand, row) : 0 board, 1 stand, 2 row, 3 point -/
noncomputable def f_breaths (board : (List (List Int))) (stand : (List Int)) (row : (List Int)) : Res (List Int) :=
(Res.bind (f_edge board row) fun l1 => (ner (filC (fun x2 => (Res.bind (getI stand x2) fun v3 => .ok (decide (v3 = 0)))) (fun x2 => (.ok x2)) l1 [])))
def b_breaths : B :=
(.cons (.ret (.comp [3] (.name 3) (.exp (.call 14 [.dat, .vw] (.pl 0 (.pl 2 .nil)))) (.some (.cmp .Eq (.ex (.idx (.pl 1 (.pl 3 .nil))) (.ex (.int 0) .nil)))) (.var 3)))
.nil)
def n_breaths : List Str := ["board", "stand", "row", "point"]
def m_breaths : List AK := [.dat, .dat, .vw]
def ct_breaths (xn : Xc → Exn) : Ct := fun ws R RE => ∃ (board : (List (List Int))) (stand : (List Int)) (row : (List Int)), ws = [(kD (enT (enT enI))) board, (kD (enT enI)) stand, (kVl enI) row] ∧ wpR (f_breaths board stand row) (fun (r : (List Int)) => R ((kOl enI) r) [none, none, none]) (fun x => RE (xn x) [none, none, none])
theorem c_breaths {xn : Xc → Exn} (board : (List (List Int))) (stand : (List Int)) (row : (List Int)) : CtF xn (ct_breaths xn) [(kD (enT (enT enI))) board, (kD (enT enI)) stand, (kVl enI) row] (f_breaths board stand row) (fun r => (kOl enI) r) (fun r => [none, none, none]) [none, none, none] := fun R RE h => ⟨board, stand, row, rfl, h⟩
theorem s_breaths {xn : Xc → Exn} {Γ : Nat → Ct} (h14 : Γ 14 = ct_edge xn) : Keeps Γ b_breaths 4 m_breaths (ct_breaths xn) := by
  rintro ws R RE ⟨board, stand, row, rfl, h⟩
  refine ⟨rfl, ?_⟩
  revert h
  have hX : ∀ S : WSt, S.length = 4 → XS xn (fun x S => RE x (lentX m_breaths [(kD (enT (enT enI))) board, (kD (enT enI)) stand, (kVl enI) row] S)) (fun x => RE (xn x) [none, none, none]) S := fun S hl x h => by
    show RE (xn x) (lentX m_breaths [(kD (enT (enT enI))) board, (kD (enT enI)) stand, (kVl enI) row] S)
    rw [show lentX m_breaths [(kD (enT (enT enI))) board, (kD (enT enI)) stand, (kVl enI) row] S = [none, none, none] from lentX_no m_breaths [(kD (enT (enT enI))) board, (kD (enT enI)) stand, (kVl enI) row] S rfl rfl (by rw [hl]; decide)]; exact h
  have hE : Flat (fun x S => RE x (lentX m_breaths [(kD (enT (enT enI))) board, (kD (enT enI)) stand, (kVl enI) row] S)) := flat_lent rfl
  show Sim (f_breaths board stand row) (fun (r : (List Int)) => R ((kOl enI) r) [none, none, none]) (fun x => RE (xn x) [none, none, none]) (semB Γ (fun x S => RE x (lentX m_breaths [(kD (enT (enT enI))) board, (kD (enT enI)) stand, (kVl enI) row] S)) b_breaths { nx := fun S => R (.d .none) (lentOf m_breaths S), rt := fun w S => R w (lentOf m_breaths S) } [some ((kD (enT (enT enI))) board), some ((kD (enT enI)) stand), some ((kVl enI) row), none])
  exact b_ret (f := Res.ok) (j_fil (own := [3]) (tg := (.name 3)) (S1 := [some ((kD (enT (enT enI))) board), some ((kD (enT enI)) stand), some ((kVl enI) row), none]) (Sx := fun x2 => [some ((kD (enT (enT enI))) board), some ((kD (enT enI)) stand), some ((kVl enI) row), some ((kD enI) x2)]) (S2 := [some ((kD (enT (enT enI))) board), some ((kD (enT enI)) stand), some ((kVl enI) row), none]) enI (js_exp (xs := id) (j_call (j := 14) (ms := [.dat, .vw]) h14 (jc_pl (i := 0) rfl (jc_pl (i := 2) rfl jc_nil)) (fun _ => rfl) (fun _ => (ia_dp rfl (ia_vp rfl rfl ia_nil))) (fun _ => c_edge board row) (fun _ => rfl) rfl rfl (fun _ => rfl) (fun _ => rfl) rfl) (fun _ => itE_ol enI _)) (fun _ _ h => h) (fun x2 => (j_cmp (op := .Eq) (jo_m (j_idx (jo_pl (i := 1) rfl (jo_pl (i := 3) rfl jo_nil)) (fun _ => (o_idx enI (xs := stand) rfl)) rfl) (jo_p (j_int _) jo_nil)) (fun v3 => o_eqI) rfl)) (fun x2 => (j_var (i := 3) enI x2 rfl rfl)) (fun _ => rfl) (fun _ _ => rfl) (fun _ => rfl) (fun _ => trivial) rfl rfl) (hX _ rfl) (bind_ok _).symm (fun _ q => q)
/-- sides(board, stand, land) : 0 board, 1 stand, 2 land, 3 point -/
noncomputable def f_sides (board : (List (List Int))) (stand : (List Int)) (land : (List Int)) : Res (List Int) :=
(Res.bind (Res.bind (f_edge board land) fun l1 => (ner (filC (fun x2 => (Res.bind (getI stand x2) fun v3 => .ok (!decide (v3 = 0)))) (fun x2 => (getI stand x2)) l1 []))) fun v4 => (ssetR v4))
def b_sides : B :=
(.cons (.ret (.sset (.ex (.comp [3] (.name 3) (.exp (.call 14 [.dat, .vw] (.pl 0 (.pl 2 .nil)))) (.some (.cmp .NotEq (.ex (.idx (.pl 1 (.pl 3 .nil))) (.ex (.int 0) .nil)))) (.idx (.pl 1 (.pl 3 .nil)))) .nil)))
.nil)
def n_sides : List Str := ["board", "stand", "land", "point"]
def m_sides : List AK := [.dat, .dat, .vw]
def ct_sides (xn : Xc → Exn) : Ct := fun ws R RE => ∃ (board : (List (List Int))) (stand : (List Int)) (land : (List Int)), ws = [(kD (enT (enT enI))) board, (kD (enT enI)) stand, (kVl enI) land] ∧ wpR (f_sides board stand land) (fun (r : (List Int)) => R ((kOl enI) r) [none, none, none]) (fun x => RE (xn x) [none, none, none])
theorem c_sides {xn : Xc → Exn} (board : (List (List Int))) (stand : (List Int)) (land : (List Int)) : CtF xn (ct_sides xn) [(kD (enT (enT enI))) board, (kD (enT enI)) stand, (kVl enI) land] (f_sides board stand land) (fun r => (kOl enI) r) (fun r => [none, none, none]) [none, none, none] := fun R RE h => ⟨board, stand, land, rfl, h⟩
theorem s_sides {xn : Xc → Exn} {Γ : Nat → Ct} (h14 : Γ 14 = ct_edge xn) : Keeps Γ b_sides 4 m_sides (ct_sides xn) := by
  rintro ws R RE ⟨board, stand, land, rfl, h⟩
  refine ⟨rfl, ?_⟩
  revert h
  have hX : ∀ S : WSt, S.length = 4 → XS xn (fun x S => RE x (lentX m_sides [(kD (enT (enT enI))) board, (kD (enT enI)) stand, (kVl enI) land] S)) (fun x => RE (xn x) [none, none, none]) S := fun S hl x h => by
    show RE (xn x) (lentX m_sides [(kD (enT (enT enI))) board, (kD (enT enI)) stand, (kVl enI) land] S)
    rw [show lentX m_sides [(kD (enT (enT enI))) board, (kD (enT enI)) stand, (kVl enI) land] S = [none, none, none] from lentX_no m_sides [(kD (enT (enT enI))) board, (kD (enT enI)) stand, (kVl enI) land] S rfl rfl (by rw [hl]; decide)]; exact h
  have hE : Flat (fun x S => RE x (lentX m_sides [(kD (enT (enT enI))) board, (kD (enT enI)) stand, (kVl enI) land] S)) := flat_lent rfl
  show Sim (f_sides board stand land) (fun (r : (List Int)) => R ((kOl enI) r) [none, none, none]) (fun x => RE (xn x) [none, none, none]) (semB Γ (fun x S => RE x (lentX m_sides [(kD (enT (enT enI))) board, (kD (enT enI)) stand, (kVl enI) land] S)) b_sides { nx := fun S => R (.d .none) (lentOf m_sides S), rt := fun w S => R w (lentOf m_sides S) } [some ((kD (enT (enT enI))) board), some ((kD (enT enI)) stand), some ((kVl enI) land), none])
  exact b_ret (f := Res.ok) (j_sset (f := fun v4 => v4) (jo_m (j_fil (own := [3]) (tg := (.name 3)) (S1 := [some ((kD (enT (enT enI))) board), some ((kD (enT enI)) stand), some ((kVl enI) land), none]) (Sx := fun x2 => [some ((kD (enT (enT enI))) board), some ((kD (enT enI)) stand), some ((kVl enI) land), some ((kD enI) x2)]) (S2 := [some ((kD (enT (enT enI))) board), some ((kD (enT enI)) stand), some ((kVl enI) land), none]) enI (js_exp (xs := id) (j_call (j := 14) (ms := [.dat, .vw]) h14 (jc_pl (i := 0) rfl (jc_pl (i := 2) rfl jc_nil)) (fun _ => rfl) (fun _ => (ia_dp rfl (ia_vp rfl rfl ia_nil))) (fun _ => c_edge board land) (fun _ => rfl) rfl rfl (fun _ => rfl) (fun _ => rfl) rfl) (fun _ => itE_ol enI _)) (fun _ _ h => h) (fun x2 => (j_cmp (op := .NotEq) (jo_m (j_idx (jo_pl (i := 1) rfl (jo_pl (i := 3) rfl jo_nil)) (fun _ => (o_idx enI (xs := stand) rfl)) rfl) (jo_p (j_int _) jo_nil)) (fun v3 => o_neI) rfl)) (fun x2 => (j_idx (jo_pl (i := 1) rfl (jo_pl (i := 3) rfl jo_nil)) (fun _ => (o_idx enI (xs := stand) rfl)) rfl)) (fun _ => rfl) (fun _ _ => rfl) (fun _ => rfl) (fun _ => trivial) rfl rfl) jo_nil) (fun _ => rfl) rfl) (hX _ rfl) (bind_ok _).symm (fun _ q => q)
/-- is_sound(board, stand) : 0 board, 1 stand, 2 row -/
noncomputable def f_is_sound (board : (List (List Int))) (stand : (List Int)) : Res Bool :=
Res.bind (f_rows board stand) fun l1 =>
Res.bind (forC (τ := Unit) (ρ := Bool) l1 () (fun row _ =>
Res.bind (Res.bind (f_breaths board stand row) fun v3 => .ok (decide (v3 = ([] : List Int)))) fun b5 =>
ifR b5 (
(.ok (.rt false))) (
.ok (.nx ())))) fun z7 => match z7 with
| .inr v => .ok v
| .inl _ =>
(.ok true)
def b_is_sound_1 : B :=
(.cons (.ifs (.cmp .Eq (.ex (.call 15 [.dat, .dat, .vw] (.pl 0 (.pl 1 (.pl 2 .nil)))) (.ex (.lst .nil) .nil)))
(.cons (.ret (.bl false))
.nil)
.nil)
(.kil [2] .nil))
def b_is_sound : B :=
(.cons (.fors (.name 2) (.exp (.call 12 [.dat, .dat] (.pl 0 (.pl 1 .nil)))) b_is_sound_1)
(.cons (.ret (.bl true))
.nil))
def n_is_sound : List Str := ["board", "stand", "row"]
def m_is_sound : List AK := [.dat, .dat]
def ct_is_sound (xn : Xc → Exn) : Ct := fun ws R RE => ∃ (board : (List (List Int))) (stand : (List Int)), ws = [(kD (enT (enT enI))) board, (kD (enT enI)) stand] ∧ wpR (f_is_sound board stand) (fun (r : Bool) => R ((kD enB) r) [none, none]) (fun x => RE (xn x) [none, none])
theorem c_is_sound {xn : Xc → Exn} (board : (List (List Int))) (stand : (List Int)) : CtF xn (ct_is_sound xn) [(kD (enT (enT enI))) board, (kD (enT enI)) stand] (f_is_sound board stand) (fun r => (kD enB) r) (fun r => [none, none]) [none, none] := fun R RE h => ⟨board, stand, rfl, h⟩
theorem s_is_sound {xn : Xc → Exn} {Γ : Nat → Ct} (h12 : Γ 12 = ct_rows xn) (h15 : Γ 15 = ct_breaths xn) : Keeps Γ b_is_sound 3 m_is_sound (ct_is_sound xn) := by
  rintro ws R RE ⟨board, stand, rfl, h⟩
  refine ⟨rfl, ?_⟩
  revert h
  have hX : ∀ S : WSt, S.length = 3 → XS xn (fun x S => RE x (lentX m_is_sound [(kD (enT (enT enI))) board, (kD (enT enI)) stand] S)) (fun x => RE (xn x) [none, none]) S := fun S hl x h => by
    show RE (xn x) (lentX m_is_sound [(kD (enT (enT enI))) board, (kD (enT enI)) stand] S)
    rw [show lentX m_is_sound [(kD (enT (enT enI))) board, (kD (enT enI)) stand] S = [none, none] from lentX_no m_is_sound [(kD (enT (enT enI))) board, (kD (enT enI)) stand] S rfl rfl (by rw [hl]; decide)]; exact h
  have hE : Flat (fun x S => RE x (lentX m_is_sound [(kD (enT (enT enI))) board, (kD (enT enI)) stand] S)) := flat_lent rfl
  show Sim (f_is_sound board stand) (fun (r : Bool) => R ((kD enB) r) [none, none]) (fun x => RE (xn x) [none, none]) (semB Γ (fun x S => RE x (lentX m_is_sound [(kD (enT (enT enI))) board, (kD (enT enI)) stand] S)) b_is_sound { nx := fun S => R (.d .none) (lentOf m_is_sound S), rt := fun w S => R w (lentOf m_is_sound S) } [some ((kD (enT (enT enI))) board), some ((kD (enT enI)) stand), none])
  refine b_forC (fun _ => [some ((kD (enT (enT enI))) board), some ((kD (enT enI)) stand), none]) (fun l1 => ()) (fun (r : Bool) => R ((kD enB) r) [none, none]) (js_exp (xs := id) (j_call (j := 12) (ms := [.dat, .dat]) h12 (jc_pl (i := 0) rfl (jc_pl (i := 1) rfl jc_nil)) (fun _ => rfl) (fun _ => (ia_dp rfl (ia_dp rfl ia_nil))) (fun _ => c_rows board stand) (fun _ => rfl) rfl rfl (fun _ => rfl) (fun _ => rfl) rfl) (fun _ => itE_ol (enL enI) _)) (hX _ rfl) rfl (fun _ => rfl) (fun _ _ _ h => h) (fun _ _ => trivial) (fun v q => q) ?_ ?_
  · intro row
    rintro ⟨⟩
    intro N B' P' hN hB hR
    refine b_if (j_cmp (op := .Eq) (jo_m (j_call (j := 15) (ms := [.dat, .dat, .vw]) h15 (jc_pl (i := 0) rfl (jc_pl (i := 1) rfl (jc_pl (i := 2) rfl jc_nil))) (fun _ => rfl) (fun _ => (ia_dp rfl (ia_dp rfl (ia_vp rfl rfl ia_nil)))) (fun _ => c_breaths board stand row) (fun _ => rfl) rfl rfl (fun _ => rfl) (fun _ => rfl) rfl) (jo_p (j_lst jx_nil enI (fun _ => ([] : List Int)) (S2 := fun _ => [some ((kD (enT (enT enI))) board), some ((kD (enT enI)) stand), some ((kD (enL enI)) row)]) (fun _ => rfl) (fun _ => ⟨rfl, Nat.le_of_ble_eq_true rfl⟩) rfl) jo_nil)) (fun v3 => (o_eq (enL enI) (a := v3) (b := ([] : List Int)) rfl rfl)) rfl) (hX _ rfl) rfl ?_ ?_
    · exact b_ret (f := fun r => .ok (.rt r)) (j_bl _) (hX _ rfl) rfl (fun _ q => hR _ q)
    · refine b_go ?_
      refine b_kil _ rfl ?_
      first | exact b_end (fun q => hN _ q) | exact fun q => hN _ q
  · rintro ⟨⟩
    exact b_ret (f := fun r => .ok r) (j_bl _) (hX _ rfl) rfl (fun _ q => q)
/-- land_of(board, stand, hand) : 0 board, 1 stand, 2 hand, 3 found, 4 land -/
noncomputable def f_land_of (board : (List (List Int))) (stand : (List Int)) (hand : Int) : Res Int :=
Res.bind (.ok (0 : Int)) fun found =>
Res.bind (f_lands board stand) fun l1 =>
Res.bind (forM (τ := Int) l1 found (fun land found =>
Res.bind ((Res.bind (Res.bind (f_sides board stand land) fun v3 => .ok (decide (v3 = [hand]))) fun b5 =>
ifR b5 (
Res.bind (.ok (found + (land.length : Int))) fun found =>
.ok (found)) (
.ok (found))) : Res (Int)) fun found =>
.ok (found))) fun found =>
(.ok found)
def b_land_of_1 : B :=
(.cons (.ifs (.cmp .Eq (.ex (.call 16 [.dat, .dat, .vw] (.pl 0 (.pl 1 (.pl 4 .nil)))) (.ex (.lst (.cons (.var 2) .nil)) .nil)))
(.cons (.set 3 (.bin .Add (.pl 3 (.ex (.bf .len (.pl 4 .nil)) .nil))))
.nil)
.nil)
(.kil [4] .nil))
def b_land_of : B :=
(.cons (.set 3 (.int 0))
(.cons (.fors (.name 4) (.exp (.call 13 [.dat, .dat] (.pl 0 (.pl 1 .nil)))) b_land_of_1)
(.cons (.ret (.var 3))
.nil)))
def n_land_of : List Str := ["board", "stand", "hand", "found", "land"]
def m_land_of : List AK := [.dat, .dat, .dat]
def ct_land_of (xn : Xc → Exn) : Ct := fun ws R RE => ∃ (board : (List (List Int))) (stand : (List Int)) (hand : Int), ws = [(kD (enT (enT enI))) board, (kD (enT enI)) stand, (kD enI) hand] ∧ wpR (f_land_of board stand hand) (fun (r : Int) => R ((kD enI) r) [none, none, none]) (fun x => RE (xn x) [none, none, none])
theorem c_land_of {xn : Xc → Exn} (board : (List (List Int))) (stand : (List Int)) (hand : Int) : CtF xn (ct_land_of xn) [(kD (enT (enT enI))) board, (kD (enT enI)) stand, (kD enI) hand] (f_land_of board stand hand) (fun r => (kD enI) r) (fun r => [none, none, none]) [none, none, none] := fun R RE h => ⟨board, stand, hand, rfl, h⟩
theorem s_land_of {xn : Xc → Exn} {Γ : Nat → Ct} (h13 : Γ 13 = ct_lands xn) (h16 : Γ 16 = ct_sides xn) : Keeps Γ b_land_of 5 m_land_of (ct_land_of xn) := by
  rintro ws R RE ⟨board, stand, hand, rfl, h⟩
  refine ⟨rfl, ?_⟩
  revert h
  have hX : ∀ S : WSt, S.length = 5 → XS xn (fun x S => RE x (lentX m_land_of [(kD (enT (enT enI))) board, (kD (enT enI)) stand, (kD enI) hand] S)) (fun x => RE (xn x) [none, none, none]) S := fun S hl x h => by
    show RE (xn x) (lentX m_land_of [(kD (enT (enT enI))) board, (kD (enT enI)) stand, (kD enI) hand] S)
    rw [show lentX m_land_of [(kD (enT (enT enI))) board, (kD (enT enI)) stand, (kD enI) hand] S = [none, none, none] from lentX_no m_land_of [(kD (enT (enT enI))) board, (kD (enT enI)) stand, (kD enI) hand] S rfl rfl (by rw [hl]; decide)]; exact h
  have hE : Flat (fun x S => RE x (lentX m_land_of [(kD (enT (enT enI))) board, (kD (enT enI)) stand, (kD enI) hand] S)) := flat_lent rfl
  show Sim (f_land_of board stand hand) (fun (r : Int) => R ((kD enI) r) [none, none, none]) (fun x => RE (xn x) [none, none, none]) (semB Γ (fun x S => RE x (lentX m_land_of [(kD (enT (enT enI))) board, (kD (enT enI)) stand, (kD enI) hand] S)) b_land_of { nx := fun S => R (.d .none) (lentOf m_land_of S), rt := fun w S => R w (lentOf m_land_of S) } [some ((kD (enT (enT enI))) board), some ((kD (enT enI)) stand), some ((kD enI) hand), none, none])
  refine b_set (j_int _) (hX _ rfl) rfl fun found => ?_
  refine b_for (fun t2 => [some ((kD (enT (enT enI))) board), some ((kD (enT enI)) stand), some ((kD enI) hand), some ((kD enI) t2), none]) (fun l1 => found) (js_exp (xs := id) (j_call (j := 13) (ms := [.dat, .dat]) h13 (jc_pl (i := 0) rfl (jc_pl (i := 1) rfl jc_nil)) (fun _ => rfl) (fun _ => (ia_dp rfl (ia_dp rfl ia_nil))) (fun _ => c_lands board stand) (fun _ => rfl) rfl rfl (fun _ => rfl) (fun _ => rfl) rfl) (fun _ => itE_ol (enL enI) _)) (hX _ rfl) rfl (fun _ => rfl) (fun _ _ _ h => h) (fun _ _ => trivial) ?_ ?_
  · intro land
    rintro found
    intro D N P' hN
    refine b_ifN (fun t4 => [some ((kD (enT (enT enI))) board), some ((kD (enT enI)) stand), some ((kD enI) hand), some ((kD enI) t4), some ((kD (enL enI)) land)]) (j_cmp (op := .Eq) (jo_m (j_call (j := 16) (ms := [.dat, .dat, .vw]) h16 (jc_pl (i := 0) rfl (jc_pl (i := 1) rfl (jc_pl (i := 4) rfl jc_nil))) (fun _ => rfl) (fun _ => (ia_dp rfl (ia_dp rfl (ia_vp rfl rfl ia_nil)))) (fun _ => c_sides board stand land) (fun _ => rfl) rfl rfl (fun _ => rfl) (fun _ => rfl) rfl) (jo_p (j_lst (jx_p (j_var (i := 2) enI hand rfl rfl) jx_nil) enI (fun _ => [hand]) (S2 := fun _ => [some ((kD (enT (enT enI))) board), some ((kD (enT enI)) stand), some ((kD enI) hand), some ((kD enI) found), some ((kD (enL enI)) land)]) (fun _ => rfl) (fun _ => ⟨rfl, Nat.le_of_ble_eq_true rfl⟩) rfl) jo_nil)) (fun v3 => (o_eq (enL enI) (a := v3) (b := ([hand])) rfl rfl)) rfl) (hX _ rfl) rfl ?_ ?_ ?_
    · intro N P' hN
      refine b_set (j_bin (op := .Add) (jo_pl (i := 3) rfl (jo_p (j_bf (f := .len) (jo_pl (i := 4) rfl jo_nil) (fun _ => (o_len enI.e (xs := land) rfl)) rfl) jo_nil)) (fun _ => o_add) rfl) (hX _ rfl) rfl fun found => ?_
      first | exact b_end (fun q => hN _ q) | exact fun q => hN _ q
    · intro N P' hN
      first | exact b_end (fun q => hN _ q) | exact fun q => hN _ q
    · rintro found
      refine b_kil _ rfl ?_
      first | exact b_end (fun q => hN _ q) | exact fun q => hN _ q
  · rintro found
    exact b_ret (f := fun r => .ok r) (j_var (i := 3) enI found rfl rfl) (hX _ rfl) rfl (fun _ q => q)
/-- stones_of(stand, hand) : 0 stand, 1 hand, 2 what -/
noncomputable def f_stones_of (stand : (List Int)) (hand : Int) : Res Int :=
(Res.bind (ner (filC (fun x1 => (.ok (decide (x1 = hand)))) (fun x1 => (.ok x1)) stand [])) fun v2 => .ok (v2.length : Int))
def b_stones_of : B :=
(.cons (.ret (.bf .len (.ex (.comp [2] (.name 2) (.pl 0) (.some (.cmp .Eq (.pl 2 (.pl 1 .nil)))) (.var 2)) .nil)))
.nil)
def n_stones_of : List Str := ["stand", "hand", "what"]
def m_stones_of : List AK := [.dat, .dat]
def ct_stones_of (xn : Xc → Exn) : Ct := fun ws R RE => ∃ (stand : (List Int)) (hand : Int), ws = [(kD (enT enI)) stand, (kD enI) hand] ∧ wpR (f_stones_of stand hand) (fun (r : Int) => R ((kD enI) r) [none, none]) (fun x => RE (xn x) [none, none])
theorem c_stones_of {xn : Xc → Exn} (stand : (List Int)) (hand : Int) : CtF xn (ct_stones_of xn) [(kD (enT enI)) stand, (kD enI) hand] (f_stones_of stand hand) (fun r => (kD enI) r) (fun r => [none, none]) [none, none] := fun R RE h => ⟨stand, hand, rfl, h⟩
theorem s_stones_of {xn : Xc → Exn} {Γ : Nat → Ct}  : Keeps Γ b_stones_of 3 m_stones_of (ct_stones_of xn) := by
  rintro ws R RE ⟨stand, hand, rfl, h⟩
  refine ⟨rfl, ?_⟩
  revert h
  have hX : ∀ S : WSt, S.length = 3 → XS xn (fun x S => RE x (lentX m_stones_of [(kD (enT enI)) stand, (kD enI) hand] S)) (fun x => RE (xn x) [none, none]) S := fun S hl x h => by
    show RE (xn x) (lentX m_stones_of [(kD (enT enI)) stand, (kD enI) hand] S)
    rw [show lentX m_stones_of [(kD (enT enI)) stand, (kD enI) hand] S = [none, none] from lentX_no m_stones_of [(kD (enT enI)) stand, (kD enI) hand] S rfl rfl (by rw [hl]; decide)]; exact h
  have hE : Flat (fun x S => RE x (lentX m_stones_of [(kD (enT enI)) stand, (kD enI) hand] S)) := flat_lent rfl
  show Sim (f_stones_of stand hand) (fun (r : Int) => R ((kD enI) r) [none, none]) (fun x => RE (xn x) [none, none]) (semB Γ (fun x S => RE x (lentX m_stones_of [(kD (enT enI)) stand, (kD enI) hand] S)) b_stones_of { nx := fun S => R (.d .none) (lentOf m_stones_of S), rt := fun w S => R w (lentOf m_stones_of S) } [some ((kD (enT enI)) stand), some ((kD enI) hand), none])
  exact b_ret (f := Res.ok) (j_bf (f := .len) (jo_m (j_fil (own := [2]) (tg := (.name 2)) (S1 := [some ((kD (enT enI)) stand), some ((kD enI) hand), none]) (Sx := fun x1 => [some ((kD (enT enI)) stand), some ((kD enI) hand), some ((kD enI) x1)]) (S2 := [some ((kD (enT enI)) stand), some ((kD enI) hand), none]) enI (js_pl (i := 0) rfl (itW_T enI stand)) (fun _ _ h => h) (fun x1 => (j_cmp (op := .Eq) (jo_pl (i := 2) rfl (jo_pl (i := 1) rfl jo_nil)) (fun _ => o_eqI) rfl)) (fun x1 => (j_var (i := 2) enI x1 rfl rfl)) (fun _ => rfl) (fun _ _ => rfl) (fun _ => rfl) (fun _ => trivial) rfl rfl) jo_nil) (fun v2 => (o_len enI.e (xs := v2) rfl)) rfl) (hX _ rfl) (bind_ok _).symm (fun _ q => q)
/-- by_stones(board, stand) : 0 board, 1 stand, 2 hand -/
noncomputable def f_by_stones (board : (List (List Int))) (stand : (List Int)) : Res (List Int) :=
(Res.bind (ner (mapC (fun x1 => (Res.bind (Res.bind (f_stones_of stand x1) fun v3 => Res.bind (f_land_of board stand x1) fun v4 => .ok (v3, v4)) fun v2 => .ok (v2.1 + v2.2))) ([1, 2]) [])) fun v5 => .ok v5)
def b_by_stones : B :=
(.cons (.ret (.bf .tuple (.ex (.comp [2] (.name 2) (.exp (.tup (.cons (.int 1) (.cons (.int 2) .nil)))) .none (.bin .Add (.ex (.call 41 [.dat, .dat] (.pl 1 (.pl 2 .nil))) (.ex (.call 40 [.dat, .dat, .dat] (.pl 0 (.pl 1 (.pl 2 .nil)))) .nil)))) .nil)))
.nil)
def n_by_stones : List Str := ["board", "stand", "hand"]
def m_by_stones : List AK := [.dat, .dat]
def ct_by_stones (xn : Xc → Exn) : Ct := fun ws R RE => ∃ (board : (List (List Int))) (stand : (List Int)), ws = [(kD (enT (enT enI))) board, (kD (enT enI)) stand] ∧ wpR (f_by_stones board stand) (fun (r : (List Int)) => R ((kD (enT enI)) r) [none, none]) (fun x => RE (xn x) [none, none])
theorem c_by_stones {xn : Xc → Exn} (board : (List (List Int))) (stand : (List Int)) : CtF xn (ct_by_stones xn) [(kD (enT (enT enI))) board, (kD (enT enI)) stand] (f_by_stones board stand) (fun r => (kD (enT enI)) r) (fun r => [none, none]) [none, none] := fun R RE h => ⟨board, stand, rfl, h⟩
theorem s_by_stones {xn : Xc → Exn} {Γ : Nat → Ct} (h40 : Γ 40 = ct_land_of xn) (h41 : Γ 41 = ct_stones_of xn) : Keeps Γ b_by_stones 3 m_by_stones (ct_by_stones xn) := by
  rintro ws R RE ⟨board, stand, rfl, h⟩
  refine ⟨rfl, ?_⟩
  revert h
  have hX : ∀ S : WSt, S.length = 3 → XS xn (fun x S => RE x (lentX m_by_stones [(kD (enT (enT enI))) board, (kD (enT enI)) stand] S)) (fun x => RE (xn x) [none, none]) S := fun S hl x h => by
    show RE (xn x) (lentX m_by_stones [(kD (enT (enT enI))) board, (kD (enT enI)) stand] S)
    rw [show lentX m_by_stones [(kD (enT (enT enI))) board, (kD (enT enI)) stand] S = [none, none] from lentX_no m_by_stones [(kD (enT (enT enI))) board, (kD (enT enI)) stand] S rfl rfl (by rw [hl]; decide)]; exact h
  have hE : Flat (fun x S => RE x (lentX m_by_stones [(kD (enT (enT enI))) board, (kD (enT enI)) stand] S)) := flat_lent rfl
  show Sim (f_by_stones board stand) (fun (r : (List Int)) => R ((kD (enT enI)) r) [none, none]) (fun x => RE (xn x) [none, none]) (semB Γ (fun x S => RE x (lentX m_by_stones [(kD (enT (enT enI))) board, (kD (enT enI)) stand] S)) b_by_stones { nx := fun S => R (.d .none) (lentOf m_by_stones S), rt := fun w S => R w (lentOf m_by_stones S) } [some ((kD (enT (enT enI))) board), some ((kD (enT enI)) stand), none])
  exact b_ret (f := Res.ok) (j_bf (f := .tuple) (jo_m (j_map (own := [2]) (tg := (.name 2)) (S1 := [some ((kD (enT (enT enI))) board), some ((kD (enT enI)) stand), none]) (Sx := fun x1 => [some ((kD (enT (enT enI))) board), some ((kD (enT enI)) stand), some ((kD enI) x1)]) (S2 := [some ((kD (enT (enT enI))) board), some ((kD (enT enI)) stand), none]) enI (js_exp (xs := id) (j_tup (jx_p (j_int _) (jx_p (j_int _) jx_nil)) (enT enI) (fun _ => [1, 2]) (S2 := fun _ => [some ((kD (enT (enT enI))) board), some ((kD (enT enI)) stand), none]) (fun _ => rfl) (fun _ => ⟨_, rfl, Nat.le_of_ble_eq_true rfl, rfl⟩) rfl) (fun _ => itD_T enI _)) (fun _ _ h => h) (fun x1 => (j_bin (op := .Add) (jo_mm (j_call (j := 41) (ms := [.dat, .dat]) h41 (jc_pl (i := 1) rfl (jc_pl (i := 2) rfl jc_nil)) (fun _ => rfl) (fun _ => (ia_dp rfl (ia_dp rfl ia_nil))) (fun _ => c_stones_of stand x1) (fun _ => rfl) rfl rfl (fun _ => rfl) (fun _ => rfl) rfl) (fun _ => (jo_m (j_call (j := 40) (ms := [.dat, .dat, .dat]) h40 (jc_pl (i := 0) rfl (jc_pl (i := 1) rfl (jc_pl (i := 2) rfl jc_nil))) (fun _ => rfl) (fun _ => (ia_dp rfl (ia_dp rfl (ia_dp rfl ia_nil)))) (fun _ => c_land_of board stand x1) (fun _ => rfl) rfl rfl (fun _ => rfl) (fun _ => rfl) rfl) jo_nil)) rfl) (fun v2 => o_add) rfl)) (fun _ => rfl) (fun _ _ => rfl) (fun _ => trivial) rfl rfl) jo_nil) (fun v5 => (o_tuple enI (xs := v5) rfl)) rfl) (hX _ rfl) (bind_ok _).symm (fun _ q => q)
/-- closes(board, stand, hand) : 0 board, 1 stand, 2 hand, 3 point -/
noncomputable def f_closes (board : (List (List Int))) (stand : (List Int)) (hand : Int) : Res (List (List Int)) :=
(Res.bind (Res.bind (rng1 (stand.length : Int)) fun r1 => (ner (filC (fun x2 => (Res.bind (getI stand x2) fun v3 => .ok (!decide (v3 = hand)))) (fun x2 => (.ok x2)) r1 []))) fun v4 => (f_cut_up board v4))
def b_closes : B :=
(.cons (.ret (.call 6 [.dat, .vw] (.pl 0 (.ex (.comp [3] (.name 3) (.r1 (.ex (.bf .len (.pl 1 .nil)) .nil)) (.some (.cmp .NotEq (.ex (.idx (.pl 1 (.pl 3 .nil))) (.pl 2 .nil)))) (.var 3)) .nil))))
.nil)
def n_closes : List Str := ["board", "stand", "hand", "point"]
def m_closes : List AK := [.dat, .dat, .dat]
def ct_closes (xn : Xc → Exn) : Ct := fun ws R RE => ∃ (board : (List (List Int))) (stand : (List Int)) (hand : Int), ws = [(kD (enT (enT enI))) board, (kD (enT enI)) stand, (kD enI) hand] ∧ wpR (f_closes board stand hand) (fun (r : (List (List Int))) => R ((kOl (enL enI)) r) [none, none, none]) (fun x => RE (xn x) [none, none, none])
theorem c_closes {xn : Xc → Exn} (board : (List (List Int))) (stand : (List Int)) (hand : Int) : CtF xn (ct_closes xn) [(kD (enT (enT enI))) board, (kD (enT enI)) stand, (kD enI) hand] (f_closes board stand hand) (fun r => (kOl (enL enI)) r) (fun r => [none, none, none]) [none, none, none] := fun R RE h => ⟨board, stand, hand, rfl, h⟩
theorem s_closes {xn : Xc → Exn} {Γ : Nat → Ct} (h6 : Γ 6 = ct_cut_up xn) : Keeps Γ b_closes 4 m_closes (ct_closes xn) := by
  rintro ws R RE ⟨board, stand, hand, rfl, h⟩
  refine ⟨rfl, ?_⟩
  revert h
  have hX : ∀ S : WSt, S.length = 4 → XS xn (fun x S => RE x (lentX m_closes [(kD (enT (enT enI))) board, (kD (enT enI)) stand, (kD enI) hand] S)) (fun x => RE (xn x) [none, none, none]) S := fun S hl x h => by
    show RE (xn x) (lentX m_closes [(kD (enT (enT enI))) board, (kD (enT enI)) stand, (kD enI) hand] S)
    rw [show lentX m_closes [(kD (enT (enT enI))) board, (kD (enT enI)) stand, (kD enI) hand] S = [none, none, none] from lentX_no m_closes [(kD (enT (enT enI))) board, (kD (enT enI)) stand, (kD enI) hand] S rfl rfl (by rw [hl]; decide)]; exact h
  have hE : Flat (fun x S => RE x (lentX m_closes [(kD (enT (enT enI))) board, (kD (enT enI)) stand, (kD enI) hand] S)) := flat_lent rfl
  show Sim (f_closes board stand hand) (fun (r : (List (List Int))) => R ((kOl (enL enI)) r) [none, none, none]) (fun x => RE (xn x) [none, none, none]) (semB Γ (fun x S => RE x (lentX m_closes [(kD (enT (enT enI))) board, (kD (enT enI)) stand, (kD enI) hand] S)) b_closes { nx := fun S => R (.d .none) (lentOf m_closes S), rt := fun w S => R w (lentOf m_closes S) } [some ((kD (enT (enT enI))) board), some ((kD (enT enI)) stand), some ((kD enI) hand), none])
  exact b_ret (f := Res.ok) (j_call (j := 6) (ms := [.dat, .vw]) h6 (jc_pl (i := 0) rfl (jc_m (j_fil (own := [3]) (tg := (.name 3)) (S1 := [some ((kD (enT (enT enI))) board), some ((kD (enT enI)) stand), some ((kD enI) hand), none]) (Sx := fun x2 => [some ((kD (enT (enT enI))) board), some ((kD (enT enI)) stand), some ((kD enI) hand), some ((kD enI) x2)]) (S2 := [some ((kD (enT (enT enI))) board), some ((kD (enT enI)) stand), some ((kD enI) hand), none]) enI (js_r1 (f := fun _ => (stand.length : Int)) (jo_p (j_bf (f := .len) (jo_pl (i := 1) rfl jo_nil) (fun _ => (o_len enI.e (xs := stand) rfl)) rfl) jo_nil) rfl) (fun _ _ h => h) (fun x2 => (j_cmp (op := .NotEq) (jo_m (j_idx (jo_pl (i := 1) rfl (jo_pl (i := 3) rfl jo_nil)) (fun _ => (o_idx enI (xs := stand) rfl)) rfl) (jo_pl (i := 2) rfl jo_nil)) (fun v3 => o_neI) rfl)) (fun x2 => (j_var (i := 3) enI x2 rfl rfl)) (fun _ => rfl) (fun _ _ => rfl) (fun _ => rfl) (fun _ => trivial) rfl rfl) jc_nil)) (fun _ => rfl) (fun _ => (ia_dp rfl (ia_vw rfl ia_nil))) (fun v4 => c_cut_up board v4) (fun _ => rfl) rfl rfl (fun _ => rfl) (fun _ => rfl) rfl) (hX _ rfl) (bind_ok _).symm (fun _ q => q)
/-- rows_of(board, stand, hand) : 0 board, 1 stand, 2 hand, 3 row -/
noncomputable def f_rows_of (board : (List (List Int))) (stand : (List Int)) (hand : Int) : Res (List (List Int)) :=
(Res.bind (f_rows board stand) fun l1 => (ner (filC (fun x2 => (Res.bind (Res.bind (getI x2 0) fun v3 => (getI stand v3)) fun v4 => .ok (decide (v4 = hand)))) (fun x2 => (.ok x2)) l1 [])))
def b_rows_of : B :=
(.cons (.ret (.comp [3] (.name 3) (.exp (.call 12 [.dat, .dat] (.pl 0 (.pl 1 .nil)))) (.some (.cmp .Eq (.ex (.idx (.pl 1 (.ex (.idx (.pl 3 (.ex (.int 0) .nil))) .nil))) (.pl 2 .nil)))) (.var 3)))
.nil)
def n_rows_of : List Str := ["board", "stand", "hand", "row"]
def m_rows_of : List AK := [.dat, .dat, .dat]
def ct_rows_of (xn : Xc → Exn) : Ct := fun ws R RE => ∃ (board : (List (List Int))) (stand : (List Int)) (hand : Int), ws = [(kD (enT (enT enI))) board, (kD (enT enI)) stand, (kD enI) hand] ∧ wpR (f_rows_of board stand hand) (fun (r : (List (List Int))) => R ((kOl (enL enI)) r) [none, none, none]) (fun x => RE (xn x) [none, none, none])
theorem c_rows_of {xn : Xc → Exn} (board : (List (List Int))) (stand : (List Int)) (hand : Int) : CtF xn (ct_rows_of xn) [(kD (enT (enT enI))) board, (kD (enT enI)) stand, (kD enI) hand] (f_rows_of board stand hand) (fun r => (kOl (enL enI)) r) (fun r => [none, none, none]) [none, none, none] := fun R RE h => ⟨board, stand, hand, rfl, h⟩
theorem s_rows_of {xn : Xc → Exn} {Γ : Nat → Ct} (h12 : Γ 12 = ct_rows xn) : Keeps Γ b_rows_of 4 m_rows_of (ct_rows_of xn) := by
  rintro ws R RE ⟨board, stand, hand, rfl, h⟩
  refine ⟨rfl, ?_⟩
  revert h
  have hX : ∀ S : WSt, S.length = 4 → XS xn (fun x S => RE x (lentX m_rows_of [(kD (enT (enT enI))) board, (kD (enT enI)) stand, (kD enI) hand] S)) (fun x => RE (xn x) [none, none, none]) S := fun S hl x h => by
    show RE (xn x) (lentX m_rows_of [(kD (enT (enT enI))) board, (kD (enT enI)) stand, (kD enI) hand] S)
    rw [show lentX m_rows_of [(kD (enT (enT enI))) board, (kD (enT enI)) stand, (kD enI) hand] S = [none, none, none] from lentX_no m_rows_of [(kD (enT (enT enI))) board, (kD (enT enI)) stand, (kD enI) hand] S rfl rfl (by rw [hl]; decide)]; exact h
  have hE : Flat (fun x S => RE x (lentX m_rows_of [(kD (enT (enT enI))) board, (kD (enT enI)) stand, (kD enI) hand] S)) := flat_lent rfl
  show Sim (f_rows_of board stand hand) (fun (r : (List (List Int))) => R ((kOl (enL enI)) r) [none, none, none]) (fun x => RE (xn x) [none, none, none]) (semB Γ (fun x S => RE x (lentX m_rows_of [(kD (enT (enT enI))) board, (kD (enT enI)) stand, (kD enI) hand] S)) b_rows_of { nx := fun S => R (.d .none) (lentOf m_rows_of S), rt := fun w S => R w (lentOf m_rows_of S) } [some ((kD (enT (enT enI))) board), some ((kD (enT enI)) stand), some ((kD enI) hand), none])
  exact b_ret (f := Res.ok) (j_fil (own := [3]) (tg := (.name 3)) (S1 := [some ((kD (enT (enT enI))) board), some ((kD (enT enI)) stand), some ((kD enI) hand), none]) (Sx := fun x2 => [some ((kD (enT (enT enI))) board), some ((kD (enT enI)) stand), some ((kD enI) hand), some ((kD (enL enI)) x2)]) (S2 := [some ((kD (enT (enT enI))) board), some ((kD (enT enI)) stand), some ((kD enI) hand), none]) (enL enI) (js_exp (xs := id) (j_call (j := 12) (ms := [.dat, .dat]) h12 (jc_pl (i := 0) rfl (jc_pl (i := 1) rfl jc_nil)) (fun _ => rfl) (fun _ => (ia_dp rfl (ia_dp rfl ia_nil))) (fun _ => c_rows board stand) (fun _ => rfl) rfl rfl (fun _ => rfl) (fun _ => rfl) rfl) (fun _ => itE_ol (enL enI) _)) (fun _ _ h => h) (fun x2 => (j_cmp (op := .Eq) (jo_m (j_idx (jo_pl (i := 1) rfl (jo_m (j_idx (jo_pl (i := 3) rfl (jo_p (j_int _) jo_nil)) (fun _ => (o_idx enI (xs := x2) rfl)) rfl) jo_nil)) (fun v3 => (o_idx enI (xs := stand) rfl)) rfl) (jo_pl (i := 2) rfl jo_nil)) (fun v4 => o_eqI) rfl)) (fun x2 => (j_var (i := 3) (enL enI) x2 rfl rfl)) (fun _ => rfl) (fun _ _ => rfl) (fun _ => rfl) (fun _ => trivial) rfl rfl) (hX _ rfl) (bind_ok _).symm (fun _ q => q)
/-- is_beside(board, close, row) : 0 board, 1 close, 2 row, 3 near, 4 point -/
noncomputable def f_is_beside (board : (List (List Int))) (close : (List Int)) (row : (List Int)) : Res Bool :=
Res.bind (f_edge board row) fun near =>
(Res.bind (ner (mapC (fun x1 => (.ok (decide (x1 ∈ near)))) close [])) fun v2 => .ok (v2.any id))
def b_is_beside : B :=
(.cons (.set 3 (.call 14 [.dat, .vw] (.pl 0 (.pl 2 .nil))))
(.cons (.ret (.bf .any (.ex (.comp [4] (.name 4) (.pl 1) .none (.cmp .In (.pl 4 (.pl 3 .nil)))) .nil)))
.nil))
def n_is_beside : List Str := ["board", "close", "row", "near", "point"]
def m_is_beside : List AK := [.dat, .vw, .vw]
def ct_is_beside (xn : Xc → Exn) : Ct := fun ws R RE => ∃ (board : (List (List Int))) (close : (List Int)) (row : (List Int)), ws = [(kD (enT (enT enI))) board, (kVl enI) close, (kVl enI) row] ∧ wpR (f_is_beside board close row) (fun (r : Bool) => R ((kD enB) r) [none, none, none]) (fun x => RE (xn x) [none, none, none])
theorem c_is_beside {xn : Xc → Exn} (board : (List (List Int))) (close : (List Int)) (row : (List Int)) : CtF xn (ct_is_beside xn) [(kD (enT (enT enI))) board, (kVl enI) close, (kVl enI) row] (f_is_beside board close row) (fun r => (kD enB) r) (fun r => [none, none, none]) [none, none, none] := fun R RE h => ⟨board, close, row, rfl, h⟩
theorem s_is_beside {xn : Xc → Exn} {Γ : Nat → Ct} (h14 : Γ 14 = ct_edge xn) : Keeps Γ b_is_beside 5 m_is_beside (ct_is_beside xn) := by
  rintro ws R RE ⟨board, close, row, rfl, h⟩
  refine ⟨rfl, ?_⟩
  revert h
  have hX : ∀ S : WSt, S.length = 5 → XS xn (fun x S => RE x (lentX m_is_beside [(kD (enT (enT enI))) board, (kVl enI) close, (kVl enI) row] S)) (fun x => RE (xn x) [none, none, none]) S := fun S hl x h => by
    show RE (xn x) (lentX m_is_beside [(kD (enT (enT enI))) board, (kVl enI) close, (kVl enI) row] S)
    rw [show lentX m_is_beside [(kD (enT (enT enI))) board, (kVl enI) close, (kVl enI) row] S = [none, none, none] from lentX_no m_is_beside [(kD (enT (enT enI))) board, (kVl enI) close, (kVl enI) row] S rfl rfl (by rw [hl]; decide)]; exact h
  have hE : Flat (fun x S => RE x (lentX m_is_beside [(kD (enT (enT enI))) board, (kVl enI) close, (kVl enI) row] S)) := flat_lent rfl
  show Sim (f_is_beside board close row) (fun (r : Bool) => R ((kD enB) r) [none, none, none]) (fun x => RE (xn x) [none, none, none]) (semB Γ (fun x S => RE x (lentX m_is_beside [(kD (enT (enT enI))) board, (kVl enI) close, (kVl enI) row] S)) b_is_beside { nx := fun S => R (.d .none) (lentOf m_is_beside S), rt := fun w S => R w (lentOf m_is_beside S) } [some ((kD (enT (enT enI))) board), some ((kVl enI) close), some ((kVl enI) row), none, none])
  refine b_set (j_call (j := 14) (ms := [.dat, .vw]) h14 (jc_pl (i := 0) rfl (jc_pl (i := 2) rfl jc_nil)) (fun _ => rfl) (fun _ => (ia_dp rfl (ia_vp rfl rfl ia_nil))) (fun _ => c_edge board row) (fun _ => rfl) rfl rfl (fun _ => rfl) (fun _ => rfl) rfl) (hX _ rfl) rfl fun near => ?_
  exact b_ret (f := Res.ok) (j_bf (f := .any) (jo_m (j_map (own := [4]) (tg := (.name 4)) (S1 := [some ((kD (enT (enT enI))) board), some ((kVl enI) close), some ((kVl enI) row), some ((kOl enI) near), none]) (Sx := fun x1 => [some ((kD (enT (enT enI))) board), some ((kVl enI) close), some ((kVl enI) row), some ((kOl enI) near), some ((kD enI) x1)]) (S2 := [some ((kD (enT (enT enI))) board), some ((kVl enI) close), some ((kVl enI) row), some ((kOl enI) near), none]) enB (js_pl (i := 1) rfl (itW_vl enI close)) (fun _ _ h => h) (fun x1 => (j_cmp (op := .In) (jo_pl (i := 4) rfl (jo_pl (i := 3) rfl jo_nil)) (fun _ => (o_in enI (a := x1) (xs := near) rfl rfl (.inl rfl))) rfl)) (fun _ => rfl) (fun _ _ => rfl) (fun _ => trivial) rfl rfl) jo_nil) (fun v2 => (o_any (bs := v2) rfl)) rfl) (hX _ rfl) (bind_ok _).symm (fun _ q => q)
/-- strangers(board, stand, close, row) : 0 board, 1 stand, 2 close, 3 row, 4 near, 5 point -/
noncomputable def f_strangers (board : (List (List Int))) (stand : (List Int)) (close : (List Int)) (row : (List Int)) : Res (List Int) :=
Res.bind (f_edge board row) fun near =>
(ner (filC (fun x1 => (Res.bind (Res.bind (getI stand x1) fun v2 => .ok (decide (v2 = 0))) fun b3 => ifR b3 (.ok (!decide (x1 ∈ near))) (.ok false))) (fun x1 => (.ok x1)) close []))
def b_strangers : B :=
(.cons (.set 4 (.call 14 [.dat, .vw] (.pl 0 (.pl 3 .nil))))
(.cons (.ret (.comp [5] (.name 5) (.pl 2) (.some (.an (.cons (.cmp .Eq (.ex (.idx (.pl 1 (.pl 5 .nil))) (.ex (.int 0) .nil))) (.cons (.cmp .NotIn (.pl 5 (.pl 4 .nil))) .nil)))) (.var 5)))
.nil))
def n_strangers : List Str := ["board", "stand", "close", "row", "near", "point"]
def m_strangers : List AK := [.dat, .dat, .vw, .vw]
def ct_strangers (xn : Xc → Exn) : Ct := fun ws R RE => ∃ (board : (List (List Int))) (stand : (List Int)) (close : (List Int)) (row : (List Int)), ws = [(kD (enT (enT enI))) board, (kD (enT enI)) stand, (kVl enI) close, (kVl enI) row] ∧ wpR (f_strangers board stand close row) (fun (r : (List Int)) => R ((kOl enI) r) [none, none, none, none]) (fun x => RE (xn x) [none, none, none, none])
theorem c_strangers {xn : Xc → Exn} (board : (List (List Int))) (stand : (List Int)) (close : (List Int)) (row : (List Int)) : CtF xn (ct_strangers xn) [(kD (enT (enT enI))) board, (kD (enT enI)) stand, (kVl enI) close, (kVl enI) row] (f_strangers board stand close row) (fun r => (kOl enI) r) (fun r => [none, none, none, none]) [none, none, none, none] := fun R RE h => ⟨board, stand, close, row, rfl, h⟩
theorem s_strangers {xn : Xc → Exn} {Γ : Nat → Ct} (h14 : Γ 14 = ct_edge xn) : Keeps Γ b_strangers 6 m_strangers (ct_strangers xn) := by
  rintro ws R RE ⟨board, stand, close, row, rfl, h⟩
  refine ⟨rfl, ?_⟩
  revert h
  have hX : ∀ S : WSt, S.length = 6 → XS xn (fun x S => RE x (lentX m_strangers [(kD (enT (enT enI))) board, (kD (enT enI)) stand, (kVl enI) close, (kVl enI) row] S)) (fun x => RE (xn x) [none, none, none, none]) S := fun S hl x h => by
    show RE (xn x) (lentX m_strangers [(kD (enT (enT enI))) board, (kD (enT enI)) stand, (kVl enI) close, (kVl enI) row] S)
    rw [show lentX m_strangers [(kD (enT (enT enI))) board, (kD (enT enI)) stand, (kVl enI) close, (kVl enI) row] S = [none, none, none, none] from lentX_no m_strangers [(kD (enT (enT enI))) board, (kD (enT enI)) stand, (kVl enI) close, (kVl enI) row] S rfl rfl (by rw [hl]; decide)]; exact h
  have hE : Flat (fun x S => RE x (lentX m_strangers [(kD (enT (enT enI))) board, (kD (enT enI)) stand, (kVl enI) close, (kVl enI) row] S)) := flat_lent rfl
  show Sim (f_strangers board stand close row) (fun (r : (List Int)) => R ((kOl enI) r) [none, none, none, none]) (fun x => RE (xn x) [none, none, none, none]) (semB Γ (fun x S => RE x (lentX m_strangers [(kD (enT (enT enI))) board, (kD (enT enI)) stand, (kVl enI) close, (kVl enI) row] S)) b_strangers { nx := fun S => R (.d .none) (lentOf m_strangers S), rt := fun w S => R w (lentOf m_strangers S) } [some ((kD (enT (enT enI))) board), some ((kD (enT enI)) stand), some ((kVl enI) close), some ((kVl enI) row), none, none])
  refine b_set (j_call (j := 14) (ms := [.dat, .vw]) h14 (jc_pl (i := 0) rfl (jc_pl (i := 3) rfl jc_nil)) (fun _ => rfl) (fun _ => (ia_dp rfl (ia_vp rfl rfl ia_nil))) (fun _ => c_edge board row) (fun _ => rfl) rfl rfl (fun _ => rfl) (fun _ => rfl) rfl) (hX _ rfl) rfl fun near => ?_
  exact b_ret (f := Res.ok) (j_fil (own := [5]) (tg := (.name 5)) (S1 := [some ((kD (enT (enT enI))) board), some ((kD (enT enI)) stand), some ((kVl enI) close), some ((kVl enI) row), some ((kOl enI) near), none]) (Sx := fun x1 => [some ((kD (enT (enT enI))) board), some ((kD (enT enI)) stand), some ((kVl enI) close), some ((kVl enI) row), some ((kOl enI) near), some ((kD enI) x1)]) (S2 := [some ((kD (enT (enT enI))) board), some ((kD (enT enI)) stand), some ((kVl enI) close), some ((kVl enI) row), some ((kOl enI) near), none]) enI (js_pl (i := 2) rfl (itW_vl enI close)) (fun _ _ h => h) (fun x1 => (j_an (jan_m (j_cmp (op := .Eq) (jo_m (j_idx (jo_pl (i := 1) rfl (jo_pl (i := 5) rfl jo_nil)) (fun _ => (o_idx enI (xs := stand) rfl)) rfl) (jo_p (j_int _) jo_nil)) (fun v2 => o_eqI) rfl) (jan_1 (j_cmp (op := .NotIn) (jo_pl (i := 5) rfl (jo_pl (i := 4) rfl jo_nil)) (fun _ => (o_nin enI (a := x1) (xs := near) rfl rfl (.inl rfl))) rfl)) rfl))) (fun x1 => (j_var (i := 5) enI x1 rfl rfl)) (fun _ => rfl) (fun _ _ => rfl) (fun _ => rfl) (fun _ => trivial) rfl rfl) (hX _ rfl) (bind_ok _).symm (fun _ q => q)
/-- held_by(board, stand, some, row) : 0 board, 1 stand, 2 some, 3 row, 4 close -/
noncomputable def f_held_by (board : (List (List Int))) (stand : (List Int)) (some_ : (List (List Int))) (row : (List Int)) : Res (List (List Int)) :=
(ner (filC (fun x1 => (Res.bind (f_strangers board stand x1 row) fun v2 => .ok (decide (v2 = ([] : List Int))))) (fun x1 => (.ok x1)) some_ []))
def b_held_by : B :=
(.cons (.ret (.comp [4] (.name 4) (.pl 2) (.some (.cmp .Eq (.ex (.call 53 [.dat, .dat, .vw, .vw] (.pl 0 (.pl 1 (.pl 4 (.pl 3 .nil))))) (.ex (.lst .nil) .nil)))) (.var 4)))
.nil)
def n_held_by : List Str := ["board", "stand", "some", "row", "close"]
def m_held_by : List AK := [.dat, .dat, .vw, .vw]
def ct_held_by (xn : Xc → Exn) : Ct := fun ws R RE => ∃ (board : (List (List Int))) (stand : (List Int)) (some_ : (List (List Int))) (row : (List Int)), ws = [(kD (enT (enT enI))) board, (kD (enT enI)) stand, (kVl (enL enI)) some_, (kVl enI) row] ∧ wpR (f_held_by board stand some_ row) (fun (r : (List (List Int))) => R ((kOl (enL enI)) r) [none, none, none, none]) (fun x => RE (xn x) [none, none, none, none])
theorem c_held_by {xn : Xc → Exn} (board : (List (List Int))) (stand : (List Int)) (some_ : (List (List Int))) (row : (List Int)) : CtF xn (ct_held_by xn) [(kD (enT (enT enI))) board, (kD (enT enI)) stand, (kVl (enL enI)) some_, (kVl enI) row] (f_held_by board stand some_ row) (fun r => (kOl (enL enI)) r) (fun r => [none, none, none, none]) [none, none, none, none] := fun R RE h => ⟨board, stand, some_, row, rfl, h⟩
theorem s_held_by {xn : Xc → Exn} {Γ : Nat → Ct} (h53 : Γ 53 = ct_strangers xn) : Keeps Γ b_held_by 5 m_held_by (ct_held_by xn) := by
  rintro ws R RE ⟨board, stand, some_, row, rfl, h⟩
  refine ⟨rfl, ?_⟩
  revert h
  have hX : ∀ S : WSt, S.length = 5 → XS xn (fun x S => RE x (lentX m_held_by [(kD (enT (enT enI))) board, (kD (enT enI)) stand, (kVl (enL enI)) some_, (kVl enI) row] S)) (fun x => RE (xn x) [none, none, none, none]) S := fun S hl x h => by
    show RE (xn x) (lentX m_held_by [(kD (enT (enT enI))) board, (kD (enT enI)) stand, (kVl (enL enI)) some_, (kVl enI) row] S)
    rw [show lentX m_held_by [(kD (enT (enT enI))) board, (kD (enT enI)) stand, (kVl (enL enI)) some_, (kVl enI) row] S = [none, none, none, none] from lentX_no m_held_by [(kD (enT (enT enI))) board, (kD (enT enI)) stand, (kVl (enL enI)) some_, (kVl enI) row] S rfl rfl (by rw [hl]; decide)]; exact h
  have hE : Flat (fun x S => RE x (lentX m_held_by [(kD (enT (enT enI))) board, (kD (enT enI)) stand, (kVl (enL enI)) some_, (kVl enI) row] S)) := flat_lent rfl
  show Sim (f_held_by board stand some_ row) (fun (r : (List (List Int))) => R ((kOl (enL enI)) r) [none, none, none, none]) (fun x => RE (xn x) [none, none, none, none]) (semB Γ (fun x S => RE x (lentX m_held_by [(kD (enT (enT enI))) board, (kD (enT enI)) stand, (kVl (enL enI)) some_, (kVl enI) row] S)) b_held_by { nx := fun S => R (.d .none) (lentOf m_held_by S), rt := fun w S => R w (lentOf m_held_by S) } [some ((kD (enT (enT enI))) board), some ((kD (enT enI)) stand), some ((kVl (enL enI)) some_), some ((kVl enI) row), none])
  exact b_ret (f := Res.ok) (j_fil (own := [4]) (tg := (.name 4)) (S1 := [some ((kD (enT (enT enI))) board), some ((kD (enT enI)) stand), some ((kVl (enL enI)) some_), some ((kVl enI) row), none]) (Sx := fun x1 => [some ((kD (enT (enT enI))) board), some ((kD (enT enI)) stand), some ((kVl (enL enI)) some_), some ((kVl enI) row), some ((kD (enL enI)) x1)]) (S2 := [some ((kD (enT (enT enI))) board), some ((kD (enT enI)) stand), some ((kVl (enL enI)) some_), some ((kVl enI) row), none]) (enL enI) (js_pl (i := 2) rfl (itW_vl (enL enI) some_)) (fun _ _ h => h) (fun x1 => (j_cmp (op := .Eq) (jo_m (j_call (j := 53) (ms := [.dat, .dat, .vw, .vw]) h53 (jc_pl (i := 0) rfl (jc_pl (i := 1) rfl (jc_pl (i := 4) rfl (jc_pl (i := 3) rfl jc_nil)))) (fun _ => rfl) (fun _ => (ia_dp rfl (ia_dp rfl (ia_vp rfl rfl (ia_vp rfl rfl ia_nil))))) (fun _ => c_strangers board stand x1 row) (fun _ => rfl) rfl rfl (fun _ => rfl) (fun _ => rfl) rfl) (jo_p (j_lst jx_nil enI (fun _ => ([] : List Int)) (S2 := fun _ => [some ((kD (enT (enT enI))) board), some ((kD (enT enI)) stand), some ((kVl (enL enI)) some_), some ((kVl enI) row), some ((kD (enL enI)) x1)]) (fun _ => rfl) (fun _ => ⟨rfl, Nat.le_of_ble_eq_true rfl⟩) rfl) jo_nil)) (fun v2 => (o_eq (enL enI) (a := v2) (b := ([] : List Int)) rfl rfl)) rfl)) (fun x1 => (j_var (i := 4) (enL enI) x1 rfl rfl)) (fun _ => rfl) (fun _ _ => rfl) (fun _ => rfl) (fun _ => trivial) rfl rfl) (hX _ rfl) (bind_ok _).symm (fun _ q => q)
/-- safe(board, stand, hand) : 0 board, 1 stand, 2 hand, 3 kept, 4 some, 5 gone, 6 row, 7 close -/
noncomputable def f_safe (board : (List (List Int))) (stand : (List Int)) (hand : Int) : Res ((List (List Int)) × (List (List Int))) :=
Res.bind (f_rows_of board stand hand) fun kept =>
Res.bind (f_closes board stand hand) fun some_ =>
Res.bind (whileC (τ := (List (List Int)) × (List (List Int))) (ρ := ((List (List Int)) × (List (List Int)))) (fun t => match t with
| (kept, some_) => (.ok true)) (fun t => match t with
| (kept, some_) =>
Res.bind (ner (filC (fun x2 => (Res.bind (Res.bind (f_held_by board stand some_ x2) fun v3 => .ok (v3.length : Int)) fun v4 => .ok (decide (v4 < 2)))) (fun x2 => (.ok x2)) kept [])) fun gone =>
ifR (decide (gone = ([] : List (List Int)))) (
(.ok (.rt (kept, some_)))) (
Res.bind (ner (filC (fun x6 => (.ok (!memB x6 gone))) (fun x6 => (.ok x6)) kept [])) fun kept =>
Res.bind (ner (filC (fun x7 => (Res.bind (Res.bind (ner (mapC (fun x8 => (f_is_beside board x7 x8)) gone [])) fun v9 => .ok (v9.any id)) fun b10 => .ok (!b10))) (fun x7 => (.ok x7)) some_ [])) fun some_ =>
.ok (.nx (kept, some_)))) (kept, some_)) fun z11 => match z11 with
| .inr v => .ok v
| .inl (kept, some_) =>
.no
def b_safe_1 : B :=
(.cons (.set 5 (.comp [6] (.name 6) (.pl 3) (.some (.cmp .Lt (.ex (.bf .len (.ex (.call 54 [.dat, .dat, .vw, .vw] (.pl 0 (.pl 1 (.pl 4 (.pl 6 .nil))))) .nil)) (.ex (.int 2) .nil)))) (.var 6)))
(.cons (.ifs (.cmp .Eq (.pl 5 (.ex (.lst .nil) .nil)))
(.cons (.ret (.tup (.cons (.var 3) (.cons (.var 4) .nil))))
.nil)
.nil)
(.cons (.setc 3 (.comp [6] (.name 6) (.pl 3) (.some (.cmp .NotIn (.pl 6 (.pl 5 .nil)))) (.var 6)))
(.cons (.set 4 (.comp [7] (.name 7) (.pl 4) (.some (.nt (.bf .any (.ex (.comp [6] (.name 6) (.pl 5) .none (.call 52 [.dat, .vw, .vw] (.pl 0 (.pl 7 (.pl 6 .nil))))) .nil)))) (.var 7)))
(.kil [5] .nil)))))
def c_safe_1 : E :=
(.bl true)
def b_safe : B :=
(.cons (.set 3 (.call 51 [.dat, .dat, .dat] (.pl 0 (.pl 1 (.pl 2 .nil)))))
(.cons (.set 4 (.call 50 [.dat, .dat, .dat] (.pl 0 (.pl 1 (.pl 2 .nil)))))
(.cons (.whl c_safe_1 b_safe_1)
.nil)))
def n_safe : List Str := ["board", "stand", "hand", "kept", "some", "gone", "row", "close"]
def m_safe : List AK := [.dat, .dat, .dat]
def ct_safe (xn : Xc → Exn) : Ct := fun ws R RE => ∃ (board : (List (List Int))) (stand : (List Int)) (hand : Int), ws = [(kD (enT (enT enI))) board, (kD (enT enI)) stand, (kD enI) hand] ∧ wpR (f_safe board stand hand) (fun (r : ((List (List Int)) × (List (List Int)))) => R ((kD (enP (enL (enL enI)) (enL (enL enI)))) r) [none, none, none]) (fun x => RE (xn x) [none, none, none])
theorem c_safe {xn : Xc → Exn} (board : (List (List Int))) (stand : (List Int)) (hand : Int) : CtF xn (ct_safe xn) [(kD (enT (enT enI))) board, (kD (enT enI)) stand, (kD enI) hand] (f_safe board stand hand) (fun r => (kD (enP (enL (enL enI)) (enL (enL enI)))) r) (fun r => [none, none, none]) [none, none, none] := fun R RE h => ⟨board, stand, hand, rfl, h⟩
theorem s_safe {xn : Xc → Exn} {Γ : Nat → Ct} (h50 : Γ 50 = ct_closes xn) (h51 : Γ 51 = ct_rows_of xn) (h52 : Γ 52 = ct_is_beside xn) (h54 : Γ 54 = ct_held_by xn) : Keeps Γ b_safe 8 m_safe (ct_safe xn) := by
  rintro ws R RE ⟨board, stand, hand, rfl, h⟩
  refine ⟨rfl, ?_⟩
  revert h
  have hX : ∀ S : WSt, S.length = 8 → XS xn (fun x S => RE x (lentX m_safe [(kD (enT (enT enI))) board, (kD (enT enI)) stand, (kD enI) hand] S)) (fun x => RE (xn x) [none, none, none]) S := fun S hl x h => by
    show RE (xn x) (lentX m_safe [(kD (enT (enT enI))) board, (kD (enT enI)) stand, (kD enI) hand] S)
    rw [show lentX m_safe [(kD (enT (enT enI))) board, (kD (enT enI)) stand, (kD enI) hand] S = [none, none, none] from lentX_no m_safe [(kD (enT (enT enI))) board, (kD (enT enI)) stand, (kD enI) hand] S rfl rfl (by rw [hl]; decide)]; exact h
  have hE : Flat (fun x S => RE x (lentX m_safe [(kD (enT (enT enI))) board, (kD (enT enI)) stand, (kD enI) hand] S)) := flat_lent rfl
  show Sim (f_safe board stand hand) (fun (r : ((List (List Int)) × (List (List Int)))) => R ((kD (enP (enL (enL enI)) (enL (enL enI)))) r) [none, none, none]) (fun x => RE (xn x) [none, none, none]) (semB Γ (fun x S => RE x (lentX m_safe [(kD (enT (enT enI))) board, (kD (enT enI)) stand, (kD enI) hand] S)) b_safe { nx := fun S => R (.d .none) (lentOf m_safe S), rt := fun w S => R w (lentOf m_safe S) } [some ((kD (enT (enT enI))) board), some ((kD (enT enI)) stand), some ((kD enI) hand), none, none, none, none, none])
  refine b_set (j_call (j := 51) (ms := [.dat, .dat, .dat]) h51 (jc_pl (i := 0) rfl (jc_pl (i := 1) rfl (jc_pl (i := 2) rfl jc_nil))) (fun _ => rfl) (fun _ => (ia_dp rfl (ia_dp rfl (ia_dp rfl ia_nil)))) (fun _ => c_rows_of board stand hand) (fun _ => rfl) rfl rfl (fun _ => rfl) (fun _ => rfl) rfl) (hX _ rfl) rfl fun kept => ?_
  refine b_set (j_call (j := 50) (ms := [.dat, .dat, .dat]) h50 (jc_pl (i := 0) rfl (jc_pl (i := 1) rfl (jc_pl (i := 2) rfl jc_nil))) (fun _ => rfl) (fun _ => (ia_dp rfl (ia_dp rfl (ia_dp rfl ia_nil)))) (fun _ => c_closes board stand hand) (fun _ => rfl) rfl rfl (fun _ => rfl) (fun _ => rfl) rfl) (hX _ rfl) rfl fun some_ => ?_
  refine b_whileC (fun t1 => [some ((kD (enT (enT enI))) board), some ((kD (enT enI)) stand), some ((kD enI) hand), some ((kOl (enL enI)) t1.1), some ((kOl (enL enI)) t1.2), none, none, none]) (kept, some_) (fun (r : ((List (List Int)) × (List (List Int)))) => R ((kD (enP (enL (enL enI)) (enL (enL enI)))) r) [none, none, none]) (fun _ => (hX _ rfl)) ?_ rfl rfl (fun v q => q) ?_ ?_
  · rintro ⟨kept, some_⟩
    exact (j_bl _)
  · rintro ⟨kept, some_⟩
    intro N B' P' hN hB hR
    refine b_set (j_fil (own := [6]) (tg := (.name 6)) (S1 := [some ((kD (enT (enT enI))) board), some ((kD (enT enI)) stand), some ((kD enI) hand), some ((kOl (enL enI)) kept), some ((kOl (enL enI)) some_), none, none, none]) (Sx := fun x2 => [some ((kD (enT (enT enI))) board), some ((kD (enT enI)) stand), some ((kD enI) hand), some ((kOl (enL enI)) kept), some ((kOl (enL enI)) some_), none, some ((kD (enL enI)) x2), none]) (S2 := [some ((kD (enT (enT enI))) board), some ((kD (enT enI)) stand), some ((kD enI) hand), some ((kOl (enL enI)) kept), some ((kOl (enL enI)) some_), none, none, none]) (enL enI) (js_pl (i := 3) rfl (itW_ol (enL enI) kept)) (fun _ _ h => h) (fun x2 => (j_cmp (op := .Lt) (jo_m (j_bf (f := .len) (jo_m (j_call (j := 54) (ms := [.dat, .dat, .vw, .vw]) h54 (jc_pl (i := 0) rfl (jc_pl (i := 1) rfl (jc_pl (i := 4) rfl (jc_pl (i := 6) rfl jc_nil)))) (fun _ => rfl) (fun _ => (ia_dp rfl (ia_dp rfl (ia_vp rfl rfl (ia_vp rfl rfl ia_nil))))) (fun _ => c_held_by board stand some_ x2) (fun _ => rfl) rfl rfl (fun _ => rfl) (fun _ => rfl) rfl) jo_nil) (fun v3 => (o_len (enL enI).e (xs := v3) rfl)) rfl) (jo_p (j_int _) jo_nil)) (fun v4 => o_lt) rfl)) (fun x2 => (j_var (i := 6) (enL enI) x2 rfl rfl)) (fun _ => rfl) (fun _ _ => rfl) (fun _ => rfl) (fun _ => rfl) rfl rfl) (hX _ rfl) rfl fun gone => ?_
    refine b_if (j_cmp (op := .Eq) (jo_pl (i := 5) rfl (jo_p (j_lst jx_nil (enL enI) (fun _ => ([] : List (List Int))) (S2 := fun _ => [some ((kD (enT (enT enI))) board), some ((kD (enT enI)) stand), some ((kD enI) hand), some ((kOl (enL enI)) kept), some ((kOl (enL enI)) some_), some ((kOl (enL enI)) gone), none, none]) (fun _ => rfl) (fun _ => ⟨rfl, Nat.le_of_ble_eq_true rfl⟩) rfl) jo_nil)) (fun _ => (o_eq (enL (enL enI)) (a := gone) (b := ([] : List (List Int))) rfl rfl)) rfl) (hX _ rfl) rfl ?_ ?_
    · exact b_ret (f := fun r => .ok (.rt r)) (j_tup (jx_s (j_frz (i := 3) (enL (enL enI)) kept rfl rfl) (jx_s (j_frz (i := 4) (enL (enL enI)) some_ rfl rfl) jx_nil)) (enP (enL (enL enI)) (enL (enL enI))) (fun _ => (kept, some_)) (S2 := fun _ => [some ((kD (enT (enT enI))) board), some ((kD (enT enI)) stand), some ((kD enI) hand), some ((kD (enL (enL enI))) kept), some ((kD (enL (enL enI))) some_), some ((kOl (enL enI)) gone), none, none]) (fun _ => rfl) (fun _ => ⟨_, rfl, Nat.le_of_ble_eq_true rfl, rfl⟩) rfl) (hX _ rfl) rfl (fun _ q => hR _ q)
    · refine b_go ?_
      refine b_setc (j_fil (own := [6]) (tg := (.name 6)) (S1 := [some ((kD (enT (enT enI))) board), some ((kD (enT enI)) stand), some ((kD enI) hand), some ((kOl (enL enI)) kept), some ((kOl (enL enI)) some_), some ((kOl (enL enI)) gone), none, none]) (Sx := fun x6 => [some ((kD (enT (enT enI))) board), some ((kD (enT enI)) stand), some ((kD enI) hand), some ((kOl (enL enI)) kept), some ((kOl (enL enI)) some_), some ((kOl (enL enI)) gone), some ((kD (enL enI)) x6), none]) (S2 := [some ((kD (enT (enT enI))) board), some ((kD (enT enI)) stand), some ((kD enI) hand), some ((kOl (enL enI)) kept), some ((kOl (enL enI)) some_), some ((kOl (enL enI)) gone), none, none]) (enL enI) (js_pl (i := 3) rfl (itW_ol (enL enI) kept)) (fun _ _ h => h) (fun x6 => (j_cmp (op := .NotIn) (jo_pl (i := 6) rfl (jo_pl (i := 5) rfl jo_nil)) (fun _ => (o_nin (enL enI) (a := x6) (xs := gone) rfl rfl (.inl rfl))) rfl)) (fun x6 => (j_var (i := 6) (enL enI) x6 rfl rfl)) (fun _ => rfl) (fun _ _ => rfl) (fun _ => rfl) (fun _ => rfl) rfl rfl) (hX _ rfl) rfl fun kept => ?_
      refine b_set (j_fil (own := [7]) (tg := (.name 7)) (S1 := [some ((kD (enT (enT enI))) board), some ((kD (enT enI)) stand), some ((kD enI) hand), some ((kOl (enL enI)) kept), some ((kOl (enL enI)) some_), some ((kOl (enL enI)) gone), none, none]) (Sx := fun x7 => [some ((kD (enT (enT enI))) board), some ((kD (enT enI)) stand), some ((kD enI) hand), some ((kOl (enL enI)) kept), some ((kOl (enL enI)) some_), some ((kOl (enL enI)) gone), none, some ((kD (enL enI)) x7)]) (S2 := [some ((kD (enT (enT enI))) board), some ((kD (enT enI)) stand), some ((kD enI) hand), some ((kOl (enL enI)) kept), some ((kOl (enL enI)) some_), some ((kOl (enL enI)) gone), none, none]) (enL enI) (js_pl (i := 4) rfl (itW_ol (enL enI) some_)) (fun _ _ h => h) (fun x7 => (j_nt (j_bf (f := .any) (jo_m (j_map (own := [6]) (tg := (.name 6)) (S1 := [some ((kD (enT (enT enI))) board), some ((kD (enT enI)) stand), some ((kD enI) hand), some ((kOl (enL enI)) kept), some ((kOl (enL enI)) some_), some ((kOl (enL enI)) gone), none, some ((kD (enL enI)) x7)]) (Sx := fun x8 => [some ((kD (enT (enT enI))) board), some ((kD (enT enI)) stand), some ((kD enI) hand), some ((kOl (enL enI)) kept), some ((kOl (enL enI)) some_), some ((kOl (enL enI)) gone), some ((kD (enL enI)) x8), some ((kD (enL enI)) x7)]) (S2 := [some ((kD (enT (enT enI))) board), some ((kD (enT enI)) stand), some ((kD enI) hand), some ((kOl (enL enI)) kept), some ((kOl (enL enI)) some_), some ((kOl (enL enI)) gone), none, some ((kD (enL enI)) x7)]) enB (js_pl (i := 5) rfl (itW_ol (enL enI) gone)) (fun _ _ h => h) (fun x8 => (j_call (j := 52) (ms := [.dat, .vw, .vw]) h52 (jc_pl (i := 0) rfl (jc_pl (i := 7) rfl (jc_pl (i := 6) rfl jc_nil))) (fun _ => rfl) (fun _ => (ia_dp rfl (ia_vp rfl rfl (ia_vp rfl rfl ia_nil)))) (fun _ => c_is_beside board x7 x8) (fun _ => rfl) rfl rfl (fun _ => rfl) (fun _ => rfl) rfl)) (fun _ => rfl) (fun _ _ => rfl) (fun _ => rfl) rfl rfl) jo_nil) (fun v9 => (o_any (bs := v9) rfl)) rfl) rfl)) (fun x7 => (j_var (i := 7) (enL enI) x7 rfl rfl)) (fun _ => rfl) (fun _ _ => rfl) (fun _ => rfl) (fun _ => rfl) rfl rfl) (hX _ rfl) rfl fun some_ => ?_
      refine b_kil _ rfl ?_
      first | exact b_end (fun q => hN _ q) | exact fun q => hN _ q
  · rintro ⟨kept, some_⟩
    exact fun q => q.elim
end MV

namespace MV
open PySem PySem.Spec PyProof.Rows L2
theorem Ok.to {α : Type} {m : Res α} {a : α} (h : Ok m (· = a)) : m = .ok a := by obtain ⟨b, e, rfl⟩ := h; exact e
theorem news_snoc {ok : Int → Bool} : ∀ {r F : List Int} {x : Int}, news ok F (r ++ [x]) = news ok F r ++ if ok x = true ∧ x ∉ F ++ news ok F r then [x] else []
  | [], F, x => by simp [news]
  | y :: r, F, x => by
    rw [List.cons_append]
    unfold news
    by_cases c : ok y = true ∧ y ∉ F
    · rw [if_pos c, if_pos c, news_snoc]; simp
    · rw [if_neg c, if_neg c, news_snoc]
theorem insS_new {ns : List Int} {n : Int} (h : n ∉ ns) : insS ns n = ns ++ [n] := if_neg h
theorem insS_old {ns : List Int} {n : Int} (h : n ∈ ns) : insS ns n = ns := if_pos h
/-! ### come_to -/
noncomputable def comeTo (bd : List (List Int)) (ok : Int → Bool) (s : Int) : List Int := ptsP bd.length fun q => Rch bd ok s q
theorem mem_comeTo {bd : List (List Int)} {ok : Int → Bool} {s q : Int} (B : Bd bd) (hs : OnB bd s) : q ∈ comeTo bd ok s ↔ Rch bd ok s q := by
  unfold comeTo
  rw [mem_ptsP]
  exact ⟨fun h => h.2, fun h => ⟨h.on B hs, h⟩⟩
theorem comeTo_lt (bd : List (List Int)) (ok : Int → Bool) (s : Int) : (comeTo bd ok s).Pairwise (· < ·) := ptsP_lt _ _
theorem eq_comeTo {bd : List (List Int)} {ok : Int → Bool} {s : Int} {xs : List Int} (B : Bd bd) (hs : OnB bd s) (h : xs.Pairwise (· < ·)) (m : ∀ q, q ∈ xs ↔ Rch bd ok s q) : xs = comeTo bd ok s :=
  lt_ext h (comeTo_lt _ _ _) fun x => by rw [m, mem_comeTo B hs]
theorem Srch.len {bd : List (List Int)} {ok : Int → Bool} {s : Int} {F Wt : List Int} (h : Srch bd ok s F Wt) (B : Bd bd) (hs : OnB bd s) : F.length ≤ bd.length ∧ Wt.length ≤ bd.length :=
  ⟨len_on h.nd fun x m => (h.rch x m).on B hs, len_on h.nw fun x m => (h.rch x (h.sub x m)).on B hs⟩
theorem Srch.sorted {bd : List (List Int)} {ok : Int → Bool} {s : Int} {F : List Int} (h : Srch bd ok s F []) (B : Bd bd) (hs : OnB bd s) : isort F = comeTo bd ok s :=
  eq_comeTo B hs (isort_lt h.nd) fun q => by rw [mem_isort, h.done]
theorem f_come_to_ok {bd : List (List Int)} {s : Int} {ns : List Int} (B : Bd bd) (hs : OnB bd s) : f_come_to bd s ns = .ok (comeTo bd (fun q => decide (q ∈ ns)) s) := by
  have hB := B.le
  refine Ok.to ?_
  unfold f_come_to
  simp only [Res.ok_bind]
  refine Ok.bind (Q := fun t => Srch bd (fun q => decide (q ∈ ns)) s t.1 []) (Ok.whileM (fun t => Srch bd (fun q => decide (q ∈ ns)) s t.1 t.2) (fun t => t.2.length + 2 * (bd.length - t.1.length)) (Srch.start _ _ _) ?_) ?_
  · rintro ⟨F, Wt⟩ h
    refine .of ⟨fun hb => ?_, fun hb => ?_⟩
    · rcases List.eq_nil_or_concat Wt with e | ⟨V, p, e⟩
      · subst e; simp at hb
      · rw [List.concat_eq_append] at e
        subst e
        have l0 := h.len B hs
        have hp := (h.rch p (h.sub p (by simp))).on B hs
        have h2 := h.turn
        have l2 := h2.len B hs
        simp only [popR_ok, Res.ok_bind, nb_ok hp]
        refine Ok.bind (Ok.forP (fun pre t => t.1 = F ++ news (fun q => decide (q ∈ ns)) F pre ∧ t.2 = V ++ news (fun q => decide (q ∈ ns)) F pre) (by simp [news]) ?_ fun t ht => ht) ?_
        · rintro pre x post ⟨F', W'⟩ e ⟨rfl, rfl⟩
          have hnd := news_nodup (ok := fun q => decide (q ∈ ns)) (r := pre) h.nd
          have hl : (F ++ news (fun q => decide (q ∈ ns)) F pre).length ≤ bd.length := len_on hnd fun y m => by
            rcases List.mem_append.mp m with m | m
            · exact (h.rch y m).on B hs
            · have := (news_sub m).1
              exact B.inr p y (by rw [e]; simp [this])
          have hl2 : (news (fun q => decide (q ∈ ns)) F pre).length ≤ bd.length := by simp at hl; omega
          have l1 : V.length ≤ bd.length := by have := l0.2; simp at this; omega
          simp only
          rw [news_snoc]
          refine Ok.bind (Q := fun t => t.1 = _ ∧ t.2 = _) (Ok.ifR (fun hc => ?_) fun hc => ?_) fun t ht => .of ht
          · simp only [Bool.and_eq_true, decide_eq_true_eq, Bool.not_eq_true', decide_eq_false_iff_not] at hc
            rw [if_pos (by simpa using hc)]
            rw [putS_ok (by omega), Res.ok_bind, apR_ok (by simp; omega), Res.ok_bind, insS_new hc.2]
            exact .of (by simp)
          · rw [if_neg (by simpa using hc)]
            exact .of (by simp)
        · rintro ⟨F', W'⟩ ⟨rfl, rfl⟩
          refine .of ⟨h2, ?_⟩
          have := l0.1
          have := l2.1
          simp only [List.length_append, List.length_cons, List.length_nil] at *
          omega
    · have : Wt = [] := by
        cases Wt with
        | nil => rfl
        | cons a r => simp at hb
      subst this
      exact h
  · rintro ⟨F, Wt⟩ h
    have := (h.len B hs).1
    simp only at this ⊢
    rw [sortS_ok (by omega)]
    exact .of (h.sorted B hs)
/-! ### for x in r: d[x] = True -/
theorem put_all {α : Type} {k : List Int → Res α} {r : List Int} {P : α → Prop} (nd : r.Nodup) (hl : r.length ≤ 1000) (q : Ok (k r) P) : Ok (Res.bind (forM (τ := List Int) r ([] : List Int) (fun x t => Res.bind (putS t x) fun t => .ok t)) k) P := by
  refine Ok.bind (Q := (· = r)) (Ok.forP (fun pre t => t = pre) rfl ?_ fun t h => h) fun t h => h ▸ q
  rintro pre x post t e rfl
  have hx : x ∉ t := fun m => by
    rw [e] at nd
    exact (List.nodup_append.mp nd).2.2 x m x (by simp) rfl
  have : t.length ≤ 1000 := by rw [e] at hl; simp at hl; omega
  rw [putS_ok (by omega), Res.ok_bind, insS_new hx]
  exact .of rfl
/-! ### cut_up -/
theorem cut_ex {bd : List (List Int)} {ns : List Int} (B : Bd bd) (hn : ns.Pairwise (· < ·)) (hb : ∀ x ∈ ns, OnB bd x) : Ok (f_cut_up bd ns) fun cs => ∃ sn, Cut bd ns ns cs sn := by
  have hB := B.le
  have nd : ns.Nodup := hn.imp fun h => by omega
  have hl := len_on nd hb
  unfold f_cut_up
  simp only [Res.ok_bind]
  refine put_all nd (by omega) ?_
  refine Ok.bind (Q := fun t => Cut bd ns ns t.1 t.2) (Ok.forP (fun pre t => Cut bd ns pre t.1 t.2) (Cut.start _ _) ?_ fun t h => h) fun t h => .of ⟨t.2, h⟩
  rintro pre p post ⟨cs, sn⟩ e h
  have pn : p ∈ ns := by rw [e]; simp
  have hp := hb p pn
  have hlen : pre.length ≤ 36 := by rw [e] at hl; simp at hl; omega
  have hcs : cs.length ≤ pre.length := h.ln
  simp only
  refine Ok.bind (Q := fun t => Cut bd ns (pre ++ [p]) t.1 t.2) (Ok.ifR (fun hc => ?_) fun hc => ?_) fun t ht => .of ht
  · have m : p ∉ sn := by simpa using hc
    rw [f_come_to_ok B hp, Res.ok_bind, apR_ok (by omega), Res.ok_bind, getI_last (a := comeTo bd (fun q => decide (q ∈ ns)) p) (by simp), Res.ok_bind]
    have h2 := h.new B hn hb e m (comeTo_lt bd (fun q => decide (q ∈ ns)) p) fun q => mem_comeTo B hp
    have hl2 : (sn ++ comeTo bd (fun q => decide (q ∈ ns)) p).length ≤ bd.length := len_on h2.nd fun x mx => by
      obtain ⟨c', a, b⟩ := (h2.seen x).mp mx
      obtain ⟨_, p', _, hp', hr'⟩ := h2.part c' a
      exact ((hr' x).mp b).on B (hb p' (by rw [e]; rw [show pre ++ p :: post = (pre ++ [p]) ++ post by simp]; exact List.mem_append_left _ hp'))
    refine Ok.bind (Q := (· = sn ++ comeTo bd (fun q => decide (q ∈ ns)) p)) (Ok.forP (fun pre t => t = sn ++ pre) (by simp) ?_ fun t h => h) fun t ht => .of (by subst ht; exact h2)
    rintro pr x po t e2 rfl
    have nd2 := h2.nd
    rw [e2] at nd2 hl2
    have hx : x ∉ sn ++ pr := fun mm => by
      rw [← List.append_assoc] at nd2
      exact (List.nodup_append.mp nd2).2.2 x mm x (by simp) rfl
    rw [putS_ok (by simp at hl2 ⊢; omega), Res.ok_bind, insS_new hx]
    exact .of (by simp)
  · have m : p ∈ sn := by simpa using hc
    exact .of (h.old m)
/-- the parts of some points, cut up -/
noncomputable def cutUp (bd : List (List Int)) (ns : List Int) : List (List Int) := (ptsP bd.length fun p => p ∈ ns ∧ ∀ q, Rch bd (fun x => decide (x ∈ ns)) p q → p ≤ q).map (comeTo bd fun x => decide (x ∈ ns))
theorem Cut.is {bd : List (List Int)} {ns : List Int} {cs : List (List Int)} {sn : List Int} (B : Bd bd) (hb : ∀ x ∈ ns, OnB bd x) (h : Cut bd ns ns cs sn) : cs = cutUp bd ns := by
  have e1 : cs.map (·.headD 0) = ptsP bd.length fun p => p ∈ ns ∧ ∀ q, Rch bd (fun x => decide (x ∈ ns)) p q → p ≤ q :=
    eq_ptsP h.heads_lt fun x => by
      rw [h.mem_heads B hb]
      exact ⟨fun ⟨a, b⟩ => ⟨hb x a, a, b⟩, fun h => h.2⟩
  unfold cutUp
  rw [← e1, List.map_map]
  refine (List.map_id cs).symm.trans (List.map_congr_left fun c m => ?_)
  obtain ⟨h1, p, h2, h3, h4⟩ := h.part c m
  have : c.headD 0 = p := by cases c with
    | nil => cases h2
    | cons a r => simpa using h2
  show c = comeTo bd _ (c.headD 0)
  rw [this]
  exact eq_comeTo B (hb p h3) h1 h4
theorem f_cut_up_ok {bd : List (List Int)} {ns : List Int} (B : Bd bd) (hn : ns.Pairwise (· < ·)) (hb : ∀ x ∈ ns, OnB bd x) : f_cut_up bd ns = .ok (cutUp bd ns) ∧ ∃ sn, Cut bd ns ns (cutUp bd ns) sn := by
  obtain ⟨cs, e, sn, h⟩ := cut_ex B hn hb
  have := h.is B hb
  subst this
  exact ⟨e, sn, h⟩
/-! ### stands -/
/-- a stand of a board -/
structure Sd (bd : List (List Int)) (sd : List Int) : Prop where
  len : sd.length = bd.length
  le : ∀ p, 0 ≤ hold sd p ∧ hold sd p ≤ 2
noncomputable def ptsH (sd : List Int) (h : Int) : List Int := ptsP sd.length fun p => hold sd p = h
theorem mem_ptsH {sd : List Int} {h x : Int} : x ∈ ptsH sd h ↔ (0 ≤ x ∧ x < sd.length) ∧ hold sd x = h := mem_ptsP
theorem f_points_with_ok {sd : List Int} {h : Int} (hl : sd.length ≤ 1000) : f_points_with sd h = .ok (ptsH sd h) := by
  unfold f_points_with
  rw [rng1_ok (by omega), Res.ok_bind, filI_ok (fun x => decide (hold sd x = h)) (fun x m => ?_) (by rw [rngI_length]; unfold sizeLine; omega)]
  · unfold ptsH ptsP
    congr 1
    refine List.filter_congr fun x _ => ?_
    simp
  · rw [hold_ok (mem_rngI.mp m)]; rfl
/-- the patch of p -/
noncomputable def patchOf (bd : List (List Int)) (sd : List Int) (p : Int) : List Int := comeTo bd (fun q => decide (hold sd q = hold sd p)) p
theorem Rch.congr {bd : List (List Int)} {ok ok' : Int → Bool} {s q : Int} (B : Bd bd) (h : ∀ x, OnB bd x → ok x = ok' x) : Rch bd ok s q → Rch bd ok' s q := by
  intro r
  induction r with
  | base => exact .base
  | step r m o ih => exact .step ih m (by rw [← h _ (B.inr _ _ m)]; exact o)
theorem comeTo_congr {bd : List (List Int)} {ok ok' : Int → Bool} {s : Int} (B : Bd bd) (h : ∀ x, OnB bd x → ok x = ok' x) : comeTo bd ok s = comeTo bd ok' s :=
  ptsP_congr fun x _ _ => ⟨Rch.congr B h, Rch.congr B fun y hy => (h y hy).symm⟩
theorem f_patch_ok {bd : List (List Int)} {sd : List Int} {p : Int} (B : Bd bd) (hl : sd.length = bd.length) (hp : OnB bd p) : f_patch bd sd p = .ok (patchOf bd sd p) := by
  have hB := B.le
  have hp' : 0 ≤ p ∧ p < sd.length := ⟨hp.1, by rw [hl]; exact hp.2⟩
  refine Ok.to ?_
  unfold f_patch
  simp only [Res.ok_bind, hold_ok hp', f_points_with_ok (show sd.length ≤ 1000 by omega)]
  refine put_all (ptsP_nd _ _) (Nat.le_trans (ptsP_len _ _) (by omega)) ?_
  rw [f_come_to_ok B hp]
  refine .of (comeTo_congr B fun x hx => ?_)
  rw [decide_eq_decide, mem_ptsH]
  exact ⟨fun h => h.2, fun h => ⟨⟨hx.1, by rw [hl]; exact hx.2⟩, h⟩⟩
end MV

namespace MV
open PySem PySem.Spec PyProof.Rows L2
/-! ### walks by a list and a place in it -/
theorem Srch.front {bd : List (List Int)} {ok : Int → Bool} {s : Int} {F Wt : List Int} {p : Int} (h : Srch bd ok s F (p :: Wt)) :
    Srch bd ok s (F ++ news ok F (nb bd p)) (Wt ++ news ok F (nb bd p)) := by
  have h' : Srch bd ok s F (Wt ++ [p]) := ⟨h.nd, h.st, h.rch, fun x m => h.sub x (by simp at m ⊢; exact m.symm), by
    have := h.nw
    simp only [List.nodup_cons] at this
    rw [List.nodup_append]
    exact ⟨this.2, by simp, fun a ha b hb e => by
      obtain rfl : b = p := by simpa using hb
      exact this.1 (e ▸ ha)⟩, fun x m n => h.cl x m (fun z => n (by simp at z ⊢; exact z.symm))⟩
  exact h'.turn
theorem for_news {ok : Int → Bool} {g : Int → List Int → Res (List Int)} : ∀ (r F : List Int), (∀ q ∈ r, ∀ F' : List Int, F'.length ≤ F.length + r.length → (∀ x ∈ F, x ∈ F') → g q F' = .ok (if ok q = true ∧ q ∉ F' then F' ++ [q] else F')) → forM r F g = .ok (F ++ news ok F r)
  | [], F, _ => by simp [forM, news]
  | q :: r, F, h => by
    unfold forM
    rw [h q (by simp) F (by simp) (fun _ m => m), Res.ok_bind]
    unfold news
    by_cases c : ok q = true ∧ q ∉ F
    · rw [if_pos c, if_pos c, for_news r (F ++ [q]) fun x m F' hl hs => h x (by simp [m]) F' (by simp at hl ⊢; omega) fun y my => hs y (by simp [my])]
      simp
    · rw [if_neg c, if_neg c, for_news r F fun x m F' hl => h x (by simp [m]) F' (by simp at hl ⊢; omega)]
/-- while at < len(there): for q in board[there[at]]: if q is new: there.append(q); at = at + 1 -/
theorem walkAt {bd : List (List Int)} {ok : Int → Bool} {s : Int} (B : Bd bd) (hs : OnB bd s) {g : Int → List Int → Res (List Int)} (hg : ∀ q, OnB bd q → ∀ F : List Int, F.length ≤ 1000 → s ∈ F → g q F = .ok (if ok q = true ∧ q ∉ F then F ++ [q] else F)) {P : List Int × Int → Prop} (hP : ∀ F n, Srch bd ok s F [] → P (F, n)) :
    Ok (whileM (τ := List Int × Int) (fun t => match t with
      | (there, at_) => (.ok (decide (at_ < (there.length : Int))))) (fun t => match t with
      | (there, at_) => Res.bind (Res.bind (getI there at_) fun v2 => (getI bd v2)) fun l3 => Res.bind (forM (τ := List Int) l3 there g) fun there => Res.bind (.ok (at_ + 1)) fun at_ => .ok (there, at_)) ([s], 0)) P := by
  have hB := B.le
  refine Ok.whileM (fun t => ∃ n : Nat, t.2 = n ∧ n ≤ t.1.length ∧ Srch bd ok s t.1 (t.1.drop n)) (fun t => bd.length - t.2.toNat) ⟨0, rfl, by simp, Srch.start bd ok s⟩ ?_
  rintro ⟨F, at_⟩ ⟨n, e, hn, h⟩
  simp only at e hn h
  subst e
  refine .of ⟨fun hb => ?_, fun hb => ?_⟩
  · have hlt : n < F.length := by simpa using hb
    have e : F.drop n = F[n] :: F.drop (n + 1) := List.drop_eq_getElem_cons hlt
    rw [e] at h
    have hp : OnB bd F[n] := (h.rch _ (List.getElem_mem hlt)).on B hs
    have h2 := h.front
    have l1 := (h.len B hs).1
    have l2 := (h2.len B hs).1
    have l3 : (nb bd F[n]).length ≤ bd.length := len_on ((B.up _).imp fun h => by omega) fun x m => B.inr _ x m
    simp only
    rw [getI_nat (List.getElem?_eq_getElem hlt), Res.ok_bind, nb_ok hp, Res.ok_bind, for_news (ok := ok) (nb bd F[n]) F fun q m F' hl hsub => hg q (B.inr _ q m) F' (by omega) (hsub s h.st)]
    simp only [Res.ok_bind]
    refine .of ⟨⟨n + 1, rfl, by simp; omega, ?_⟩, ?_⟩
    · rw [List.drop_append_of_le_length (by omega)]
      exact h2
    · show bd.length - ((n : Int) + 1).toNat < bd.length - (n : Int).toNat
      omega
  · have : F.drop n = [] := List.drop_eq_nil_of_le (by simpa using hb)
    rw [this] at h
    exact hP F _ h
/-! for x in r: if ..: acc.append(..) -/
theorem for_fil {α β : Type} {g : α → List β → Res (List β)} (q : α → Bool) (f : α → β) (L : Nat) : ∀ (r : List α) (acc : List β), acc.length + r.length ≤ L → (∀ x ∈ r, ∀ a : List β, a.length ≤ L → g x a = .ok (if q x = true then a ++ [f x] else a)) → forM r acc g = .ok (acc ++ (r.filter q).map f)
  | [], acc, _, _ => by simp [forM]
  | x :: r, acc, hl, h => by
    unfold forM
    rw [h x (by simp) acc (by simp at hl; omega), Res.ok_bind]
    simp at hl
    by_cases c : q x = true
    · rw [if_pos c, for_fil q f L r (acc ++ [f x]) (by simp; omega) fun y m => h y (by simp [m])]
      simp [c]
    · rw [if_neg c, for_fil q f L r acc (by omega) fun y m => h y (by simp [m])]
      simp [c]
theorem for_map {α β : Type} {g : α → List β → Res (List β)} (f : α → β) (L : Nat) (r : List α) (acc : List β) (hl : acc.length + r.length ≤ L) (h : ∀ x ∈ r, ∀ a : List β, a.length ≤ L → g x a = .ok (a ++ [f x])) : forM r acc g = .ok (acc ++ r.map f) := by
  rw [for_fil (fun _ => true) f L r acc hl fun x m a ha => by rw [h x m a ha, if_pos rfl]]
  rw [List.filter_eq_self.mpr fun _ _ => rfl]
end MV

namespace MV
open PySem PySem.Spec PyProof.Rows L2
/-! ### patches, rows, lands -/
section
variable {bd : List (List Int)} {sd : List Int}
theorem patch_mem {p q : Int} (B : Bd bd) (hp : OnB bd p) : q ∈ patchOf bd sd p ↔ Rch bd (fun q => decide (hold sd q = hold sd p)) p q := mem_comeTo B hp
theorem patch_hold {p q : Int} (B : Bd bd) (hp : OnB bd p) (h : q ∈ patchOf bd sd p) : OnB bd q ∧ hold sd q = hold sd p := by
  have r := (patch_mem B hp).mp h
  refine ⟨r.on B hp, ?_⟩
  have := r.ok (by simp)
  simpa using this
theorem patch_self {p : Int} (B : Bd bd) (hp : OnB bd p) : p ∈ patchOf bd sd p := (patch_mem B hp).mpr .base
theorem patch_same {p q : Int} (B : Bd bd) (hp : OnB bd p) (h : q ∈ patchOf bd sd p) : patchOf bd sd q = patchOf bd sd p := by
  obtain ⟨hq, e⟩ := patch_hold B hp h
  have r := (patch_mem B hp).mp h
  have r' : Rch bd (fun x => decide (hold sd x = hold sd p)) q p := r.symm B hp (by simp)
  refine lt_ext (comeTo_lt _ _ _) (comeTo_lt _ _ _) fun x => ?_
  rw [patch_mem B hp, patch_mem B hq, e]
  exact ⟨fun h => r.trans h, fun h => r'.trans h⟩
theorem patch_lt (p : Int) : (patchOf bd sd p).Pairwise (· < ·) := comeTo_lt _ _ _
theorem patch_len (p : Int) : (patchOf bd sd p).length ≤ bd.length := ptsP_len _ _
/-- the least point of a patch -/
def leastIn (bd : List (List Int)) (sd : List Int) (p : Int) : Prop := ∀ q ∈ patchOf bd sd p, p ≤ q
theorem least_ex {p : Int} (B : Bd bd) (hp : OnB bd p) : ∃ q, OnB bd q ∧ hold sd q = hold sd p ∧ patchOf bd sd q = patchOf bd sd p ∧ leastIn bd sd q ∧ (patchOf bd sd p).head? = some q := by
  have hs := patch_self (sd := sd) B hp
  cases e : patchOf bd sd p with
  | nil => rw [e] at hs; cases hs
  | cons q r =>
    have hq : q ∈ patchOf bd sd p := by rw [e]; simp
    obtain ⟨h1, h2⟩ := patch_hold B hp hq
    have h3 := patch_same B hp hq
    refine ⟨q, h1, h2, h3.trans e, fun x m => ?_, rfl⟩
    rw [h3, e] at m
    have hl := patch_lt (bd := bd) (sd := sd) p
    rw [e] at hl
    rcases List.mem_cons.mp m with rfl | m
    · exact Int.le_refl _
    · have := (List.pairwise_cons.mp hl).1 x m; omega
/-- the patches of what is so, by their least points -/
noncomputable def clsOf (bd : List (List Int)) (sd : List Int) (Q : Int → Prop) : List (List Int) := (ptsP bd.length fun p => Q (hold sd p) ∧ leastIn bd sd p).map (patchOf bd sd)
theorem mem_clsOf {Q : Int → Prop} {c : List Int} (B : Bd bd) : c ∈ clsOf bd sd Q ↔ ∃ p, OnB bd p ∧ Q (hold sd p) ∧ c = patchOf bd sd p := by
  unfold clsOf
  rw [List.mem_map]
  constructor
  · rintro ⟨p, m, rfl⟩
    obtain ⟨h1, h2, _⟩ := mem_ptsP.mp m
    exact ⟨p, h1, h2, rfl⟩
  · rintro ⟨p, h1, h2, rfl⟩
    obtain ⟨q, h3, h4, h5, h6, _⟩ := least_ex (sd := sd) B h1
    exact ⟨q, mem_ptsP.mpr ⟨h3, by rw [h4]; exact h2, h6⟩, h5⟩
theorem lt_heads {a b : List Int} {x y : Int} (ha : a.head? = some x) (hb : b.head? = some y) (h : x < y) : a < b := by
  cases a with
  | nil => cases ha
  | cons a0 a =>
    cases b with
    | nil => cases hb
    | cons b0 b =>
      obtain rfl : a0 = x := by simpa using ha
      obtain rfl : b0 = y := by simpa using hb
      exact List.cons_lt_cons_iff.mpr (.inl h)
theorem clsOf_lt {Q : Int → Prop} (B : Bd bd) : (clsOf bd sd Q).Pairwise (· < ·) := by
  unfold clsOf
  rw [List.pairwise_map]
  refine (ptsP_lt _ _).imp_of_mem fun {a b} ma mb h => ?_
  have hd : ∀ {p}, p ∈ ptsP bd.length (fun p => Q (hold sd p) ∧ leastIn bd sd p) → (patchOf bd sd p).head? = some p := fun {p} m => by
    obtain ⟨h1, _, h2⟩ := mem_ptsP.mp m
    obtain ⟨q, _, _, h5, h6, h7⟩ := least_ex (sd := sd) B h1
    have e1 : p ≤ q := h2 q (List.mem_of_mem_head? h7)
    have e2 : q ≤ p := h6 p (by rw [h5]; exact patch_self B h1)
    rw [h7]; congr 1; omega
  exact lt_heads (hd ma) (hd mb) h
theorem clsOf_nd {Q : Int → Prop} (B : Bd bd) : (clsOf bd sd Q).Nodup := (clsOf_lt B).imp fun h e => by subst e; exact List.lt_irrefl _ h
theorem clsOf_len (Q : Int → Prop) : (clsOf bd sd Q).length ≤ bd.length := by
  unfold clsOf; rw [List.length_map]; exact ptsP_len _ _
/-- rising lists of lists with the same members are the same -/
theorem ltL_ext {as bs : List (List Int)} (ha : as.Pairwise (· < ·)) (hb : bs.Pairwise (· < ·)) (h : ∀ x, x ∈ as ↔ x ∈ bs) : as = bs := by
  have n1 : as.Nodup := ha.imp fun h e => by subst e; exact List.lt_irrefl _ h
  have n2 : bs.Nodup := hb.imp fun h e => by subst e; exact List.lt_irrefl _ h
  have p : as.Perm bs := (List.perm_ext_iff_of_nodup n1 n2).mpr h
  exact List.Perm.eq_of_pairwise (le := fun a b => a < b) (fun a b _ _ h1 h2 => absurd (List.lt_trans h1 h2) (List.lt_irrefl _)) ha hb p
theorem rsort_ext {as bs : List (List Int)} (na : as.Nodup) (hb : bs.Pairwise (· < ·)) (h : ∀ x, x ∈ as ↔ x ∈ bs) : rsort as = bs := by
  have n2 : bs.Nodup := hb.imp fun h e => by subst e; exact List.lt_irrefl _ h
  have p1 : (rsort as).Perm as := List.mergeSort_perm _ _
  have p : (rsort as).Perm bs := p1.trans ((List.perm_ext_iff_of_nodup na n2).mpr h)
  have s1 : (rsort as).Pairwise (· ≤ ·) := by
    have := List.pairwise_mergeSort (le := fun a b : List Int => decide (a ≤ b)) (fun a b c h1 h2 => by simp at *; exact List.le_trans h1 h2) (fun a b => by simp; exact List.le_total a b) as
    exact this.imp fun h => by simpa using h
  exact List.Perm.eq_of_pairwise (le := fun a b => a ≤ b) (fun a b _ _ h1 h2 => List.le_antisymm h1 h2) s1 (hb.imp fun h => List.le_of_lt h) p
theorem cutUp_cls {h : Int} (B : Bd bd) (hl : sd.length = bd.length) : cutUp bd (ptsH sd h) = clsOf bd sd (· = h) := by
  have key : ∀ p q, OnB bd p → hold sd p = h → (Rch bd (fun x => decide (x ∈ ptsH sd h)) p q ↔ Rch bd (fun q => decide (hold sd q = hold sd p)) p q) := fun p q hp e => by
    have : ∀ x, OnB bd x → decide (x ∈ ptsH sd h) = decide (hold sd x = hold sd p) := fun x hx => by
      rw [decide_eq_decide, mem_ptsH, e]
      exact ⟨fun h => h.2, fun h => ⟨⟨hx.1, by rw [hl]; exact hx.2⟩, h⟩⟩
    exact ⟨Rch.congr B this, Rch.congr B fun x hx => (this x hx).symm⟩
  unfold cutUp clsOf
  have e1 : (ptsP bd.length fun p => p ∈ ptsH sd h ∧ ∀ q, Rch bd (fun x => decide (x ∈ ptsH sd h)) p q → p ≤ q) = ptsP bd.length fun p => hold sd p = h ∧ leastIn bd sd p :=
    ptsP_congr fun p h0 h1 => by
      have hp : OnB bd p := ⟨h0, h1⟩
      constructor
      · intro ⟨a, b⟩
        have e := (mem_ptsH.mp a).2
        exact ⟨e, fun q m => b q ((key p q hp e).mpr ((patch_mem B hp).mp m))⟩
      · intro ⟨e, b⟩
        exact ⟨mem_ptsH.mpr ⟨⟨h0, by rw [hl]; exact h1⟩, e⟩, fun q r => b q ((patch_mem B hp).mpr ((key p q hp e).mp r))⟩
  rw [e1]
  refine List.map_congr_left fun p m => ?_
  obtain ⟨h1, e, _⟩ := mem_ptsP.mp m
  exact ptsP_congr fun q _ _ => key p q h1 e
noncomputable def landsOf (bd : List (List Int)) (sd : List Int) : List (List Int) := clsOf bd sd (· = 0)
noncomputable def rowsOf (bd : List (List Int)) (sd : List Int) : List (List Int) := clsOf bd sd fun h => h = 1 ∨ h = 2
theorem ptsH_on {h x : Int} (hl : sd.length = bd.length) (m : x ∈ ptsH sd h) : OnB bd x := ⟨(mem_ptsH.mp m).1.1, by rw [← hl]; exact (mem_ptsH.mp m).1.2⟩
theorem f_lands_ok (B : Bd bd) (hl : sd.length = bd.length) : f_lands bd sd = .ok (landsOf bd sd) := by
  have hB := B.le
  unfold f_lands
  rw [f_points_with_ok (by omega), Res.ok_bind]
  have e0 := (f_cut_up_ok B (ptsP_lt sd.length (fun p => hold sd p = 0)) fun x m => ptsH_on (h := 0) hl m).1
  exact e0.trans (congrArg Res.ok (cutUp_cls B hl))
theorem f_rows_ok (B : Bd bd) (hl : sd.length = bd.length) : f_rows bd sd = .ok (rowsOf bd sd) := by
  have hB := B.le
  unfold f_rows
  simp only [f_points_with_ok (show sd.length ≤ 1000 by omega), Res.ok_bind, (f_cut_up_ok B (ptsP_lt _ _) fun x m => ptsH_on hl m).1, cutUp_cls B hl]
  have l1 := clsOf_len (bd := bd) (sd := sd) (· = 1)
  have l2 := clsOf_len (bd := bd) (sd := sd) (· = 2)
  have e1 := (f_cut_up_ok B (ptsP_lt sd.length (fun p => hold sd p = 1)) fun x m => ptsH_on (h := 1) hl m).1
  have e2 := (f_cut_up_ok B (ptsP_lt sd.length (fun p => hold sd p = 2)) fun x m => ptsH_on (h := 2) hl m).1
  have f1 : f_cut_up bd (ptsH sd 1) = .ok (clsOf bd sd (· = 1)) := e1.trans (congrArg Res.ok (cutUp_cls B hl))
  have f2 : f_cut_up bd (ptsH sd 2) = .ok (clsOf bd sd (· = 2)) := e2.trans (congrArg Res.ok (cutUp_cls B hl))
  simp only [f1, f2, Res.ok_bind]
  rw [extR_ok' (by omega), Res.ok_bind]
  refine congrArg Res.ok (rsort_ext ?_ (clsOf_lt B) fun x => ?_)
  · rw [List.nodup_append]
    refine ⟨clsOf_nd B, clsOf_nd B, fun a ha b hb e => ?_⟩
    subst e
    obtain ⟨p, h1, h2, rfl⟩ := (mem_clsOf B).mp ha
    obtain ⟨q, h3, h4, h5⟩ := (mem_clsOf B).mp hb
    have := patch_hold B h3 (by rw [← h5]; exact patch_self B h1)
    omega
  · rw [List.mem_append, mem_clsOf B, mem_clsOf B, show x ∈ rowsOf bd sd ↔ _ from mem_clsOf B]
    constructor
    · rintro (⟨p, h1, h2, h3⟩ | ⟨p, h1, h2, h3⟩)
      · exact ⟨p, h1, .inl h2, h3⟩
      · exact ⟨p, h1, .inr h2, h3⟩
    · rintro ⟨p, h1, h2 | h2, h3⟩
      · exact .inl ⟨p, h1, h2, h3⟩
      · exact .inr ⟨p, h1, h2, h3⟩
/-! ### edge, breaths, sides -/
noncomputable def edgeOf (bd : List (List Int)) (ns : List Int) : List Int := ptsP bd.length fun q => ∃ p ∈ ns, q ∈ nb bd p
theorem mem_edgeOf {ns : List Int} {q : Int} (B : Bd bd) : q ∈ edgeOf bd ns ↔ ∃ p ∈ ns, q ∈ nb bd p := by
  unfold edgeOf
  rw [mem_ptsP]
  exact ⟨fun h => h.2, fun h => ⟨by obtain ⟨p, _, m⟩ := h; exact B.inr p q m, h⟩⟩
theorem insS_len (ns : List Int) (n : Int) : (insS ns n).length ≤ ns.length + 1 := by
  unfold insS; split
  · omega
  · simp
/-- d[x] = True for all x of a row -/
theorem ins_all {F r : List Int} {P : List Int → Prop} (nd : F.Nodup) (hl : F.length + r.length ≤ 100000) (q : ∀ G : List Int, G.Nodup → (∀ x, x ∈ G ↔ x ∈ F ∨ x ∈ r) → P G) : Ok (forM (τ := List Int) r F (fun x t => Res.bind (putS t x) fun t => .ok t)) P := by
  refine Ok.forP (fun pre G => G.Nodup ∧ G.length ≤ F.length + pre.length ∧ ∀ x, x ∈ G ↔ x ∈ F ∨ x ∈ pre) ⟨nd, by simp, by simp⟩ ?_ fun G h => q G h.1 h.2.2
  rintro pre x post G e ⟨h1, h2, h3⟩
  rw [e] at hl
  simp at hl
  rw [putS_ok (by omega), Res.ok_bind]
  have := insS_len G x
  refine .of ⟨insS_nodup h1, by simp; omega, fun y => ?_⟩
  rw [mem_insS, h3]
  simp [or_assoc]
theorem f_edge_ok {ns : List Int} (B : Bd bd) (hn : ∀ p ∈ ns, OnB bd p) : f_edge bd ns = .ok (edgeOf bd ns) := by
  have hB := B.le
  refine Ok.to ?_
  unfold f_edge
  simp only [Res.ok_bind]
  refine .bind (Q := fun G : List Int => G.Nodup ∧ ∀ x, x ∈ G ↔ ∃ p ∈ ns, x ∈ nb bd p) (.forP (fun pre (G : List Int) => G.Nodup ∧ ∀ x, x ∈ G ↔ ∃ p ∈ pre, x ∈ nb bd p) ⟨List.nodup_nil, by simp⟩ ?_ fun G h => h) fun G ⟨h1, h2⟩ => ?_
  · rintro pre p post G e ⟨h1, h2⟩
    have hp := hn p (by rw [e]; simp)
    have hl : G.length ≤ bd.length := len_on h1 fun x m => by
      obtain ⟨p, _, m⟩ := (h2 x).mp m
      exact B.inr p x m
    have hl2 : (nb bd p).length ≤ bd.length := len_on ((B.up p).imp fun h => by omega) fun x m => B.inr p x m
    rw [nb_ok hp, Res.ok_bind]
    refine .bind (ins_all (P := fun G => G.Nodup ∧ ∀ x, x ∈ G ↔ ∃ p_1 ∈ pre ++ [p], x ∈ nb bd p_1) h1 (by omega) fun G' g1 g2 => ⟨g1, fun x => ?_⟩) fun G h => .of h
    rw [g2, h2]
    constructor
    · rintro (⟨p', m, h⟩ | h)
      · exact ⟨p', by simp [m], h⟩
      · exact ⟨p, by simp, h⟩
    · rintro ⟨p', m, h⟩
      rcases List.mem_append.mp m with m | m
      · exact .inl ⟨p', m, h⟩
      · obtain rfl : p' = p := by simpa using m
        exact .inr h
  · have hl : G.length ≤ bd.length := len_on h1 fun x m => by
      obtain ⟨p, _, m⟩ := (h2 x).mp m
      exact B.inr p x m
    rw [sortS_ok (by omega)]
    exact .of (eq_ptsP (isort_lt h1) fun x => by
      rw [mem_isort, h2]
      exact ⟨fun h => ⟨by obtain ⟨p, _, m⟩ := h; exact B.inr p x m, h⟩, fun h => h.2⟩)
theorem edge_on {ns : List Int} {x : Int} (m : x ∈ edgeOf bd ns) : OnB bd x := (mem_ptsP.mp m).1
noncomputable def breathsOf (bd : List (List Int)) (sd : List Int) (ns : List Int) : List Int := (edgeOf bd ns).filter fun q => decide (hold sd q = 0)
theorem mem_breaths {ns : List Int} {q : Int} (B : Bd bd) : q ∈ breathsOf bd sd ns ↔ (∃ p ∈ ns, q ∈ nb bd p) ∧ hold sd q = 0 := by
  unfold breathsOf
  rw [List.mem_filter, mem_edgeOf B]
  simp
theorem breaths_lt (ns : List Int) : (breathsOf bd sd ns).Pairwise (· < ·) := (ptsP_lt _ _).filter _
theorem f_breaths_ok {ns : List Int} (B : Bd bd) (hl : sd.length = bd.length) (hn : ∀ p ∈ ns, OnB bd p) : f_breaths bd sd ns = .ok (breathsOf bd sd ns) := by
  have hB := B.le
  unfold f_breaths
  rw [f_edge_ok B hn, Res.ok_bind]
  refine filI_ok (fun q => decide (hold sd q = 0)) (fun x m => ?_) ?_
  · have := edge_on m
    rw [hold_ok ⟨this.1, by rw [hl]; exact this.2⟩, Res.ok_bind]
  · have := ptsP_len bd.length fun q => ∃ p ∈ ns, q ∈ nb bd p
    unfold edgeOf sizeLine; omega
noncomputable def sidesOf (bd : List (List Int)) (sd : List Int) (ns : List Int) : List Int := sset (((edgeOf bd ns).filter fun q => !decide (hold sd q = 0)).map (hold sd))
theorem mem_sides {ns : List Int} {h : Int} (B : Bd bd) : h ∈ sidesOf bd sd ns ↔ ∃ p ∈ ns, ∃ q ∈ nb bd p, hold sd q ≠ 0 ∧ hold sd q = h := by
  unfold sidesOf
  rw [mem_sset, List.mem_map]
  constructor
  · rintro ⟨q, m, e⟩
    obtain ⟨m1, m2⟩ := List.mem_filter.mp m
    obtain ⟨p, h1, h2⟩ := (mem_edgeOf B).mp m1
    exact ⟨p, h1, q, h2, by simpa using m2, e⟩
  · rintro ⟨p, h1, q, h2, h3, e⟩
    exact ⟨q, List.mem_filter.mpr ⟨(mem_edgeOf B).mpr ⟨p, h1, h2⟩, by simpa using h3⟩, e⟩
theorem sides_lt (ns : List Int) : (sidesOf bd sd ns).Pairwise (· < ·) := sset_lt _
theorem f_sides_ok {ns : List Int} (B : Bd bd) (hl : sd.length = bd.length) (hn : ∀ p ∈ ns, OnB bd p) : f_sides bd sd ns = .ok (sidesOf bd sd ns) := by
  have hB := B.le
  have hlen : (edgeOf bd ns).length ≤ bd.length := ptsP_len _ _
  unfold f_sides
  have hh : ∀ x ∈ edgeOf bd ns, getI sd x = .ok (hold sd x) := fun x m => by
    have := edge_on m
    exact hold_ok ⟨this.1, by rw [hl]; exact this.2⟩
  rw [f_edge_ok B hn, Res.ok_bind, filC_ok (fun q => !decide (hold sd q = 0)) (hold sd) (fun x m => ?_) (fun x m _ => hh x m) (by unfold sizeLine; omega), Res.ok_bind, ssetR_ok]
  · rfl
  · rw [List.length_map]
    have := List.length_filter_le (fun q => !decide (hold sd q = 0)) (edgeOf bd ns)
    omega
  · rw [hh x m, Res.ok_bind]
/-! ### sound -/
def Sound (bd : List (List Int)) (sd : List Int) : Prop := ∀ p, OnB bd p → (hold sd p = 1 ∨ hold sd p = 2) → breathsOf bd sd (patchOf bd sd p) ≠ []
theorem patch_on {p : Int} (B : Bd bd) (hp : OnB bd p) : ∀ q ∈ patchOf bd sd p, OnB bd q := fun q m => (patch_hold B hp m).1
open Classical in
theorem f_is_sound_ok (B : Bd bd) (hl : sd.length = bd.length) : f_is_sound bd sd = .ok (decide (Sound bd sd)) := by
  have hb : ∀ c ∈ rowsOf bd sd, f_breaths bd sd c = .ok (breathsOf bd sd c) := fun c m => by
    obtain ⟨p, h1, _, rfl⟩ := (mem_clsOf B).mp m
    exact f_breaths_ok B hl (patch_on B h1)
  have all : Sound bd sd ↔ ∀ c ∈ rowsOf bd sd, breathsOf bd sd c ≠ [] := by
    constructor
    · intro h c m
      obtain ⟨p, h1, h2, rfl⟩ := (mem_clsOf B).mp m
      exact h p h1 h2
    · intro h p h1 h2
      exact h _ ((mem_clsOf B).mpr ⟨p, h1, h2, rfl⟩)
  unfold f_is_sound
  rw [f_rows_ok B hl, Res.ok_bind]
  have go : ∀ cs : List (List Int), (∀ c ∈ cs, f_breaths bd sd c = .ok (breathsOf bd sd c)) → forC (τ := Unit) (ρ := Bool) cs () (fun row _ => Res.bind (Res.bind (f_breaths bd sd row) fun v3 => .ok (decide (v3 = ([] : List Int)))) fun b5 => ifR b5 (.ok (.rt false)) (.ok (.nx ()))) = .ok (if ∀ c ∈ cs, breathsOf bd sd c ≠ [] then .inl () else .inr false) := by
    intro cs
    induction cs with
    | nil => intro _; simp [forC]
    | cons c r ih =>
      intro h
      unfold forC
      simp only [h c (by simp), Res.ok_bind]
      by_cases e : breathsOf bd sd c = []
      · simp [e]
      · simp only [e, decide_false, ifR_false, Res.ok_bind]
        rw [ih fun c m => h c (by simp [m])]
        simp [e]
  rw [go _ hb, Res.ok_bind]
  by_cases h : Sound bd sd
  · rw [if_pos (all.mp h)]; simp [h]
  · rw [if_neg (fun z => h (all.mpr z))]; simp [h]
end
end MV

namespace MV
open PySem PySem.Spec PyProof.Rows L2
theorem Ok.forCR {α τ ρ : Type} {xs : List α} {t0 : τ} {f : α → τ → Res (Ctl τ ρ)} {P : τ ⊕ ρ → Prop} (I : List α → τ → Prop) (h0 : I [] t0) (hs : ∀ pre x post t, xs = pre ++ x :: post → I pre t → Ok (f x t) fun c => match c with
    | .nx t' => I (pre ++ [x]) t'
    | .bk t' => P (.inl t')
    | .rt v => P (.inr v)) (hp : ∀ t, I xs t → P (.inl t)) : Ok (MV.forC xs t0 f) P := by
  have : ∀ (post pre : List α) (t : τ), xs = pre ++ post → I pre t → Ok (MV.forC post t f) P := by
    intro post
    induction post with
    | nil => intro pre t e h; rw [List.append_nil] at e; subst e; exact .of (hp _ h)
    | cons x r ih =>
      intro pre t e h
      unfold MV.forC
      refine .bind (hs pre x r t e h) fun c hc => ?_
      cases c with
      | nx t' => exact ih (pre ++ [x]) t' (by rw [e]; simp) hc
      | bk t' => exact .of hc
      | rt v => exact .of hc
  exact this xs [] t0 rfl h0
/-! ### walks by a list and a place in it, that carry something more -/
theorem for_newsE {ε : Type} {ok : Int → Bool} {u : Int → ε → ε} {g : Int → List Int × ε → Res (List Int × ε)} : ∀ (r F : List Int) (e : ε), (∀ q ∈ r, ∀ F' : List Int, ∀ e, F'.length ≤ F.length + r.length → (∀ x ∈ F, x ∈ F') → g q (F', e) = .ok (if ok q = true ∧ q ∉ F' then F' ++ [q] else F', u q e)) → forM r (F, e) g = .ok (F ++ news ok F r, r.foldl (fun e q => u q e) e)
  | [], F, e, _ => by simp [forM, news]
  | q :: r, F, e, h => by
    unfold forM
    rw [h q (by simp) F e (by simp) (fun _ m => m), Res.ok_bind]
    unfold news
    by_cases c : ok q = true ∧ q ∉ F
    · rw [if_pos c, if_pos c, for_newsE (ok := ok) (u := u) r (F ++ [q]) (u q e) fun x m F' e hl hs => h x (by simp [m]) F' e (by simp at hl ⊢; omega) fun y my => hs y (by simp [my])]
      simp
    · rw [if_neg c, if_neg c, for_newsE (ok := ok) (u := u) r F (u q e) fun x m F' e hl => h x (by simp [m]) F' e (by simp at hl ⊢; omega)]
      simp
theorem walkAtE {ε : Type} {bd : List (List Int)} {ok : Int → Bool} {s : Int} {u : Int → ε → ε} {I : List Int → ε → Prop} {e0 : ε} (B : Bd bd) (hs : OnB bd s) {g : Int → List Int × ε → Res (List Int × ε)} (hg : ∀ q, OnB bd q → ∀ F : List Int, ∀ e, F.length ≤ 1000 → s ∈ F → g q (F, e) = .ok (if ok q = true ∧ q ∉ F then F ++ [q] else F, u q e)) (i0 : I [] e0) (i1 : ∀ pre p e, OnB bd p → I pre e → I (pre ++ [p]) ((nb bd p).foldl (fun e q => u q e) e)) {P : List Int × Int × ε → Prop} (hP : ∀ F n e, Srch bd ok s F [] → I F e → P (F, n, e)) :
    Ok (whileM (τ := List Int × Int × ε) (fun t => match t with
      | (there, at_, e) => (.ok (decide (at_ < (there.length : Int))))) (fun t => match t with
      | (there, at_, e) => Res.bind (Res.bind (getI there at_) fun v2 => (getI bd v2)) fun l3 => Res.bind (forM (τ := List Int × ε) l3 (there, e) g) fun t => match t with
        | (there, e) => Res.bind (.ok (at_ + 1)) fun at_ => .ok (there, at_, e)) ([s], 0, e0)) P := by
  have hB := B.le
  refine Ok.whileM (fun t => ∃ n : Nat, t.2.1 = n ∧ n ≤ t.1.length ∧ Srch bd ok s t.1 (t.1.drop n) ∧ I (t.1.take n) t.2.2) (fun t => bd.length - t.2.1.toNat) ⟨0, rfl, by simp, Srch.start bd ok s, i0⟩ ?_
  rintro ⟨F, at_, ex⟩ ⟨n, e, hn, h, hi⟩
  simp only at e hn h hi
  subst e
  refine .of ⟨fun hb => ?_, fun hb => ?_⟩
  · have hlt : n < F.length := by simpa using hb
    have e : F.drop n = F[n] :: F.drop (n + 1) := List.drop_eq_getElem_cons hlt
    rw [e] at h
    have hp : OnB bd F[n] := (h.rch _ (List.getElem_mem hlt)).on B hs
    have h2 := h.front
    have l1 := (h.len B hs).1
    have l2 := (h2.len B hs).1
    have l3 : (nb bd F[n]).length ≤ bd.length := len_on ((B.up _).imp fun h => by omega) fun x m => B.inr _ x m
    simp only
    rw [getI_nat (List.getElem?_eq_getElem hlt), Res.ok_bind, nb_ok hp, Res.ok_bind, for_newsE (ok := ok) (u := u) (nb bd F[n]) F ex fun q m F' e hl hsub => hg q (B.inr _ q m) F' e (by omega) (hsub s h.st)]
    simp only [Res.ok_bind]
    refine .of ⟨⟨n + 1, rfl, by simp; omega, ?_, ?_⟩, ?_⟩
    · rw [List.drop_append_of_le_length (by omega)]
      exact h2
    · show I ((F ++ news ok F (nb bd F[n])).take (n + 1)) _
      rw [List.take_append_of_le_length (by omega), List.take_succ, List.getElem?_eq_getElem hlt]
      exact i1 _ _ _ hp hi
    · show bd.length - ((n : Int) + 1).toNat < bd.length - (n : Int).toNat
      omega
  · have h0 : F.length ≤ n := by simpa using hb
    have : F.drop n = [] := List.drop_eq_nil_of_le h0
    rw [this] at h
    rw [List.take_of_length_le h0] at hi
    exact hP F _ _ h hi
theorem foldl_or (Q : Int → Bool) : ∀ (r : List Int) (e : Bool), r.foldl (fun e q => Q q || e) e = (e || r.any Q)
  | [], e => by simp
  | q :: r, e => by
    rw [List.foldl_cons, foldl_or Q r, List.any_cons]
    cases Q q <;> cases e <;> rfl
/-- a stand with one point changed -/
theorem cut_put {sd : List Int} {p h : Int} (hp : 0 ≤ p ∧ p < sd.length) (hl : sd.length ≤ 1000) : (Res.bind (catT (cutP sd none (some p)) [h]) fun v => catT v (cutP sd (some (p + 1)) none)) = .ok (sd.set p.toNat h) := by
  obtain ⟨n, rfl⟩ := Int.eq_ofNat_of_zero_le hp.1
  rw [cutP_hi, show ((n : Int) + 1) = ((n + 1 : Nat) : Int) by omega, cutP_lo, catT_ok (by simp; unfold sizeLine; omega), Res.ok_bind, catT_ok (by simp; unfold sizeLine; omega)]
  congr 1
  have : n < sd.length := by omega
  rw [List.set_eq_take_append_cons_drop, if_pos (by simpa using this)]
  simp
theorem hold_set {sd : List Int} {p q h : Int} (hp : 0 ≤ p ∧ p < sd.length) (hq : 0 ≤ q) : hold (sd.set p.toNat h) q = if q = p then h else hold sd q := gd_set (d := 0) hp hq
end MV

namespace MV
open PySem PySem.Spec PyProof.Rows L2
/-! ### boards in the making: rows of neighbours -/
structure Bs (n : Nat) (bs : List (List Int)) : Prop where
  len : bs.length = n
  inr : ∀ p, ∀ q ∈ nb bs p, 0 ≤ q ∧ q < n
  nd : ∀ p, (nb bs p).Nodup
  sym : ∀ p q : Int, 0 ≤ p → p < n → q ∈ nb bs p → p ∈ nb bs q
def two (bs : List (List Int)) (a b : Int) : List (List Int) := (bs.set a.toNat (nb bs a ++ [b])).set b.toNat (nb (bs.set a.toNat (nb bs a ++ [b])) b ++ [a])
theorem nb_off {bs : List (List Int)} {p : Int} (h : bs.length ≤ p.toNat) : nb bs p = [] := by
  unfold nb; rw [List.getElem?_eq_none h]; rfl
theorem nb_neg (bs : List (List Int)) {p : Int} (h : p ≤ 0) : nb bs p = nb bs 0 := by
  unfold nb
  rw [show p.toNat = (0 : Int).toNat by omega]
theorem nb_set {bs : List (List Int)} {a p : Int} {r : List Int} (ha : 0 ≤ a ∧ a < bs.length) (hp : 0 ≤ p) : nb (bs.set a.toNat r) p = if p = a then r else nb bs p := gd_set (d := []) ha hp
theorem Bs.row_len {n : Nat} {bs : List (List Int)} (h : Bs n bs) (p : Int) : (nb bs p).length ≤ n := by
  have := len_on (bd := bs) (h.nd p) fun q m => by
    have := h.inr p q m
    exact ⟨this.1, by rw [h.len]; exact this.2⟩
  rw [h.len] at this; exact this
theorem two_row {bs : List (List Int)} {a b p : Int} (ha : 0 ≤ a ∧ a < bs.length) (hb : 0 ≤ b ∧ b < bs.length) (hab : a ≠ b) (hp : 0 ≤ p) : nb (two bs a b) p = if p = b then nb bs b ++ [a] else if p = a then nb bs a ++ [b] else nb bs p := by
  have e1 : nb (bs.set a.toNat (nb bs a ++ [b])) b = nb bs b := by rw [nb_set ha hb.1, if_neg (Ne.symm hab)]
  unfold two
  rw [nb_set (by rw [List.length_set]; exact hb) hp, e1, nb_set ha hp]
theorem mem_two {bs : List (List Int)} {a b p q : Int} (ha : 0 ≤ a ∧ a < bs.length) (hb : 0 ≤ b ∧ b < bs.length) (hab : a ≠ b) (hp : 0 ≤ p) : q ∈ nb (two bs a b) p ↔ q ∈ nb bs p ∨ (p = a ∧ q = b) ∨ (p = b ∧ q = a) := by
  rw [two_row ha hb hab hp]
  by_cases e1 : p = b
  · subst e1
    have : p ≠ a := fun e => hab e.symm
    simp [this]
  · by_cases e2 : p = a
    · subst e2; simp [e1]
    · simp [e1, e2]
theorem Bs.add {n : Nat} {bs : List (List Int)} (h : Bs n bs) {a b : Int} (ha : 0 ≤ a ∧ a < n) (hb : 0 ≤ b ∧ b < n) (hab : a ≠ b) (hn : b ∉ nb bs a) : Bs n (two bs a b) := by
  have ha' : 0 ≤ a ∧ a < bs.length := by rw [h.len]; exact ha
  have hb' : 0 ≤ b ∧ b < bs.length := by rw [h.len]; exact hb
  have hn2 : a ∉ nb bs b := fun m => hn (h.sym b a hb.1 hb.2 m)
  have hl : (two bs a b).length = n := by unfold two; rw [List.length_set, List.length_set]; exact h.len
  have pos : ∀ p, ∃ p', 0 ≤ p' ∧ nb (two bs a b) p = nb (two bs a b) p' ∧ (0 ≤ p → p' = p) := fun p => by
    by_cases hp : 0 ≤ p
    · exact ⟨p, hp, rfl, fun _ => rfl⟩
    · exact ⟨0, Int.le_refl _, nb_neg _ (by omega), fun h => absurd h hp⟩
  refine ⟨hl, fun p q m => ?_, fun p => ?_, fun p q h0 h1 m => ?_⟩
  · obtain ⟨p', h0, e, _⟩ := pos p
    rw [e, mem_two ha' hb' hab h0] at m
    rcases m with m | ⟨_, rfl⟩ | ⟨_, rfl⟩
    · exact h.inr p' q m
    · exact hb
    · exact ha
  · obtain ⟨p', h0, e, _⟩ := pos p
    rw [e]
    rw [two_row ha' hb' hab h0]
    have app : ∀ (r : List Int) (x : Int), r.Nodup → x ∉ r → (r ++ [x]).Nodup := fun r x h1 h2 => by
      rw [List.nodup_append]
      exact ⟨h1, by simp, fun y hy z hz e => by
        obtain rfl : z = x := by simpa using hz
        exact h2 (e ▸ hy)⟩
    split
    · exact app _ _ (h.nd b) hn2
    · split
      · exact app _ _ (h.nd a) hn
      · exact h.nd p'
  · rw [mem_two ha' hb' hab h0] at m
    have hq : 0 ≤ q := by
      rcases m with m | ⟨_, rfl⟩ | ⟨_, rfl⟩
      · exact (h.inr p q m).1
      · exact hb.1
      · exact ha.1
    rw [mem_two ha' hb' hab hq]
    rcases m with m | ⟨rfl, rfl⟩ | ⟨rfl, rfl⟩
    · exact .inl (h.sym p q h0 h1 m)
    · exact .inr (.inr ⟨rfl, rfl⟩)
    · exact .inr (.inl ⟨rfl, rfl⟩)
/-- x[a].append(b); x[b].append(a) -/
theorem two_app {α : Type} {n : Nat} {bs : List (List Int)} (h : Bs n bs) (hn : n ≤ 1000) {a b : Int} (ha : 0 ≤ a ∧ a < n) (hb : 0 ≤ b ∧ b < n) {k : List (List Int) → Res α} :
    (Res.bind (onItem bs a fun y => apR y b) fun bs => Res.bind (onItem bs b fun y => apR y a) k) = k (two bs a b) := by
  have ha' : 0 ≤ a ∧ a < bs.length := by rw [h.len]; exact ha
  have hb' : 0 ≤ b ∧ b < bs.length := by rw [h.len]; exact hb
  have l1 := h.row_len a
  have l2 := h.row_len b
  rw [onItem_ok [] ha' (apR_ok (by rw [nb_gd]; omega)), Res.ok_bind, nb_gd]
  have l3 : (nb (bs.set a.toNat (nb bs a ++ [b])) b).length ≤ 1001 := by
    rw [nb_set ha' hb.1]
    split
    · simp; omega
    · omega
  rw [onItem_ok [] (by rw [List.length_set]; exact hb') (apR_ok (by rw [nb_gd]; omega)), Res.ok_bind, nb_gd]
  rfl
theorem Bs.start (n : Nat) : Bs n (List.replicate n []) := by
  have e : ∀ p, nb (List.replicate n []) p = [] := fun p => by
    unfold nb
    rw [List.getElem?_replicate]
    split <;> rfl
  exact ⟨by simp, (fun p q m => by rw [e] at m; cases m), (fun p => by rw [e]; exact List.nodup_nil), (fun p q _ _ m => by rw [e] at m; cases m)⟩
theorem nb_map_isort (bs : List (List Int)) (p : Int) : nb (bs.map isort) p = isort (nb bs p) := by
  unfold nb
  rw [List.getElem?_map]
  cases bs[p.toNat]? with
  | none => simp [isort]
  | some r => rfl
theorem Bs.bd {n : Nat} {bs : List (List Int)} (h : Bs n bs) (hn : n ≤ 36) : Bd (bs.map isort) where
  le := by rw [List.length_map, h.len]; exact hn
  inr := fun p q m => by
    rw [nb_map_isort, mem_isort] at m
    rw [List.length_map, h.len]; exact h.inr p q m
  up := fun p => by rw [nb_map_isort]; exact isort_lt (h.nd p)
  sym := fun p q h0 h1 m => by
    rw [List.length_map, h.len] at h1
    rw [nb_map_isort, mem_isort] at m ⊢
    exact h.sym p q h0 h1 m
/-- tuple([tuple(sorted(some)) for some in x]) -/
theorem rows_sorted {n : Nat} {bs : List (List Int)} (h : Bs n bs) (hn : n ≤ 1000) : (Res.bind (ner (mapC (fun x => Res.ok (isort x)) bs [])) fun v => Res.ok v) = .ok (bs.map isort) := by
  rw [mapC_ok isort (fun _ _ => rfl) (by rw [h.len]; unfold sizeLine; omega), Res.ok_bind]
theorem empty_rows {α : Type} {n : Int} (h : 0 ≤ n ∧ n ≤ 1000) {k : List (List Int) → Res α} : (Res.bind (Res.bind (rng1 n) fun r => ner (mapC (fun x => Res.ok ([] : List Int)) r [])) k) = k (List.replicate n.toNat []) := by
  rw [rng1_ok (by omega), Res.ok_bind, mapC_ok (fun _ => []) (fun _ _ => rfl) (by rw [rngI_length]; unfold sizeLine; omega), Res.ok_bind, List.map_const', rngI_length]
  simp
theorem on_of {n : Nat} {bs : List (List Int)} (h : Bs n bs) {p : Int} (hp : 0 ≤ p ∧ p < n) : OnB bs p := ⟨hp.1, by rw [h.len]; exact hp.2⟩
end MV

namespace MV
open PySem PySem.Spec PyProof.Rows L2
/-- _law_stream(cell, many) : 0 cell, 1 many, 2 found, 3 number, 4 k -/
noncomputable def f_law_stream (cell : Int) (many : Int) : Res (List Int) :=
Res.bind (.ok ([] : List Int)) fun found =>
Res.bind (.ok ((cell % 2147483647) + 48271)) fun number =>
Res.bind (rng1 (many + 1)) fun r1 =>
Res.bind (forM (τ := (List Int) × Int) r1 (found, number) (fun k t => match t with
| (found, number) =>
Res.bind (Res.bind (Res.bind (Res.bind (mulR number number) fun v3 => .ok (v3 + (48271 * number))) fun v4 => .ok (v4 + k)) fun v5 => .ok (v5 % 2147483647)) fun number =>
Res.bind (apR found number) fun found =>
.ok ((found, number)))) fun t => match t with
| (found, number) =>
(.ok (cutP found (some 1) none))
def b_law_stream_1 : B :=
(.cons (.set 3 (.bin .Mod (.ex (.bin .Add (.ex (.bin .Add (.ex (.bin .Mult (.pl 3 (.pl 3 .nil))) (.ex (.bin .Mult (.ex (.int 48271) (.pl 3 .nil))) .nil))) (.pl 4 .nil))) (.ex (.int 2147483647) .nil))))
(.cons (.expr (.meth 2 .append (.cons (.var 3) .nil)))
(.kil [4] .nil)))
def b_law_stream : B :=
(.cons (.set 2 (.lst .nil))
(.cons (.set 3 (.bin .Add (.ex (.bin .Mod (.pl 0 (.ex (.int 2147483647) .nil))) (.ex (.int 48271) .nil))))
(.cons (.fors (.name 4) (.r1 (.ex (.bin .Add (.pl 1 (.ex (.int 1) .nil))) .nil)) b_law_stream_1)
(.cons (.ret (.slo (.pl 2 (.ex (.int 1) .nil))))
.nil))))
def n_law_stream : List Str := ["cell", "many", "found", "number", "k"]
def m_law_stream : List AK := [.dat, .dat]
def ct_law_stream (xn : Xc → Exn) : Ct := fun ws R RE => ∃ (cell : Int) (many : Int), ws = [(kD enI) cell, (kD enI) many] ∧ wpR (f_law_stream cell many) (fun (r : (List Int)) => R ((kOl enI) r) [none, none]) (fun x => RE (xn x) [none, none])
theorem c_law_stream {xn : Xc → Exn} (cell : Int) (many : Int) : CtF xn (ct_law_stream xn) [(kD enI) cell, (kD enI) many] (f_law_stream cell many) (fun r => (kOl enI) r) (fun r => [none, none]) [none, none] := fun R RE h => ⟨cell, many, rfl, h⟩
theorem s_law_stream {xn : Xc → Exn} {Γ : Nat → Ct}  : Keeps Γ b_law_stream 5 m_law_stream (ct_law_stream xn) := by
  rintro ws R RE ⟨cell, many, rfl, h⟩
  refine ⟨rfl, ?_⟩
  revert h
  have hX : ∀ S : WSt, S.length = 5 → XS xn (fun x S => RE x (lentX m_law_stream [(kD enI) cell, (kD enI) many] S)) (fun x => RE (xn x) [none, none]) S := fun S hl x h => by
    show RE (xn x) (lentX m_law_stream [(kD enI) cell, (kD enI) many] S)
    rw [show lentX m_law_stream [(kD enI) cell, (kD enI) many] S = [none, none] from lentX_no m_law_stream [(kD enI) cell, (kD enI) many] S rfl rfl (by rw [hl]; decide)]; exact h
  have hE : Flat (fun x S => RE x (lentX m_law_stream [(kD enI) cell, (kD enI) many] S)) := flat_lent rfl
  show Sim (f_law_stream cell many) (fun (r : (List Int)) => R ((kOl enI) r) [none, none]) (fun x => RE (xn x) [none, none]) (semB Γ (fun x S => RE x (lentX m_law_stream [(kD enI) cell, (kD enI) many] S)) b_law_stream { nx := fun S => R (.d .none) (lentOf m_law_stream S), rt := fun w S => R w (lentOf m_law_stream S) } [some ((kD enI) cell), some ((kD enI) many), none, none, none])
  refine b_set (j_lst jx_nil enI (fun _ => ([] : List Int)) (S2 := fun _ => [some ((kD enI) cell), some ((kD enI) many), none, none, none]) (fun _ => rfl) (fun _ => ⟨rfl, Nat.le_of_ble_eq_true rfl⟩) rfl) (hX _ rfl) rfl fun found => ?_
  refine b_set (j_bin (op := .Add) (jo_p (j_bin (op := .Mod) (jo_pl (i := 0) rfl (jo_p (j_int _) jo_nil)) (fun _ => (o_modc (by decide))) rfl) (jo_p (j_int _) jo_nil)) (fun _ => o_add) rfl) (hX _ rfl) rfl fun number => ?_
  refine b_for (fun t2 => [some ((kD enI) cell), some ((kD enI) many), some ((kOl enI) t2.1), some ((kD enI) t2.2), none]) (fun r1 => (found, number)) (js_r1 (f := fun _ => (many + 1)) (jo_p (j_bin (op := .Add) (jo_pl (i := 1) rfl (jo_p (j_int _) jo_nil)) (fun _ => o_add) rfl) jo_nil) rfl) (hX _ rfl) rfl (fun _ => rfl) (fun _ _ _ h => h) (fun _ _ => trivial) ?_ ?_
  · intro k
    rintro ⟨found, number⟩
    intro D N P' hN
    refine b_set (j_bin (op := .Mod) (jo_m (j_bin (op := .Add) (jo_m (j_bin (op := .Add) (jo_m (j_bin (op := .Mult) (jo_pl (i := 3) rfl (jo_pl (i := 3) rfl jo_nil)) (fun _ => o_mul) rfl) (jo_p (j_bin (op := .Mult) (jo_p (j_int _) (jo_pl (i := 3) rfl jo_nil)) (fun _ => (o_mulc (.inl (by decide)))) rfl) jo_nil)) (fun v3 => o_add) rfl) (jo_pl (i := 4) rfl jo_nil)) (fun v4 => o_add) rfl) (jo_p (j_int _) jo_nil)) (fun v5 => (o_modc (by decide))) rfl) (hX _ rfl) rfl fun number => ?_
    refine b_expr (j_meth (i := 2) (mf := .append) rfl rfl (jx_p (j_var (i := 3) enI number rfl rfl) jx_nil) rfl (fun _ => m_append enI rfl) rfl) (hX _ rfl) rfl fun found => ?_
    refine b_kil _ rfl ?_
    first | exact b_end (fun q => hN _ q) | exact fun q => hN _ q
  · rintro ⟨found, number⟩
    exact b_ret (f := fun r => .ok r) (j_slo enI (xs := found) (f := fun _ => 1) (jo_pl (i := 2) rfl (jo_p (j_int _) jo_nil)) rfl rfl) (hX _ rfl) rfl (fun _ q => q)
/-- _law_joined(many, lines) : 0 many, 1 lines, 2 joined, 3 one, 4 other, 5 k, 6 some -/
noncomputable def f_law_joined (many : Int) (lines : (List (Int × Int))) : Res (List (List Int)) :=
Res.bind (Res.bind (rng1 many) fun r1 => (ner (mapC (fun x2 => (.ok ([] : List Int))) r1 []))) fun joined =>
Res.bind (forM (τ := (List (List Int))) lines joined (fun x4 joined =>
Res.bind (onItem joined x4.1 fun y5 => (apR y5 x4.2)) fun joined =>
Res.bind (onItem joined x4.2 fun y6 => (apR y6 x4.1)) fun joined =>
.ok (joined))) fun joined =>
(Res.bind (ner (mapC (fun x7 => (.ok (isort x7))) joined [])) fun v8 => .ok v8)
def b_law_joined_1 : B :=
(.cons (.expr (.methP 2 (.var 3) .append (.cons (.var 4) .nil)))
(.cons (.expr (.methP 2 (.var 4) .append (.cons (.var 3) .nil)))
(.kil [3, 4] .nil)))
def b_law_joined : B :=
(.cons (.setc 2 (.compO [5] (.name 5) (.r1 (.pl 0 .nil)) .none (.lst .nil)))
(.cons (.fors (.tup [3, 4]) (.pl 1) b_law_joined_1)
(.frz 2 (.cons (.ret (.bf .tuple (.ex (.comp [6] (.name 6) (.pl 2) .none (.bf .tuple (.ex (.bf .sorted (.pl 6 .nil)) .nil))) .nil)))
.nil))))
def n_law_joined : List Str := ["many", "lines", "joined", "one", "other", "k", "some"]
def m_law_joined : List AK := [.dat, .vw]
def ct_law_joined (xn : Xc → Exn) : Ct := fun ws R RE => ∃ (many : Int) (lines : (List (Int × Int))), ws = [(kD enI) many, (kVl (enP enI enI)) lines] ∧ wpR (f_law_joined many lines) (fun (r : (List (List Int))) => R ((kD (enT (enT enI))) r) [none, none]) (fun x => RE (xn x) [none, none])
theorem c_law_joined {xn : Xc → Exn} (many : Int) (lines : (List (Int × Int))) : CtF xn (ct_law_joined xn) [(kD enI) many, (kVl (enP enI enI)) lines] (f_law_joined many lines) (fun r => (kD (enT (enT enI))) r) (fun r => [none, none]) [none, none] := fun R RE h => ⟨many, lines, rfl, h⟩
theorem s_law_joined {xn : Xc → Exn} {Γ : Nat → Ct}  : Keeps Γ b_law_joined 7 m_law_joined (ct_law_joined xn) := by
  rintro ws R RE ⟨many, lines, rfl, h⟩
  refine ⟨rfl, ?_⟩
  revert h
  have hX : ∀ S : WSt, S.length = 7 → XS xn (fun x S => RE x (lentX m_law_joined [(kD enI) many, (kVl (enP enI enI)) lines] S)) (fun x => RE (xn x) [none, none]) S := fun S hl x h => by
    show RE (xn x) (lentX m_law_joined [(kD enI) many, (kVl (enP enI enI)) lines] S)
    rw [show lentX m_law_joined [(kD enI) many, (kVl (enP enI enI)) lines] S = [none, none] from lentX_no m_law_joined [(kD enI) many, (kVl (enP enI enI)) lines] S rfl rfl (by rw [hl]; decide)]; exact h
  have hE : Flat (fun x S => RE x (lentX m_law_joined [(kD enI) many, (kVl (enP enI enI)) lines] S)) := flat_lent rfl
  show Sim (f_law_joined many lines) (fun (r : (List (List Int))) => R ((kD (enT (enT enI))) r) [none, none]) (fun x => RE (xn x) [none, none]) (semB Γ (fun x S => RE x (lentX m_law_joined [(kD enI) many, (kVl (enP enI enI)) lines] S)) b_law_joined { nx := fun S => R (.d .none) (lentOf m_law_joined S), rt := fun w S => R w (lentOf m_law_joined S) } [some ((kD enI) many), some ((kVl (enP enI enI)) lines), none, none, none, none, none])
  refine b_setc (j_mapO (own := [5]) (tg := (.name 5)) (S1 := [some ((kD enI) many), some ((kVl (enP enI enI)) lines), none, none, none, none, none]) (Sx := fun x2 => [some ((kD enI) many), some ((kVl (enP enI enI)) lines), none, none, none, some ((kD enI) x2), none]) (S2 := [some ((kD enI) many), some ((kVl (enP enI enI)) lines), none, none, none, none, none]) (js_r1 (f := fun _ => many) (jo_pl (i := 0) rfl jo_nil) rfl) (fun _ _ h => h) (fun x2 => (j_lst jx_nil enI (fun _ => ([] : List Int)) (S2 := fun _ => [some ((kD enI) many), some ((kVl (enP enI enI)) lines), none, none, none, some ((kD enI) x2), none]) (fun _ => rfl) (fun _ => ⟨rfl, Nat.le_of_ble_eq_true rfl⟩) rfl)) (fun _ _ => rfl) (fun _ => trivial) rfl rfl) (hX _ rfl) rfl fun joined => ?_
  refine b_for (fun t3 => [some ((kD enI) many), some ((kVl (enP enI enI)) lines), some ((kOw (kOl enI)) t3), none, none, none, none]) (fun _ => joined) (js_pl (i := 1) rfl (itW_vl (enP enI enI) lines)) (hX _ rfl) rfl (fun _ => rfl) (fun _ _ _ h => ⟨rfl, h⟩) (fun _ _ => trivial) ?_ ?_
  · intro x4
    rintro joined
    intro D N P' hN
    refine b_expr (j_methP (i := 2) (mf := .append) (k := (kOl enI)) (xs := joined) (a := ()) rfl (fun _ => rfl) (j_var (i := 3) enI x4.1 rfl rfl) (jx_p (j_var (i := 4) enI x4.2 rfl rfl) jx_nil) (fun _ => m_append enI rfl) rfl) (hX _ rfl) rfl fun joined => ?_
    refine b_expr (j_methP (i := 2) (mf := .append) (k := (kOl enI)) (xs := joined) (a := ()) rfl (fun _ => rfl) (j_var (i := 4) enI x4.2 rfl rfl) (jx_p (j_var (i := 3) enI x4.1 rfl rfl) jx_nil) (fun _ => m_append enI rfl) rfl) (hX _ rfl) rfl fun joined => ?_
    refine b_kil _ rfl ?_
    first | exact b_end (fun q => hN _ q) | exact fun q => hN _ q
  · rintro joined
    refine b_frz (x := (enL (enL enI)).e joined) rfl (fz_ow (fun _ => rfl) _) rfl ?_
    exact b_ret (f := Res.ok) (j_bf (f := .tuple) (jo_m (j_map (own := [6]) (tg := (.name 6)) (S1 := [some ((kD enI) many), some ((kVl (enP enI enI)) lines), some ((kD (enL (enL enI))) joined), none, none, none, none]) (Sx := fun x7 => [some ((kD enI) many), some ((kVl (enP enI enI)) lines), some ((kD (enL (enL enI))) joined), none, none, none, some ((kD (enL enI)) x7)]) (S2 := [some ((kD enI) many), some ((kVl (enP enI enI)) lines), some ((kD (enL (enL enI))) joined), none, none, none, none]) (enT enI) (js_pl (i := 2) rfl (itW_L (enL enI) joined)) (fun _ _ h => h) (fun x7 => (j_bf (f := .tuple) (jo_p (j_bf (f := .sorted) (jo_pl (i := 6) rfl jo_nil) (fun _ => (o_sortI (ns := x7) rfl)) rfl) jo_nil) (fun _ => (o_tuple enI (xs := (isort x7)) rfl)) rfl)) (fun _ => rfl) (fun _ _ => rfl) (fun _ => trivial) rfl rfl) jo_nil) (fun v8 => (o_tuple (enT enI) (xs := v8) rfl)) rfl) (hX _ rfl) (bind_ok _).symm (fun _ q => q)
/-- _law_lines(xs) : 0 xs, 1 wide, 2 many, 3 lines, 4 beside, 5 ys, 6 one, 7 other, 8 k -/
noncomputable def f_law_lines (xs : (List Int)) : Res (Int × (List (Int × Int))) :=
Res.bind (Res.bind (Res.bind (getI xs 1) fun v1 => .ok (v1 % 4)) fun v2 => .ok (decide (v2 = 0))) fun b60 =>
ifR b60 (
Res.bind (Res.bind (Res.bind (getI xs 0) fun v3 => .ok (v3 % 4)) fun v4 => .ok (1 + v4)) fun wide =>
Res.bind (Res.bind (Res.bind (Res.bind (getI xs 2) fun v5 => .ok (v5 % 4)) fun v6 => .ok (1 + v6)) fun v7 => (mulR wide v7)) fun many =>
Res.bind ((Res.bind (Res.bind (Res.bind (Res.bind (getI xs 2) fun v8 => .ok (v8 / 4)) fun v9 => .ok (v9 % 9)) fun v10 => .ok (decide (v10 = 0))) fun b23 =>
ifR b23 (
Res.bind (Res.bind (Res.bind (getI xs 0) fun v12 => .ok (v12 % 4)) fun v13 => .ok (3 + v13)) fun wide =>
Res.bind (.ok (6 * wide)) fun many =>
.ok ((wide, many))) (
.ok ((wide, many)))) : Res (Int × Int)) fun t => match t with
| (wide, many) =>
Res.bind (Res.bind (rng1 (many - wide)) fun r14 => (ner (mapC (fun x15 => (.ok (x15, (x15 + wide)))) r14 []))) fun lines =>
Res.bind (Res.bind (rng1 (many - 1)) fun r16 => (ner (filC (fun x17 => (Res.bind (modR (x17 + 1) wide) fun v18 => .ok (decide (0 < v18)))) (fun x17 => (.ok x17)) r16 []))) fun beside =>
(Res.bind (Res.bind (ner (mapC (fun x19 => (.ok (x19, (x19 + 1)))) beside [])) fun v20 => (extR lines v20)) fun v21 => .ok (many, v21))) (
Res.bind (Res.bind (Res.bind (Res.bind (getI xs 0) fun v27 => Res.bind (Res.bind (Res.bind (getI xs 1) fun v24 => .ok (v24 % 4)) fun v25 => (getI ([0, 7, 9, 5]) v25)) fun v28 => .ok (v27, v28)) fun v26 => (modR v26.1 v26.2)) fun v29 => .ok (1 + v29)) fun many =>
Res.bind (Res.bind (rng1 (many - 1)) fun r30 => (ner (mapC (fun x31 => (.ok (x31, (x31 + 1)))) r30 []))) fun lines =>
Res.bind ((Res.bind (Res.bind (Res.bind (Res.bind (getI xs 1) fun v32 => .ok (v32 % 4)) fun v33 => .ok (decide (v33 = 1))) fun b36 => ifR b36 (ifR (decide (2 < many)) (Res.bind (Res.bind (getI xs 2) fun v34 => .ok (v34 % 2)) fun v35 => .ok (decide (v35 = 0))) (.ok false)) (.ok false)) fun b59 =>
ifR b59 (
Res.bind (apR lines (0, (many - 1))) fun lines =>
.ok (lines)) (
.ok (lines))) : Res ((List (Int × Int)))) fun lines =>
Res.bind ((Res.bind (Res.bind (Res.bind (getI xs 1) fun v38 => .ok (v38 % 4)) fun v39 => .ok (decide (1 < v39))) fun b58 =>
ifR b58 (
Res.bind (Res.bind (Res.bind (getI xs 2) fun v42 => Res.bind (mulR many many) fun v43 => .ok (v42, v43)) fun v41 => (f_law_stream v41.1 v41.2)) fun ys =>
Res.bind (.ok ([] : List (Int × Int))) fun lines =>
Res.bind (rng1 many) fun r44 =>
Res.bind (forM (τ := (List (Int × Int))) r44 lines (fun one_ lines =>
Res.bind (rng1 one_) fun r46 =>
Res.bind (forM (τ := (List (Int × Int))) r46 lines (fun other lines =>
Res.bind ((Res.bind (Res.bind (Res.bind (Res.bind (Res.bind (Res.bind (mulR one_ many) fun v48 => .ok (v48 + other)) fun v49 => (getI ys v49)) fun v50 => .ok (v50 % 5)) fun v53 => Res.bind (Res.bind (getI xs 1) fun v51 => .ok (v51 % 4)) fun v54 => .ok (v53, v54)) fun v52 => .ok (decide (v52.1 < v52.2))) fun b56 =>
ifR b56 (
Res.bind (apR lines (other, one_)) fun lines =>
.ok (lines)) (
.ok (lines))) : Res ((List (Int × Int)))) fun lines =>
.ok (lines))) fun lines =>
.ok (lines))) fun lines =>
.ok (lines)) (
.ok (lines))) : Res ((List (Int × Int)))) fun lines =>
(.ok (many, lines)))
def b_law_lines_3 : B :=
(.cons (.ifs (.cmp .Lt (.ex (.bin .Mod (.ex (.idx (.pl 5 (.ex (.bin .Add (.ex (.bin .Mult (.pl 6 (.pl 2 .nil))) (.pl 7 .nil))) .nil))) (.ex (.int 5) .nil))) (.ex (.bin .Mod (.ex (.idx (.pl 0 (.ex (.int 1) .nil))) (.ex (.int 4) .nil))) .nil)))
(.cons (.expr (.meth 3 .append (.cons (.tup (.cons (.var 7) (.cons (.var 6) .nil))) .nil)))
.nil)
.nil)
(.kil [7] .nil))
def b_law_lines_4 : B :=
(.cons (.fors (.name 7) (.r1 (.pl 6 .nil)) b_law_lines_3)
(.kil [6] .nil))
def b_law_lines : B :=
(.cons (.ifs (.cmp .Eq (.ex (.bin .Mod (.ex (.idx (.pl 0 (.ex (.int 1) .nil))) (.ex (.int 4) .nil))) (.ex (.int 0) .nil)))
(.cons (.set 1 (.bin .Add (.ex (.int 1) (.ex (.bin .Mod (.ex (.idx (.pl 0 (.ex (.int 0) .nil))) (.ex (.int 4) .nil))) .nil))))
(.cons (.set 2 (.bin .Mult (.pl 1 (.ex (.bin .Add (.ex (.int 1) (.ex (.bin .Mod (.ex (.idx (.pl 0 (.ex (.int 2) .nil))) (.ex (.int 4) .nil))) .nil))) .nil))))
(.cons (.ifs (.cmp .Eq (.ex (.bin .Mod (.ex (.bin .FloorDiv (.ex (.idx (.pl 0 (.ex (.int 2) .nil))) (.ex (.int 4) .nil))) (.ex (.int 9) .nil))) (.ex (.int 0) .nil)))
(.cons (.set 1 (.bin .Add (.ex (.int 3) (.ex (.bin .Mod (.ex (.idx (.pl 0 (.ex (.int 0) .nil))) (.ex (.int 4) .nil))) .nil))))
(.cons (.set 2 (.bin .Mult (.ex (.int 6) (.pl 1 .nil))))
.nil))
.nil)
(.cons (.setc 3 (.comp [8] (.name 8) (.r1 (.ex (.bin .Sub (.pl 2 (.pl 1 .nil))) .nil)) .none (.tup (.cons (.var 8) (.cons (.bin .Add (.pl 8 (.pl 1 .nil))) .nil)))))
(.cons (.setc 4 (.comp [8] (.name 8) (.r1 (.ex (.bin .Sub (.pl 2 (.ex (.int 1) .nil))) .nil)) (.some (.cmp .Gt (.ex (.bin .Mod (.ex (.bin .Add (.pl 8 (.ex (.int 1) .nil))) (.pl 1 .nil))) (.ex (.int 0) .nil)))) (.var 8)))
(.cons (.ret (.tup (.cons (.var 2) (.cons (.bin .Add (.pl 3 (.ex (.comp [8] (.name 8) (.pl 4) .none (.tup (.cons (.var 8) (.cons (.bin .Add (.pl 8 (.ex (.int 1) .nil))) .nil)))) .nil))) .nil))))
.nil))))))
.nil)
(.cons (.set 2 (.bin .Add (.ex (.int 1) (.ex (.bin .Mod (.ex (.idx (.pl 0 (.ex (.int 0) .nil))) (.ex (.idx (.ex (.lst (.cons (.int 0) (.cons (.int 7) (.cons (.int 9) (.cons (.int 5) .nil))))) (.ex (.bin .Mod (.ex (.idx (.pl 0 (.ex (.int 1) .nil))) (.ex (.int 4) .nil))) .nil))) .nil))) .nil))))
(.cons (.setc 3 (.comp [8] (.name 8) (.r1 (.ex (.bin .Sub (.pl 2 (.ex (.int 1) .nil))) .nil)) .none (.tup (.cons (.var 8) (.cons (.bin .Add (.pl 8 (.ex (.int 1) .nil))) .nil)))))
(.cons (.ifs (.an (.cons (.cmp .Eq (.ex (.bin .Mod (.ex (.idx (.pl 0 (.ex (.int 1) .nil))) (.ex (.int 4) .nil))) (.ex (.int 1) .nil))) (.cons (.cmp .Gt (.pl 2 (.ex (.int 2) .nil))) (.cons (.cmp .Eq (.ex (.bin .Mod (.ex (.idx (.pl 0 (.ex (.int 2) .nil))) (.ex (.int 2) .nil))) (.ex (.int 0) .nil))) .nil))))
(.cons (.expr (.meth 3 .append (.cons (.tup (.cons (.int 0) (.cons (.bin .Sub (.pl 2 (.ex (.int 1) .nil))) .nil))) .nil)))
.nil)
.nil)
(.cons (.ifs (.cmp .Gt (.ex (.bin .Mod (.ex (.idx (.pl 0 (.ex (.int 1) .nil))) (.ex (.int 4) .nil))) (.ex (.int 1) .nil)))
(.cons (.set 5 (.call 140 [.dat, .dat] (.ex (.idx (.pl 0 (.ex (.int 2) .nil))) (.ex (.bin .Mult (.pl 2 (.pl 2 .nil))) .nil))))
(.cons (.set 3 (.lst .nil))
(.cons (.fors (.name 6) (.r1 (.pl 2 .nil)) b_law_lines_4)
(.kil [5] .nil))))
.nil)
(.cons (.ret (.tup (.cons (.var 2) (.cons (.var 3) .nil))))
.nil))))))
def n_law_lines : List Str := ["xs", "wide", "many", "lines", "beside", "ys", "one", "other", "k"]
def m_law_lines : List AK := [.vw]
def ct_law_lines (xn : Xc → Exn) : Ct := fun ws R RE => ∃ (xs : (List Int)), ws = [(kVl enI) xs] ∧ wpR (f_law_lines xs) (fun (r : (Int × (List (Int × Int)))) => R ((kD (enP enI (enL (enP enI enI)))) r) [none]) (fun x => RE (xn x) [none])
theorem c_law_lines {xn : Xc → Exn} (xs : (List Int)) : CtF xn (ct_law_lines xn) [(kVl enI) xs] (f_law_lines xs) (fun r => (kD (enP enI (enL (enP enI enI)))) r) (fun r => [none]) [none] := fun R RE h => ⟨xs, rfl, h⟩
theorem s_law_lines {xn : Xc → Exn} {Γ : Nat → Ct} (h140 : Γ 140 = ct_law_stream xn) : Keeps Γ b_law_lines 9 m_law_lines (ct_law_lines xn) := by
  rintro ws R RE ⟨xs, rfl, h⟩
  refine ⟨rfl, ?_⟩
  revert h
  have hX : ∀ S : WSt, S.length = 9 → XS xn (fun x S => RE x (lentX m_law_lines [(kVl enI) xs] S)) (fun x => RE (xn x) [none]) S := fun S hl x h => by
    show RE (xn x) (lentX m_law_lines [(kVl enI) xs] S)
    rw [show lentX m_law_lines [(kVl enI) xs] S = [none] from lentX_no m_law_lines [(kVl enI) xs] S rfl rfl (by rw [hl]; decide)]; exact h
  have hE : Flat (fun x S => RE x (lentX m_law_lines [(kVl enI) xs] S)) := flat_lent rfl
  show Sim (f_law_lines xs) (fun (r : (Int × (List (Int × Int)))) => R ((kD (enP enI (enL (enP enI enI)))) r) [none]) (fun x => RE (xn x) [none]) (semB Γ (fun x S => RE x (lentX m_law_lines [(kVl enI) xs] S)) b_law_lines { nx := fun S => R (.d .none) (lentOf m_law_lines S), rt := fun w S => R w (lentOf m_law_lines S) } [some ((kVl enI) xs), none, none, none, none, none, none, none, none])
  refine b_if (j_cmp (op := .Eq) (jo_m (j_bin (op := .Mod) (jo_m (j_idx (jo_pl (i := 0) rfl (jo_p (j_int _) jo_nil)) (fun _ => (o_idx enI (xs := xs) rfl)) rfl) (jo_p (j_int _) jo_nil)) (fun v1 => (o_modc (by decide))) rfl) (jo_p (j_int _) jo_nil)) (fun v2 => o_eqI) rfl) (hX _ rfl) rfl ?_ ?_
  · refine b_set (j_bin (op := .Add) (jo_p (j_int _) (jo_m (j_bin (op := .Mod) (jo_m (j_idx (jo_pl (i := 0) rfl (jo_p (j_int _) jo_nil)) (fun _ => (o_idx enI (xs := xs) rfl)) rfl) (jo_p (j_int _) jo_nil)) (fun v3 => (o_modc (by decide))) rfl) jo_nil)) (fun v4 => o_add) rfl) (hX _ rfl) rfl fun wide => ?_
    refine b_set (j_bin (op := .Mult) (jo_pl (i := 1) rfl (jo_m (j_bin (op := .Add) (jo_p (j_int _) (jo_m (j_bin (op := .Mod) (jo_m (j_idx (jo_pl (i := 0) rfl (jo_p (j_int _) jo_nil)) (fun _ => (o_idx enI (xs := xs) rfl)) rfl) (jo_p (j_int _) jo_nil)) (fun v5 => (o_modc (by decide))) rfl) jo_nil)) (fun v6 => o_add) rfl) jo_nil)) (fun v7 => o_mul) rfl) (hX _ rfl) rfl fun many => ?_
    refine b_ifN (fun t11 => [some ((kVl enI) xs), some ((kD enI) t11.1), some ((kD enI) t11.2), none, none, none, none, none, none]) (j_cmp (op := .Eq) (jo_m (j_bin (op := .Mod) (jo_m (j_bin (op := .FloorDiv) (jo_m (j_idx (jo_pl (i := 0) rfl (jo_p (j_int _) jo_nil)) (fun _ => (o_idx enI (xs := xs) rfl)) rfl) (jo_p (j_int _) jo_nil)) (fun v8 => (o_divc ⟨by decide, by decide⟩)) rfl) (jo_p (j_int _) jo_nil)) (fun v9 => (o_modc (by decide))) rfl) (jo_p (j_int _) jo_nil)) (fun v10 => o_eqI) rfl) (hX _ rfl) rfl ?_ ?_ ?_
    · intro N P' hN
      refine b_set (j_bin (op := .Add) (jo_p (j_int _) (jo_m (j_bin (op := .Mod) (jo_m (j_idx (jo_pl (i := 0) rfl (jo_p (j_int _) jo_nil)) (fun _ => (o_idx enI (xs := xs) rfl)) rfl) (jo_p (j_int _) jo_nil)) (fun v12 => (o_modc (by decide))) rfl) jo_nil)) (fun v13 => o_add) rfl) (hX _ rfl) rfl fun wide => ?_
      refine b_set (j_bin (op := .Mult) (jo_p (j_int _) (jo_pl (i := 1) rfl jo_nil)) (fun _ => (o_mulc (.inl (by decide)))) rfl) (hX _ rfl) rfl fun many => ?_
      first | exact b_end (fun q => hN _ q) | exact fun q => hN _ q
    · intro N P' hN
      first | exact b_end (fun q => hN _ q) | exact fun q => hN _ q
    · rintro ⟨wide, many⟩
      refine b_setc (j_map (own := [8]) (tg := (.name 8)) (S1 := [some ((kVl enI) xs), some ((kD enI) wide), some ((kD enI) many), none, none, none, none, none, none]) (Sx := fun x15 => [some ((kVl enI) xs), some ((kD enI) wide), some ((kD enI) many), none, none, none, none, none, some ((kD enI) x15)]) (S2 := [some ((kVl enI) xs), some ((kD enI) wide), some ((kD enI) many), none, none, none, none, none, none]) (enP enI enI) (js_r1 (f := fun _ => (many - wide)) (jo_p (j_bin (op := .Sub) (jo_pl (i := 2) rfl (jo_pl (i := 1) rfl jo_nil)) (fun _ => o_sub) rfl) jo_nil) rfl) (fun _ _ h => h) (fun x15 => (j_tup (jx_p (j_var (i := 8) enI x15 rfl rfl) (jx_p (j_bin (op := .Add) (jo_pl (i := 8) rfl (jo_pl (i := 1) rfl jo_nil)) (fun _ => o_add) rfl) jx_nil)) (enP enI enI) (fun _ => (x15, (x15 + wide))) (S2 := fun _ => [some ((kVl enI) xs), some ((kD enI) wide), some ((kD enI) many), none, none, none, none, none, some ((kD enI) x15)]) (fun _ => rfl) (fun _ => ⟨_, rfl, Nat.le_of_ble_eq_true rfl, rfl⟩) rfl)) (fun _ => rfl) (fun _ _ => rfl) (fun _ => trivial) rfl rfl) (hX _ rfl) rfl fun lines => ?_
      refine b_setc (j_fil (own := [8]) (tg := (.name 8)) (S1 := [some ((kVl enI) xs), some ((kD enI) wide), some ((kD enI) many), some ((kOl (enP enI enI)) lines), none, none, none, none, none]) (Sx := fun x17 => [some ((kVl enI) xs), some ((kD enI) wide), some ((kD enI) many), some ((kOl (enP enI enI)) lines), none, none, none, none, some ((kD enI) x17)]) (S2 := [some ((kVl enI) xs), some ((kD enI) wide), some ((kD enI) many), some ((kOl (enP enI enI)) lines), none, none, none, none, none]) enI (js_r1 (f := fun _ => (many - 1)) (jo_p (j_bin (op := .Sub) (jo_pl (i := 2) rfl (jo_p (j_int _) jo_nil)) (fun _ => o_sub) rfl) jo_nil) rfl) (fun _ _ h => h) (fun x17 => (j_cmp (op := .Gt) (jo_m (j_bin (op := .Mod) (jo_p (j_bin (op := .Add) (jo_pl (i := 8) rfl (jo_p (j_int _) jo_nil)) (fun _ => o_add) rfl) (jo_pl (i := 1) rfl jo_nil)) (fun _ => o_mod) rfl) (jo_p (j_int _) jo_nil)) (fun v18 => o_gt) rfl)) (fun x17 => (j_var (i := 8) enI x17 rfl rfl)) (fun _ => rfl) (fun _ _ => rfl) (fun _ => rfl) (fun _ => trivial) rfl rfl) (hX _ rfl) rfl fun beside => ?_
      exact b_ret (f := Res.ok) (j_tup (jx_p (j_var (i := 2) enI many rfl rfl) (jx_m (j_bin (op := .Add) (jo_pl (i := 3) rfl (jo_m (j_map (own := [8]) (tg := (.name 8)) (S1 := [some ((kVl enI) xs), some ((kD enI) wide), some ((kD enI) many), some ((kOl (enP enI enI)) lines), some ((kOl enI) beside), none, none, none, none]) (Sx := fun x19 => [some ((kVl enI) xs), some ((kD enI) wide), some ((kD enI) many), some ((kOl (enP enI enI)) lines), some ((kOl enI) beside), none, none, none, some ((kD enI) x19)]) (S2 := [some ((kVl enI) xs), some ((kD enI) wide), some ((kD enI) many), some ((kOl (enP enI enI)) lines), some ((kOl enI) beside), none, none, none, none]) (enP enI enI) (js_pl (i := 4) rfl (itW_ol enI beside)) (fun _ _ h => h) (fun x19 => (j_tup (jx_p (j_var (i := 8) enI x19 rfl rfl) (jx_p (j_bin (op := .Add) (jo_pl (i := 8) rfl (jo_p (j_int _) jo_nil)) (fun _ => o_add) rfl) jx_nil)) (enP enI enI) (fun _ => (x19, (x19 + 1))) (S2 := fun _ => [some ((kVl enI) xs), some ((kD enI) wide), some ((kD enI) many), some ((kOl (enP enI enI)) lines), some ((kOl enI) beside), none, none, none, some ((kD enI) x19)]) (fun _ => rfl) (fun _ => ⟨_, rfl, Nat.le_of_ble_eq_true rfl, rfl⟩) rfl)) (fun _ => rfl) (fun _ _ => rfl) (fun _ => rfl) rfl rfl) jo_nil)) (fun v20 => (o_addL (enP enI enI) (xs := lines) (ys := v20) rfl rfl)) rfl) jx_nil)) (enP enI (enL (enP enI enI))) (fun v21 => (many, v21)) (S2 := fun _ => [some ((kVl enI) xs), some ((kD enI) wide), some ((kD enI) many), some ((kOl (enP enI enI)) lines), some ((kOl enI) beside), none, none, none, none]) (fun _ => rfl) (fun _ => ⟨_, rfl, Nat.le_of_ble_eq_true rfl, rfl⟩) rfl) (hX _ rfl) (bind_ok _).symm (fun _ q => q)
  · refine b_go ?_
    refine b_set (j_bin (op := .Add) (jo_p (j_int _) (jo_m (j_bin (op := .Mod) (jo_mm (j_idx (jo_pl (i := 0) rfl (jo_p (j_int _) jo_nil)) (fun _ => (o_idx enI (xs := xs) rfl)) rfl) (fun _ => (jo_m (j_idx (jo_p (j_lst (jx_p (j_int _) (jx_p (j_int _) (jx_p (j_int _) (jx_p (j_int _) jx_nil)))) enI (fun _ => [0, 7, 9, 5]) (S2 := fun _ => [some ((kVl enI) xs), none, none, none, none, none, none, none, none]) (fun _ => rfl) (fun _ => ⟨rfl, Nat.le_of_ble_eq_true rfl⟩) rfl) (jo_m (j_bin (op := .Mod) (jo_m (j_idx (jo_pl (i := 0) rfl (jo_p (j_int _) jo_nil)) (fun _ => (o_idx enI (xs := xs) rfl)) rfl) (jo_p (j_int _) jo_nil)) (fun v24 => (o_modc (by decide))) rfl) jo_nil)) (fun v25 => (o_idx enI (xs := ([0, 7, 9, 5])) rfl)) rfl) jo_nil)) rfl) (fun v26 => o_mod) rfl) jo_nil)) (fun v29 => o_add) rfl) (hX _ rfl) rfl fun many => ?_
    refine b_setc (j_map (own := [8]) (tg := (.name 8)) (S1 := [some ((kVl enI) xs), none, some ((kD enI) many), none, none, none, none, none, none]) (Sx := fun x31 => [some ((kVl enI) xs), none, some ((kD enI) many), none, none, none, none, none, some ((kD enI) x31)]) (S2 := [some ((kVl enI) xs), none, some ((kD enI) many), none, none, none, none, none, none]) (enP enI enI) (js_r1 (f := fun _ => (many - 1)) (jo_p (j_bin (op := .Sub) (jo_pl (i := 2) rfl (jo_p (j_int _) jo_nil)) (fun _ => o_sub) rfl) jo_nil) rfl) (fun _ _ h => h) (fun x31 => (j_tup (jx_p (j_var (i := 8) enI x31 rfl rfl) (jx_p (j_bin (op := .Add) (jo_pl (i := 8) rfl (jo_p (j_int _) jo_nil)) (fun _ => o_add) rfl) jx_nil)) (enP enI enI) (fun _ => (x31, (x31 + 1))) (S2 := fun _ => [some ((kVl enI) xs), none, some ((kD enI) many), none, none, none, none, none, some ((kD enI) x31)]) (fun _ => rfl) (fun _ => ⟨_, rfl, Nat.le_of_ble_eq_true rfl, rfl⟩) rfl)) (fun _ => rfl) (fun _ _ => rfl) (fun _ => trivial) rfl rfl) (hX _ rfl) rfl fun lines => ?_
    refine b_ifN (fun t37 => [some ((kVl enI) xs), none, some ((kD enI) many), some ((kOl (enP enI enI)) t37), none, none, none, none, none]) (j_an (jan_m (j_cmp (op := .Eq) (jo_m (j_bin (op := .Mod) (jo_m (j_idx (jo_pl (i := 0) rfl (jo_p (j_int _) jo_nil)) (fun _ => (o_idx enI (xs := xs) rfl)) rfl) (jo_p (j_int _) jo_nil)) (fun v32 => (o_modc (by decide))) rfl) (jo_p (j_int _) jo_nil)) (fun v33 => o_eqI) rfl) (jan_m (j_cmp (op := .Gt) (jo_pl (i := 2) rfl (jo_p (j_int _) jo_nil)) (fun _ => o_gt) rfl) (jan_1 (j_cmp (op := .Eq) (jo_m (j_bin (op := .Mod) (jo_m (j_idx (jo_pl (i := 0) rfl (jo_p (j_int _) jo_nil)) (fun _ => (o_idx enI (xs := xs) rfl)) rfl) (jo_p (j_int _) jo_nil)) (fun v34 => (o_modc (by decide))) rfl) (jo_p (j_int _) jo_nil)) (fun v35 => o_eqI) rfl)) rfl) rfl)) (hX _ rfl) rfl ?_ ?_ ?_
    · intro N P' hN
      refine b_expr (j_meth (i := 3) (mf := .append) rfl rfl (jx_p (j_tup (jx_p (j_int _) (jx_p (j_bin (op := .Sub) (jo_pl (i := 2) rfl (jo_p (j_int _) jo_nil)) (fun _ => o_sub) rfl) jx_nil)) (enP enI enI) (fun _ => (0, (many - 1))) (S2 := fun _ => [some ((kVl enI) xs), none, some ((kD enI) many), some ((kOl (enP enI enI)) lines), none, none, none, none, none]) (fun _ => rfl) (fun _ => ⟨_, rfl, Nat.le_of_ble_eq_true rfl, rfl⟩) rfl) jx_nil) rfl (fun _ => m_append (enP enI enI) rfl) rfl) (hX _ rfl) rfl fun lines => ?_
      first | exact b_end (fun q => hN _ q) | exact fun q => hN _ q
    · intro N P' hN
      first | exact b_end (fun q => hN _ q) | exact fun q => hN _ q
    · rintro lines
      refine b_ifN (fun t40 => [some ((kVl enI) xs), none, some ((kD enI) many), some ((kOl (enP enI enI)) t40), none, none, none, none, none]) (j_cmp (op := .Gt) (jo_m (j_bin (op := .Mod) (jo_m (j_idx (jo_pl (i := 0) rfl (jo_p (j_int _) jo_nil)) (fun _ => (o_idx enI (xs := xs) rfl)) rfl) (jo_p (j_int _) jo_nil)) (fun v38 => (o_modc (by decide))) rfl) (jo_p (j_int _) jo_nil)) (fun v39 => o_gt) rfl) (hX _ rfl) rfl ?_ ?_ ?_
      · intro N P' hN
        refine b_set (j_call (j := 140) (ms := [.dat, .dat]) h140 (jc_mm (j_idx (jo_pl (i := 0) rfl (jo_p (j_int _) jo_nil)) (fun _ => (o_idx enI (xs := xs) rfl)) rfl) (fun _ => (jc_m (j_bin (op := .Mult) (jo_pl (i := 2) rfl (jo_pl (i := 2) rfl jo_nil)) (fun _ => o_mul) rfl) jc_nil)) rfl) (fun _ => rfl) (fun _ => (ia_dw (ia_dw ia_nil))) (fun v41 => c_law_stream v41.1 v41.2) (fun _ => rfl) rfl rfl (fun _ => rfl) (fun _ => rfl) rfl) (hX _ rfl) rfl fun ys => ?_
        refine b_set (j_lst jx_nil (enP enI enI) (fun _ => ([] : List (Int × Int))) (S2 := fun _ => [some ((kVl enI) xs), none, some ((kD enI) many), some ((kOl (enP enI enI)) lines), none, some ((kOl enI) ys), none, none, none]) (fun _ => rfl) (fun _ => ⟨rfl, Nat.le_of_ble_eq_true rfl⟩) rfl) (hX _ rfl) rfl fun lines => ?_
        refine b_for (fun t45 => [some ((kVl enI) xs), none, some ((kD enI) many), some ((kOl (enP enI enI)) t45), none, some ((kOl enI) ys), none, none, none]) (fun r44 => lines) (js_r1 (f := fun _ => many) (jo_pl (i := 2) rfl jo_nil) rfl) (hX _ rfl) rfl (fun _ => rfl) (fun _ _ _ h => h) (fun _ _ => trivial) ?_ ?_
        · intro one_
          rintro lines
          intro D N P' hN
          refine b_for (fun t47 => [some ((kVl enI) xs), none, some ((kD enI) many), some ((kOl (enP enI enI)) t47), none, some ((kOl enI) ys), some ((kD enI) one_), none, none]) (fun r46 => lines) (js_r1 (f := fun _ => one_) (jo_pl (i := 6) rfl jo_nil) rfl) (hX _ rfl) rfl (fun _ => rfl) (fun _ _ _ h => h) (fun _ _ => trivial) ?_ ?_
          · intro other
            rintro lines
            intro D N P' hN
            refine b_ifN (fun t55 => [some ((kVl enI) xs), none, some ((kD enI) many), some ((kOl (enP enI enI)) t55), none, some ((kOl enI) ys), some ((kD enI) one_), some ((kD enI) other), none]) (j_cmp (op := .Lt) (jo_mm (j_bin (op := .Mod) (jo_m (j_idx (jo_pl (i := 5) rfl (jo_m (j_bin (op := .Add) (jo_m (j_bin (op := .Mult) (jo_pl (i := 6) rfl (jo_pl (i := 2) rfl jo_nil)) (fun _ => o_mul) rfl) (jo_pl (i := 7) rfl jo_nil)) (fun v48 => o_add) rfl) jo_nil)) (fun v49 => (o_idx enI (xs := ys) rfl)) rfl) (jo_p (j_int _) jo_nil)) (fun v50 => (o_modc (by decide))) rfl) (fun _ => (jo_m (j_bin (op := .Mod) (jo_m (j_idx (jo_pl (i := 0) rfl (jo_p (j_int _) jo_nil)) (fun _ => (o_idx enI (xs := xs) rfl)) rfl) (jo_p (j_int _) jo_nil)) (fun v51 => (o_modc (by decide))) rfl) jo_nil)) rfl) (fun v52 => o_lt) rfl) (hX _ rfl) rfl ?_ ?_ ?_
            · intro N P' hN
              refine b_expr (j_meth (i := 3) (mf := .append) rfl rfl (jx_p (j_tup (jx_p (j_var (i := 7) enI other rfl rfl) (jx_p (j_var (i := 6) enI one_ rfl rfl) jx_nil)) (enP enI enI) (fun _ => (other, one_)) (S2 := fun _ => [some ((kVl enI) xs), none, some ((kD enI) many), some ((kOl (enP enI enI)) lines), none, some ((kOl enI) ys), some ((kD enI) one_), some ((kD enI) other), none]) (fun _ => rfl) (fun _ => ⟨_, rfl, Nat.le_of_ble_eq_true rfl, rfl⟩) rfl) jx_nil) rfl (fun _ => m_append (enP enI enI) rfl) rfl) (hX _ rfl) rfl fun lines => ?_
              first | exact b_end (fun q => hN _ q) | exact fun q => hN _ q
            · intro N P' hN
              first | exact b_end (fun q => hN _ q) | exact fun q => hN _ q
            · rintro lines
              refine b_kil _ rfl ?_
              first | exact b_end (fun q => hN _ q) | exact fun q => hN _ q
          · rintro lines
            refine b_kil _ rfl ?_
            first | exact b_end (fun q => hN _ q) | exact fun q => hN _ q
        · rintro lines
          refine b_kil _ rfl ?_
          first | exact b_end (fun q => hN _ q) | exact fun q => hN _ q
      · intro N P' hN
        first | exact b_end (fun q => hN _ q) | exact fun q => hN _ q
      · rintro lines
        exact b_ret (f := fun r => .ok r) (j_tup (jx_p (j_var (i := 2) enI many rfl rfl) (jx_s (j_frz (i := 3) (enL (enP enI enI)) lines rfl rfl) jx_nil)) (enP enI (enL (enP enI enI))) (fun _ => (many, lines)) (S2 := fun _ => [some ((kVl enI) xs), none, some ((kD enI) many), some ((kD (enL (enP enI enI))) lines), none, none, none, none, none]) (fun _ => rfl) (fun _ => ⟨_, rfl, Nat.le_of_ble_eq_true rfl, rfl⟩) rfl) (hX _ rfl) rfl (fun _ q => q)
/-- _law_row(board, stand, point) : 0 board, 1 stand, 2 point, 3 found, 4 at, 5 other -/
noncomputable def f_law_row (board : (List (List Int))) (stand : (List Int)) (point : Int) : Res (List Int) :=
Res.bind (.ok [point]) fun found =>
Res.bind (.ok (0 : Int)) fun at_ =>
Res.bind (whileM (τ := (List Int) × Int) (fun t => match t with
| (found, at_) => (.ok (decide (at_ < (found.length : Int))))) (fun t => match t with
| (found, at_) =>
Res.bind (Res.bind (getI found at_) fun v2 => (getI board v2)) fun l3 =>
Res.bind (forM (τ := (List Int)) l3 found (fun other found =>
Res.bind ((Res.bind (Res.bind (Res.bind (Res.bind (getI stand other) fun v6 => Res.bind (getI stand point) fun v7 => .ok (v6, v7)) fun v5 => .ok (decide (v5.1 = v5.2))) fun b8 => ifR b8 (.ok (!decide (other ∈ found))) (.ok false)) fun b10 =>
ifR b10 (
Res.bind (apR found other) fun found =>
.ok (found)) (
.ok (found))) : Res ((List Int))) fun found =>
.ok (found))) fun found =>
Res.bind (.ok (at_ + 1)) fun at_ =>
.ok ((found, at_))) (found, at_)) fun t => match t with
| (found, at_) =>
(.ok found)
def b_law_row_1 : B :=
(.cons (.ifs (.an (.cons (.cmp .Eq (.ex (.idx (.pl 1 (.pl 5 .nil))) (.ex (.idx (.pl 1 (.pl 2 .nil))) .nil))) (.cons (.cmp .NotIn (.pl 5 (.pl 3 .nil))) .nil)))
(.cons (.expr (.meth 3 .append (.cons (.var 5) .nil)))
.nil)
.nil)
(.kil [5] .nil))
def b_law_row_2 : B :=
(.cons (.fors (.name 5) (.exp (.idx (.pl 0 (.ex (.idx (.pl 3 (.pl 4 .nil))) .nil)))) b_law_row_1)
(.cons (.set 4 (.bin .Add (.pl 4 (.ex (.int 1) .nil))))
.nil))
def c_law_row_2 : E :=
(.cmp .Lt (.pl 4 (.ex (.bf .len (.pl 3 .nil)) .nil)))
def b_law_row : B :=
(.cons (.set 3 (.lst (.cons (.var 2) .nil)))
(.cons (.set 4 (.int 0))
(.cons (.whl c_law_row_2 b_law_row_2)
(.cons (.ret (.mv 3))
.nil))))
def n_law_row : List Str := ["board", "stand", "point", "found", "at", "other"]
def m_law_row : List AK := [.dat, .dat, .dat]
def ct_law_row (xn : Xc → Exn) : Ct := fun ws R RE => ∃ (board : (List (List Int))) (stand : (List Int)) (point : Int), ws = [(kD (enT (enT enI))) board, (kD (enT enI)) stand, (kD enI) point] ∧ wpR (f_law_row board stand point) (fun (r : (List Int)) => R ((kOl enI) r) [none, none, none]) (fun x => RE (xn x) [none, none, none])
theorem c_law_row {xn : Xc → Exn} (board : (List (List Int))) (stand : (List Int)) (point : Int) : CtF xn (ct_law_row xn) [(kD (enT (enT enI))) board, (kD (enT enI)) stand, (kD enI) point] (f_law_row board stand point) (fun r => (kOl enI) r) (fun r => [none, none, none]) [none, none, none] := fun R RE h => ⟨board, stand, point, rfl, h⟩
theorem s_law_row {xn : Xc → Exn} {Γ : Nat → Ct}  : Keeps Γ b_law_row 6 m_law_row (ct_law_row xn) := by
  rintro ws R RE ⟨board, stand, point, rfl, h⟩
  refine ⟨rfl, ?_⟩
  revert h
  have hX : ∀ S : WSt, S.length = 6 → XS xn (fun x S => RE x (lentX m_law_row [(kD (enT (enT enI))) board, (kD (enT enI)) stand, (kD enI) point] S)) (fun x => RE (xn x) [none, none, none]) S := fun S hl x h => by
    show RE (xn x) (lentX m_law_row [(kD (enT (enT enI))) board, (kD (enT enI)) stand, (kD enI) point] S)
    rw [show lentX m_law_row [(kD (enT (enT enI))) board, (kD (enT enI)) stand, (kD enI) point] S = [none, none, none] from lentX_no m_law_row [(kD (enT (enT enI))) board, (kD (enT enI)) stand, (kD enI) point] S rfl rfl (by rw [hl]; decide)]; exact h
  have hE : Flat (fun x S => RE x (lentX m_law_row [(kD (enT (enT enI))) board, (kD (enT enI)) stand, (kD enI) point] S)) := flat_lent rfl
  show Sim (f_law_row board stand point) (fun (r : (List Int)) => R ((kOl enI) r) [none, none, none]) (fun x => RE (xn x) [none, none, none]) (semB Γ (fun x S => RE x (lentX m_law_row [(kD (enT (enT enI))) board, (kD (enT enI)) stand, (kD enI) point] S)) b_law_row { nx := fun S => R (.d .none) (lentOf m_law_row S), rt := fun w S => R w (lentOf m_law_row S) } [some ((kD (enT (enT enI))) board), some ((kD (enT enI)) stand), some ((kD enI) point), none, none, none])
  refine b_set (j_lst (jx_p (j_var (i := 2) enI point rfl rfl) jx_nil) enI (fun _ => [point]) (S2 := fun _ => [some ((kD (enT (enT enI))) board), some ((kD (enT enI)) stand), some ((kD enI) point), none, none, none]) (fun _ => rfl) (fun _ => ⟨rfl, Nat.le_of_ble_eq_true rfl⟩) rfl) (hX _ rfl) rfl fun found => ?_
  refine b_set (j_int _) (hX _ rfl) rfl fun at_ => ?_
  refine b_while (fun t1 => [some ((kD (enT (enT enI))) board), some ((kD (enT enI)) stand), some ((kD enI) point), some ((kOl enI) t1.1), some ((kD enI) t1.2), none]) (found, at_) (fun _ => (hX _ rfl)) ?_ rfl rfl ?_ ?_
  · rintro ⟨found, at_⟩
    exact (j_cmp (op := .Lt) (jo_pl (i := 4) rfl (jo_p (j_bf (f := .len) (jo_pl (i := 3) rfl jo_nil) (fun _ => (o_len enI.e (xs := found) rfl)) rfl) jo_nil)) (fun _ => o_lt) rfl)
  · rintro ⟨found, at_⟩
    intro D N P' hN
    refine b_for (fun t4 => [some ((kD (enT (enT enI))) board), some ((kD (enT enI)) stand), some ((kD enI) point), some ((kOl enI) t4), some ((kD enI) at_), none]) (fun l3 => found) (js_exp (xs := id) (j_idx (jo_pl (i := 0) rfl (jo_m (j_idx (jo_pl (i := 3) rfl (jo_pl (i := 4) rfl jo_nil)) (fun _ => (o_idx enI (xs := found) rfl)) rfl) jo_nil)) (fun v2 => (o_idx (enT enI) (xs := board) rfl)) rfl) (fun _ => itD_T enI _)) (hX _ rfl) rfl (fun _ => rfl) (fun _ _ _ h => h) (fun _ _ => trivial) ?_ ?_
    · intro other
      rintro found
      intro D N P' hN
      refine b_ifN (fun t9 => [some ((kD (enT (enT enI))) board), some ((kD (enT enI)) stand), some ((kD enI) point), some ((kOl enI) t9), some ((kD enI) at_), some ((kD enI) other)]) (j_an (jan_m (j_cmp (op := .Eq) (jo_mm (j_idx (jo_pl (i := 1) rfl (jo_pl (i := 5) rfl jo_nil)) (fun _ => (o_idx enI (xs := stand) rfl)) rfl) (fun _ => (jo_m (j_idx (jo_pl (i := 1) rfl (jo_pl (i := 2) rfl jo_nil)) (fun _ => (o_idx enI (xs := stand) rfl)) rfl) jo_nil)) rfl) (fun v5 => o_eqI) rfl) (jan_1 (j_cmp (op := .NotIn) (jo_pl (i := 5) rfl (jo_pl (i := 3) rfl jo_nil)) (fun _ => (o_nin enI (a := other) (xs := found) rfl rfl (.inl rfl))) rfl)) rfl)) (hX _ rfl) rfl ?_ ?_ ?_
      · intro N P' hN
        refine b_expr (j_meth (i := 3) (mf := .append) rfl rfl (jx_p (j_var (i := 5) enI other rfl rfl) jx_nil) rfl (fun _ => m_append enI rfl) rfl) (hX _ rfl) rfl fun found => ?_
        first | exact b_end (fun q => hN _ q) | exact fun q => hN _ q
      · intro N P' hN
        first | exact b_end (fun q => hN _ q) | exact fun q => hN _ q
      · rintro found
        refine b_kil _ rfl ?_
        first | exact b_end (fun q => hN _ q) | exact fun q => hN _ q
    · rintro found
      refine b_set (j_bin (op := .Add) (jo_pl (i := 4) rfl (jo_p (j_int _) jo_nil)) (fun _ => o_add) rfl) (hX _ rfl) rfl fun at_ => ?_
      first | exact b_end (fun q => hN _ q) | exact fun q => hN _ q
  · rintro ⟨found, at_⟩
    exact b_ret (f := fun r => .ok r) (j_mv (i := 3) (kOl enI) found rfl) (hX _ rfl) rfl (fun _ q => q)
/-- _law_breaths(board, stand, row) : 0 board, 1 stand, 2 row, 3 found, 4 point, 5 other -/
noncomputable def f_law_breaths (board : (List (List Int))) (stand : (List Int)) (row : (List Int)) : Res (List Int) :=
Res.bind (.ok ([] : List Int)) fun found =>
Res.bind (forM (τ := (List Int)) row found (fun point found =>
Res.bind (getI board point) fun l2 =>
Res.bind (forM (τ := (List Int)) l2 found (fun other found =>
Res.bind ((Res.bind (Res.bind (getI stand other) fun v4 => .ok (decide (v4 = 0))) fun b6 =>
ifR b6 (
Res.bind (putS found other) fun found =>
.ok (found)) (
.ok (found))) : Res ((List Int))) fun found =>
.ok (found))) fun found =>
.ok (found))) fun found =>
(.ok (isort found))
def b_law_breaths_1 : B :=
(.cons (.ifs (.cmp .Eq (.ex (.idx (.pl 1 (.pl 5 .nil))) (.ex (.int 0) .nil)))
(.cons (.put 3 (.var 5) (.bl true))
.nil)
.nil)
(.kil [5] .nil))
def b_law_breaths_2 : B :=
(.cons (.fors (.name 5) (.exp (.idx (.pl 0 (.pl 4 .nil)))) b_law_breaths_1)
(.kil [4] .nil))
def b_law_breaths : B :=
(.cons (.set 3 .dict0)
(.cons (.fors (.name 4) (.pl 2) b_law_breaths_2)
(.cons (.ret (.bf .sorted (.ex (.bf .list (.pl 3 .nil)) .nil)))
.nil)))
def n_law_breaths : List Str := ["board", "stand", "row", "found", "point", "other"]
def m_law_breaths : List AK := [.dat, .dat, .vw]
def ct_law_breaths (xn : Xc → Exn) : Ct := fun ws R RE => ∃ (board : (List (List Int))) (stand : (List Int)) (row : (List Int)), ws = [(kD (enT (enT enI))) board, (kD (enT enI)) stand, (kVl enI) row] ∧ wpR (f_law_breaths board stand row) (fun (r : (List Int)) => R ((kOl enI) r) [none, none, none]) (fun x => RE (xn x) [none, none, none])
theorem c_law_breaths {xn : Xc → Exn} (board : (List (List Int))) (stand : (List Int)) (row : (List Int)) : CtF xn (ct_law_breaths xn) [(kD (enT (enT enI))) board, (kD (enT enI)) stand, (kVl enI) row] (f_law_breaths board stand row) (fun r => (kOl enI) r) (fun r => [none, none, none]) [none, none, none] := fun R RE h => ⟨board, stand, row, rfl, h⟩
theorem s_law_breaths {xn : Xc → Exn} {Γ : Nat → Ct}  : Keeps Γ b_law_breaths 6 m_law_breaths (ct_law_breaths xn) := by
  rintro ws R RE ⟨board, stand, row, rfl, h⟩
  refine ⟨rfl, ?_⟩
  revert h
  have hX : ∀ S : WSt, S.length = 6 → XS xn (fun x S => RE x (lentX m_law_breaths [(kD (enT (enT enI))) board, (kD (enT enI)) stand, (kVl enI) row] S)) (fun x => RE (xn x) [none, none, none]) S := fun S hl x h => by
    show RE (xn x) (lentX m_law_breaths [(kD (enT (enT enI))) board, (kD (enT enI)) stand, (kVl enI) row] S)
    rw [show lentX m_law_breaths [(kD (enT (enT enI))) board, (kD (enT enI)) stand, (kVl enI) row] S = [none, none, none] from lentX_no m_law_breaths [(kD (enT (enT enI))) board, (kD (enT enI)) stand, (kVl enI) row] S rfl rfl (by rw [hl]; decide)]; exact h
  have hE : Flat (fun x S => RE x (lentX m_law_breaths [(kD (enT (enT enI))) board, (kD (enT enI)) stand, (kVl enI) row] S)) := flat_lent rfl
  show Sim (f_law_breaths board stand row) (fun (r : (List Int)) => R ((kOl enI) r) [none, none, none]) (fun x => RE (xn x) [none, none, none]) (semB Γ (fun x S => RE x (lentX m_law_breaths [(kD (enT (enT enI))) board, (kD (enT enI)) stand, (kVl enI) row] S)) b_law_breaths { nx := fun S => R (.d .none) (lentOf m_law_breaths S), rt := fun w S => R w (lentOf m_law_breaths S) } [some ((kD (enT (enT enI))) board), some ((kD (enT enI)) stand), some ((kVl enI) row), none, none, none])
  refine b_set j_dict0S (hX _ rfl) rfl fun found => ?_
  refine b_for (fun t1 => [some ((kD (enT (enT enI))) board), some ((kD (enT enI)) stand), some ((kVl enI) row), some (kS t1), none, none]) (fun _ => found) (js_pl (i := 2) rfl (itW_vl enI row)) (hX _ rfl) rfl (fun _ => rfl) (fun _ _ _ h => h) (fun _ _ => trivial) ?_ ?_
  · intro point
    rintro found
    intro D N P' hN
    refine b_for (fun t3 => [some ((kD (enT (enT enI))) board), some ((kD (enT enI)) stand), some ((kVl enI) row), some (kS t3), some ((kD enI) point), none]) (fun l2 => found) (js_exp (xs := id) (j_idx (jo_pl (i := 0) rfl (jo_pl (i := 4) rfl jo_nil)) (fun _ => (o_idx (enT enI) (xs := board) rfl)) rfl) (fun _ => itD_T enI _)) (hX _ rfl) rfl (fun _ => rfl) (fun _ _ _ h => h) (fun _ _ => trivial) ?_ ?_
    · intro other
      rintro found
      intro D N P' hN
      refine b_ifN (fun t5 => [some ((kD (enT (enT enI))) board), some ((kD (enT enI)) stand), some ((kVl enI) row), some (kS t5), some ((kD enI) point), some ((kD enI) other)]) (j_cmp (op := .Eq) (jo_m (j_idx (jo_pl (i := 1) rfl (jo_pl (i := 5) rfl jo_nil)) (fun _ => (o_idx enI (xs := stand) rfl)) rfl) (jo_p (j_int _) jo_nil)) (fun v4 => o_eqI) rfl) (hX _ rfl) rfl ?_ ?_ ?_
      · intro N P' hN
        refine b_putP rfl (j_bl _) (j_var (i := 5) enI other rfl rfl) rfl p_set (hX _ rfl) rfl fun found => ?_
        first | exact b_end (fun q => hN _ q) | exact fun q => hN _ q
      · intro N P' hN
        first | exact b_end (fun q => hN _ q) | exact fun q => hN _ q
      · rintro found
        refine b_kil _ rfl ?_
        first | exact b_end (fun q => hN _ q) | exact fun q => hN _ q
    · rintro found
      refine b_kil _ rfl ?_
      first | exact b_end (fun q => hN _ q) | exact fun q => hN _ q
  · rintro found
    exact b_ret (f := fun r => .ok r) (j_bf (f := .sorted) (jo_p (j_bf (f := .list) (jo_pl (i := 3) rfl jo_nil) (fun _ => o_listS) rfl) jo_nil) (fun _ => (o_sortI (ns := found) rfl)) rfl) (hX _ rfl) rfl (fun _ q => q)
/-- _law_tried(board, stand, hand, point) : 0 board, 1 stand, 2 hand, 3 point, 4 taken, 5 breath, 6 other, 7 row, 8 left, 9 one, 10 there -/
noncomputable def f_law_tried (board : (List (List Int))) (stand : (List Int)) (hand : Int) (point : Int) : Res (Tx ⊕ ((List Int) × (List Int))) :=
Res.bind (Res.bind (getI stand point) fun v1 => .ok (!decide (v1 = 0))) fun b17 =>
ifR b17 (
(.ok (.inl (tx "lay") : (Tx ⊕ ((List Int) × (List Int)))))) (
Res.bind (.ok ([] : List Int)) fun taken =>
Res.bind (.ok ([] : List Int)) fun breath =>
Res.bind (getI board point) fun l3 =>
Res.bind (forM (τ := (List Int) × (List Int)) l3 (taken, breath) (fun other t => match t with
| (taken, breath) =>
Res.bind ((Res.bind (Res.bind (getI stand other) fun v5 => .ok (decide (v5 = 0))) fun b13 =>
ifR b13 (
Res.bind (putS breath other) fun breath =>
.ok ((taken, breath))) (
Res.bind (f_law_row board stand other) fun row =>
Res.bind (f_law_breaths board stand row) fun left =>
Res.bind (remR left point) fun left =>
Res.bind ((Res.bind (Res.bind (getI stand other) fun v7 => .ok (decide (v7 = hand))) fun b12 =>
ifR b12 (
Res.bind (forM (τ := (List Int)) left breath (fun one_ breath =>
Res.bind (putS breath one_) fun breath =>
.ok (breath))) fun breath =>
.ok ((taken, breath))) (
Res.bind ((ifR (decide (left = ([] : List Int))) (
Res.bind (forM (τ := (List Int)) row taken (fun one_ taken =>
Res.bind (putS taken one_) fun taken =>
.ok (taken))) fun taken =>
.ok (taken)) (
.ok (taken))) : Res ((List Int))) fun taken =>
.ok ((taken, breath)))) : Res ((List Int) × (List Int))) fun t => match t with
| (taken, breath) =>
.ok ((taken, breath)))) : Res ((List Int) × (List Int))) fun t => match t with
| (taken, breath) =>
.ok ((taken, breath)))) fun t => match t with
| (taken, breath) =>
ifR ((decide ((breath.length : Int) = 0)) && (decide ((taken.length : Int) = 0))) (
(.ok (.inl (tx "breath") : (Tx ⊕ ((List Int) × (List Int)))))) (
Res.bind (.ok stand) fun there =>
Res.bind (forM (τ := (List Int)) taken there (fun one_ there =>
Res.bind (setI there one_ 0) fun there =>
.ok (there))) fun there =>
Res.bind (setI there point hand) fun there =>
(.ok (.inr (there, (isort taken)) : (Tx ⊕ ((List Int) × (List Int)))))))
def b_law_tried_10 : B :=
(.cons (.put 5 (.var 9) (.bl true))
(.kil [9] .nil))
def b_law_tried_12 : B :=
(.cons (.put 4 (.var 9) (.bl true))
(.kil [9] .nil))
def b_law_tried_13 : B :=
(.cons (.ifs (.cmp .Eq (.ex (.idx (.pl 1 (.pl 6 .nil))) (.ex (.int 0) .nil)))
(.cons (.put 5 (.var 6) (.bl true))
.nil)
(.cons (.set 7 (.call 143 [.dat, .dat, .dat] (.pl 0 (.pl 1 (.pl 6 .nil)))))
(.cons (.set 8 (.call 144 [.dat, .dat, .vw] (.pl 0 (.pl 1 (.pl 7 .nil)))))
(.cons (.expr (.meth 8 .remove (.cons (.var 3) .nil)))
(.cons (.ifs (.cmp .Eq (.ex (.idx (.pl 1 (.pl 6 .nil))) (.pl 2 .nil)))
(.cons (.fors (.name 9) (.pl 8) b_law_tried_10)
.nil)
(.cons (.ifs (.cmp .Eq (.pl 8 (.ex (.lst .nil) .nil)))
(.cons (.fors (.name 9) (.pl 7) b_law_tried_12)
.nil)
.nil)
.nil))
(.kil [7, 8] .nil))))))
(.kil [6] .nil))
def b_law_tried_14 : B :=
(.cons (.put 10 (.var 9) (.int 0))
(.kil [9] .nil))
def b_law_tried : B :=
(.cons (.ifs (.cmp .NotEq (.ex (.idx (.pl 1 (.pl 3 .nil))) (.ex (.int 0) .nil)))
(.cons (.ret (.str "lay"))
.nil)
.nil)
(.cons (.set 4 .dict0)
(.cons (.set 5 .dict0)
(.cons (.fors (.name 6) (.exp (.idx (.pl 0 (.pl 3 .nil)))) b_law_tried_13)
(.cons (.ifs (.an (.cons (.cmp .Eq (.ex (.bf .len (.pl 5 .nil)) (.ex (.int 0) .nil))) (.cons (.cmp .Eq (.ex (.bf .len (.pl 4 .nil)) (.ex (.int 0) .nil))) .nil)))
(.cons (.ret (.str "breath"))
.nil)
.nil)
(.cons (.set 10 (.bf .list (.pl 1 .nil)))
(.cons (.fkd (.name 9) 4 b_law_tried_14)
(.cons (.put 10 (.var 3) (.var 2))
(.cons (.ret (.tup (.cons (.bf .tuple (.pl 10 .nil)) (.cons (.bf .sorted (.ex (.bf .list (.pl 4 .nil)) .nil)) .nil))))
.nil)))))))))
def n_law_tried : List Str := ["board", "stand", "hand", "point", "taken", "breath", "other", "row", "left", "one", "there"]
def m_law_tried : List AK := [.dat, .dat, .dat, .dat]
def ct_law_tried (xn : Xc → Exn) : Ct := fun ws R RE => ∃ (board : (List (List Int))) (stand : (List Int)) (hand : Int) (point : Int), ws = [(kD (enT (enT enI))) board, (kD (enT enI)) stand, (kD enI) hand, (kD enI) point] ∧ wpR (f_law_tried board stand hand point) (fun (r : (Tx ⊕ ((List Int) × (List Int)))) => R ((kD (enU enS (enP (enT enI) (enL enI)))) r) [none, none, none, none]) (fun x => RE (xn x) [none, none, none, none])
theorem c_law_tried {xn : Xc → Exn} (board : (List (List Int))) (stand : (List Int)) (hand : Int) (point : Int) : CtF xn (ct_law_tried xn) [(kD (enT (enT enI))) board, (kD (enT enI)) stand, (kD enI) hand, (kD enI) point] (f_law_tried board stand hand point) (fun r => (kD (enU enS (enP (enT enI) (enL enI)))) r) (fun r => [none, none, none, none]) [none, none, none, none] := fun R RE h => ⟨board, stand, hand, point, rfl, h⟩
theorem s_law_tried {xn : Xc → Exn} {Γ : Nat → Ct} (h143 : Γ 143 = ct_law_row xn) (h144 : Γ 144 = ct_law_breaths xn) : Keeps Γ b_law_tried 11 m_law_tried (ct_law_tried xn) := by
  rintro ws R RE ⟨board, stand, hand, point, rfl, h⟩
  refine ⟨rfl, ?_⟩
  revert h
  have hX : ∀ S : WSt, S.length = 11 → XS xn (fun x S => RE x (lentX m_law_tried [(kD (enT (enT enI))) board, (kD (enT enI)) stand, (kD enI) hand, (kD enI) point] S)) (fun x => RE (xn x) [none, none, none, none]) S := fun S hl x h => by
    show RE (xn x) (lentX m_law_tried [(kD (enT (enT enI))) board, (kD (enT enI)) stand, (kD enI) hand, (kD enI) point] S)
    rw [show lentX m_law_tried [(kD (enT (enT enI))) board, (kD (enT enI)) stand, (kD enI) hand, (kD enI) point] S = [none, none, none, none] from lentX_no m_law_tried [(kD (enT (enT enI))) board, (kD (enT enI)) stand, (kD enI) hand, (kD enI) point] S rfl rfl (by rw [hl]; decide)]; exact h
  have hE : Flat (fun x S => RE x (lentX m_law_tried [(kD (enT (enT enI))) board, (kD (enT enI)) stand, (kD enI) hand, (kD enI) point] S)) := flat_lent rfl
  show Sim (f_law_tried board stand hand point) (fun (r : (Tx ⊕ ((List Int) × (List Int)))) => R ((kD (enU enS (enP (enT enI) (enL enI)))) r) [none, none, none, none]) (fun x => RE (xn x) [none, none, none, none]) (semB Γ (fun x S => RE x (lentX m_law_tried [(kD (enT (enT enI))) board, (kD (enT enI)) stand, (kD enI) hand, (kD enI) point] S)) b_law_tried { nx := fun S => R (.d .none) (lentOf m_law_tried S), rt := fun w S => R w (lentOf m_law_tried S) } [some ((kD (enT (enT enI))) board), some ((kD (enT enI)) stand), some ((kD enI) hand), some ((kD enI) point), none, none, none, none, none, none, none])
  refine b_if (j_cmp (op := .NotEq) (jo_m (j_idx (jo_pl (i := 1) rfl (jo_pl (i := 3) rfl jo_nil)) (fun _ => (o_idx enI (xs := stand) rfl)) rfl) (jo_p (j_int _) jo_nil)) (fun v1 => o_neI) rfl) (hX _ rfl) rfl ?_ ?_
  · exact b_ret (f := fun r => .ok r) (j_inl (enP (enT enI) (enL enI)) (j_str (tx "lay")) rfl) (hX _ rfl) rfl (fun _ q => q)
  · refine b_go ?_
    refine b_set j_dict0S (hX _ rfl) rfl fun taken => ?_
    refine b_set j_dict0S (hX _ rfl) rfl fun breath => ?_
    refine b_for (fun t4 => [some ((kD (enT (enT enI))) board), some ((kD (enT enI)) stand), some ((kD enI) hand), some ((kD enI) point), some (kS t4.1), some (kS t4.2), none, none, none, none, none]) (fun l3 => (taken, breath)) (js_exp (xs := id) (j_idx (jo_pl (i := 0) rfl (jo_pl (i := 3) rfl jo_nil)) (fun _ => (o_idx (enT enI) (xs := board) rfl)) rfl) (fun _ => itD_T enI _)) (hX _ rfl) rfl (fun _ => rfl) (fun _ _ _ h => h) (fun _ _ => trivial) ?_ ?_
    · intro other
      rintro ⟨taken, breath⟩
      intro D N P' hN
      refine b_ifN (fun t6 => [some ((kD (enT (enT enI))) board), some ((kD (enT enI)) stand), some ((kD enI) hand), some ((kD enI) point), some (kS t6.1), some (kS t6.2), some ((kD enI) other), none, none, none, none]) (j_cmp (op := .Eq) (jo_m (j_idx (jo_pl (i := 1) rfl (jo_pl (i := 6) rfl jo_nil)) (fun _ => (o_idx enI (xs := stand) rfl)) rfl) (jo_p (j_int _) jo_nil)) (fun v5 => o_eqI) rfl) (hX _ rfl) rfl ?_ ?_ ?_
      · intro N P' hN
        refine b_putP rfl (j_bl _) (j_var (i := 6) enI other rfl rfl) rfl p_set (hX _ rfl) rfl fun breath => ?_
        first | exact b_end (fun q => hN _ q) | exact fun q => hN _ q
      · intro N P' hN
        refine b_set (j_call (j := 143) (ms := [.dat, .dat, .dat]) h143 (jc_pl (i := 0) rfl (jc_pl (i := 1) rfl (jc_pl (i := 6) rfl jc_nil))) (fun _ => rfl) (fun _ => (ia_dp rfl (ia_dp rfl (ia_dp rfl ia_nil)))) (fun _ => c_law_row board stand other) (fun _ => rfl) rfl rfl (fun _ => rfl) (fun _ => rfl) rfl) (hX _ rfl) rfl fun row => ?_
        refine b_set (j_call (j := 144) (ms := [.dat, .dat, .vw]) h144 (jc_pl (i := 0) rfl (jc_pl (i := 1) rfl (jc_pl (i := 7) rfl jc_nil))) (fun _ => rfl) (fun _ => (ia_dp rfl (ia_dp rfl (ia_vp rfl rfl ia_nil)))) (fun _ => c_law_breaths board stand row) (fun _ => rfl) rfl rfl (fun _ => rfl) (fun _ => rfl) rfl) (hX _ rfl) rfl fun left => ?_
        refine b_expr (j_meth (i := 8) (mf := .remove) rfl rfl (jx_p (j_var (i := 3) enI point rfl rfl) jx_nil) rfl (fun _ => m_remove) rfl) (hX _ rfl) rfl fun left => ?_
        refine b_ifN (fun t8 => [some ((kD (enT (enT enI))) board), some ((kD (enT enI)) stand), some ((kD enI) hand), some ((kD enI) point), some (kS t8.1), some (kS t8.2), some ((kD enI) other), some ((kOl enI) row), some ((kOl enI) left), none, none]) (j_cmp (op := .Eq) (jo_m (j_idx (jo_pl (i := 1) rfl (jo_pl (i := 6) rfl jo_nil)) (fun _ => (o_idx enI (xs := stand) rfl)) rfl) (jo_pl (i := 2) rfl jo_nil)) (fun v7 => o_eqI) rfl) (hX _ rfl) rfl ?_ ?_ ?_
        · intro N P' hN
          refine b_for (fun t9 => [some ((kD (enT (enT enI))) board), some ((kD (enT enI)) stand), some ((kD enI) hand), some ((kD enI) point), some (kS taken), some (kS t9), some ((kD enI) other), some ((kOl enI) row), some ((kOl enI) left), none, none]) (fun _ => breath) (js_pl (i := 8) rfl (itW_ol enI left)) (hX _ rfl) rfl (fun _ => rfl) (fun _ _ _ h => h) (fun _ _ => rfl) ?_ ?_
          · intro one_
            rintro breath
            intro D N P' hN
            refine b_putP rfl (j_bl _) (j_var (i := 9) enI one_ rfl rfl) rfl p_set (hX _ rfl) rfl fun breath => ?_
            refine b_kil _ rfl ?_
            first | exact b_end (fun q => hN _ q) | exact fun q => hN _ q
          · rintro breath
            first | exact b_end (fun q => hN _ q) | exact fun q => hN _ q
        · intro N P' hN
          refine b_ifN (fun t10 => [some ((kD (enT (enT enI))) board), some ((kD (enT enI)) stand), some ((kD enI) hand), some ((kD enI) point), some (kS t10), some (kS breath), some ((kD enI) other), some ((kOl enI) row), some ((kOl enI) left), none, none]) (j_cmp (op := .Eq) (jo_pl (i := 8) rfl (jo_p (j_lst jx_nil enI (fun _ => ([] : List Int)) (S2 := fun _ => [some ((kD (enT (enT enI))) board), some ((kD (enT enI)) stand), some ((kD enI) hand), some ((kD enI) point), some (kS taken), some (kS breath), some ((kD enI) other), some ((kOl enI) row), some ((kOl enI) left), none, none]) (fun _ => rfl) (fun _ => ⟨rfl, Nat.le_of_ble_eq_true rfl⟩) rfl) jo_nil)) (fun _ => (o_eq (enL enI) (a := left) (b := ([] : List Int)) rfl rfl)) rfl) (hX _ rfl) rfl ?_ ?_ ?_
          · intro N P' hN
            refine b_for (fun t11 => [some ((kD (enT (enT enI))) board), some ((kD (enT enI)) stand), some ((kD enI) hand), some ((kD enI) point), some (kS t11), some (kS breath), some ((kD enI) other), some ((kOl enI) row), some ((kOl enI) left), none, none]) (fun _ => taken) (js_pl (i := 7) rfl (itW_ol enI row)) (hX _ rfl) rfl (fun _ => rfl) (fun _ _ _ h => h) (fun _ _ => rfl) ?_ ?_
            · intro one_
              rintro taken
              intro D N P' hN
              refine b_putP rfl (j_bl _) (j_var (i := 9) enI one_ rfl rfl) rfl p_set (hX _ rfl) rfl fun taken => ?_
              refine b_kil _ rfl ?_
              first | exact b_end (fun q => hN _ q) | exact fun q => hN _ q
            · rintro taken
              first | exact b_end (fun q => hN _ q) | exact fun q => hN _ q
          · intro N P' hN
            first | exact b_end (fun q => hN _ q) | exact fun q => hN _ q
          · rintro taken
            first | exact b_end (fun q => hN _ q) | exact fun q => hN _ q
        · rintro ⟨taken, breath⟩
          refine b_kil _ rfl ?_
          first | exact b_end (fun q => hN _ q) | exact fun q => hN _ q
      · rintro ⟨taken, breath⟩
        refine b_kil _ rfl ?_
        first | exact b_end (fun q => hN _ q) | exact fun q => hN _ q
    · rintro ⟨taken, breath⟩
      refine b_if (j_an (jan_p (j_cmp (op := .Eq) (jo_p (j_bf (f := .len) (jo_pl (i := 5) rfl jo_nil) (fun _ => (o_lenS (ns := breath) rfl rfl)) rfl) (jo_p (j_int _) jo_nil)) (fun _ => o_eqI) rfl) (jan_1 (j_cmp (op := .Eq) (jo_p (j_bf (f := .len) (jo_pl (i := 4) rfl jo_nil) (fun _ => (o_lenS (ns := taken) rfl rfl)) rfl) (jo_p (j_int _) jo_nil)) (fun _ => o_eqI) rfl)))) (hX _ rfl) rfl ?_ ?_
      · exact b_ret (f := fun r => .ok r) (j_inl (enP (enT enI) (enL enI)) (j_str (tx "breath")) rfl) (hX _ rfl) rfl (fun _ q => q)
      · refine b_go ?_
        refine b_set (j_bf (f := .list) (jo_pl (i := 1) rfl jo_nil) (fun _ => (o_list enI (xs := stand) rfl)) rfl) (hX _ rfl) rfl fun there => ?_
        refine b_fkd (ns := taken) (fun t15 => [some ((kD (enT (enT enI))) board), some ((kD (enT enI)) stand), some ((kD enI) hand), some ((kD enI) point), none, some (kS breath), none, none, none, none, some ((kOl enI) t15)]) there rfl rfl rfl (fun _ _ _ h => h) (fun _ => ⟨(.inl rfl), ⟨(.inl rfl), ⟨(.inl rfl), ⟨(.inl rfl), ⟨(.inl rfl), ⟨(.inl rfl), trivial⟩⟩⟩⟩⟩⟩) ?_ ?_
        · intro one_
          rintro there
          intro D N P' hN
          refine b_putP rfl (j_int _) (j_var (i := 9) enI one_ rfl rfl) rfl (p_list enI (a := 0) rfl) (hX _ rfl) rfl fun there => ?_
          refine b_kil _ rfl ?_
          first | exact b_end (fun q => hN _ q) | exact fun q => hN _ q
        · rintro there
          refine b_putP rfl (j_var (i := 2) enI hand rfl rfl) (j_var (i := 3) enI point rfl rfl) rfl (p_list enI (a := hand) rfl) (hX _ rfl) rfl fun there => ?_
          exact b_ret (f := fun r => .ok r) (j_inr enS (j_tup (jx_p (j_bf (f := .tuple) (jo_pl (i := 10) rfl jo_nil) (fun _ => (o_tuple enI (xs := there) rfl)) rfl) (jx_p (j_bf (f := .sorted) (jo_p (j_bf (f := .list) (jo_pl (i := 4) rfl jo_nil) (fun _ => o_listS) rfl) jo_nil) (fun _ => (o_sortI (ns := taken) rfl)) rfl) jx_nil)) (enP (enT enI) (enL enI)) (fun _ => (there, (isort taken))) (S2 := fun _ => [some ((kD (enT (enT enI))) board), some ((kD (enT enI)) stand), some ((kD enI) hand), some ((kD enI) point), some (kS taken), some (kS breath), none, none, none, none, some ((kOl enI) there)]) (fun _ => rfl) (fun _ => ⟨_, rfl, Nat.le_of_ble_eq_true rfl, rfl⟩) rfl) rfl) (hX _ rfl) rfl (fun _ q => q)
/-- _law_sound(board, cells) : 0 board, 1 cells, 2 stand, 3 cell, 4 xs, 5 k, 6 point, 7 found -/
noncomputable def f_law_sound (board : (List (List Int))) (cells : (List Int)) : Res (List Int) :=
Res.bind (Res.bind (ner (mapC (fun x1 => (.ok (0 : Int))) board [])) fun v2 => .ok v2) fun stand =>
Res.bind (forM (τ := (List Int)) cells stand (fun cell stand =>
Res.bind (f_law_stream cell 3) fun xs =>
Res.bind (Res.bind (Res.bind (Res.bind (getI xs 2) fun v4 => .ok (v4 % 3)) fun v5 => .ok (1 + v5)) fun v6 => (rng1 v6)) fun r7 =>
Res.bind (forM (τ := (List Int)) r7 stand (fun k stand =>
Res.bind (Res.bind (Res.bind (getI xs 0) fun v9 => .ok (v9 + (7 * k))) fun v10 => (modR v10 (board.length : Int))) fun point =>
Res.bind (Res.bind (Res.bind (Res.bind (Res.bind (getI xs 1) fun v11 => .ok (v11 + k)) fun v12 => .ok (v12 % 2)) fun v13 => .ok (1 + v13)) fun v14 => (f_law_tried board stand v14 point)) fun found =>
Res.bind ((ifR (isU false true found) (
Res.bind (unR found) fun y16 =>
Res.bind (.ok y16.1) fun stand =>
.ok (stand)) (
.ok (stand))) : Res ((List Int))) fun stand =>
.ok (stand))) fun stand =>
.ok (stand))) fun stand =>
(.ok stand)
def b_law_sound_1 : B :=
(.cons (.set 6 (.bin .Mod (.ex (.bin .Add (.ex (.idx (.pl 4 (.ex (.int 0) .nil))) (.ex (.bin .Mult (.ex (.int 7) (.pl 5 .nil))) .nil))) (.ex (.bf .len (.pl 0 .nil)) .nil))))
(.cons (.set 7 (.call 145 [.dat, .dat, .dat, .dat] (.pl 0 (.pl 2 (.ex (.bin .Add (.ex (.int 1) (.ex (.bin .Mod (.ex (.bin .Add (.ex (.idx (.pl 4 (.ex (.int 1) .nil))) (.pl 5 .nil))) (.ex (.int 2) .nil))) .nil))) (.pl 6 .nil))))))
(.cons (.ifs (.isi "tuple" (.pl 7 .nil))
(.cons (.set 2 (.idx (.pl 7 (.ex (.int 0) .nil))))
(.kil [7] .nil))
(.kil [7] .nil))
(.kil [5, 6] .nil))))
def b_law_sound_2 : B :=
(.cons (.set 4 (.call 140 [.dat, .dat] (.pl 3 (.ex (.int 3) .nil))))
(.cons (.fors (.name 5) (.r1 (.ex (.bin .Add (.ex (.int 1) (.ex (.bin .Mod (.ex (.idx (.pl 4 (.ex (.int 2) .nil))) (.ex (.int 3) .nil))) .nil))) .nil)) b_law_sound_1)
(.kil [3, 4] .nil)))
def b_law_sound : B :=
(.cons (.set 2 (.bf .tuple (.ex (.comp [6] (.name 6) (.pl 0) .none (.int 0)) .nil)))
(.cons (.fors (.name 3) (.pl 1) b_law_sound_2)
(.cons (.ret (.var 2))
.nil)))
def n_law_sound : List Str := ["board", "cells", "stand", "cell", "xs", "k", "point", "found"]
def m_law_sound : List AK := [.dat, .vw]
def ct_law_sound (xn : Xc → Exn) : Ct := fun ws R RE => ∃ (board : (List (List Int))) (cells : (List Int)), ws = [(kD (enT (enT enI))) board, (kVl enI) cells] ∧ wpR (f_law_sound board cells) (fun (r : (List Int)) => R ((kD (enT enI)) r) [none, none]) (fun x => RE (xn x) [none, none])
theorem c_law_sound {xn : Xc → Exn} (board : (List (List Int))) (cells : (List Int)) : CtF xn (ct_law_sound xn) [(kD (enT (enT enI))) board, (kVl enI) cells] (f_law_sound board cells) (fun r => (kD (enT enI)) r) (fun r => [none, none]) [none, none] := fun R RE h => ⟨board, cells, rfl, h⟩
theorem s_law_sound {xn : Xc → Exn} {Γ : Nat → Ct} (h140 : Γ 140 = ct_law_stream xn) (h145 : Γ 145 = ct_law_tried xn) : Keeps Γ b_law_sound 8 m_law_sound (ct_law_sound xn) := by
  rintro ws R RE ⟨board, cells, rfl, h⟩
  refine ⟨rfl, ?_⟩
  revert h
  have hX : ∀ S : WSt, S.length = 8 → XS xn (fun x S => RE x (lentX m_law_sound [(kD (enT (enT enI))) board, (kVl enI) cells] S)) (fun x => RE (xn x) [none, none]) S := fun S hl x h => by
    show RE (xn x) (lentX m_law_sound [(kD (enT (enT enI))) board, (kVl enI) cells] S)
    rw [show lentX m_law_sound [(kD (enT (enT enI))) board, (kVl enI) cells] S = [none, none] from lentX_no m_law_sound [(kD (enT (enT enI))) board, (kVl enI) cells] S rfl rfl (by rw [hl]; decide)]; exact h
  have hE : Flat (fun x S => RE x (lentX m_law_sound [(kD (enT (enT enI))) board, (kVl enI) cells] S)) := flat_lent rfl
  show Sim (f_law_sound board cells) (fun (r : (List Int)) => R ((kD (enT enI)) r) [none, none]) (fun x => RE (xn x) [none, none]) (semB Γ (fun x S => RE x (lentX m_law_sound [(kD (enT (enT enI))) board, (kVl enI) cells] S)) b_law_sound { nx := fun S => R (.d .none) (lentOf m_law_sound S), rt := fun w S => R w (lentOf m_law_sound S) } [some ((kD (enT (enT enI))) board), some ((kVl enI) cells), none, none, none, none, none, none])
  refine b_set (j_bf (f := .tuple) (jo_m (j_map (own := [6]) (tg := (.name 6)) (S1 := [some ((kD (enT (enT enI))) board), some ((kVl enI) cells), none, none, none, none, none, none]) (Sx := fun x1 => [some ((kD (enT (enT enI))) board), some ((kVl enI) cells), none, none, none, none, some ((kD (enT enI)) x1), none]) (S2 := [some ((kD (enT (enT enI))) board), some ((kVl enI) cells), none, none, none, none, none, none]) enI (js_pl (i := 0) rfl (itW_T (enT enI) board)) (fun _ _ h => h) (fun x1 => (j_int _)) (fun _ => rfl) (fun _ _ => rfl) (fun _ => trivial) rfl rfl) jo_nil) (fun v2 => (o_tuple enI (xs := v2) rfl)) rfl) (hX _ rfl) rfl fun stand => ?_
  refine b_for (fun t3 => [some ((kD (enT (enT enI))) board), some ((kVl enI) cells), some ((kD (enT enI)) t3), none, none, none, none, none]) (fun _ => stand) (js_pl (i := 1) rfl (itW_vl enI cells)) (hX _ rfl) rfl (fun _ => rfl) (fun _ _ _ h => h) (fun _ _ => trivial) ?_ ?_
  · intro cell
    rintro stand
    intro D N P' hN
    refine b_set (j_call (j := 140) (ms := [.dat, .dat]) h140 (jc_pl (i := 3) rfl (jc_p (j_int _) jc_nil)) (fun _ => rfl) (fun _ => (ia_dp rfl (ia_dw ia_nil))) (fun _ => c_law_stream cell 3) (fun _ => rfl) rfl rfl (fun _ => rfl) (fun _ => rfl) rfl) (hX _ rfl) rfl fun xs => ?_
    refine b_for (fun t8 => [some ((kD (enT (enT enI))) board), some ((kVl enI) cells), some ((kD (enT enI)) t8), some ((kD enI) cell), some ((kOl enI) xs), none, none, none]) (fun r7 => stand) (js_r1 (f := fun v6 => v6) (jo_m (j_bin (op := .Add) (jo_p (j_int _) (jo_m (j_bin (op := .Mod) (jo_m (j_idx (jo_pl (i := 4) rfl (jo_p (j_int _) jo_nil)) (fun _ => (o_idx enI (xs := xs) rfl)) rfl) (jo_p (j_int _) jo_nil)) (fun v4 => (o_modc (by decide))) rfl) jo_nil)) (fun v5 => o_add) rfl) jo_nil) rfl) (hX _ rfl) rfl (fun _ => rfl) (fun _ _ _ h => h) (fun _ _ => trivial) ?_ ?_
    · intro k
      rintro stand
      intro D N P' hN
      refine b_set (j_bin (op := .Mod) (jo_m (j_bin (op := .Add) (jo_m (j_idx (jo_pl (i := 4) rfl (jo_p (j_int _) jo_nil)) (fun _ => (o_idx enI (xs := xs) rfl)) rfl) (jo_p (j_bin (op := .Mult) (jo_p (j_int _) (jo_pl (i := 5) rfl jo_nil)) (fun _ => (o_mulc (.inl (by decide)))) rfl) jo_nil)) (fun v9 => o_add) rfl) (jo_p (j_bf (f := .len) (jo_pl (i := 0) rfl jo_nil) (fun _ => (o_len (enT enI).e (xs := board) rfl)) rfl) jo_nil)) (fun v10 => o_mod) rfl) (hX _ rfl) rfl fun point => ?_
      refine b_set (j_call (j := 145) (ms := [.dat, .dat, .dat, .dat]) h145 (jc_pl (i := 0) rfl (jc_pl (i := 2) rfl (jc_m (j_bin (op := .Add) (jo_p (j_int _) (jo_m (j_bin (op := .Mod) (jo_m (j_bin (op := .Add) (jo_m (j_idx (jo_pl (i := 4) rfl (jo_p (j_int _) jo_nil)) (fun _ => (o_idx enI (xs := xs) rfl)) rfl) (jo_pl (i := 5) rfl jo_nil)) (fun v11 => o_add) rfl) (jo_p (j_int _) jo_nil)) (fun v12 => (o_modc (by decide))) rfl) jo_nil)) (fun v13 => o_add) rfl) (jc_pl (i := 6) rfl jc_nil)))) (fun _ => rfl) (fun _ => (ia_dp rfl (ia_dp rfl (ia_dw (ia_dp rfl ia_nil))))) (fun v14 => c_law_tried board stand v14 point) (fun _ => rfl) rfl rfl (fun _ => rfl) (fun _ => rfl) rfl) (hX _ rfl) rfl fun found => ?_
      refine b_ifN (fun t15 => [some ((kD (enT (enT enI))) board), some ((kVl enI) cells), some ((kD (enT enI)) t15), some ((kD enI) cell), some ((kOl enI) xs), some ((kD enI) k), some ((kD enI) point), none]) (j_isiU (T := "tuple") (w1 := "str") (w2 := "tuple") (x := found) false true (jo_pl (i := 7) rfl jo_nil) (fun _ => rfl) (fun _ => rfl) (show kdNames.contains "str" = true from by decide) (show kdNames.contains "tuple" = true from by decide) (show isiB "str" "tuple" = false from by decide) (show isiB "tuple" "tuple" = true from by decide)) (hX _ rfl) rfl ?_ ?_ ?_
      · intro N P' hN
        refine b_unR (fun z => [some ((kD (enT (enT enI))) board), some ((kVl enI) cells), some ((kD (enT enI)) stand), some ((kD enI) cell), some ((kOl enI) xs), some ((kD enI) k), some ((kD enI) point), some ((kD (enU enS (enP (enT enI) (enL enI)))) z)]) found ?_
        intro y16
        refine b_set (j_idx (jo_pl (i := 7) rfl (jo_p (j_int _) jo_nil)) (fun _ => (o_idx0 (enT enI) (enL enI))) rfl) (hX _ rfl) rfl fun stand => ?_
        refine b_kil _ rfl ?_
        first | exact b_end (fun q => hN _ q) | exact fun q => hN _ q
      · intro N P' hN
        refine b_kil _ rfl ?_
        first | exact b_end (fun q => hN _ q) | exact fun q => hN _ q
      · rintro stand
        refine b_kil _ rfl ?_
        first | exact b_end (fun q => hN _ q) | exact fun q => hN _ q
    · rintro stand
      refine b_kil _ rfl ?_
      first | exact b_end (fun q => hN _ q) | exact fun q => hN _ q
  · rintro stand
    exact b_ret (f := fun r => .ok r) (j_var (i := 2) (enT enI) stand rfl rfl) (hX _ rfl) rfl (fun _ q => q)
/-- _law_beside(board, stand, point) : 0 board, 1 stand, 2 point, 3 hands, 4 one, 5 other -/
noncomputable def f_law_beside (board : (List (List Int))) (stand : (List Int)) (point : Int) : Res (List Int) :=
Res.bind (.ok ([] : List Int)) fun hands =>
Res.bind (f_law_row board stand point) fun l1 =>
Res.bind (forM (τ := (List Int)) l1 hands (fun one_ hands =>
Res.bind (getI board one_) fun l3 =>
Res.bind (forM (τ := (List Int)) l3 hands (fun other hands =>
Res.bind ((Res.bind (Res.bind (getI stand other) fun v5 => .ok (decide (0 < v5))) fun b8 =>
ifR b8 (
Res.bind (getI stand other) fun v7 =>
Res.bind (putS hands v7) fun hands =>
.ok (hands)) (
.ok (hands))) : Res ((List Int))) fun hands =>
.ok (hands))) fun hands =>
.ok (hands))) fun hands =>
(.ok (isort hands))
def b_law_beside_1 : B :=
(.cons (.ifs (.cmp .Gt (.ex (.idx (.pl 1 (.pl 5 .nil))) (.ex (.int 0) .nil)))
(.cons (.put 3 (.idx (.pl 1 (.pl 5 .nil))) (.bl true))
.nil)
.nil)
(.kil [5] .nil))
def b_law_beside_2 : B :=
(.cons (.fors (.name 5) (.exp (.idx (.pl 0 (.pl 4 .nil)))) b_law_beside_1)
(.kil [4] .nil))
def b_law_beside : B :=
(.cons (.set 3 .dict0)
(.cons (.fors (.name 4) (.exp (.call 143 [.dat, .dat, .dat] (.pl 0 (.pl 1 (.pl 2 .nil))))) b_law_beside_2)
(.cons (.ret (.bf .sorted (.ex (.bf .list (.pl 3 .nil)) .nil)))
.nil)))
def n_law_beside : List Str := ["board", "stand", "point", "hands", "one", "other"]
def m_law_beside : List AK := [.dat, .dat, .dat]
def ct_law_beside (xn : Xc → Exn) : Ct := fun ws R RE => ∃ (board : (List (List Int))) (stand : (List Int)) (point : Int), ws = [(kD (enT (enT enI))) board, (kD (enT enI)) stand, (kD enI) point] ∧ wpR (f_law_beside board stand point) (fun (r : (List Int)) => R ((kOl enI) r) [none, none, none]) (fun x => RE (xn x) [none, none, none])
theorem c_law_beside {xn : Xc → Exn} (board : (List (List Int))) (stand : (List Int)) (point : Int) : CtF xn (ct_law_beside xn) [(kD (enT (enT enI))) board, (kD (enT enI)) stand, (kD enI) point] (f_law_beside board stand point) (fun r => (kOl enI) r) (fun r => [none, none, none]) [none, none, none] := fun R RE h => ⟨board, stand, point, rfl, h⟩
theorem s_law_beside {xn : Xc → Exn} {Γ : Nat → Ct} (h143 : Γ 143 = ct_law_row xn) : Keeps Γ b_law_beside 6 m_law_beside (ct_law_beside xn) := by
  rintro ws R RE ⟨board, stand, point, rfl, h⟩
  refine ⟨rfl, ?_⟩
  revert h
  have hX : ∀ S : WSt, S.length = 6 → XS xn (fun x S => RE x (lentX m_law_beside [(kD (enT (enT enI))) board, (kD (enT enI)) stand, (kD enI) point] S)) (fun x => RE (xn x) [none, none, none]) S := fun S hl x h => by
    show RE (xn x) (lentX m_law_beside [(kD (enT (enT enI))) board, (kD (enT enI)) stand, (kD enI) point] S)
    rw [show lentX m_law_beside [(kD (enT (enT enI))) board, (kD (enT enI)) stand, (kD enI) point] S = [none, none, none] from lentX_no m_law_beside [(kD (enT (enT enI))) board, (kD (enT enI)) stand, (kD enI) point] S rfl rfl (by rw [hl]; decide)]; exact h
  have hE : Flat (fun x S => RE x (lentX m_law_beside [(kD (enT (enT enI))) board, (kD (enT enI)) stand, (kD enI) point] S)) := flat_lent rfl
  show Sim (f_law_beside board stand point) (fun (r : (List Int)) => R ((kOl enI) r) [none, none, none]) (fun x => RE (xn x) [none, none, none]) (semB Γ (fun x S => RE x (lentX m_law_beside [(kD (enT (enT enI))) board, (kD (enT enI)) stand, (kD enI) point] S)) b_law_beside { nx := fun S => R (.d .none) (lentOf m_law_beside S), rt := fun w S => R w (lentOf m_law_beside S) } [some ((kD (enT (enT enI))) board), some ((kD (enT enI)) stand), some ((kD enI) point), none, none, none])
  refine b_set j_dict0S (hX _ rfl) rfl fun hands => ?_
  refine b_for (fun t2 => [some ((kD (enT (enT enI))) board), some ((kD (enT enI)) stand), some ((kD enI) point), some (kS t2), none, none]) (fun l1 => hands) (js_exp (xs := id) (j_call (j := 143) (ms := [.dat, .dat, .dat]) h143 (jc_pl (i := 0) rfl (jc_pl (i := 1) rfl (jc_pl (i := 2) rfl jc_nil))) (fun _ => rfl) (fun _ => (ia_dp rfl (ia_dp rfl (ia_dp rfl ia_nil)))) (fun _ => c_law_row board stand point) (fun _ => rfl) rfl rfl (fun _ => rfl) (fun _ => rfl) rfl) (fun _ => itE_ol enI _)) (hX _ rfl) rfl (fun _ => rfl) (fun _ _ _ h => h) (fun _ _ => trivial) ?_ ?_
  · intro one_
    rintro hands
    intro D N P' hN
    refine b_for (fun t4 => [some ((kD (enT (enT enI))) board), some ((kD (enT enI)) stand), some ((kD enI) point), some (kS t4), some ((kD enI) one_), none]) (fun l3 => hands) (js_exp (xs := id) (j_idx (jo_pl (i := 0) rfl (jo_pl (i := 4) rfl jo_nil)) (fun _ => (o_idx (enT enI) (xs := board) rfl)) rfl) (fun _ => itD_T enI _)) (hX _ rfl) rfl (fun _ => rfl) (fun _ _ _ h => h) (fun _ _ => trivial) ?_ ?_
    · intro other
      rintro hands
      intro D N P' hN
      refine b_ifN (fun t6 => [some ((kD (enT (enT enI))) board), some ((kD (enT enI)) stand), some ((kD enI) point), some (kS t6), some ((kD enI) one_), some ((kD enI) other)]) (j_cmp (op := .Gt) (jo_m (j_idx (jo_pl (i := 1) rfl (jo_pl (i := 5) rfl jo_nil)) (fun _ => (o_idx enI (xs := stand) rfl)) rfl) (jo_p (j_int _) jo_nil)) (fun v5 => o_gt) rfl) (hX _ rfl) rfl ?_ ?_ ?_
      · intro N P' hN
        refine b_putK (x := fun n => .int n) rfl (j_bl _) (j_idx (jo_pl (i := 1) rfl (jo_pl (i := 5) rfl jo_nil)) (fun _ => (o_idx enI (xs := stand) rfl)) rfl) (fun _ => rfl) (fun v7 => (p_set (ns := hands) (n := v7))) (hX _ rfl) rfl fun hands => ?_
        first | exact b_end (fun q => hN _ q) | exact fun q => hN _ q
      · intro N P' hN
        first | exact b_end (fun q => hN _ q) | exact fun q => hN _ q
      · rintro hands
        refine b_kil _ rfl ?_
        first | exact b_end (fun q => hN _ q) | exact fun q => hN _ q
    · rintro hands
      refine b_kil _ rfl ?_
      first | exact b_end (fun q => hN _ q) | exact fun q => hN _ q
  · rintro hands
    exact b_ret (f := fun r => .ok r) (j_bf (f := .sorted) (jo_p (j_bf (f := .list) (jo_pl (i := 3) rfl jo_nil) (fun _ => o_listS) rfl) jo_nil) (fun _ => (o_sortI (ns := hands) rfl)) rfl) (hX _ rfl) rfl (fun _ q => q)
/-- _law_due(board, stand) : 0 board, 1 stand, 2 due, 3 point, 4 hands -/
noncomputable def f_law_due (board : (List (List Int))) (stand : (List Int)) : Res (List Int) :=
Res.bind (.ok [0, 0, 0]) fun due =>
Res.bind (rng1 (stand.length : Int)) fun r1 =>
Res.bind (forM (τ := (List Int)) r1 due (fun point due =>
Res.bind ((Res.bind (Res.bind (getI stand point) fun v3 => .ok (decide (0 < v3))) fun b14 =>
ifR b14 (
Res.bind (Res.bind (Res.bind (getI stand point) fun v5 => (getI due v5)) fun v6 => .ok (v6 + 1)) fun v7 =>
Res.bind (getI stand point) fun v8 =>
Res.bind (setI due v8 v7) fun due =>
.ok (due)) (
Res.bind (f_law_beside board stand point) fun hands =>
Res.bind ((ifR (decide ((hands.length : Int) = 1)) (
Res.bind (Res.bind (Res.bind (getI hands 0) fun v10 => (getI due v10)) fun v11 => .ok (v11 + 1)) fun v12 =>
Res.bind (getI hands 0) fun v13 =>
Res.bind (setI due v13 v12) fun due =>
.ok (due)) (
.ok (due))) : Res ((List Int))) fun due =>
.ok (due))) : Res ((List Int))) fun due =>
.ok (due))) fun due =>
(Res.bind (Res.bind (getI due 1) fun v15 => Res.bind (getI due 2) fun q17 => .ok (v15, q17)) fun x18 => .ok ([x18.1, x18.2]))
def b_law_due_1 : B :=
(.cons (.ifs (.cmp .Gt (.ex (.idx (.pl 1 (.pl 3 .nil))) (.ex (.int 0) .nil)))
(.cons (.put 2 (.idx (.pl 1 (.pl 3 .nil))) (.bin .Add (.ex (.idx (.pl 2 (.ex (.idx (.pl 1 (.pl 3 .nil))) .nil))) (.ex (.int 1) .nil))))
.nil)
(.cons (.set 4 (.call 147 [.dat, .dat, .dat] (.pl 0 (.pl 1 (.pl 3 .nil)))))
(.cons (.ifs (.cmp .Eq (.ex (.bf .len (.pl 4 .nil)) (.ex (.int 1) .nil)))
(.cons (.put 2 (.idx (.pl 4 (.ex (.int 0) .nil))) (.bin .Add (.ex (.idx (.pl 2 (.ex (.idx (.pl 4 (.ex (.int 0) .nil))) .nil))) (.ex (.int 1) .nil))))
.nil)
.nil)
(.kil [4] .nil))))
(.kil [3] .nil))
def b_law_due : B :=
(.cons (.set 2 (.lst (.cons (.int 0) (.cons (.int 0) (.cons (.int 0) .nil)))))
(.cons (.fors (.name 3) (.r1 (.ex (.bf .len (.pl 1 .nil)) .nil)) b_law_due_1)
(.cons (.ret (.tup (.cons (.idx (.pl 2 (.ex (.int 1) .nil))) (.cons (.idx (.pl 2 (.ex (.int 2) .nil))) .nil))))
.nil)))
def n_law_due : List Str := ["board", "stand", "due", "point", "hands"]
def m_law_due : List AK := [.dat, .dat]
def ct_law_due (xn : Xc → Exn) : Ct := fun ws R RE => ∃ (board : (List (List Int))) (stand : (List Int)), ws = [(kD (enT (enT enI))) board, (kD (enT enI)) stand] ∧ wpR (f_law_due board stand) (fun (r : (List Int)) => R ((kD (enT enI)) r) [none, none]) (fun x => RE (xn x) [none, none])
theorem c_law_due {xn : Xc → Exn} (board : (List (List Int))) (stand : (List Int)) : CtF xn (ct_law_due xn) [(kD (enT (enT enI))) board, (kD (enT enI)) stand] (f_law_due board stand) (fun r => (kD (enT enI)) r) (fun r => [none, none]) [none, none] := fun R RE h => ⟨board, stand, rfl, h⟩
theorem s_law_due {xn : Xc → Exn} {Γ : Nat → Ct} (h147 : Γ 147 = ct_law_beside xn) : Keeps Γ b_law_due 5 m_law_due (ct_law_due xn) := by
  rintro ws R RE ⟨board, stand, rfl, h⟩
  refine ⟨rfl, ?_⟩
  revert h
  have hX : ∀ S : WSt, S.length = 5 → XS xn (fun x S => RE x (lentX m_law_due [(kD (enT (enT enI))) board, (kD (enT enI)) stand] S)) (fun x => RE (xn x) [none, none]) S := fun S hl x h => by
    show RE (xn x) (lentX m_law_due [(kD (enT (enT enI))) board, (kD (enT enI)) stand] S)
    rw [show lentX m_law_due [(kD (enT (enT enI))) board, (kD (enT enI)) stand] S = [none, none] from lentX_no m_law_due [(kD (enT (enT enI))) board, (kD (enT enI)) stand] S rfl rfl (by rw [hl]; decide)]; exact h
  have hE : Flat (fun x S => RE x (lentX m_law_due [(kD (enT (enT enI))) board, (kD (enT enI)) stand] S)) := flat_lent rfl
  show Sim (f_law_due board stand) (fun (r : (List Int)) => R ((kD (enT enI)) r) [none, none]) (fun x => RE (xn x) [none, none]) (semB Γ (fun x S => RE x (lentX m_law_due [(kD (enT (enT enI))) board, (kD (enT enI)) stand] S)) b_law_due { nx := fun S => R (.d .none) (lentOf m_law_due S), rt := fun w S => R w (lentOf m_law_due S) } [some ((kD (enT (enT enI))) board), some ((kD (enT enI)) stand), none, none, none])
  refine b_set (j_lst (jx_p (j_int _) (jx_p (j_int _) (jx_p (j_int _) jx_nil))) enI (fun _ => [0, 0, 0]) (S2 := fun _ => [some ((kD (enT (enT enI))) board), some ((kD (enT enI)) stand), none, none, none]) (fun _ => rfl) (fun _ => ⟨rfl, Nat.le_of_ble_eq_true rfl⟩) rfl) (hX _ rfl) rfl fun due => ?_
  refine b_for (fun t2 => [some ((kD (enT (enT enI))) board), some ((kD (enT enI)) stand), some ((kOl enI) t2), none, none]) (fun r1 => due) (js_r1 (f := fun _ => (stand.length : Int)) (jo_p (j_bf (f := .len) (jo_pl (i := 1) rfl jo_nil) (fun _ => (o_len enI.e (xs := stand) rfl)) rfl) jo_nil) rfl) (hX _ rfl) rfl (fun _ => rfl) (fun _ _ _ h => h) (fun _ _ => trivial) ?_ ?_
  · intro point
    rintro due
    intro D N P' hN
    refine b_ifN (fun t4 => [some ((kD (enT (enT enI))) board), some ((kD (enT enI)) stand), some ((kOl enI) t4), some ((kD enI) point), none]) (j_cmp (op := .Gt) (jo_m (j_idx (jo_pl (i := 1) rfl (jo_pl (i := 3) rfl jo_nil)) (fun _ => (o_idx enI (xs := stand) rfl)) rfl) (jo_p (j_int _) jo_nil)) (fun v3 => o_gt) rfl) (hX _ rfl) rfl ?_ ?_ ?_
    · intro N P' hN
      refine b_put (x := fun n => .int n) rfl (j_bin (op := .Add) (jo_m (j_idx (jo_pl (i := 2) rfl (jo_m (j_idx (jo_pl (i := 1) rfl (jo_pl (i := 3) rfl jo_nil)) (fun _ => (o_idx enI (xs := stand) rfl)) rfl) jo_nil)) (fun v5 => (o_idx enI (xs := due) rfl)) rfl) (jo_p (j_int _) jo_nil)) (fun v6 => o_add) rfl) (j_idx (jo_pl (i := 1) rfl (jo_pl (i := 3) rfl jo_nil)) (fun _ => (o_idx enI (xs := stand) rfl)) rfl) (fun _ => rfl) (fun v7 v8 => (p_list enI (a := v7) rfl)) (hX _ rfl) rfl fun due => ?_
      first | exact b_end (fun q => hN _ q) | exact fun q => hN _ q
    · intro N P' hN
      refine b_set (j_call (j := 147) (ms := [.dat, .dat, .dat]) h147 (jc_pl (i := 0) rfl (jc_pl (i := 1) rfl (jc_pl (i := 3) rfl jc_nil))) (fun _ => rfl) (fun _ => (ia_dp rfl (ia_dp rfl (ia_dp rfl ia_nil)))) (fun _ => c_law_beside board stand point) (fun _ => rfl) rfl rfl (fun _ => rfl) (fun _ => rfl) rfl) (hX _ rfl) rfl fun hands => ?_
      refine b_ifN (fun t9 => [some ((kD (enT (enT enI))) board), some ((kD (enT enI)) stand), some ((kOl enI) t9), some ((kD enI) point), some ((kOl enI) hands)]) (j_cmp (op := .Eq) (jo_p (j_bf (f := .len) (jo_pl (i := 4) rfl jo_nil) (fun _ => (o_len enI.e (xs := hands) rfl)) rfl) (jo_p (j_int _) jo_nil)) (fun _ => o_eqI) rfl) (hX _ rfl) rfl ?_ ?_ ?_
      · intro N P' hN
        refine b_put (x := fun n => .int n) rfl (j_bin (op := .Add) (jo_m (j_idx (jo_pl (i := 2) rfl (jo_m (j_idx (jo_pl (i := 4) rfl (jo_p (j_int _) jo_nil)) (fun _ => (o_idx enI (xs := hands) rfl)) rfl) jo_nil)) (fun v10 => (o_idx enI (xs := due) rfl)) rfl) (jo_p (j_int _) jo_nil)) (fun v11 => o_add) rfl) (j_idx (jo_pl (i := 4) rfl (jo_p (j_int _) jo_nil)) (fun _ => (o_idx enI (xs := hands) rfl)) rfl) (fun _ => rfl) (fun v12 v13 => (p_list enI (a := v12) rfl)) (hX _ rfl) rfl fun due => ?_
        first | exact b_end (fun q => hN _ q) | exact fun q => hN _ q
      · intro N P' hN
        first | exact b_end (fun q => hN _ q) | exact fun q => hN _ q
      · rintro due
        refine b_kil _ rfl ?_
        first | exact b_end (fun q => hN _ q) | exact fun q => hN _ q
    · rintro due
      refine b_kil _ rfl ?_
      first | exact b_end (fun q => hN _ q) | exact fun q => hN _ q
  · rintro due
    refine b_ret (f := fun x18 => .ok ([x18.1, x18.2])) (ju_tup (jx_ms hE (j_idx (jo_pl (i := 2) rfl (jo_p (j_int _) jo_nil)) (fun _ => (o_idx enI (xs := due) rfl)) rfl) (fun _ => rfl) (fun v15 => (jx_1 hE (j_idx (jo_pl (i := 2) rfl (jo_p (j_int _) jo_nil)) (fun _ => (o_idx enI (xs := due) rfl)) rfl) (fun _ => rfl) (fun v16 => jx_nil))) rfl) (enT enI) (fun x18 => [x18.1, x18.2]) (fun _ => ⟨_, rfl, Nat.le_of_ble_eq_true rfl, rfl⟩)) (hX _ rfl) rfl ?_
    exact fun _ q => q
/-- _law_right(board, stand) : 0 board, 1 stand, 2 found, 3 n -/
noncomputable def f_law_right (board : (List (List Int))) (stand : (List Int)) : Res Bool :=
Res.bind (f_by_stones board stand) fun found =>
Res.bind (ifR (!true) (.ok true) (Res.bind (f_law_due board stand) fun v1 => .ok (!decide (found = v1)))) fun b7 =>
ifR b7 (
(.ok false)) (
(Res.bind (Res.bind (ner (filC (fun x3 => (.ok ((!true) || false))) (fun x3 => (.ok x3)) found [])) fun v4 => .ok (v4.length : Int)) fun v5 => .ok (decide (v5 = 0))))
def b_law_right : B :=
(.cons (.set 2 (.call 42 [.dat, .dat] (.pl 0 (.pl 1 .nil))))
(.cons (.ifs (.orr (.cons (.nt (.isi "tuple" (.pl 2 .nil))) (.cons (.cmp .NotEq (.pl 2 (.ex (.call 148 [.dat, .dat] (.pl 0 (.pl 1 .nil))) .nil))) .nil)))
(.cons (.ret (.bl false))
.nil)
.nil)
(.cons (.ret (.cmp .Eq (.ex (.bf .len (.ex (.comp [3] (.name 3) (.pl 2) (.some (.orr (.cons (.nt (.isi "int" (.pl 3 .nil))) (.cons (.isi "bool" (.pl 3 .nil)) .nil)))) (.var 3)) .nil)) (.ex (.int 0) .nil))))
.nil)))
def n_law_right : List Str := ["board", "stand", "found", "n"]
def m_law_right : List AK := [.dat, .dat]
def ct_law_right (xn : Xc → Exn) : Ct := fun ws R RE => ∃ (board : (List (List Int))) (stand : (List Int)), ws = [(kD (enT (enT enI))) board, (kD (enT enI)) stand] ∧ wpR (f_law_right board stand) (fun (r : Bool) => R ((kD enB) r) [none, none]) (fun x => RE (xn x) [none, none])
theorem c_law_right {xn : Xc → Exn} (board : (List (List Int))) (stand : (List Int)) : CtF xn (ct_law_right xn) [(kD (enT (enT enI))) board, (kD (enT enI)) stand] (f_law_right board stand) (fun r => (kD enB) r) (fun r => [none, none]) [none, none] := fun R RE h => ⟨board, stand, rfl, h⟩
theorem s_law_right {xn : Xc → Exn} {Γ : Nat → Ct} (h42 : Γ 42 = ct_by_stones xn) (h148 : Γ 148 = ct_law_due xn) : Keeps Γ b_law_right 4 m_law_right (ct_law_right xn) := by
  rintro ws R RE ⟨board, stand, rfl, h⟩
  refine ⟨rfl, ?_⟩
  revert h
  have hX : ∀ S : WSt, S.length = 4 → XS xn (fun x S => RE x (lentX m_law_right [(kD (enT (enT enI))) board, (kD (enT enI)) stand] S)) (fun x => RE (xn x) [none, none]) S := fun S hl x h => by
    show RE (xn x) (lentX m_law_right [(kD (enT (enT enI))) board, (kD (enT enI)) stand] S)
    rw [show lentX m_law_right [(kD (enT (enT enI))) board, (kD (enT enI)) stand] S = [none, none] from lentX_no m_law_right [(kD (enT (enT enI))) board, (kD (enT enI)) stand] S rfl rfl (by rw [hl]; decide)]; exact h
  have hE : Flat (fun x S => RE x (lentX m_law_right [(kD (enT (enT enI))) board, (kD (enT enI)) stand] S)) := flat_lent rfl
  show Sim (f_law_right board stand) (fun (r : Bool) => R ((kD enB) r) [none, none]) (fun x => RE (xn x) [none, none]) (semB Γ (fun x S => RE x (lentX m_law_right [(kD (enT (enT enI))) board, (kD (enT enI)) stand] S)) b_law_right { nx := fun S => R (.d .none) (lentOf m_law_right S), rt := fun w S => R w (lentOf m_law_right S) } [some ((kD (enT (enT enI))) board), some ((kD (enT enI)) stand), none, none])
  refine b_set (j_call (j := 42) (ms := [.dat, .dat]) h42 (jc_pl (i := 0) rfl (jc_pl (i := 1) rfl jc_nil)) (fun _ => rfl) (fun _ => (ia_dp rfl (ia_dp rfl ia_nil))) (fun _ => c_by_stones board stand) (fun _ => rfl) rfl rfl (fun _ => rfl) (fun _ => rfl) rfl) (hX _ rfl) rfl fun found => ?_
  refine b_if (j_or (jor_m (j_nt (j_isi (T := "tuple") (w := (kD (enT enI)) found) (v := true) (jo_pl (i := 2) rfl jo_nil) (show kdNames.contains "tuple" = true from by decide) (show isiB "tuple" "tuple" = true from by decide)) rfl) (jor_1 (j_cmp (op := .NotEq) (jo_pl (i := 2) rfl (jo_m (j_call (j := 148) (ms := [.dat, .dat]) h148 (jc_pl (i := 0) rfl (jc_pl (i := 1) rfl jc_nil)) (fun _ => rfl) (fun _ => (ia_dp rfl (ia_dp rfl ia_nil))) (fun _ => c_law_due board stand) (fun _ => rfl) rfl rfl (fun _ => rfl) (fun _ => rfl) rfl) jo_nil)) (fun v1 => (o_ne (enT enI) (a := found) (b := v1) rfl rfl)) rfl)) rfl)) (hX _ rfl) rfl ?_ ?_
  · exact b_ret (f := fun r => .ok r) (j_bl _) (hX _ rfl) rfl (fun _ q => q)
  · refine b_go ?_
    exact b_ret (f := Res.ok) (j_cmp (op := .Eq) (jo_m (j_bf (f := .len) (jo_m (j_fil (own := [3]) (tg := (.name 3)) (S1 := [some ((kD (enT (enT enI))) board), some ((kD (enT enI)) stand), some ((kD (enT enI)) found), none]) (Sx := fun x3 => [some ((kD (enT (enT enI))) board), some ((kD (enT enI)) stand), some ((kD (enT enI)) found), some ((kD enI) x3)]) (S2 := [some ((kD (enT (enT enI))) board), some ((kD (enT enI)) stand), some ((kD (enT enI)) found), none]) enI (js_pl (i := 2) rfl (itW_T enI found)) (fun _ _ h => h) (fun x3 => (j_or (jor_p (j_nt (j_isi (T := "int") (w := (kD enI) x3) (v := true) (jo_pl (i := 3) rfl jo_nil) (show kdNames.contains "int" = true from by decide) (show isiB "int" "int" = true from by decide)) rfl) (jor_1 (j_isi (T := "bool") (w := (kD enI) x3) (v := false) (jo_pl (i := 3) rfl jo_nil) (show kdNames.contains "int" = true from by decide) (show isiB "int" "bool" = false from by decide)))))) (fun x3 => (j_var (i := 3) enI x3 rfl rfl)) (fun _ => rfl) (fun _ _ => rfl) (fun _ => rfl) (fun _ => trivial) rfl rfl) jo_nil) (fun v4 => (o_len enI.e (xs := v4) rfl)) rfl) (jo_p (j_int _) jo_nil)) (fun v5 => o_eqI) rfl) (hX _ rfl) (bind_ok _).symm (fun _ q => q)
/-- law(script) : 0 script, 1 xs, 2 many, 3 lines, 4 board, 5 part, 6 stand, 7 kept, 8 turned, 9 what -/
noncomputable def f_law (script : (List Int)) : Res Bool :=
Res.bind (Res.bind (Res.bind (extR script ([0])) fun v1 => (getI v1 0)) fun v2 => (f_law_stream v2 50)) fun xs =>
Res.bind (f_law_lines xs) fun p3 =>
Res.bind (f_law_joined p3.1 p3.2) fun board =>
Res.bind (forC (τ := Unit) (ρ := Bool) ([0, 1, 2]) () (fun part _ =>
Res.bind (Res.bind (Res.bind (Res.bind (extR (cutP script (some 1) (some 41)) (cutP xs (some 8) none)) fun v8 => Res.bind (Res.bind (Res.bind (getI xs 3) fun v5 => .ok (v5 + (14 * part))) fun v6 => .ok (v6 % 41)) fun v9 => .ok (v8, v9)) fun v7 => .ok (cutP v7.1 none (some v7.2))) fun v10 => (f_law_sound board v10)) fun stand =>
Res.bind (.ok stand) fun kept =>
Res.bind (Res.bind (Res.bind (f_law_right board stand) fun b11 => .ok (!b11)) fun b13 => ifR b13 (.ok true) (ifR (!decide (stand = kept)) (.ok true) (Res.bind (f_law_right board stand) fun b12 => .ok (!b12)))) fun b23 =>
ifR b23 (
(.ok (.rt false))) (
Res.bind (Res.bind (ner (mapC (fun x15 => (.ok ((3 - x15) % 3))) stand [])) fun v16 => .ok v16) fun turned =>
Res.bind (Res.bind (Res.bind (f_by_stones board turned) fun v19 => Res.bind (Res.bind (f_by_stones board stand) fun v17 => .ok v17.reverse) fun v20 => .ok (v19, v20)) fun v18 => .ok (!decide (v18.1 = v18.2))) fun b22 =>
ifR b22 (
(.ok (.rt false))) (
.ok (.nx ()))))) fun z25 => match z25 with
| .inr v => .ok v
| .inl _ =>
(.ok true)
def b_law_1 : B :=
(.cons (.set 6 (.call 146 [.dat, .vw] (.pl 4 (.ex (.shi (.ex (.bin .Add (.ex (.slp 0 (.int 1) (.int 41)) (.ex (.slo (.pl 1 (.ex (.int 8) .nil))) .nil))) (.ex (.bin .Mod (.ex (.bin .Add (.ex (.idx (.pl 1 (.ex (.int 3) .nil))) (.ex (.bin .Mult (.ex (.int 14) (.pl 5 .nil))) .nil))) (.ex (.int 41) .nil))) .nil))) .nil))))
(.cons (.set 7 (.bf .tuple (.pl 6 .nil)))
(.cons (.ifs (.orr (.cons (.nt (.call 149 [.dat, .dat] (.pl 4 (.pl 6 .nil)))) (.cons (.cmp .NotEq (.pl 6 (.pl 7 .nil))) (.cons (.nt (.call 149 [.dat, .dat] (.pl 4 (.pl 6 .nil)))) .nil))))
(.cons (.ret (.bl false))
.nil)
.nil)
(.cons (.set 8 (.bf .tuple (.ex (.comp [9] (.name 9) (.pl 6) .none (.bin .Mod (.ex (.bin .Sub (.ex (.int 3) (.pl 9 .nil))) (.ex (.int 3) .nil)))) .nil)))
(.cons (.ifs (.cmp .NotEq (.ex (.call 42 [.dat, .dat] (.pl 4 (.pl 8 .nil))) (.ex (.rvt (.call 42 [.dat, .dat] (.pl 4 (.pl 6 .nil)))) .nil)))
(.cons (.ret (.bl false))
.nil)
.nil)
(.kil [5, 6, 7, 8] .nil))))))
def b_law : B :=
(.cons (.set 1 (.call 140 [.dat, .dat] (.ex (.idx (.ex (.bin .Add (.pl 0 (.ex (.lst (.cons (.int 0) .nil)) .nil))) (.ex (.int 0) .nil))) (.ex (.int 50) .nil))))
(.cons (.asg [2, 3] (.call 142 [.vw] (.pl 1 .nil)))
(.cons (.set 4 (.call 141 [.dat, .vw] (.pl 2 (.pl 3 .nil))))
(.cons (.fors (.name 5) (.exp (.lst (.cons (.int 0) (.cons (.int 1) (.cons (.int 2) .nil))))) b_law_1)
(.cons (.ret (.bl true))
.nil)))))
def n_law : List Str := ["script", "xs", "many", "lines", "board", "part", "stand", "kept", "turned", "what"]
def m_law : List AK := [.vw]
def ct_law (xn : Xc → Exn) : Ct := fun ws R RE => ∃ (script : (List Int)), ws = [(kVl enI) script] ∧ wpR (f_law script) (fun (r : Bool) => R ((kD enB) r) [none]) (fun x => RE (xn x) [none])
theorem c_law {xn : Xc → Exn} (script : (List Int)) : CtF xn (ct_law xn) [(kVl enI) script] (f_law script) (fun r => (kD enB) r) (fun r => [none]) [none] := fun R RE h => ⟨script, rfl, h⟩
theorem s_law {xn : Xc → Exn} {Γ : Nat → Ct} (h42 : Γ 42 = ct_by_stones xn) (h140 : Γ 140 = ct_law_stream xn) (h141 : Γ 141 = ct_law_joined xn) (h142 : Γ 142 = ct_law_lines xn) (h146 : Γ 146 = ct_law_sound xn) (h149 : Γ 149 = ct_law_right xn) : Keeps Γ b_law 10 m_law (ct_law xn) := by
  rintro ws R RE ⟨script, rfl, h⟩
  refine ⟨rfl, ?_⟩
  revert h
  have hX : ∀ S : WSt, S.length = 10 → XS xn (fun x S => RE x (lentX m_law [(kVl enI) script] S)) (fun x => RE (xn x) [none]) S := fun S hl x h => by
    show RE (xn x) (lentX m_law [(kVl enI) script] S)
    rw [show lentX m_law [(kVl enI) script] S = [none] from lentX_no m_law [(kVl enI) script] S rfl rfl (by rw [hl]; decide)]; exact h
  have hE : Flat (fun x S => RE x (lentX m_law [(kVl enI) script] S)) := flat_lent rfl
  show Sim (f_law script) (fun (r : Bool) => R ((kD enB) r) [none]) (fun x => RE (xn x) [none]) (semB Γ (fun x S => RE x (lentX m_law [(kVl enI) script] S)) b_law { nx := fun S => R (.d .none) (lentOf m_law S), rt := fun w S => R w (lentOf m_law S) } [some ((kVl enI) script), none, none, none, none, none, none, none, none, none])
  refine b_set (j_call (j := 140) (ms := [.dat, .dat]) h140 (jc_m (j_idx (jo_m (j_bin (op := .Add) (jo_pl (i := 0) rfl (jo_p (j_lst (jx_p (j_int _) jx_nil) enI (fun _ => [0]) (S2 := fun _ => [some ((kVl enI) script), none, none, none, none, none, none, none, none, none]) (fun _ => rfl) (fun _ => ⟨rfl, Nat.le_of_ble_eq_true rfl⟩) rfl) jo_nil)) (fun _ => (o_addL enI (xs := script) (ys := ([0])) rfl rfl)) rfl) (jo_p (j_int _) jo_nil)) (fun v1 => (o_idx enI (xs := v1) rfl)) rfl) (jc_p (j_int _) jc_nil)) (fun _ => rfl) (fun _ => (ia_dw (ia_dw ia_nil))) (fun v2 => c_law_stream v2 50) (fun _ => rfl) rfl rfl (fun _ => rfl) (fun _ => rfl) rfl) (hX _ rfl) rfl fun xs => ?_
  refine b_asg (j_call (j := 142) (ms := [.vw]) h142 (jc_pl (i := 1) rfl jc_nil) (fun _ => rfl) (fun _ => (ia_vp rfl rfl ia_nil)) (fun _ => c_law_lines xs) (fun _ => rfl) rfl rfl (fun _ => rfl) (fun _ => rfl) rfl) (fun _ => ⟨rfl, rfl⟩) (hX _ rfl) rfl fun p3 => ?_
  refine b_set (j_call (j := 141) (ms := [.dat, .vw]) h141 (jc_pl (i := 2) rfl (jc_pl (i := 3) rfl jc_nil)) (fun _ => rfl) (fun _ => (ia_dp rfl (ia_vp rfl rfl ia_nil))) (fun _ => c_law_joined p3.1 p3.2) (fun _ => rfl) rfl rfl (fun _ => rfl) (fun _ => rfl) rfl) (hX _ rfl) rfl fun board => ?_
  refine b_forC (fun _ => [some ((kVl enI) script), some ((kOl enI) xs), some ((kD enI) p3.1), some ((kD (enL (enP enI enI))) p3.2), some ((kD (enT (enT enI))) board), none, none, none, none, none]) (fun _ => ()) (fun (r : Bool) => R ((kD enB) r) [none]) (js_exp (xs := id) (j_lst (jx_p (j_int _) (jx_p (j_int _) (jx_p (j_int _) jx_nil))) enI (fun _ => [0, 1, 2]) (S2 := fun _ => [some ((kVl enI) script), some ((kOl enI) xs), some ((kD enI) p3.1), some ((kD (enL (enP enI enI))) p3.2), some ((kD (enT (enT enI))) board), none, none, none, none, none]) (fun _ => rfl) (fun _ => ⟨rfl, Nat.le_of_ble_eq_true rfl⟩) rfl) (fun _ => itE_ol enI _)) (hX _ rfl) rfl (fun _ => rfl) (fun _ _ _ h => h) (fun _ _ => trivial) (fun v q => q) ?_ ?_
  · intro part
    rintro ⟨⟩
    intro N B' P' hN hB hR
    refine b_set (j_call (j := 146) (ms := [.dat, .vw]) h146 (jc_pl (i := 4) rfl (jc_m (j_shiE (xs := fun v7 => v7.1) (f := fun v7 => v7.2) enI (jo_mm (j_bin (op := .Add) (jo_p (j_slp (i := 0) enI (xs := script) rfl (j_int _) (j_int _) rfl) (jo_p (j_slo enI (xs := xs) (f := fun _ => 8) (jo_pl (i := 1) rfl (jo_p (j_int _) jo_nil)) rfl rfl) jo_nil)) (fun _ => (o_addL enI (xs := (cutP script (some 1) (some 41))) (ys := (cutP xs (some 8) none)) rfl rfl)) rfl) (fun _ => (jo_m (j_bin (op := .Mod) (jo_m (j_bin (op := .Add) (jo_m (j_idx (jo_pl (i := 1) rfl (jo_p (j_int _) jo_nil)) (fun _ => (o_idx enI (xs := xs) rfl)) rfl) (jo_p (j_bin (op := .Mult) (jo_p (j_int _) (jo_pl (i := 5) rfl jo_nil)) (fun _ => (o_mulc (.inl (by decide)))) rfl) jo_nil)) (fun v5 => o_add) rfl) (jo_p (j_int _) jo_nil)) (fun v6 => (o_modc (by decide))) rfl) jo_nil)) rfl) (fun _ => rfl) rfl) jc_nil)) (fun _ => rfl) (fun _ => (ia_dp rfl (ia_vw rfl ia_nil))) (fun v10 => c_law_sound board v10) (fun _ => rfl) rfl rfl (fun _ => rfl) (fun _ => rfl) rfl) (hX _ rfl) rfl fun stand => ?_
    refine b_set (j_bf (f := .tuple) (jo_pl (i := 6) rfl jo_nil) (fun _ => (o_tuple enI (xs := stand) rfl)) rfl) (hX _ rfl) rfl fun kept => ?_
    refine b_if (j_or (jor_m (j_nt (j_call (j := 149) (ms := [.dat, .dat]) h149 (jc_pl (i := 4) rfl (jc_pl (i := 6) rfl jc_nil)) (fun _ => rfl) (fun _ => (ia_dp rfl (ia_dp rfl ia_nil))) (fun _ => c_law_right board stand) (fun _ => rfl) rfl rfl (fun _ => rfl) (fun _ => rfl) rfl) rfl) (jor_m (j_cmp (op := .NotEq) (jo_pl (i := 6) rfl (jo_pl (i := 7) rfl jo_nil)) (fun _ => (o_ne (enT enI) (a := stand) (b := kept) rfl rfl)) rfl) (jor_1 (j_nt (j_call (j := 149) (ms := [.dat, .dat]) h149 (jc_pl (i := 4) rfl (jc_pl (i := 6) rfl jc_nil)) (fun _ => rfl) (fun _ => (ia_dp rfl (ia_dp rfl ia_nil))) (fun _ => c_law_right board stand) (fun _ => rfl) rfl rfl (fun _ => rfl) (fun _ => rfl) rfl) rfl)) rfl) rfl)) (hX _ rfl) rfl ?_ ?_
    · exact b_ret (f := fun r => .ok (.rt r)) (j_bl _) (hX _ rfl) rfl (fun _ q => hR _ q)
    · refine b_go ?_
      refine b_set (j_bf (f := .tuple) (jo_m (j_map (own := [9]) (tg := (.name 9)) (S1 := [some ((kVl enI) script), some ((kOl enI) xs), some ((kD enI) p3.1), some ((kD (enL (enP enI enI))) p3.2), some ((kD (enT (enT enI))) board), some ((kD enI) part), some ((kD (enT enI)) stand), some ((kD (enT enI)) kept), none, none]) (Sx := fun x15 => [some ((kVl enI) script), some ((kOl enI) xs), some ((kD enI) p3.1), some ((kD (enL (enP enI enI))) p3.2), some ((kD (enT (enT enI))) board), some ((kD enI) part), some ((kD (enT enI)) stand), some ((kD (enT enI)) kept), none, some ((kD enI) x15)]) (S2 := [some ((kVl enI) script), some ((kOl enI) xs), some ((kD enI) p3.1), some ((kD (enL (enP enI enI))) p3.2), some ((kD (enT (enT enI))) board), some ((kD enI) part), some ((kD (enT enI)) stand), some ((kD (enT enI)) kept), none, none]) enI (js_pl (i := 6) rfl (itW_T enI stand)) (fun _ _ h => h) (fun x15 => (j_bin (op := .Mod) (jo_p (j_bin (op := .Sub) (jo_p (j_int _) (jo_pl (i := 9) rfl jo_nil)) (fun _ => o_sub) rfl) (jo_p (j_int _) jo_nil)) (fun _ => (o_modc (by decide))) rfl)) (fun _ => rfl) (fun _ _ => rfl) (fun _ => trivial) rfl rfl) jo_nil) (fun v16 => (o_tuple enI (xs := v16) rfl)) rfl) (hX _ rfl) rfl fun turned => ?_
      refine b_if (j_cmp (op := .NotEq) (jo_mm (j_call (j := 42) (ms := [.dat, .dat]) h42 (jc_pl (i := 4) rfl (jc_pl (i := 8) rfl jc_nil)) (fun _ => rfl) (fun _ => (ia_dp rfl (ia_dp rfl ia_nil))) (fun _ => c_by_stones board turned) (fun _ => rfl) rfl rfl (fun _ => rfl) (fun _ => rfl) rfl) (fun _ => (jo_m (j_rvt enI (j_call (j := 42) (ms := [.dat, .dat]) h42 (jc_pl (i := 4) rfl (jc_pl (i := 6) rfl jc_nil)) (fun _ => rfl) (fun _ => (ia_dp rfl (ia_dp rfl ia_nil))) (fun _ => c_by_stones board stand) (fun _ => rfl) rfl rfl (fun _ => rfl) (fun _ => rfl) rfl) rfl) jo_nil)) rfl) (fun v18 => (o_ne (enT enI) (a := v18.1) (b := v18.2) rfl rfl)) rfl) (hX _ rfl) rfl ?_ ?_
      · exact b_ret (f := fun r => .ok (.rt r)) (j_bl _) (hX _ rfl) rfl (fun _ q => hR _ q)
      · refine b_go ?_
        refine b_kil _ rfl ?_
        first | exact b_end (fun q => hN _ q) | exact fun q => hN _ q
  · rintro ⟨⟩
    exact b_ret (f := fun r => .ok r) (j_bl _) (hX _ rfl) rfl (fun _ q => q)
end MV

namespace MV
open PySem PySem.Spec PyProof.Rows L2
/-! ### lines, joined (also in W1) -/
theorem w_mul_l {i j : Int} (h : -18446744073709551616 < i ∧ i < 18446744073709551616) : CMul i j := .inl h
structure Ls (n : Int) (ls : List (Int × Int)) : Prop where
  nd : ls.Nodup
  inr : ∀ l ∈ ls, 0 ≤ l.1 ∧ l.1 < l.2 ∧ l.2 < n
theorem nd_map {α β : Type} {f : α → β} {xs : List α} (h : xs.Nodup) (i : ∀ a b, f a = f b → a = b) : (xs.map f).Nodup := (List.pairwise_map).mpr (h.imp fun h e => h (i _ _ e))
theorem rngI_nd (a b : Int) : (rngI a b).Nodup := (rngI_lt a b).imp fun h => by omega
theorem w_join {n : Nat} {bs : List (List Int)} {ls : List (Int × Int)} (hn : n ≤ 1000) (hl : Ls n ls) (h : Bs n bs) (he : ∀ p, nb bs p = []) : Ok (forM (τ := List (List Int)) ls bs (fun x6 beside =>
Res.bind (onItem beside x6.1 fun y7 => (apR y7 x6.2)) fun beside =>
Res.bind (onItem beside x6.2 fun y8 => (apR y8 x6.1)) fun beside =>
.ok (beside))) (Bs n) := by
  refine (Ok.forP (P := fun bs => Bs n bs) (fun pre bs => Bs n bs ∧ ∀ a b : Int, 0 ≤ a → b ∈ nb bs a → (a, b) ∈ pre ∨ (b, a) ∈ pre) ⟨h, fun a b _ m => by rw [he] at m; cases m⟩ ?_ fun t h => h.1)
  rintro pre ⟨a, b⟩ post bs e ⟨h, k⟩
  have hab := hl.inr (a, b) (by rw [e]; simp)
  simp only at hab ⊢
  have nd := hl.nd
  rw [e] at nd
  have hb : b ∉ nb bs a := fun m => by
    rcases k a b hab.1 m with z | z
    · exact (List.nodup_append.mp nd).2.2 _ z (a, b) (by simp) rfl
    · have := hl.inr (b, a) (by rw [e]; simp [z])
      simp only at this; omega
  rw [two_app h hn ⟨hab.1, by omega⟩ ⟨by omega, hab.2.2⟩]
  refine .of ⟨h.add ⟨hab.1, by omega⟩ ⟨by omega, hab.2.2⟩ (by omega) hb, fun x y hx m => ?_⟩
  rcases (mem_two (by rw [h.len]; omega) (by rw [h.len]; omega) (by omega) hx).mp m with m | ⟨rfl, rfl⟩ | ⟨rfl, rfl⟩
  · exact (k x y hx m).imp (fun z => by simp [z]) fun z => by simp [z]
  · exact .inl (by simp)
  · exact .inr (by simp)
theorem nb_rep (n : Nat) (p : Int) : nb (List.replicate n []) p = [] := by
  unfold nb
  rw [List.getElem?_replicate]
  split <;> rfl
end MV

namespace MV
open PySem PySem.Spec PyProof.Rows L2
theorem v_stream_ok (c : Int) {many : Int} (h : 0 ≤ many ∧ many ≤ 2000) : Ok (f_law_stream c many) fun r => (r.length : Int) = many ∧ ∀ x ∈ r, 0 ≤ x ∧ x < 2147483647 := by
  unfold f_law_stream
  simp only [Res.ok_bind]
  rw [rng1_ok (by omega), Res.ok_bind]
  refine .bind (Q := fun t => (t.1.length : Int) = many + 1 ∧ ∀ x ∈ t.1, 0 ≤ x ∧ x < 2147483647) (.forP (fun pre t => t.1.length = pre.length ∧ (0 ≤ t.2 ∧ t.2 < 3000000000) ∧ ∀ x ∈ t.1, 0 ≤ x ∧ x < 2147483647) ⟨rfl, by simp only; omega, by simp⟩ ?_ fun t h => ⟨by rw [h.1, rngI_length]; omega, h.2.2⟩) fun t ⟨h1, h2⟩ => ?_
  · rintro pre k post ⟨F, n⟩ e ⟨g1, g2, g3⟩
    obtain ⟨e1, _, _, _⟩ := rngI_split e
    have lp : pre.length ≤ 2001 := by rw [e1, rngI_length]; omega
    simp only at g1 g2 g3 ⊢
    rw [mulR_ok (w_mul_l (by omega))]
    simp only [Res.ok_bind]
    have z0 := Int.emod_nonneg (n * n + 48271 * n + k) (b := 2147483647) (by decide)
    have z1 := Int.emod_lt_of_pos (n * n + 48271 * n + k) (b := 2147483647) (by decide)
    generalize (n * n + 48271 * n + k) % 2147483647 = m at z0 z1
    rw [apR_ok (by omega), Res.ok_bind]
    refine .of ⟨by simp; omega, by simp only; omega, fun x mx => ?_⟩
    rcases List.mem_append.mp mx with mx | mx
    · exact g3 x mx
    · obtain rfl : x = m := by simpa using mx
      exact ⟨z0, z1⟩
  · rw [show (1 : Int) = ((1 : Nat) : Int) from rfl, cutP_lo]
    exact .of ⟨by rw [List.length_drop]; omega, fun x m => h2 x (List.mem_of_mem_drop m)⟩
theorem v_joined_ok {many : Int} {ls : List (Int × Int)} (h : 1 ≤ many ∧ many ≤ 36) (hL : Ls many ls) : Ok (f_law_joined many ls) fun bd => Bd bd ∧ (bd.length : Int) = many := by
  unfold f_law_joined
  rw [empty_rows (by omega)]
  have hn : (many.toNat : Int) = many := by omega
  generalize many.toNat = n at hn
  subst hn
  refine .bind (w_join (by omega) hL (Bs.start n) (nb_rep n)) fun bs hb => ?_
  rw [rows_sorted hb (by omega)]
  exact .of ⟨hb.bd (by omega), by rw [List.length_map, hb.len]⟩
section
variable {bd : List (List Int)} {sd : List Int}
/-- the row of a point, as it is come to -/
theorem v_row_ok {p : Int} (B : Bd bd) (hl : sd.length = bd.length) (hp : OnB bd p) : Ok (f_law_row bd sd p) fun r => r.Nodup ∧ ∀ x, x ∈ r ↔ x ∈ patchOf bd sd p := by
  have hh : ∀ q, OnB bd q → getI sd q = .ok (hold sd q) := fun q h => hold_ok ⟨h.1, by rw [hl]; exact h.2⟩
  unfold f_law_row
  simp only [Res.ok_bind]
  refine .bind (Q := fun t => t.1.Nodup ∧ ∀ x, x ∈ t.1 ↔ x ∈ patchOf bd sd p) (walkAt (ok := fun q => decide (hold sd q = hold sd p)) B hp ?_ fun F n h => ⟨h.nd, fun x => by rw [h.done, patch_mem B hp]⟩) fun t h => .of h
  intro q hq F hF _
  rw [hh q hq, hh p hp]
  simp only [Res.ok_bind]
  have ap := apR_ok (a := q) (show F.length < 16777216 by omega)
  have e1 : (if decide (hold sd q = hold sd p) = true ∧ q ∉ F then F ++ [q] else F) = if (decide (hold sd q = hold sd p) && !decide (q ∈ F)) = true then F ++ [q] else F := by
    simp only [Bool.and_eq_true, Bool.not_eq_true', decide_eq_false_iff_not]
  rw [e1]
  generalize decide (hold sd q = hold sd p) = d1
  generalize decide (q ∈ F) = d2
  cases d1 <;> cases d2 <;> simp [ap]
end
end MV

namespace MV
open PySem PySem.Spec PyProof.Rows L2
section
variable {bd : List (List Int)} {sd : List Int}
theorem v_breaths_ok {r : List Int} (B : Bd bd) (hl : sd.length = bd.length) (hr : ∀ x ∈ r, OnB bd x) : f_law_breaths bd sd r = .ok (breathsOf bd sd r) := by
  have hB := B.le
  have hh : ∀ q, OnB bd q → getI sd q = .ok (hold sd q) := fun q h => hold_ok ⟨h.1, by rw [hl]; exact h.2⟩
  refine Ok.to ?_
  unfold f_law_breaths
  simp only [Res.ok_bind]
  refine .bind (Q := fun F : List Int => F.Nodup ∧ ∀ x, x ∈ F ↔ ∃ p ∈ r, x ∈ nb bd p ∧ hold sd x = 0) (.forP (fun pre (F : List Int) => F.Nodup ∧ ∀ x, x ∈ F ↔ ∃ p ∈ pre, x ∈ nb bd p ∧ hold sd x = 0) ⟨List.nodup_nil, by simp⟩ ?_ fun F h => h) fun F ⟨h1, h2⟩ => .of (lt_ext (isort_lt h1) (breaths_lt _) fun x => by
    rw [mem_isort, h2, mem_breaths B]
    exact ⟨fun ⟨p, a, b, c⟩ => ⟨⟨p, a, b⟩, c⟩, fun ⟨⟨p, a, b⟩, c⟩ => ⟨p, a, b, c⟩⟩)
  rintro pre p post F e ⟨h1, h2⟩
  have hp := hr p (by rw [e]; simp)
  have lF : ∀ G : List Int, G.Nodup → (∀ x ∈ G, OnB bd x) → G.length ≤ 36 := fun G nd h => Nat.le_trans (len_on nd h) hB
  rw [nb_ok hp, Res.ok_bind]
  refine .bind (Q := fun G : List Int => G.Nodup ∧ ∀ x, x ∈ G ↔ x ∈ F ∨ (x ∈ nb bd p ∧ hold sd x = 0)) (.forP (fun qs (G : List Int) => G.Nodup ∧ ∀ x, x ∈ G ↔ x ∈ F ∨ (x ∈ qs ∧ hold sd x = 0)) ⟨h1, by simp⟩ ?_ fun G h => h) fun G ⟨g1, g2⟩ => .of ⟨g1, fun x => ?_⟩
  · rintro qs q post2 G e2 ⟨g1, g2⟩
    have mq : q ∈ nb bd p := by rw [e2]; simp
    have hq : OnB bd q := B.inr p q mq
    have gl : G.length ≤ 36 := lF G g1 fun x m => by
      rcases (g2 x).mp m with m | m
      · obtain ⟨p', _, m', _⟩ := (h2 x).mp m
        exact B.inr p' x m'
      · exact B.inr p x (by rw [e2]; simp [m.1])
    rw [hh q hq]
    simp only [Res.ok_bind]
    refine .bind (Q := fun G : List Int => G.Nodup ∧ ∀ x, x ∈ G ↔ x ∈ F ∨ (x ∈ qs ++ [q] ∧ hold sd x = 0)) (.ifR (fun c => ?_) fun c => ?_) fun G h => .of h
    · have c' : hold sd q = 0 := by simpa using c
      rw [putS_ok (by omega), Res.ok_bind]
      refine .of ⟨insS_nodup g1, fun x => ?_⟩
      rw [mem_insS, g2]
      constructor
      · rintro ((m | m) | rfl)
        · exact .inl m
        · exact .inr ⟨by simp [m.1], m.2⟩
        · exact .inr ⟨by simp, c'⟩
      · rintro (m | ⟨m, z⟩)
        · exact .inl (.inl m)
        · rcases List.mem_append.mp m with m | m
          · exact .inl (.inr ⟨m, z⟩)
          · exact .inr (by simpa using m)
    · have c' : hold sd q ≠ 0 := by simpa using c
      refine .of ⟨g1, fun x => ?_⟩
      rw [g2]
      constructor
      · rintro (m | m)
        · exact .inl m
        · exact .inr ⟨by simp [m.1], m.2⟩
      · rintro (m | ⟨m, z⟩)
        · exact .inl m
        · rcases List.mem_append.mp m with m | m
          · exact .inr ⟨m, z⟩
          · obtain rfl : x = q := by simpa using m
            exact absurd z c'
  · rw [g2, h2]
    constructor
    · rintro (⟨p', m, h⟩ | h)
      · exact ⟨p', by simp [m], h⟩
      · exact ⟨p, by simp, h⟩
    · rintro ⟨p', m, h⟩
      rcases List.mem_append.mp m with m | m
      · exact .inl ⟨p', m, h⟩
      · obtain rfl : p' = p := by simpa using m
        exact .inr h
end
end MV

namespace MV
open PySem PySem.Spec PyProof.Rows L2
theorem v_hold_in {F : List Int} (h : ∀ v ∈ F, 0 ≤ v ∧ v ≤ 2) (p : Int) : 0 ≤ hold F p ∧ hold F p ≤ 2 := by
  unfold hold gd
  cases e : F[p.toNat]? with
  | none => simp
  | some v => exact h v (List.mem_of_getElem? e)
theorem v_in_hold {F : List Int} (h : ∀ p, 0 ≤ hold F p ∧ hold F p ≤ 2) : ∀ v ∈ F, 0 ≤ v ∧ v ≤ 2 := fun v m => by
  obtain ⟨j, hj, rfl⟩ := List.getElem_of_mem m
  have := h j
  unfold hold gd at this
  rwa [Int.toNat_natCast, List.getElem?_eq_getElem hj] at this
section
variable {bd : List (List Int)} {sd : List Int}
theorem v_tried_ok {h p : Int} (B : Bd bd) (S : Sd bd sd) (hp : OnB bd p) (hh : h = 1 ∨ h = 2) : Ok (f_law_tried bd sd h p) fun r => match r with
    | .inl _ => True
    | .inr t => Sd bd t.1 := by
  have hB := B.le
  have hl := S.len
  have hg : ∀ q, OnB bd q → getI sd q = .ok (hold sd q) := fun q h => hold_ok ⟨h.1, by rw [hl]; exact h.2⟩
  have len36 : ∀ {F : List Int}, F.Nodup → (∀ x ∈ F, OnB bd x) → F.length ≤ 36 := fun nd h => Nat.le_trans (len_on nd h) hB
  unfold f_law_tried
  rw [hg p hp, Res.ok_bind, Res.ok_bind]
  refine .ifR (fun _ => .of trivial) fun c => ?_
  have c0 : hold sd p = 0 := by simpa using c
  simp only [Res.ok_bind]
  rw [nb_ok hp, Res.ok_bind]
  refine .bind (Q := fun t : List Int × List Int => (t.1.Nodup ∧ ∀ x ∈ t.1, OnB bd x) ∧ (t.2.Nodup ∧ ∀ x ∈ t.2, OnB bd x)) (.forM (fun t => (t.1.Nodup ∧ ∀ x ∈ t.1, OnB bd x) ∧ (t.2.Nodup ∧ ∀ x ∈ t.2, OnB bd x)) ⟨⟨List.nodup_nil, by simp⟩, List.nodup_nil, by simp⟩ ?_ fun t h => h) fun t ⟨⟨t1, t2⟩, t3, t4⟩ => ?_
  · rintro q mq ⟨T, Br⟩ ⟨⟨a1, a2⟩, b1, b2⟩
    have hq : OnB bd q := B.inr p q mq
    simp only at a1 a2 b1 b2 ⊢
    have lT := len36 a1 a2
    have lB := len36 b1 b2
    rw [hg q hq]
    simp only [Res.ok_bind]
    refine .bind (Q := fun t : List Int × List Int => (t.1.Nodup ∧ ∀ x ∈ t.1, OnB bd x) ∧ (t.2.Nodup ∧ ∀ x ∈ t.2, OnB bd x)) (.ifR (fun c => ?_) fun c => ?_) fun t h => .of h
    · rw [putS_ok (by omega), Res.ok_bind]
      exact .of ⟨⟨a1, a2⟩, insS_nodup b1, fun x m => by
        rcases mem_insS.mp m with m | rfl
        · exact b2 x m
        · exact hq⟩
    · refine .bind (v_row_ok B hl hq) fun r ⟨r1, r2⟩ => ?_
      have ron : ∀ x ∈ r, OnB bd x := fun x m => patch_on (sd := sd) B hq x ((r2 x).mp m)
      have lr := len36 r1 ron
      rw [v_breaths_ok B hl ron, Res.ok_bind]
      have mb : p ∈ breathsOf bd sd r := (mem_breaths B).mpr ⟨⟨q, (r2 q).mpr (patch_self B hq), B.sym p q hp.1 hp.2 mq⟩, c0⟩
      have bnd : (breathsOf bd sd r).Nodup := (breaths_lt r).imp fun h => by omega
      rw [remR_ok mb, Res.ok_bind]
      have lnd : ((breathsOf bd sd r).erase p).Nodup := bnd.erase p
      have lon : ∀ x ∈ (breathsOf bd sd r).erase p, OnB bd x := fun x m => edge_on (List.mem_filter.mp (List.mem_of_mem_erase m)).1
      have ll := len36 lnd lon
      generalize (breathsOf bd sd r).erase p = left at lnd lon ll
      refine .bind (Q := fun t : List Int × List Int => (t.1.Nodup ∧ ∀ x ∈ t.1, OnB bd x) ∧ (t.2.Nodup ∧ ∀ x ∈ t.2, OnB bd x)) (.ifR (fun _ => ?_) fun _ => ?_) fun t h => .of h
      · refine .bind (ins_all (P := fun G => G.Nodup ∧ ∀ x ∈ G, OnB bd x) b1 (by omega) fun G g1 g2 => ⟨g1, fun x m => ((g2 x).mp m).elim (b2 x) (lon x)⟩) fun G hG => .of ⟨⟨a1, a2⟩, hG⟩
      · refine .bind (Q := fun G : List Int => G.Nodup ∧ ∀ x ∈ G, OnB bd x) (.ifR (fun _ => ?_) fun _ => .of ⟨a1, a2⟩) fun G hG => .of ⟨hG, b1, b2⟩
        exact .bind (ins_all (P := fun G => G.Nodup ∧ ∀ x ∈ G, OnB bd x) a1 (by omega) fun G g1 g2 => ⟨g1, fun x m => ((g2 x).mp m).elim (a2 x) (ron x)⟩) fun G hG => .of hG
  · obtain ⟨T, Br⟩ := t
    simp only at t1 t2 ⊢
    refine .ifR (fun _ => .of trivial) fun _ => ?_
    refine .bind (Q := fun F : List Int => F.length = bd.length ∧ ∀ v ∈ F, 0 ≤ v ∧ v ≤ 2) (.forM (fun F => F.length = bd.length ∧ ∀ v ∈ F, 0 ≤ v ∧ v ≤ 2) ⟨hl, v_in_hold S.le⟩ (fun x mx F ⟨f1, f2⟩ => ?_) fun F h => h) fun F ⟨f1, f2⟩ => ?_
    · have hx := t2 x mx
      rw [setI_ok ⟨hx.1, by rw [f1]; exact hx.2⟩, Res.ok_bind]
      exact .of ⟨by rw [List.length_set]; exact f1, fun v m => by
        rcases List.mem_or_eq_of_mem_set m with m | rfl
        · exact f2 v m
        · omega⟩
    · rw [setI_ok ⟨hp.1, by rw [f1]; exact hp.2⟩, Res.ok_bind]
      exact .of ⟨by rw [List.length_set]; exact f1, v_hold_in fun v m => by
        rcases List.mem_or_eq_of_mem_set m with m | rfl
        · exact f2 v m
        · omega⟩
theorem v_sound_ok {cells : List Int} (B : Bd bd) (one : 1 ≤ bd.length) : Ok (f_law_sound bd cells) (Sd bd) := by
  have hB := B.le
  unfold f_law_sound
  rw [mapC_ok (fun _ => (0 : Int)) (fun _ _ => rfl) (by unfold sizeLine; omega), Res.ok_bind, Res.ok_bind]
  refine .bind (Q := Sd bd) (.forM (Sd bd) ⟨by rw [List.length_map], v_hold_in fun v m => by
    obtain ⟨_, _, rfl⟩ := List.mem_map.mp m
    omega⟩ (fun c _ sd S => ?_) fun _ h => h) fun sd h => .of h
  refine .bind (v_stream_ok c (many := 3) (by decide)) fun xs ⟨x1, x2⟩ => ?_
  have hx : ∀ j : Int, 0 ≤ j → j < 3 → getI xs j = .ok (gd 0 xs j) := fun j a b => getI_ok 0 ⟨a, by omega⟩
  rw [hx 2 (by decide) (by decide)]
  simp only [Res.ok_bind]
  rw [rng1_ok (by omega), Res.ok_bind]
  refine .bind (Q := Sd bd) (.forM (Sd bd) S (fun k _ sd S => ?_) fun _ h => h) fun sd h => .of h
  rw [hx 0 (by decide) (by decide), hx 1 (by decide) (by decide)]
  simp only [Res.ok_bind]
  have hl : (0 : Int) < bd.length := by omega
  rw [modR_ok hl, Res.ok_bind]
  refine .bind (v_tried_ok B S ⟨Int.emod_nonneg _ (by omega), Int.emod_lt_of_pos _ hl⟩ (by omega)) fun r hr => ?_
  cases r with
  | inl x => simp only [isU_inl, ifR_false, Res.ok_bind]; exact .of S
  | inr t => simp only [isU_inr, ifR_true, unR_inr, Res.ok_bind]; exact .of hr
end
end MV

namespace MV
open PySem PySem.Spec PyProof.Rows L2
theorem v_grid {many wide : Int} (hw : 1 ≤ wide ∧ wide ≤ 6) (hm : wide ≤ many ∧ many ≤ 36) : Ok (Res.bind (Res.bind (rng1 (many - wide)) fun r14 => (ner (mapC (fun x15 => (.ok (x15, (x15 + wide)))) r14 []))) fun lines =>
Res.bind (Res.bind (rng1 (many - 1)) fun r16 => (ner (filC (fun x17 => (Res.bind (modR (x17 + 1) wide) fun v18 => .ok (decide (0 < v18)))) (fun x17 => (.ok x17)) r16 []))) fun beside =>
(Res.bind (Res.bind (ner (mapC (fun x19 => (.ok (x19, (x19 + 1)))) beside [])) fun v20 => (extR lines v20)) fun v21 => .ok (many, v21))) fun r => r.1 = many ∧ Ls many r.2 := by
  rw [rng1_ok (by omega), Res.ok_bind, mapC_ok (fun x => (x, x + wide)) (fun _ _ => rfl) (by rw [rngI_length]; unfold sizeLine; omega), Res.ok_bind]
  rw [rng1_ok (by omega), Res.ok_bind, filI_ok (fun x => decide (0 < (x + 1) % wide)) (fun x m => by rw [modR_ok (by omega), Res.ok_bind]) (by rw [rngI_length]; unfold sizeLine; omega), Res.ok_bind]
  have l1 := List.length_filter_le (fun x => decide (0 < (x + 1) % wide)) (rngI 0 (many - 1))
  rw [rngI_length] at l1
  rw [mapC_ok (fun x => (x, x + 1)) (fun _ _ => rfl) (by unfold sizeLine; omega), Res.ok_bind, extR_ok' (by rw [List.length_map, List.length_map, rngI_length]; omega), Res.ok_bind]
  refine .of ⟨rfl, ?_, fun l m => ?_⟩
  · show (List.map _ _ ++ List.map _ _).Nodup
    rw [List.nodup_append]
    refine ⟨nd_map (rngI_nd _ _) fun a b e => by simpa using congrArg Prod.fst e, nd_map ((rngI_nd _ _).filter _) fun a b e => by simpa using congrArg Prod.fst e, fun x hx y hy e => ?_⟩
    subst e
    obtain ⟨a, ma, rfl⟩ := List.mem_map.mp hx
    obtain ⟨b, mb, e⟩ := List.mem_map.mp hy
    have e1 : b = a := congrArg Prod.fst e
    have e2 : b + 1 = a + wide := congrArg Prod.snd e
    have h2 := (List.mem_filter.mp mb).2
    have w1 : wide = 1 := by omega
    subst w1
    rw [Int.emod_one] at h2
    simp at h2
  · rcases List.mem_append.mp m with m | m
    · obtain ⟨a, ma, rfl⟩ := List.mem_map.mp m
      have := mem_rngI.mp ma
      simp only; omega
    · obtain ⟨a, ma, rfl⟩ := List.mem_map.mp m
      have := mem_rngI.mp (List.mem_filter.mp ma).1
      simp only; omega
theorem v_pairs {many : Int} {ys : List Int} {k : Int} (hm : 1 ≤ many ∧ many ≤ 36) (hy : (ys.length : Int) = many * many) {g : Int → Int → List (Int × Int) → Res (List (Int × Int))}
    (hg : ∀ one_ other F, 0 ≤ other → other < one_ → one_ < many → F.length ≤ 2000 → g one_ other F = .ok (F ++ [(other, one_)]) ∨ g one_ other F = .ok F) :
    Ok (forM (τ := (List (Int × Int))) (rngI 0 many) ([] : List (Int × Int)) (fun one_ lines => Res.bind (rng1 one_) fun r46 => Res.bind (forM (τ := (List (Int × Int))) r46 lines (fun other lines => g one_ other lines)) fun lines => .ok (lines))) (Ls many) := by
  refine .forP (fun pre F => F.Nodup ∧ F.length ≤ 36 * pre.length ∧ ∀ l ∈ F, 0 ≤ l.1 ∧ l.1 < l.2 ∧ l.2 ∈ pre) ⟨List.nodup_nil, by simp, by simp⟩ ?_ fun F h => ⟨h.1, fun l m => by have := h.2.2 l m; have := mem_rngI.mp this.2.2; omega⟩
  rintro pre p post F e ⟨g1, g2, g3⟩
  obtain ⟨e1, p0, p1, _⟩ := rngI_split e
  have lp : pre.length ≤ 36 := by rw [e1, rngI_length]; omega
  rw [rng1_ok (by omega), Res.ok_bind]
  refine .bind (Q := fun F : List (Int × Int) => F.Nodup ∧ F.length ≤ 36 * pre.length + 36 ∧ ∀ l ∈ F, 0 ≤ l.1 ∧ l.1 < l.2 ∧ (l.2 ∈ pre ∨ l.2 = p)) (.forP (fun qs F => F.Nodup ∧ F.length ≤ 36 * pre.length + qs.length ∧ ∀ l ∈ F, 0 ≤ l.1 ∧ l.1 < l.2 ∧ (l.2 ∈ pre ∨ (l.2 = p ∧ l.1 ∈ qs))) ⟨g1, by simpa using g2, fun l m => by have := g3 l m; exact ⟨this.1, this.2.1, .inl this.2.2⟩⟩ ?_ fun F h => ⟨h.1, by have := h.2.1; rw [rngI_length] at this; omega, fun l m => by have := h.2.2 l m; exact ⟨this.1, this.2.1, this.2.2.imp id And.left⟩⟩) fun F ⟨k1, k2, k3⟩ => .of ⟨k1, by simp; omega, fun l m => by have := k3 l m; exact ⟨this.1, this.2.1, by simpa using this.2.2⟩⟩
  rintro qs q post2 G e2 ⟨k1, k2, k3⟩
  obtain ⟨e3, q0, q1, _⟩ := rngI_split e2
  have lq : qs.length ≤ 36 := by rw [e3, rngI_length]; omega
  have stay : G.Nodup ∧ G.length ≤ 36 * pre.length + (qs ++ [q]).length ∧ ∀ l ∈ G, 0 ≤ l.1 ∧ l.1 < l.2 ∧ (l.2 ∈ pre ∨ (l.2 = p ∧ l.1 ∈ qs ++ [q])) := ⟨k1, by simp; omega, fun l m => by have := k3 l m; exact ⟨this.1, this.2.1, this.2.2.imp id fun h => ⟨h.1, by simp [h.2]⟩⟩⟩
  rcases hg p q G q0 q1 p1 (by omega) with z | z
  · rw [z]
    refine .of ⟨?_, by simp; omega, fun l m => ?_⟩
    · rw [List.nodup_append]
      refine ⟨k1, by simp, fun x hx y hy ee => ?_⟩
      obtain rfl : y = (q, p) := by simpa using hy
      subst ee
      have := k3 _ hx
      rcases this.2.2 with h | h
      · rw [e1] at h; have := mem_rngI.mp h; simp at this
      · have h2 := h.2; rw [e3] at h2; have := mem_rngI.mp h2; simp at this
    · rcases List.mem_append.mp m with m | m
      · exact stay.2.2 l m
      · obtain rfl : l = (q, p) := by simpa using m
        exact ⟨q0, q1, .inr ⟨rfl, by simp⟩⟩
  · rw [z]; exact .of stay
end MV

namespace MV
open PySem PySem.Spec PyProof.Rows L2
theorem v_lines_ok {xs : List Int} (hx : 3 ≤ xs.length) (h0 : ∀ x ∈ xs, 0 ≤ x) : Ok (f_law_lines xs) fun r => (1 ≤ r.1 ∧ r.1 ≤ 36) ∧ Ls r.1 r.2 := by
  have hg : ∀ j : Int, 0 ≤ j → j < 3 → getI xs j = .ok (gd 0 xs j) := fun j a b => getI_ok 0 ⟨a, by omega⟩
  have g0 := hg 0 (by decide) (by decide)
  have g1 := hg 1 (by decide) (by decide)
  have g2 := hg 2 (by decide) (by decide)
  unfold f_law_lines
  simp only [g0, g1, g2, Res.ok_bind]
  generalize gd 0 xs 0 = x0
  generalize gd 0 xs 1 = x1
  generalize gd 0 xs 2 = x2
  refine .ifR (fun c => ?_) fun c => ?_
  · have a0 : 0 ≤ x0 % 4 ∧ x0 % 4 < 4 := by omega
    have a2 : 0 ≤ x2 % 4 ∧ x2 % 4 < 4 := by omega
    generalize x0 % 4 = a at a0
    generalize x2 % 4 = b at a2
    rw [mulR_ok (w_mul_l (by omega)), Res.ok_bind]
    have m1 : (1 + a) * 1 ≤ (1 + a) * (1 + b) := Int.mul_le_mul_of_nonneg_left (by omega) (by omega)
    have m2 : (1 + a) * (1 + b) ≤ (1 + a) * 4 := Int.mul_le_mul_of_nonneg_left (by omega) (by omega)
    refine .bind (Q := fun t : Int × Int => (1 ≤ t.1 ∧ t.1 ≤ 6) ∧ t.1 ≤ t.2 ∧ t.2 ≤ 36) (.ifR (fun _ => .of ⟨by simp only; omega, by simp only; omega, by simp only; omega⟩) fun _ => .of ⟨by simp only; omega, by simp only; omega, by simp only; omega⟩) fun t ⟨h1, h2, h3⟩ => ?_
    obtain ⟨wide, many⟩ := t
    exact (v_grid h1 ⟨h2, h3⟩).mono fun r hr => ⟨by rw [hr.1]; simp only at h1 h2 h3; omega, by rw [hr.1]; exact hr.2⟩
  · have c1 : x1 % 4 ≠ 0 := by simpa using c
    have c2 : 0 ≤ x1 % 4 ∧ x1 % 4 < 4 := by omega
    refine .bind (Q := fun many : Int => 2 ≤ many + 1 ∧ many ≤ 9) (.bind (Q := fun v : Int => 0 ≤ v ∧ v < 9) (.bind (Q := fun v : Int × Int => v.1 = x0 ∧ (v.2 = 7 ∨ v.2 = 9 ∨ v.2 = 5)) (.bind (Q := fun v : Int => v = 7 ∨ v = 9 ∨ v = 5) ?_ fun v hv => .of ⟨rfl, hv⟩) fun v hv => ?_) fun v hv => .of (by omega)) fun many hm => ?_
    · have : x1 % 4 = 1 ∨ x1 % 4 = 2 ∨ x1 % 4 = 3 := by omega
      rcases this with e | e | e <;> rw [e, getI_ok 0 (by decide)] <;> exact .of (by decide)
    · rw [hv.1]
      have p : 0 < v.2 := by omega
      rw [modR_ok p]
      have := Int.emod_nonneg x0 (b := v.2) (by omega)
      have := Int.emod_lt_of_pos x0 p
      exact .of (by omega)
    rw [rng1_ok (by omega), Res.ok_bind, mapC_ok (fun x => (x, x + 1)) (fun _ _ => rfl) (by rw [rngI_length]; unfold sizeLine; omega), Res.ok_bind]
    have base : Ls many ((rngI 0 (many - 1)).map fun x => (x, x + 1)) := ⟨nd_map (rngI_nd _ _) fun a b e => by simpa using congrArg Prod.fst e, fun l m => by
      obtain ⟨a, ma, rfl⟩ := List.mem_map.mp m
      have := mem_rngI.mp ma
      simp only; omega⟩
    have bl : ((rngI 0 (many - 1)).map fun x => (x, x + 1)).length ≤ 100 := by rw [List.length_map, rngI_length]; omega
    have bnot : 3 ≤ many → ((0 : Int), many - 1) ∉ (rngI 0 (many - 1)).map fun x => (x, x + 1) := fun h3 m => by
      obtain ⟨a, _, e⟩ := List.mem_map.mp m
      have e1 : a = 0 := congrArg Prod.fst e
      have e2 : a + 1 = many - 1 := congrArg Prod.snd e
      omega
    generalize (rngI 0 (many - 1)).map (fun x => (x, x + 1)) = ls at base bl bnot
    refine .bind (Q := Ls many) ?_ fun ls hls => ?_
    · refine .bind (Q := fun b : Bool => b = true → 3 ≤ many) (.ifR (fun _ => .ifR (fun c => .of fun _ => (by simp at c; omega)) fun _ => .of fun z => by cases z) fun _ => .of fun z => by cases z) fun b hb => .ifR (fun c => ?_) fun _ => .of base
      have h3 := hb c
      rw [apR_ok (by omega), Res.ok_bind]
      refine .of ⟨?_, fun l m => ?_⟩
      · rw [List.nodup_append]
        exact ⟨base.nd, by simp, fun x hx y hy e => by
          obtain rfl : y = (0, many - 1) := by simpa using hy
          exact bnot h3 (e ▸ hx)⟩
      · rcases List.mem_append.mp m with m | m
        · exact base.inr l m
        · obtain rfl : l = (0, many - 1) := by simpa using m
          simp only; omega
    · refine .bind (Q := Ls many) (.ifR (fun _ => ?_) fun _ => .of hls) fun ls h => .of ⟨by simp only; omega, h⟩
      have mm : 0 ≤ many * many ∧ many * many ≤ 81 := by
        have h1 : 0 ≤ many * many := Int.mul_nonneg (by omega) (by omega)
        have h2 : many * many ≤ 9 * 9 := Int.mul_le_mul (by omega) (by omega) (by omega) (by omega)
        omega
      rw [mulR_ok (w_mul_l (by omega)), Res.ok_bind]
      refine .bind (v_stream_ok x2 (many := many * many) (by omega)) fun ys ⟨hy, _⟩ => ?_
      rw [rng1_ok (by omega), Res.ok_bind]
      refine .bind (v_pairs (k := 0) (by omega) hy fun one_ other F q0 q1 p1 hF => ?_) fun ls h => .of h
      have o1 : one_ * many ≤ (many - 1) * many := Int.mul_le_mul_of_nonneg_right (by omega) (by omega)
      have o2 : 0 ≤ one_ * many := Int.mul_nonneg (by omega) (by omega)
      have o3 : (many - 1) * many = many * many - many := by rw [Int.sub_mul, Int.one_mul]
      rw [mulR_ok (w_mul_l (by omega)), Res.ok_bind, Res.ok_bind, getI_ok 0 (show 0 ≤ one_ * many + other ∧ one_ * many + other < ys.length by omega)]
      simp only [Res.ok_bind]
      generalize decide (gd 0 ys (one_ * many + other) % 5 < x1 % 4) = b
      cases b with
      | true => left; simp only [ifR_true]; rw [apR_ok (by omega)]; rfl
      | false => right; rfl
end MV

namespace MV
open PySem PySem.Spec PyProof.Rows L2
section
variable {bd : List (List Int)} {sd : List Int}
theorem v_beside_ok {p : Int} (B : Bd bd) (S : Sd bd sd) (hp : OnB bd p) : f_law_beside bd sd p = .ok (sidesOf bd sd (patchOf bd sd p)) := by
  have hl := S.len
  have hg : ∀ q, OnB bd q → getI sd q = .ok (hold sd q) := fun q h => hold_ok ⟨h.1, by rw [hl]; exact h.2⟩
  refine Ok.to ?_
  unfold f_law_beside
  rw [Res.ok_bind]
  refine .bind (v_row_ok B hl hp) fun r ⟨r1, r2⟩ => ?_
  have small : ∀ {F : List Int}, F.Nodup → (∀ x ∈ F, 1 ≤ x ∧ x ≤ 2) → F.length ≤ 3 := fun {F} nd h => by
    exact len_on (bd := [[], [], []]) nd fun x m => ⟨by have := h x m; omega, by have := h x m; show x < 3; omega⟩
  refine .bind (Q := fun F : List Int => F.Nodup ∧ ∀ h, h ∈ F ↔ ∃ x ∈ r, ∃ q ∈ nb bd x, hold sd q ≠ 0 ∧ hold sd q = h) (.forP (fun pre (F : List Int) => F.Nodup ∧ ∀ h, h ∈ F ↔ ∃ x ∈ pre, ∃ q ∈ nb bd x, hold sd q ≠ 0 ∧ hold sd q = h) ⟨List.nodup_nil, by simp⟩ ?_ fun F h => h) fun F ⟨h1, h2⟩ => .of (lt_ext (isort_lt h1) (sides_lt _) fun x => by
    rw [mem_isort, h2, mem_sides B]
    exact ⟨fun ⟨a, m, z⟩ => ⟨a, (r2 a).mp m, z⟩, fun ⟨a, m, z⟩ => ⟨a, (r2 a).mpr m, z⟩⟩)
  rintro pre x post F e ⟨h1, h2⟩
  have hx : OnB bd x := patch_on (sd := sd) B hp x ((r2 x).mp (by rw [e]; simp))
  rw [nb_ok hx, Res.ok_bind]
  refine .bind (Q := fun G : List Int => G.Nodup ∧ ∀ h, h ∈ G ↔ h ∈ F ∨ ∃ q ∈ nb bd x, hold sd q ≠ 0 ∧ hold sd q = h) (.forP (fun qs (G : List Int) => G.Nodup ∧ ∀ h, h ∈ G ↔ h ∈ F ∨ ∃ q ∈ qs, hold sd q ≠ 0 ∧ hold sd q = h) ⟨h1, by simp⟩ ?_ fun G h => h) fun G ⟨g1, g2⟩ => .of ⟨g1, fun h => ?_⟩
  · rintro qs q post2 G e2 ⟨g1, g2⟩
    have hq : OnB bd q := B.inr x q (by rw [e2]; simp)
    have gl := small g1 fun y m => by
      have : ∃ q, hold sd q ≠ 0 ∧ hold sd q = y := by
        rcases (g2 y).mp m with m | ⟨q, _, z⟩
        · obtain ⟨_, _, q, _, z⟩ := (h2 y).mp m
          exact ⟨q, z⟩
        · exact ⟨q, z⟩
      obtain ⟨q, z1, z2⟩ := this
      have := S.le q
      omega
    have lq := S.le q
    rw [hg q hq]
    simp only [Res.ok_bind]
    refine .bind (Q := fun G : List Int => G.Nodup ∧ ∀ h, h ∈ G ↔ h ∈ F ∨ ∃ q' ∈ qs ++ [q], hold sd q' ≠ 0 ∧ hold sd q' = h) (.ifR (fun c => ?_) fun c => ?_) fun G h => .of h
    · have c' : 0 < hold sd q := by simpa using c
      rw [putS_ok (by omega), Res.ok_bind]
      refine .of ⟨insS_nodup g1, fun h => ?_⟩
      rw [mem_insS, g2]
      constructor
      · rintro ((m | ⟨q', m, z⟩) | rfl)
        · exact .inl m
        · exact .inr ⟨q', by simp [m], z⟩
        · exact .inr ⟨q, by simp, by omega, rfl⟩
      · rintro (m | ⟨q', m, z⟩)
        · exact .inl (.inl m)
        · rcases List.mem_append.mp m with m | m
          · exact .inl (.inr ⟨q', m, z⟩)
          · obtain rfl : q' = q := by simpa using m
            exact .inr z.2.symm
    · have c' : ¬ 0 < hold sd q := by simpa using c
      refine .of ⟨g1, fun h => ?_⟩
      rw [g2]
      constructor
      · rintro (m | ⟨q', m, z⟩)
        · exact .inl m
        · exact .inr ⟨q', by simp [m], z⟩
      · rintro (m | ⟨q', m, z⟩)
        · exact .inl m
        · rcases List.mem_append.mp m with m | m
          · exact .inr ⟨q', m, z⟩
          · obtain rfl : q' = q := by simpa using m
            omega
  · rw [g2, h2]
    constructor
    · rintro (⟨a, m, z⟩ | z)
      · exact ⟨a, by simp [m], z⟩
      · exact ⟨x, by simp, z⟩
    · rintro ⟨a, m, z⟩
      rcases List.mem_append.mp m with m | m
      · exact .inl ⟨a, m, z⟩
      · obtain rfl : a = x := by simpa using m
        exact .inr z
end
end MV

namespace MV
open PySem PySem.Spec PyProof.Rows L2
section
variable {bd : List (List Int)} {sd : List Int}
/-- free points whose land has just this hand beside it -/
noncomputable def landPts (bd : List (List Int)) (sd : List Int) (h : Int) : List Int := ptsP bd.length fun p => hold sd p = 0 ∧ sidesOf bd sd (patchOf bd sd p) = [h]
theorem isort_len (xs : List Int) : (isort xs).length = xs.length := (isort_perm xs).length_eq
theorem lands_sum {h : Int} (B : Bd bd) : (((landsOf bd sd).filter fun l => decide (sidesOf bd sd l = [h])).flatten).length = (landPts bd sd h).length := by
  have nd : (((landsOf bd sd).filter fun l => decide (sidesOf bd sd l = [h])).flatten).Nodup := by
    refine List.pairwise_flatten.mpr ?_
    refine ⟨fun l m => ?_, ?_⟩
    · obtain ⟨p, hp, _, rfl⟩ := (mem_clsOf B).mp (List.mem_filter.mp m).1
      exact (patch_lt p).imp fun h => by omega
    · refine List.Pairwise.imp_of_mem ?_ ((clsOf_nd (bd := bd) (sd := sd) (Q := (· = 0)) B).filter _)
      intro a b ma mb ne x xa y xb exy
      subst exy
      obtain ⟨p, hp, _, rfl⟩ := (mem_clsOf B).mp (List.mem_filter.mp ma).1
      obtain ⟨q, hq, _, rfl⟩ := (mem_clsOf B).mp (List.mem_filter.mp mb).1
      exact ne ((patch_same B hp xa).symm.trans (patch_same B hq xb))
  rw [← isort_len]
  congr 1
  refine lt_ext (isort_lt nd) (ptsP_lt _ _) fun x => ?_
  rw [mem_isort, List.mem_flatten]
  constructor
  · rintro ⟨l, m, mx⟩
    obtain ⟨m1, m2⟩ := List.mem_filter.mp m
    obtain ⟨p, hp, e, rfl⟩ := (mem_clsOf B).mp m1
    obtain ⟨h1, h2⟩ := patch_hold B hp mx
    exact mem_ptsP.mpr ⟨h1, by rw [h2]; exact e, by rw [patch_same B hp mx]; simpa using m2⟩
  · intro m
    obtain ⟨h1, h2, h3⟩ := mem_ptsP.mp m
    exact ⟨_, List.mem_filter.mpr ⟨(mem_clsOf B).mpr ⟨x, h1, h2, rfl⟩, by simpa using h3⟩, patch_self B h1⟩
theorem v_land_of_ok {h : Int} (B : Bd bd) (S : Sd bd sd) : f_land_of bd sd h = .ok ((landPts bd sd h).length : Int) := by
  refine Ok.to ?_
  unfold f_land_of
  rw [Res.ok_bind, f_lands_ok B S.len, Res.ok_bind]
  refine .bind (Q := fun n : Int => n = ((((landsOf bd sd).filter fun l => decide (sidesOf bd sd l = [h])).flatten).length : Int)) (.forP (fun pre n => n = (((pre.filter fun l => decide (sidesOf bd sd l = [h])).flatten).length : Int)) (by simp) ?_ fun n h => h) fun n hn => .of (by rw [hn, lands_sum B])
  rintro pre l post n e rfl
  have ml : l ∈ landsOf bd sd := by rw [e]; simp
  obtain ⟨p, hp, _, rfl⟩ := (mem_clsOf B).mp ml
  rw [f_sides_ok B S.len (patch_on B hp)]
  simp only [Res.ok_bind]
  by_cases c : sidesOf bd sd (patchOf bd sd p) = [h]
  · simp only [c, decide_true, ifR_true, Res.ok_bind]
    exact .of (by simp [List.filter_append, c])
  · simp only [c, decide_false, ifR_false, Res.ok_bind]
    exact .of (by simp [List.filter_append, c])
theorem v_stones_of_ok {h : Int} (hl : sd.length ≤ 1000) : f_stones_of sd h = .ok ((sd.filter fun x => decide (x = h)).length : Int) := by
  unfold f_stones_of
  rw [filI_ok (fun x => decide (x = h)) (fun _ _ => rfl) (by unfold sizeLine; omega), Res.ok_bind]
end
end MV

namespace MV
open PySem PySem.Spec PyProof.Rows L2
section
variable {bd : List (List Int)} {sd : List Int}
open Classical in
/-- what a hand has, of some points -/
noncomputable def cnt (bd : List (List Int)) (sd : List Int) (h : Int) (ps : List Int) : Int := ((ps.filter fun p => decide (hold sd p = h)).length : Int) + ((ps.filter fun p => decide (hold sd p = 0 ∧ sidesOf bd sd (patchOf bd sd p) = [h])).length : Int)
theorem one_filter (q : Int → Bool) (p : Int) : (([p].filter q).length : Int) = if q p = true then 1 else 0 := by
  cases h : q p <;> simp [List.filter, h]
open Classical in
theorem cnt_snoc {h : Int} {ps : List Int} {p : Int} : cnt bd sd h (ps ++ [p]) = cnt bd sd h ps + (if hold sd p = h then 1 else 0) + (if hold sd p = 0 ∧ sidesOf bd sd (patchOf bd sd p) = [h] then 1 else 0) := by
  unfold cnt
  rw [List.filter_append, List.filter_append, List.length_append, List.length_append, Int.natCast_add, Int.natCast_add, one_filter, one_filter]
  simp only [decide_eq_true_eq]
  omega
theorem v_due_ok (B : Bd bd) (S : Sd bd sd) : f_law_due bd sd = .ok [cnt bd sd 1 (rngI 0 sd.length), cnt bd sd 2 (rngI 0 sd.length)] := by
  classical
  have hB := B.le
  have hl := S.len
  refine Ok.to ?_
  unfold f_law_due
  rw [Res.ok_bind, rng1_ok (by omega), Res.ok_bind]
  refine .bind (Q := fun t : List Int => t.length = 3 ∧ gd 0 t 1 = cnt bd sd 1 (rngI 0 sd.length) ∧ gd 0 t 2 = cnt bd sd 2 (rngI 0 sd.length)) (.forP (fun pre t => t.length = 3 ∧ gd 0 t 1 = cnt bd sd 1 pre ∧ gd 0 t 2 = cnt bd sd 2 pre) ⟨rfl, rfl, rfl⟩ ?_ fun t h => h) fun t ⟨h1, h2, h3⟩ => ?_
  · rintro pre p post t e ⟨h1, h2, h3⟩
    obtain ⟨_, p0, p1, _⟩ := rngI_split e
    have hp : OnB bd p := ⟨p0, by omega⟩
    have sp := S.le p
    have bump : ∀ k : Int, k = 1 ∨ k = 2 → Ok (Res.bind (Res.bind (getI t k) fun v6 => .ok (v6 + 1)) fun v7 => Res.bind (setI t k v7) fun due => .ok due) fun t' => t'.length = 3 ∧ gd 0 t' 1 = gd 0 t 1 + (if k = 1 then 1 else 0) ∧ gd 0 t' 2 = gd 0 t 2 + (if k = 2 then 1 else 0) := fun k hk => by
      have ik : 0 ≤ k ∧ k < t.length := by omega
      rw [getI_ok 0 ik, Res.ok_bind, Res.ok_bind, setI_ok ik, Res.ok_bind]
      refine .of ⟨by rw [List.length_set]; exact h1, ?_, ?_⟩
      · rw [gd_set ik (by decide)]; rcases hk with rfl | rfl <;> simp
      · rw [gd_set ik (by decide)]; rcases hk with rfl | rfl <;> simp
    rw [hold_ok ⟨p0, p1⟩]
    simp only [Res.ok_bind]
    refine .bind (Q := fun t : List Int => t.length = 3 ∧ gd 0 t 1 = cnt bd sd 1 (pre ++ [p]) ∧ gd 0 t 2 = cnt bd sd 2 (pre ++ [p])) (.ifR (fun c => ?_) fun c => ?_) fun t h => .of h
    · have c' : 0 < hold sd p := by simpa using c
      have n0 : hold sd p ≠ 0 := by omega
      refine (bump (hold sd p) (by omega)).mono fun t' ⟨a, b, d⟩ => ⟨a, ?_, ?_⟩
      · rw [b, h2, cnt_snoc]; simp [n0]
      · rw [d, h3, cnt_snoc]; simp [n0]
    · have c' : hold sd p = 0 := by simp at c; omega
      rw [v_beside_ok B S hp, Res.ok_bind]
      have mem : ∀ h ∈ sidesOf bd sd (patchOf bd sd p), h = 1 ∨ h = 2 := fun h m => by
        obtain ⟨_, _, q, _, z1, z2⟩ := (mem_sides B).mp m
        have := S.le q; omega
      generalize hs : sidesOf bd sd (patchOf bd sd p) = ss at mem
      refine .bind (Q := fun t : List Int => t.length = 3 ∧ gd 0 t 1 = cnt bd sd 1 (pre ++ [p]) ∧ gd 0 t 2 = cnt bd sd 2 (pre ++ [p])) (.ifR (fun c => ?_) fun c => ?_) fun t h => .of h
      · have c1 : ss.length = 1 := by simp at c; omega
        match ss, c1 with
        | [k], _ =>
          have hk := mem k (by simp)
          rw [getI_ok 0 (show 0 ≤ (0 : Int) ∧ (0 : Int) < ([k] : List Int).length from ⟨by decide, by simp⟩)]
          simp only [Res.ok_bind]
          refine (bump k hk).mono fun t' ⟨a, b, d⟩ => ⟨a, ?_, ?_⟩
          · rw [b, h2, cnt_snoc]; simp [c', hs]
          · rw [d, h3, cnt_snoc]; simp [c', hs]
      · have c1 : ss.length ≠ 1 := by simp at c; omega
        have ne : ∀ k : Int, ss ≠ [k] := fun k z => c1 (by rw [z]; rfl)
        refine .of ⟨h1, ?_, ?_⟩
        · rw [h2, cnt_snoc]; simp [c', hs, ne]
        · rw [h3, cnt_snoc]; simp [c', hs, ne]
  · rw [getI_ok 0 (by omega), getI_ok 0 (by omega)]
    simp only [Res.ok_bind, h2, h3]
    exact .of rfl
end
end MV

namespace MV
open PySem PySem.Spec PyProof.Rows L2
section
variable {bd : List (List Int)} {sd : List Int}
theorem sd_map (sd : List Int) : sd = (rngI 0 sd.length).map (hold sd) := by
  apply List.ext_getElem?
  intro i
  unfold rngI
  rw [List.getElem?_map, List.getElem?_map]
  by_cases h : i < sd.length
  · rw [List.getElem?_range (by omega), List.getElem?_eq_getElem h]
    simp only [Option.map_some]
    unfold hold gd
    rw [show (0 + (i : Int)).toNat = i by omega, List.getElem?_eq_getElem h]; rfl
  · rw [List.getElem?_eq_none (by omega), List.getElem?_eq_none (by simp; omega)]; rfl
theorem stones_cnt (h : Int) : (sd.filter fun x => decide (x = h)).length = ((rngI 0 sd.length).filter fun p => decide (hold sd p = h)).length := by
  conv => lhs; rw [sd_map sd]
  rw [List.filter_map, List.length_map]
  rfl
open Classical in
theorem v_by_stones_ok (B : Bd bd) (S : Sd bd sd) : f_by_stones bd sd = .ok [cnt bd sd 1 (rngI 0 sd.length), cnt bd sd 2 (rngI 0 sd.length)] := by
  have hB := B.le
  have hl := S.len
  unfold f_by_stones
  rw [mapC_ok (fun h => cnt bd sd h (rngI 0 sd.length)) (fun h _ => ?_) (by decide), Res.ok_bind]
  · rfl
  · rw [v_stones_of_ok (by omega), Res.ok_bind, v_land_of_ok B S, Res.ok_bind, Res.ok_bind]
    refine congrArg Res.ok ?_
    have e : landPts bd sd h = (rngI 0 bd.length).filter fun p => decide (hold sd p = 0 ∧ sidesOf bd sd (patchOf bd sd p) = [h]) := by
      unfold landPts ptsP
      exact List.filter_congr fun x _ => by rw [decide_eq_decide]
    unfold cnt
    rw [stones_cnt, hl, e]
theorem v_right_ok (B : Bd bd) (S : Sd bd sd) : f_law_right bd sd = .ok true := by
  unfold f_law_right
  rw [v_by_stones_ok B S, Res.ok_bind, v_due_ok B S]
  simp only [Res.ok_bind, Bool.not_true, ifR_false, decide_true, Bool.or_self]
  rw [filI_ok (fun _ => false) (fun _ _ => rfl) (by simp; unfold sizeLine; decide), Res.ok_bind]
  simp
end
end MV

namespace MV
open PySem PySem.Spec PyProof.Rows L2
section
variable {bd : List (List Int)} {sd : List Int}
def trn (sd : List Int) : List Int := sd.map fun x => (3 - x) % 3
theorem trn_hold {p : Int} (hp : 0 ≤ p ∧ p < sd.length) : hold (trn sd) p = (3 - hold sd p) % 3 := by
  unfold trn hold gd
  rw [List.getElem?_map, List.getElem?_eq_getElem (show p.toNat < sd.length by omega)]; rfl
theorem one_iff {l : List Int} {h : Int} (hl : l.Pairwise (· < ·)) : l = [h] ↔ ∀ x, x ∈ l ↔ x = h :=
  ⟨fun e x => by rw [e]; simp, fun k => lt_ext hl (by simp) fun x => by rw [k]; simp⟩
theorem trn_cnt (B : Bd bd) (S : Sd bd sd) {h k : Int} (hk : (h = 1 ∧ k = 2) ∨ (h = 2 ∧ k = 1)) : cnt bd (trn sd) h (rngI 0 sd.length) = cnt bd sd k (rngI 0 sd.length) := by
  classical
  have hl := S.len
  have T : ∀ p, OnB bd p → hold (trn sd) p = (3 - hold sd p) % 3 := fun p hp => trn_hold ⟨hp.1, by rw [hl]; exact hp.2⟩
  have pe : ∀ p, OnB bd p → patchOf bd (trn sd) p = patchOf bd sd p := fun p hp => comeTo_congr B fun x hx => by
    have := S.le x; have := S.le p
    rw [decide_eq_decide, T x hx, T p hp]; omega
  unfold cnt
  congr 3
  · refine List.filter_congr fun p m => ?_
    have := mem_rngI.mp m
    have hp : OnB bd p := ⟨this.1, by omega⟩
    have := S.le p
    rw [decide_eq_decide, T p hp]; omega
  · refine List.filter_congr fun p m => ?_
    have := mem_rngI.mp m
    have hp : OnB bd p := ⟨this.1, by omega⟩
    have := S.le p
    rw [decide_eq_decide, T p hp, pe p hp, one_iff (sides_lt _), one_iff (sides_lt _)]
    refine and_congr (by omega) ?_
    have key : ∀ x, x ∈ sidesOf bd (trn sd) (patchOf bd sd p) ↔ (3 - x) ∈ sidesOf bd sd (patchOf bd sd p) := fun x => by
      rw [mem_sides B, mem_sides B]
      refine exists_congr fun a => and_congr_right fun _ => exists_congr fun q => and_congr_right fun mq => ?_
      have hq := B.inr a q mq
      have := S.le q
      rw [T q hq]; omega
    constructor
    · intro z x
      have := (key (3 - x)).symm.trans (z (3 - x))
      rw [show 3 - (3 - x) = x by omega] at this
      rw [this]; omega
    · intro z x
      rw [key, z]; omega
theorem f_law_ok (ns : List Int) (hn : ns.length ≤ 63) : Ok (f_law ns) (· = true) := by
  unfold f_law
  refine .bind (Q := fun xs => (xs.length : Int) = 50 ∧ ∀ x ∈ xs, 0 ≤ x ∧ x < 2147483647) (.bind (Q := fun _ => True) ?_ fun v _ => v_stream_ok v (by decide)) fun xs ⟨x1, x2⟩ => ?_
  · rw [extR_ok' (by simp; omega), Res.ok_bind, getI_ok 0 ⟨Int.le_refl _, by simp⟩]
    exact .of trivial
  refine .bind (v_lines_ok (by omega) fun x m => (x2 x m).1) fun p ⟨h1, hL⟩ => ?_
  refine .bind (v_joined_ok h1 hL) fun bd ⟨B, hb⟩ => ?_
  refine .bind (Q := fun z => z = .inl ()) (.forC (fun _ => True) trivial (fun part _ _ _ => ?_) fun _ _ => rfl) fun z hz => by subst hz; exact .of rfl
  refine .bind (Q := Sd bd) (.bind (Q := fun _ => True) (.bind (Q := fun _ => True) ?_ fun v _ => .of trivial) fun v _ => v_sound_ok B (by omega)) fun sd S => ?_
  · have l1 : (cutP ns (some 1) (some 41)).length ≤ 63 := by
      unfold cutP; rw [List.length_take, List.length_drop]; omega
    have l2 : (cutP xs (some 8) none).length ≤ 50 := by
      unfold cutP; rw [List.length_take, List.length_drop]; omega
    rw [extR_ok' (by omega), Res.ok_bind, getI_ok 0 ⟨by decide, by omega⟩]
    exact .of trivial
  have ST : Sd bd (trn sd) := ⟨by unfold trn; rw [List.length_map]; exact S.len, v_hold_in fun v m => by
    unfold trn at m
    obtain ⟨x, _, rfl⟩ := List.mem_map.mp m
    omega⟩
  have tl : (trn sd).length = sd.length := by unfold trn; rw [List.length_map]
  have hB := B.le
  have hl := S.len
  simp only [Res.ok_bind, v_right_ok B S, Bool.not_true, ifR_false, decide_true]
  rw [mapC_ok (fun x => (3 - x) % 3) (fun _ _ => rfl) (by unfold sizeLine; omega)]
  simp only [Res.ok_bind, v_by_stones_ok B S]
  have e := v_by_stones_ok B ST
  rw [tl, trn_cnt B S (h := 1) (k := 2) (by simp), trn_cnt B S (h := 2) (k := 1) (by simp)] at e
  unfold trn at e
  rw [e]
  have r : [cnt bd sd 1 (rngI 0 sd.length), cnt bd sd 2 (rngI 0 sd.length)].reverse = [cnt bd sd 2 (rngI 0 sd.length), cnt bd sd 1 (rngI 0 sd.length)] := rfl
  simp only [Res.ok_bind, r, decide_true, Bool.not_true, ifR_false]
  exact .of ⟨(), rfl, trivial⟩
end
end MV

namespace MV
open PySem PySem.Spec PyProof.Rows L2
/-! ### the text, the chain, the head -/
def top (i : Nat) : Stmt := PySem.Challenge.pw_stonebreath_k23_by_stones.main.body.getD i (.Pass ⟨0, 0, 0, 0⟩)
def gsL : List (Str × Key) := []
def xn0 : Xc → Exn := fun x => ⟨0, x.f⟩
def gam : Nat → Ct
  | 5 => ct_come_to xn0
  | 6 => ct_cut_up xn0
  | 10 => ct_points_with xn0
  | 13 => ct_lands xn0
  | 14 => ct_edge xn0
  | 16 => ct_sides xn0
  | 40 => ct_land_of xn0
  | 41 => ct_stones_of xn0
  | 42 => ct_by_stones xn0
  | 140 => ct_law_stream xn0
  | 141 => ct_law_joined xn0
  | 142 => ct_law_lines xn0
  | 143 => ct_law_row xn0
  | 144 => ct_law_breaths xn0
  | 145 => ct_law_tried xn0
  | 146 => ct_law_sound xn0
  | 147 => ct_law_beside xn0
  | 148 => ct_law_due xn0
  | 149 => ct_law_right xn0
  | _ => fun _ _ _ => False
def fs0 : List (Nat × Str) := []
theorem sc_come_to : FnScope n_come_to ["board", "start", "some"] (defScope (top 1)) := ⟨rfl, rfl, rfl, by decide +kernel, rfl, by decide +kernel, by decide +kernel⟩
theorem tx_come_to : ckB b_come_to ⟨n_come_to, defScope (top 1), fun _ => true, fs0, gsL⟩ (defBody (top 1)) = true := by decide +kernel
theorem bi_come_to : BindOk (top 1) "come_to" ["board", "start", "some"] := fun _ _ _ _ _ _ us hl => match us, hl with | [_, _, _], _ => rfl
def fs1 : List (Nat × Str) := (5, "come_to") :: fs0
theorem sc_cut_up : FnScope n_cut_up ["board", "some"] (defScope (top 2)) := ⟨rfl, rfl, rfl, by decide +kernel, rfl, by decide +kernel, by decide +kernel⟩
theorem tx_cut_up : ckB b_cut_up ⟨n_cut_up, defScope (top 2), fun _ => true, fs1, gsL⟩ (defBody (top 2)) = true := by decide +kernel
theorem bi_cut_up : BindOk (top 2) "cut_up" ["board", "some"] := fun _ _ _ _ _ _ us hl => match us, hl with | [_, _], _ => rfl
def fs2 : List (Nat × Str) := (6, "cut_up") :: fs1
theorem sc_points_with : FnScope n_points_with ["stand", "held"] (defScope (top 4)) := ⟨rfl, rfl, rfl, by decide +kernel, rfl, by decide +kernel, by decide +kernel⟩
theorem tx_points_with : ckB b_points_with ⟨n_points_with, defScope (top 4), fun _ => true, fs2, gsL⟩ (defBody (top 4)) = true := by decide +kernel
theorem bi_points_with : BindOk (top 4) "points_with" ["stand", "held"] := fun _ _ _ _ _ _ us hl => match us, hl with | [_, _], _ => rfl
def fs3 : List (Nat × Str) := (10, "points_with") :: fs2
theorem sc_lands : FnScope n_lands ["board", "stand"] (defScope (top 5)) := ⟨rfl, rfl, rfl, by decide +kernel, rfl, by decide +kernel, by decide +kernel⟩
theorem tx_lands : ckB b_lands ⟨n_lands, defScope (top 5), fun _ => true, fs3, gsL⟩ (defBody (top 5)) = true := by decide +kernel
theorem bi_lands : BindOk (top 5) "lands" ["board", "stand"] := fun _ _ _ _ _ _ us hl => match us, hl with | [_, _], _ => rfl
def fs4 : List (Nat × Str) := (13, "lands") :: fs3
theorem sc_edge : FnScope n_edge ["board", "some"] (defScope (top 6)) := ⟨rfl, rfl, rfl, by decide +kernel, rfl, by decide +kernel, by decide +kernel⟩
theorem tx_edge : ckB b_edge ⟨n_edge, defScope (top 6), fun _ => true, fs4, gsL⟩ (defBody (top 6)) = true := by decide +kernel
theorem bi_edge : BindOk (top 6) "edge" ["board", "some"] := fun _ _ _ _ _ _ us hl => match us, hl with | [_, _], _ => rfl
def fs5 : List (Nat × Str) := (14, "edge") :: fs4
theorem sc_sides : FnScope n_sides ["board", "stand", "land"] (defScope (top 7)) := ⟨rfl, rfl, rfl, by decide +kernel, rfl, by decide +kernel, by decide +kernel⟩
theorem tx_sides : ckB b_sides ⟨n_sides, defScope (top 7), fun _ => true, fs5, gsL⟩ (defBody (top 7)) = true := by decide +kernel
theorem bi_sides : BindOk (top 7) "sides" ["board", "stand", "land"] := fun _ _ _ _ _ _ us hl => match us, hl with | [_, _, _], _ => rfl
def fs6 : List (Nat × Str) := (16, "sides") :: fs5
theorem sc_land_of : FnScope n_land_of ["board", "stand", "hand"] (defScope (top 9)) := ⟨rfl, rfl, rfl, by decide +kernel, rfl, by decide +kernel, by decide +kernel⟩
theorem tx_land_of : ckB b_land_of ⟨n_land_of, defScope (top 9), fun _ => true, fs6, gsL⟩ (defBody (top 9)) = true := by decide +kernel
theorem bi_land_of : BindOk (top 9) "land_of" ["board", "stand", "hand"] := fun _ _ _ _ _ _ us hl => match us, hl with | [_, _, _], _ => rfl
def fs7 : List (Nat × Str) := (40, "land_of") :: fs6
theorem sc_stones_of : FnScope n_stones_of ["stand", "hand"] (defScope (top 10)) := ⟨rfl, rfl, rfl, by decide +kernel, rfl, by decide +kernel, by decide +kernel⟩
theorem tx_stones_of : ckB b_stones_of ⟨n_stones_of, defScope (top 10), fun _ => true, fs7, gsL⟩ (defBody (top 10)) = true := by decide +kernel
theorem bi_stones_of : BindOk (top 10) "stones_of" ["stand", "hand"] := fun _ _ _ _ _ _ us hl => match us, hl with | [_, _], _ => rfl
def fs8 : List (Nat × Str) := (41, "stones_of") :: fs7
theorem sc_by_stones : FnScope n_by_stones ["board", "stand"] (defScope (top 11)) := ⟨rfl, rfl, rfl, by decide +kernel, rfl, by decide +kernel, by decide +kernel⟩
theorem tx_by_stones : ckB b_by_stones ⟨n_by_stones, defScope (top 11), fun _ => true, fs8, gsL⟩ (defBody (top 11)) = true := by decide +kernel
theorem bi_by_stones : BindOk (top 11) "by_stones" ["board", "stand"] := fun _ _ _ _ _ _ us hl => match us, hl with | [_, _], _ => rfl
def fs9 : List (Nat × Str) := (42, "by_stones") :: fs8
theorem sc_law_stream : FnScope n_law_stream ["cell", "many"] (defScope (top 13)) := ⟨rfl, rfl, rfl, by decide +kernel, rfl, by decide +kernel, by decide +kernel⟩
theorem tx_law_stream : ckB b_law_stream ⟨n_law_stream, defScope (top 13), fun _ => true, fs9, gsL⟩ (defBody (top 13)) = true := by decide +kernel
theorem bi_law_stream : BindOk (top 13) "_law_stream" ["cell", "many"] := fun _ _ _ _ _ _ us hl => match us, hl with | [_, _], _ => rfl
def fs10 : List (Nat × Str) := (140, "_law_stream") :: fs9
theorem sc_law_joined : FnScope n_law_joined ["many", "lines"] (defScope (top 14)) := ⟨rfl, rfl, rfl, by decide +kernel, rfl, by decide +kernel, by decide +kernel⟩
theorem tx_law_joined : ckB b_law_joined ⟨n_law_joined, defScope (top 14), fun _ => true, fs10, gsL⟩ (defBody (top 14)) = true := by decide +kernel
theorem bi_law_joined : BindOk (top 14) "_law_joined" ["many", "lines"] := fun _ _ _ _ _ _ us hl => match us, hl with | [_, _], _ => rfl
def fs11 : List (Nat × Str) := (141, "_law_joined") :: fs10
theorem sc_law_lines : FnScope n_law_lines ["xs"] (defScope (top 15)) := ⟨rfl, rfl, rfl, by decide +kernel, rfl, by decide +kernel, by decide +kernel⟩
theorem tx_law_lines : ckB b_law_lines ⟨n_law_lines, defScope (top 15), fun _ => true, fs11, gsL⟩ (defBody (top 15)) = true := by decide +kernel
theorem bi_law_lines : BindOk (top 15) "_law_lines" ["xs"] := fun _ _ _ _ _ _ us hl => match us, hl with | [_], _ => rfl
def fs12 : List (Nat × Str) := (142, "_law_lines") :: fs11
theorem sc_law_row : FnScope n_law_row ["board", "stand", "point"] (defScope (top 16)) := ⟨rfl, rfl, rfl, by decide +kernel, rfl, by decide +kernel, by decide +kernel⟩
theorem tx_law_row : ckB b_law_row ⟨n_law_row, defScope (top 16), fun _ => true, fs12, gsL⟩ (defBody (top 16)) = true := by decide +kernel
theorem bi_law_row : BindOk (top 16) "_law_row" ["board", "stand", "point"] := fun _ _ _ _ _ _ us hl => match us, hl with | [_, _, _], _ => rfl
def fs13 : List (Nat × Str) := (143, "_law_row") :: fs12
theorem sc_law_breaths : FnScope n_law_breaths ["board", "stand", "row"] (defScope (top 17)) := ⟨rfl, rfl, rfl, by decide +kernel, rfl, by decide +kernel, by decide +kernel⟩
theorem tx_law_breaths : ckB b_law_breaths ⟨n_law_breaths, defScope (top 17), fun _ => true, fs13, gsL⟩ (defBody (top 17)) = true := by decide +kernel
theorem bi_law_breaths : BindOk (top 17) "_law_breaths" ["board", "stand", "row"] := fun _ _ _ _ _ _ us hl => match us, hl with | [_, _, _], _ => rfl
def fs14 : List (Nat × Str) := (144, "_law_breaths") :: fs13
theorem sc_law_tried : FnScope n_law_tried ["board", "stand", "hand", "point"] (defScope (top 18)) := ⟨rfl, rfl, rfl, by decide +kernel, rfl, by decide +kernel, by decide +kernel⟩
theorem tx_law_tried : ckB b_law_tried ⟨n_law_tried, defScope (top 18), fun _ => true, fs14, gsL⟩ (defBody (top 18)) = true := by decide +kernel
theorem bi_law_tried : BindOk (top 18) "_law_tried" ["board", "stand", "hand", "point"] := fun _ _ _ _ _ _ us hl => match us, hl with | [_, _, _, _], _ => rfl
def fs15 : List (Nat × Str) := (145, "_law_tried") :: fs14
theorem sc_law_sound : FnScope n_law_sound ["board", "cells"] (defScope (top 19)) := ⟨rfl, rfl, rfl, by decide +kernel, rfl, by decide +kernel, by decide +kernel⟩
theorem tx_law_sound : ckB b_law_sound ⟨n_law_sound, defScope (top 19), fun _ => true, fs15, gsL⟩ (defBody (top 19)) = true := by decide +kernel
theorem bi_law_sound : BindOk (top 19) "_law_sound" ["board", "cells"] := fun _ _ _ _ _ _ us hl => match us, hl with | [_, _], _ => rfl
def fs16 : List (Nat × Str) := (146, "_law_sound") :: fs15
theorem sc_law_beside : FnScope n_law_beside ["board", "stand", "point"] (defScope (top 20)) := ⟨rfl, rfl, rfl, by decide +kernel, rfl, by decide +kernel, by decide +kernel⟩
theorem tx_law_beside : ckB b_law_beside ⟨n_law_beside, defScope (top 20), fun _ => true, fs16, gsL⟩ (defBody (top 20)) = true := by decide +kernel
theorem bi_law_beside : BindOk (top 20) "_law_beside" ["board", "stand", "point"] := fun _ _ _ _ _ _ us hl => match us, hl with | [_, _, _], _ => rfl
def fs17 : List (Nat × Str) := (147, "_law_beside") :: fs16
theorem sc_law_due : FnScope n_law_due ["board", "stand"] (defScope (top 21)) := ⟨rfl, rfl, rfl, by decide +kernel, rfl, by decide +kernel, by decide +kernel⟩
theorem tx_law_due : ckB b_law_due ⟨n_law_due, defScope (top 21), fun _ => true, fs17, gsL⟩ (defBody (top 21)) = true := by decide +kernel
theorem bi_law_due : BindOk (top 21) "_law_due" ["board", "stand"] := fun _ _ _ _ _ _ us hl => match us, hl with | [_, _], _ => rfl
def fs18 : List (Nat × Str) := (148, "_law_due") :: fs17
theorem sc_law_right : FnScope n_law_right ["board", "stand"] (defScope (top 22)) := ⟨rfl, rfl, rfl, by decide +kernel, rfl, by decide +kernel, by decide +kernel⟩
theorem tx_law_right : ckB b_law_right ⟨n_law_right, defScope (top 22), fun _ => true, fs18, gsL⟩ (defBody (top 22)) = true := by decide +kernel
theorem bi_law_right : BindOk (top 22) "_law_right" ["board", "stand"] := fun _ _ _ _ _ _ us hl => match us, hl with | [_, _], _ => rfl
def fs19 : List (Nat × Str) := (149, "_law_right") :: fs18
theorem sc_law : FnScope n_law ["script"] (defScope (top 23)) := ⟨rfl, rfl, rfl, by decide +kernel, rfl, by decide +kernel, by decide +kernel⟩
theorem tx_law : ckB b_law ⟨n_law, defScope (top 23), fun _ => true, fs19, gsL⟩ (defBody (top 23)) = true := by decide +kernel
theorem bi_law : BindOk (top 23) "law" ["script"] := fun _ _ _ _ _ _ us hl => match us, hl with | [_], _ => rfl
theorem law_hc (ns : List Int) (R : W → WSt → Prop) (RE : EWs) (hn : ns.length ≤ 63) (h : R (.d (.bool true)) [none]) : ct_law xn0 [.vl (ns.map PyData.int)] R RE := by
  obtain ⟨b, e, rfl⟩ := f_law_ok ns hn
  refine ⟨ns, rfl, ?_⟩
  rw [e]; exact h
theorem all_ok {P : Program} {w : World} {K : Frag} {mg : Str → Option Value} {h : Heap} {fa : Addr} (X : K.In h) (G : h.Ns mainGlobals mg) (hmg : mg "law" = some (.ref fa))
    (d0 : DefAt K "come_to" (top 1))
    (d1 : DefAt K "cut_up" (top 2))
    (d2 : DefAt K "points_with" (top 4))
    (d3 : DefAt K "lands" (top 5))
    (d4 : DefAt K "edge" (top 6))
    (d5 : DefAt K "sides" (top 7))
    (d6 : DefAt K "land_of" (top 9))
    (d7 : DefAt K "stones_of" (top 10))
    (d8 : DefAt K "by_stones" (top 11))
    (d9 : DefAt K "_law_stream" (top 13))
    (d10 : DefAt K "_law_joined" (top 14))
    (d11 : DefAt K "_law_lines" (top 15))
    (d12 : DefAt K "_law_row" (top 16))
    (d13 : DefAt K "_law_breaths" (top 17))
    (d14 : DefAt K "_law_tried" (top 18))
    (d15 : DefAt K "_law_sound" (top 19))
    (d16 : DefAt K "_law_beside" (top 20))
    (d17 : DefAt K "_law_due" (top 21))
    (d18 : DefAt K "_law_right" (top 22))
    (d19 : DefAt K "law" (top 23))
    (z : ∀ x ∈ bNames, PySem.W.nsIn K mainGlobals x = some none)
    : ∃ fd : FuncData, (∀ (s : Shared) (u : Value), BindsTo s fd ⟨[u], []⟩ [("script", u)]) ∧ ∀ base : Heap, K.In base → base.Ns mainGlobals mg → FnOk P w K mg base (L2.CX P w) 20 fa fd ["script"] (spOf (ct_law xn0)) := by
  have bl := bl_of X G z
  have gl : ∀ x d, (x, d) ∈ gsL → ∃ u, mg x = some u ∧ RelV (kV d) u := by
    intro x d m
    cases m
  refine law_mv X G hmg (fun base h1 h2 => ?_) d19 sc_law tx_law bi_law rfl (s_law (xn := xn0) (Γ := gam) rfl rfl rfl rfl rfl rfl)
  have T0 : Tab P w K mg base gam 0 fs0 gsL := tab0 bl gl
  have T1 : Tab P w K mg base gam 1 fs1 gsL := T0.next X G d0 5 sc_come_to tx_come_to bi_come_to rfl rfl (s_come_to (xn := xn0) (Γ := gam))
  have T2 : Tab P w K mg base gam 2 fs2 gsL := T1.next X G d1 6 sc_cut_up tx_cut_up bi_cut_up rfl rfl (s_cut_up (xn := xn0) (Γ := gam) rfl)
  have T3 : Tab P w K mg base gam 3 fs3 gsL := T2.next X G d2 10 sc_points_with tx_points_with bi_points_with rfl rfl (s_points_with (xn := xn0) (Γ := gam))
  have T4 : Tab P w K mg base gam 4 fs4 gsL := T3.next X G d3 13 sc_lands tx_lands bi_lands rfl rfl (s_lands (xn := xn0) (Γ := gam) rfl rfl)
  have T5 : Tab P w K mg base gam 5 fs5 gsL := T4.next X G d4 14 sc_edge tx_edge bi_edge rfl rfl (s_edge (xn := xn0) (Γ := gam))
  have T6 : Tab P w K mg base gam 6 fs6 gsL := T5.next X G d5 16 sc_sides tx_sides bi_sides rfl rfl (s_sides (xn := xn0) (Γ := gam) rfl)
  have T7 : Tab P w K mg base gam 7 fs7 gsL := T6.next X G d6 40 sc_land_of tx_land_of bi_land_of rfl rfl (s_land_of (xn := xn0) (Γ := gam) rfl rfl)
  have T8 : Tab P w K mg base gam 8 fs8 gsL := T7.next X G d7 41 sc_stones_of tx_stones_of bi_stones_of rfl rfl (s_stones_of (xn := xn0) (Γ := gam))
  have T9 : Tab P w K mg base gam 9 fs9 gsL := T8.next X G d8 42 sc_by_stones tx_by_stones bi_by_stones rfl rfl (s_by_stones (xn := xn0) (Γ := gam) rfl rfl)
  have T10 : Tab P w K mg base gam 10 fs10 gsL := T9.next X G d9 140 sc_law_stream tx_law_stream bi_law_stream rfl rfl (s_law_stream (xn := xn0) (Γ := gam))
  have T11 : Tab P w K mg base gam 11 fs11 gsL := T10.next X G d10 141 sc_law_joined tx_law_joined bi_law_joined rfl rfl (s_law_joined (xn := xn0) (Γ := gam))
  have T12 : Tab P w K mg base gam 12 fs12 gsL := T11.next X G d11 142 sc_law_lines tx_law_lines bi_law_lines rfl rfl (s_law_lines (xn := xn0) (Γ := gam) rfl)
  have T13 : Tab P w K mg base gam 13 fs13 gsL := T12.next X G d12 143 sc_law_row tx_law_row bi_law_row rfl rfl (s_law_row (xn := xn0) (Γ := gam))
  have T14 : Tab P w K mg base gam 14 fs14 gsL := T13.next X G d13 144 sc_law_breaths tx_law_breaths bi_law_breaths rfl rfl (s_law_breaths (xn := xn0) (Γ := gam))
  have T15 : Tab P w K mg base gam 15 fs15 gsL := T14.next X G d14 145 sc_law_tried tx_law_tried bi_law_tried rfl rfl (s_law_tried (xn := xn0) (Γ := gam) rfl rfl)
  have T16 : Tab P w K mg base gam 16 fs16 gsL := T15.next X G d15 146 sc_law_sound tx_law_sound bi_law_sound rfl rfl (s_law_sound (xn := xn0) (Γ := gam) rfl rfl)
  have T17 : Tab P w K mg base gam 17 fs17 gsL := T16.next X G d16 147 sc_law_beside tx_law_beside bi_law_beside rfl rfl (s_law_beside (xn := xn0) (Γ := gam) rfl)
  have T18 : Tab P w K mg base gam 18 fs18 gsL := T17.next X G d17 148 sc_law_due tx_law_due bi_law_due rfl rfl (s_law_due (xn := xn0) (Γ := gam) rfl)
  have T19 : Tab P w K mg base gam 19 fs19 gsL := T18.next X G d18 149 sc_law_right tx_law_right bi_law_right rfl rfl (s_law_right (xn := xn0) (Γ := gam) rfl rfl)
  exact T19
end MV

open PySem PySem.W PyProof.Rows in
set_option maxRecDepth 100000 in
set_option maxHeartbeats 0 in
theorem PySem.Challenge.cw_stonebreath_k23_by_stones_holds : PySem.Challenge.rw_stonebreath_k23_by_stones.Holds := by
  w_on; o_law; k_head; (case hw => w_witness2)
  k_fill
  refine MV.walk_mv (l := PySem.Challenge.rw_stonebreath_k23_by_stones) (k := 20) (ct := MV.ct_law MV.xn0) rfl rfl ⟨rfl, by decide, by decide⟩ (fun w h Y => PySem.W.kIn_of Y) (fun w => ?hL) ?F MV.law_hc
  case hL => rfl
  case F =>
    intro w mg fa h KX G hmg
    refine' MV.all_ok KX G hmg (MV.DefAt.of ?a0 ?l0 ?c0 ?k0) (MV.DefAt.of ?a1 ?l1 ?c1 ?k1) (MV.DefAt.of ?a2 ?l2 ?c2 ?k2) (MV.DefAt.of ?a3 ?l3 ?c3 ?k3) (MV.DefAt.of ?a4 ?l4 ?c4 ?k4) (MV.DefAt.of ?a5 ?l5 ?c5 ?k5) (MV.DefAt.of ?a6 ?l6 ?c6 ?k6) (MV.DefAt.of ?a7 ?l7 ?c7 ?k7) (MV.DefAt.of ?a8 ?l8 ?c8 ?k8) (MV.DefAt.of ?a9 ?l9 ?c9 ?k9) (MV.DefAt.of ?a10 ?l10 ?c10 ?k10) (MV.DefAt.of ?a11 ?l11 ?c11 ?k11) (MV.DefAt.of ?a12 ?l12 ?c12 ?k12) (MV.DefAt.of ?a13 ?l13 ?c13 ?k13) (MV.DefAt.of ?a14 ?l14 ?c14 ?k14) (MV.DefAt.of ?a15 ?l15 ?c15 ?k15) (MV.DefAt.of ?a16 ?l16 ?c16 ?k16) (MV.DefAt.of ?a17 ?l17 ?c17 ?k17) (MV.DefAt.of ?a18 ?l18 ?c18 ?k18) (MV.DefAt.of ?a19 ?l19 ?c19 ?k19) ?zb
    (case a0 => k_is)
    (case l0 => k_is)
    (case c0 => k_is)
    (case k0 => k_is)
    (case a1 => k_is)
    (case l1 => k_is)
    (case c1 => k_is)
    (case k1 => k_is)
    (case a2 => k_is)
    (case l2 => k_is)
    (case c2 => k_is)
    (case k2 => k_is)
    (case a3 => k_is)
    (case l3 => k_is)
    (case c3 => k_is)
    (case k3 => k_is)
    (case a4 => k_is)
    (case l4 => k_is)
    (case c4 => k_is)
    (case k4 => k_is)
    (case a5 => k_is)
    (case l5 => k_is)
    (case c5 => k_is)
    (case k5 => k_is)
    (case a6 => k_is)
    (case l6 => k_is)
    (case c6 => k_is)
    (case k6 => k_is)
    (case a7 => k_is)
    (case l7 => k_is)
    (case c7 => k_is)
    (case k7 => k_is)
    (case a8 => k_is)
    (case l8 => k_is)
    (case c8 => k_is)
    (case k8 => k_is)
    (case a9 => k_is)
    (case l9 => k_is)
    (case c9 => k_is)
    (case k9 => k_is)
    (case a10 => k_is)
    (case l10 => k_is)
    (case c10 => k_is)
    (case k10 => k_is)
    (case a11 => k_is)
    (case l11 => k_is)
    (case c11 => k_is)
    (case k11 => k_is)
    (case a12 => k_is)
    (case l12 => k_is)
    (case c12 => k_is)
    (case k12 => k_is)
    (case a13 => k_is)
    (case l13 => k_is)
    (case c13 => k_is)
    (case k13 => k_is)
    (case a14 => k_is)
    (case l14 => k_is)
    (case c14 => k_is)
    (case k14 => k_is)
    (case a15 => k_is)
    (case l15 => k_is)
    (case c15 => k_is)
    (case k15 => k_is)
    (case a16 => k_is)
    (case l16 => k_is)
    (case c16 => k_is)
    (case k16 => k_is)
    (case a17 => k_is)
    (case l17 => k_is)
    (case c17 => k_is)
    (case k17 => k_is)
    (case a18 => k_is)
    (case l18 => k_is)
    (case c18 => k_is)
    (case k18 => k_is)
    (case a19 => k_is)
    (case l19 => k_is)
    (case c19 => k_is)
    (case k19 => k_is)
    case zb =>
      intro x m
      simp only [MV.bNames, List.mem_cons, List.not_mem_nil, or_false] at m
      rcases m with rfl | rfl | rfl | rfl | rfl | rfl | rfl | rfl | rfl | rfl | rfl | rfl | rfl | rfl | rfl | rfl | rfl | rfl | rfl <;> k_is

