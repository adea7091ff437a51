import PyProof.Rows.All
import Wide.All
import OpenK.AllK
import Wide.FinOn
import HandS.ForMost
import HandS.Exc
import HandS.ExcOwn
import HandS.TryMany
import HandS.TryOnly
import HandS.WordsExc
import HandS.IsInst
import HandS.TupAny
import HandS.Style
import HandS.Flow
import HandS.More
import HandS.Zip
import HandS.SetFor
import HandS.Strs
import HandS.Flt
import HandS.Lambda
import HandS.EndTab
import KE.SortKeyHeap
import HandS.TupMul
import KE.GoesMore
import PyProof.StrBlock2
import HandS.ExcIs
import HandS.Codes
import HandS.TupSets
import PySem.Challenge.RW_claimlayers_k11_whole_any_order
set_option Elab.async false
set_option linter.all false
set_option maxRecDepth 100000
set_option maxHeartbeats 4000000
/-! An executable semantics of the fragment: values, the store of live objects, outcomes; how they stand for what HandS tracks. -/
namespace CL
open PySem PySem.Spec PyProof.Rows L2

inductive Wv where
  | non | bl (b : Bool) | int (i : Int) | str (s : Str)
  | tup (xs : List Wv) | lst (xs : List Wv) | scr (ns : List Int) | ref (k : Nat) | exn (a : Nat)

inductive Ob where
  | lst (xs : List Wv) | dct (kvs : List (Key × Wv)) | ins (c : Nat) (ws : List Wv) | tab | lck (kvs : List (Key × Wv)) | dead
/-- is it ours to change -/
def Ob.own : Ob → Bool
  | .dead => false
  | .lck _ => false
  | _ => true
abbrev Sto := List Ob

inductive Out (α : Type) where
  | ok (a : α) (S : Sto) | exc (c : Nat) (S : Sto) | bad
def Out.bind {α β : Type} (o : Out α) (g : α → Sto → Out β) : Out β := match o with
  | .ok a S => g a S
  | .exc c S => .exc c S
  | .bad => .bad
abbrev Env := List (Option Wv)
inductive SOut where
  | nx (e : Env) (S : Sto) | rt (w : Wv) (S : Sto) | bk (e : Env) (S : Sto) | ct (e : Env) (S : Sto) | exc (c : Nat) (e : Env) (S : Sto) | bad
abbrev FE := Env → Sto → Out Wv
abbrev FA := Env → Sto → Out (List Wv)
abbrev FT := Env → Sto → Out Bool
abbrev FS := Env → Sto → SOut

/-- where the classes, the errors' classes stand; the names of a class's attributes in their order -/
structure Tab where
  cad : Nat → Addr
  cnm : Nat → List Str
  ead : Nat → Addr
  tb : Addr
/-- the name that the code objects in the lambda's table bear -/
abbrev qL : Str := "_law_sorted.<locals>.<lambda>"
/-- the code objects that the table tells of are known -/
structure TabOk (G : Hp) (ps : Array Value) : Prop where
  tri : TriplesOk ps.toList
  all : ∀ (pos : Pos) (cv : Value), codeAmong pos ps.toList = some cv → ∃ c, cv = .ref c ∧ G c = some (LamX.CodeO c qL)
theorem TabOk.mono {G G' : Hp} {ps : Array Value} (t : TabOk G ps) (h : Same G G') : TabOk G' ps := ⟨t.tri, fun pos cv hc => let ⟨c, e, g⟩ := t.all pos cv hc; ⟨c, e, h _ _ g⟩⟩

section
variable (K : PySem.W.Frag) (G : Hp) (φ : List Addr)
mutual
inductive Den : V → Wv → Prop
  | non : Den .non .non
  | bl (b : Bool) : Den (.bl b) (.bl b)
  | int (i : Int) : Den (.int i) (.int i)
  | str (s : Str) : Den (.str s) (.str s)
  | tup {a : Addr} {vs : List V} {ws : List Wv} : G a = some (.tup vs) → Dens vs ws → Den (.ref a) (.tup ws)
  | lst {a : Addr} {vs : List V} {ws : List Wv} : G a = some (.lst vs) → Dens vs ws → Den (.ref a) (.lst ws)
  | scr {a : Addr} {ns : List Int} : SqL K G a (ns.map V.int) → Den (.ref a) (.scr ns)
  | ref {k : Nat} {a : Addr} : φ[k]? = some a → Den (.ref a) (.ref k)
  | exn (a : Addr) : Den (.ref a) (.exn a)
inductive Dens : List V → List Wv → Prop
  | nil : Dens [] []
  | cons {v : V} {w : Wv} {vs : List V} {ws : List Wv} : Den v w → Dens vs ws → Dens (v :: vs) (w :: ws)
end
end

theorem seqSame {K : PySem.W.Frag} {G G' : Hp} {a : Addr} {xs : List V} (h : Same G G') (s : SqL K G a xs) : SqL K G' a xs := h.seq s
theorem getPre {α : Type} {l ψ : List α} {k : Nat} {a : α} (h : l[k]? = some a) : (l ++ ψ)[k]? = some a := by
  rw [List.getElem?_append_left (List.getElem?_eq_some_iff.mp h).1]; exact h
section
variable {K : PySem.W.Frag} {G G' : Hp} {φ ψ : List Addr}
mutual
theorem Den.mono (hs : Same G G') : ∀ {v : V} {w : Wv}, Den K G φ v w → Den K G' (φ ++ ψ) v w
  | _, _, .non => .non
  | _, _, .bl b => .bl b
  | _, _, .int i => .int i
  | _, _, .str s => .str s
  | _, _, .tup h d => .tup (hs _ _ h) (Dens.mono hs d)
  | _, _, .lst h d => .lst (hs _ _ h) (Dens.mono hs d)
  | _, _, .scr h => .scr (seqSame hs h)
  | _, _, .exn a => .exn a
  | _, _, .ref h => .ref (getPre h)
theorem Dens.mono (hs : Same G G') : ∀ {vs : List V} {ws : List Wv}, Dens K G φ vs ws → Dens K G' (φ ++ ψ) vs ws
  | _, _, .nil => .nil
  | _, _, .cons d r => .cons (Den.mono hs d) (Dens.mono hs r)
end
theorem Dens.len : ∀ {vs : List V} {ws : List Wv}, Dens K G φ vs ws → vs.length = ws.length
  | _, _, .nil => rfl
  | _, _, .cons _ r => congrArg Nat.succ (Dens.len r)
theorem Dens.get : ∀ {vs : List V} {ws : List Wv} {i : Nat} {w : Wv}, Dens K G φ vs ws → ws[i]? = some w → ∃ v, vs[i]? = some v ∧ Den K G φ v w
  | _, _, _, _, .nil, e => by simp at e
  | _, _, 0, _, .cons d _, e => by simp at e; subst e; exact ⟨_, rfl, d⟩
  | _, _, i + 1, w, .cons _ t, e => by
    obtain ⟨v, h1, h2⟩ := Dens.get (i := i) (w := w) t (by simpa using e)
    exact ⟨v, by simpa using h1, h2⟩
theorem Dens.getV : ∀ {vs : List V} {ws : List Wv} {i : Nat} {v : V}, Dens K G φ vs ws → vs[i]? = some v → ∃ w, ws[i]? = some w ∧ Den K G φ v w
  | _, _, _, _, .nil, e => by simp at e
  | _, _, 0, _, .cons d _, e => by simp at e; subst e; exact ⟨_, rfl, d⟩
  | _, _, i + 1, w, .cons _ t, e => by
    obtain ⟨v, h1, h2⟩ := Dens.getV (i := i) (v := w) t (by simpa using e)
    exact ⟨v, by simpa using h1, h2⟩
theorem Dens.append : ∀ {vs vs' : List V} {ws ws' : List Wv}, Dens K G φ vs ws → Dens K G φ vs' ws' → Dens K G φ (vs ++ vs') (ws ++ ws')
  | _, _, _, _, .nil, s => s
  | _, _, _, _, .cons d r, s => .cons d (Dens.append r s)
theorem Dens.take : ∀ {vs : List V} {ws : List Wv} (n : Nat), Dens K G φ vs ws → Dens K G φ (vs.take n) (ws.take n)
  | _, _, 0, _ => by simp; exact .nil
  | _, _, _ + 1, .nil => by simp; exact .nil
  | _, _, n + 1, .cons d r => by simp; exact .cons d (Dens.take n r)
theorem Dens.drop : ∀ {vs : List V} {ws : List Wv} (n : Nat), Dens K G φ vs ws → Dens K G φ (vs.drop n) (ws.drop n)
  | _, _, 0, r => by simpa using r
  | _, _, _ + 1, .nil => by simp; exact .nil
  | _, _, n + 1, .cons _ r => by simpa using Dens.drop n r
theorem Dens.set {v : V} {w : Wv} (d : Den K G φ v w) : ∀ {vs : List V} {ws : List Wv} (i : Nat), Dens K G φ vs ws → Dens K G φ (vs.set i v) (ws.set i w)
  | _, _, _, .nil => .nil
  | _, _, 0, .cons _ t => .cons d t
  | _, _, i + 1, .cons q t => .cons q (Dens.set d i t)
theorem Dens.erase : ∀ {vs : List V} {ws : List Wv} (i : Nat), Dens K G φ vs ws → Dens K G φ (vs.eraseIdx i) (ws.eraseIdx i)
  | _, _, _, .nil => .nil
  | _, _, 0, .cons _ t => t
  | _, _, i + 1, .cons r t => .cons r (Dens.erase i t)
theorem Dens.rep {vs : List V} {ws : List Wv} (d : Dens K G φ vs ws) : ∀ k : Nat, Dens K G φ (List.replicate k vs).flatten (List.replicate k ws).flatten
  | 0 => .nil
  | k + 1 => by
    rw [List.replicate_succ, List.replicate_succ, List.flatten_cons, List.flatten_cons]
    exact Dens.append d (Dens.rep d k)
theorem Dens.ints : ∀ (ns : List Int), Dens K G φ (ns.map V.int) (ns.map Wv.int)
  | [] => .nil
  | n :: r => .cons (.int n) (Dens.ints r)
theorem Dens.toInts : ∀ {vs : List V} {ns : List Int}, Dens K G φ vs (ns.map Wv.int) → vs = ns.map V.int
  | _, [], .nil => rfl
  | _, n :: r, .cons d t => by
    cases d
    show V.int n :: _ = _
    rw [Dens.toInts t]; rfl
theorem Dens.toStrs : ∀ {vs : List V} {ns : List Str}, Dens K G φ vs (ns.map Wv.str) → vs = ns.map V.str
  | _, [], .nil => rfl
  | _, n :: r, .cons d t => by
    cases d
    show V.str n :: _ = _
    rw [Dens.toStrs t]; rfl
theorem Dens.strs : ∀ (ns : List Str), Dens K G φ (ns.map V.str) (ns.map Wv.str)
  | [] => .nil
  | n :: r => .cons (.str n) (Dens.strs r)
theorem Dens.toBls : ∀ {vs : List V} {ns : List Bool}, Dens K G φ vs (ns.map Wv.bl) → vs = ns.map V.bl
  | _, [], .nil => rfl
  | _, n :: r, .cons d t => by
    cases d
    show V.bl n :: _ = _
    rw [Dens.toBls t]; rfl
end

/-- a dict's pairs -/
inductive DKV (K : PySem.W.Frag) (G : Hp) (φ : List Addr) : List (Key × V) → List (Key × Wv) → Prop
  | nil : DKV K G φ [] []
  | cons {k : Key} {v : V} {w : Wv} {r : List (Key × V)} {r' : List (Key × Wv)} : Den K G φ v w → DKV K G φ r r' → DKV K G φ ((k, v) :: r) ((k, w) :: r')
theorem DKV.mono {K : PySem.W.Frag} {G G' : Hp} {φ ψ : List Addr} (hs : Same G G') {a : List (Key × V)} {b : List (Key × Wv)} (h : DKV K G φ a b) : DKV K G' (φ ++ ψ) a b := by
  induction h with
  | nil => exact .nil
  | cons d _ ih => exact .cons (d.mono hs) ih
/-- a live object -/
def ObjR (T : Tab) (K : PySem.W.Frag) (G : Hp) (φ : List Addr) (H : Hp) (a : Addr) : Ob → Prop
  | .lst ws => ∃ vs, H a = some (.lst vs) ∧ Dens K G φ vs ws
  | .dct kvs => ∃ vs : List (Key × V), H a = some (.dK vs) ∧ DKV K G φ vs kvs
  | .ins c ws => ∃ (dx : Addr) (vs : List V), H a = some (.ins (T.cad c) dx ((T.cnm c).zip vs)) ∧ Dens K G φ vs ws ∧ vs.length ≤ (T.cnm c).length
  | .tab => a = T.tb ∧ ∃ ps, H a = some (.tbl ps) ∧ TabOk G ps
  | .lck kvs => ∃ (od : Obj) (vs : List (Key × V)), G a = some (.frz od (.dK vs)) ∧ DKV K G φ vs kvs
  | .dead => True
structure Rel (T : Tab) (K : PySem.W.Frag) (G : Hp) (φ : List Addr) (S : Sto) (H : Hp) : Prop where
  ex : Same G H
  len : φ.length = S.length
  nd : φ.Nodup
  fr : ∀ (k : Nat) a o, φ[k]? = some a → S[k]? = some o → o.own = true → G a = none
  ob : ∀ (k : Nat) a o, φ[k]? = some a → S[k]? = some o → ObjR T K G φ H a o
  thr : ∀ a ∈ φ, ∃ o, H a = some o
structure Ext (G : Hp) (φ : List Addr) (H : Hp) (G' : Hp) (φ' : List Addr) (H' : Hp) : Prop where
  same : Same G G'
  pre : ∃ ψ, φ' = φ ++ ψ
  frame : ∀ a o, H a = some o → G a = none → a ∉ φ → H' a = some o ∧ G' a = none ∧ a ∉ φ'
def EnvR (K : PySem.W.Frag) (G : Hp) (φ : List Addr) (σ : L2.St) (env : Env) : Prop :=
  σ.length = env.length ∧ ∀ (i : Nat) w, env[i]? = some (some w) → ∃ v, σ[i]? = some (some v) ∧ Den K G φ v w

section
variable {T : Tab} {K : PySem.W.Frag} {G G' G2 : Hp} {φ φ' φ2 : List Addr} {S S' : Sto} {H H' H2 : Hp} {σ : L2.St} {env : Env}
theorem Ext.refl : Ext G φ H G φ H := ⟨Same.refl G, ⟨[], (List.append_nil φ).symm⟩, fun _ _ h g n => ⟨h, g, n⟩⟩
theorem Ext.trans (a : Ext G φ H G' φ' H') (b : Ext G' φ' H' G2 φ2 H2) : Ext G φ H G2 φ2 H2 := by
  obtain ⟨ψ1, e1⟩ := a.pre
  obtain ⟨ψ2, e2⟩ := b.pre
  refine ⟨a.same.trans b.same, ⟨ψ1 ++ ψ2, by rw [e2, e1, List.append_assoc]⟩, fun x o h g n => ?_⟩
  obtain ⟨h1, g1, n1⟩ := a.frame x o h g n
  exact b.frame x o h1 g1 n1
theorem Ext.den (a : Ext G φ H G' φ' H') {v : V} {w : Wv} (d : Den K G φ v w) : Den K G' φ' v w := by
  obtain ⟨ψ, e⟩ := a.pre
  subst e
  exact d.mono a.same
theorem Ext.dens (a : Ext G φ H G' φ' H') {v : List V} {w : List Wv} (d : Dens K G φ v w) : Dens K G' φ' v w := by
  obtain ⟨ψ, e⟩ := a.pre
  subst e
  exact d.mono a.same
theorem Ext.envr (a : Ext G φ H G' φ' H') (r : EnvR K G φ σ env) : EnvR K G' φ' σ env :=
  ⟨r.1, fun i w h => let ⟨v, e, d⟩ := r.2 i w h; ⟨v, e, a.den d⟩⟩
theorem EnvR.set (r : EnvR K G φ σ env) {v : V} {w : Wv} (d : Den K G φ v w) (i : Nat) : EnvR K G φ (σ.set i (some v)) (env.set i (some w)) := by
  refine ⟨by rw [List.length_set, List.length_set]; exact r.1, fun j u h => ?_⟩
  by_cases e : i = j
  · subst e
    by_cases hi : i < env.length
    · rw [List.getElem?_set_self hi] at h
      cases h
      exact ⟨v, List.getElem?_set_self (by rw [r.1]; exact hi), d⟩
    · rw [List.getElem?_eq_none (by rw [List.length_set]; omega)] at h
      cases h
  · rw [List.getElem?_set_ne e] at h ⊢
    exact r.2 j u h
theorem EnvR.clr (r : EnvR K G φ σ env) (i : Nat) : EnvR K G φ (σ.set i none) (env.set i none) := by
  refine ⟨by rw [List.length_set, List.length_set]; exact r.1, fun j u h => ?_⟩
  by_cases e : i = j
  · subst e
    by_cases hi : i < env.length
    · rw [List.getElem?_set_self hi] at h; cases h
    · rw [List.getElem?_eq_none (by rw [List.length_set]; omega)] at h; cases h
  · rw [List.getElem?_set_ne e] at h ⊢
    exact r.2 j u h

/-! ### the moves -/
theorem ObjR.mono (hs : Same G G') {ψ : List Addr} {a : Addr} {o : Ob} (e : H' a = H a) (r : ObjR T K G φ H a o) : ObjR T K G' (φ ++ ψ) H' a o := by
  cases o with
  | lst ws => obtain ⟨vs, h, d⟩ := r; exact ⟨vs, e.trans h, d.mono hs⟩
  | dct kvs => obtain ⟨vs, h, d⟩ := r; exact ⟨vs, e.trans h, d.mono hs⟩
  | ins c ws => obtain ⟨dx, vs, h, d, l⟩ := r; exact ⟨dx, vs, e.trans h, d.mono hs, l⟩
  | tab => obtain ⟨h1, ps, h2, k⟩ := r; exact ⟨h1, ps, e.trans h2, k.mono hs⟩
  | lck kvs => obtain ⟨od, vs, h, d⟩ := r; exact ⟨od, vs, hs _ _ h, d.mono hs⟩
  | dead => trivial
theorem Rel.phi (r : Rel T K G φ S H) {k : Nat} {o : Ob} (h : S[k]? = some o) : ∃ a, φ[k]? = some a := by
  have hk := (List.getElem?_eq_some_iff.mp h).1
  exact ⟨φ[k]'(by rw [r.len]; exact hk), List.getElem?_eq_getElem _⟩
theorem Rel.mem {k : Nat} {a : Addr} (h : φ[k]? = some a) : a ∈ φ := List.mem_of_getElem? h
/-- the heap may grow outside -/
theorem Rel.grow (r : Rel T K G φ S H) (h : ∀ a o, H a = some o → H' a = some o) : Rel T K G φ S H' := by
  refine ⟨fun a o e => h a o (r.ex a o e), r.len, r.nd, r.fr, fun k a o e1 e2 => ?_, fun a ha => ?_⟩
  · have q := r.ob k a o e1 e2
    obtain ⟨u, hu⟩ := r.thr a (Rel.mem e1)
    have := ObjR.mono (T := T) (H' := H') (G' := G) (ψ := []) (Same.refl G) ((h a u hu).trans hu.symm) q
    rwa [List.append_nil] at this
  · obtain ⟨o, e⟩ := r.thr a ha; exact ⟨o, h a o e⟩
theorem Ext.grow (h : ∀ a o, H a = some o → H' a = some o) : Ext G φ H G φ H' := ⟨Same.refl G, ⟨[], (List.append_nil φ).symm⟩, fun a o e g n => ⟨h a o e, g, n⟩⟩
theorem up_of {p : Addr} {o : HO} (hp : H p = none) : ∀ a u, H a = some u → upd H p o a = some u := fun a u e => by
  rw [upd_ne (ne_of_none e hp)]; exact e
/-- a new frozen object -/
theorem Rel.frozen (r : Rel T K G φ S H) {p : Addr} (hp : H p = none) (o : HO) : Rel T K (upd G p o) φ S (upd H p o) ∧ Ext G φ H (upd G p o) φ (upd H p o) := by
  have gp : G p = none := by
    cases e : G p with
    | none => rfl
    | some u => rw [r.ex _ _ e] at hp; cases hp
  have sm : Same G (upd G p o) := fun a u e => by rw [upd_ne (ne_of_none e gp)]; exact e
  refine ⟨⟨fun a u e => ?_, r.len, r.nd, fun k a u e1 e2 e3 => ?_, fun k a u e1 e2 => ?_, fun a ha => ?_⟩, ⟨sm, ⟨[], (List.append_nil φ).symm⟩, fun a u e g n => ?_⟩⟩
  · by_cases h : a = p
    · subst h; rw [upd_same] at e ⊢; exact e
    · rw [upd_ne h] at e ⊢; exact r.ex _ _ e
  · obtain ⟨u', hu⟩ := r.thr a (Rel.mem e1)
    rw [upd_ne (ne_of_none hu hp)]
    exact r.fr k a u e1 e2 e3
  · obtain ⟨u', hu⟩ := r.thr a (Rel.mem e1)
    have q := ObjR.mono (T := T) (H' := upd H p o) (ψ := []) sm (upd_ne (ne_of_none hu hp)) (r.ob k a u e1 e2)
    rwa [List.append_nil] at q
  · obtain ⟨u, e⟩ := r.thr a ha; exact ⟨u, up_of hp a u e⟩
  · exact ⟨up_of hp a u e, by rw [upd_ne (ne_of_none e hp)]; exact g, n⟩
/-- a new live object -/
theorem Rel.alive (r : Rel T K G φ S H) {p : Addr} {ho : HO} {o : Ob} (hp : H p = none) (hH : ∀ a u, H a = some u → H' a = some u) (hn : H' p = some ho) (q : ObjR T K G (φ ++ [p]) H' p o) :
    Rel T K G (φ ++ [p]) (S ++ [o]) H' ∧ Ext G φ H G (φ ++ [p]) H' := by
  have gp : G p = none := by
    cases e : G p with
    | none => rfl
    | some u => rw [r.ex _ _ e] at hp; cases hp
  have np : p ∉ φ := fun h => by obtain ⟨u, e⟩ := r.thr p h; rw [hp] at e; cases e
  have ix : ∀ {k : Nat} {a : Addr} {u : Ob}, (φ ++ [p])[k]? = some a → (S ++ [o])[k]? = some u → (φ[k]? = some a ∧ S[k]? = some u) ∨ (a = p ∧ u = o) := by
    intro k a u e1 e2
    by_cases hk : k < φ.length
    · rw [List.getElem?_append_left hk] at e1
      rw [List.getElem?_append_left (by rw [← r.len]; exact hk)] at e2
      exact .inl ⟨e1, e2⟩
    · rw [List.getElem?_append_right (by omega)] at e1
      rw [List.getElem?_append_right (by rw [← r.len]; omega)] at e2
      have k0 : k - φ.length = 0 := by
        have := (List.getElem?_eq_some_iff.mp e1).1
        simp at this; omega
      have k1 : k - S.length = 0 := by rw [← r.len]; exact k0
      rw [k0] at e1; rw [k1] at e2
      simp at e1 e2
      exact .inr ⟨e1.symm, e2.symm⟩
  refine ⟨⟨fun a u e => hH _ _ (r.ex _ _ e), by simp [r.len], ?_, fun k a u e1 e2 e3 => ?_, fun k a u e1 e2 => ?_, fun a ha => ?_⟩, ⟨Same.refl G, ⟨[p], rfl⟩, fun a u e g n => ⟨hH _ _ e, g, fun h => ?_⟩⟩⟩
  · refine List.nodup_append.mpr ⟨r.nd, by simp, fun a ha b hb e => ?_⟩
    simp at hb; subst hb; subst e; exact np ha
  · rcases ix e1 e2 with ⟨f1, f2⟩ | ⟨f1, f2⟩
    · exact r.fr k a u f1 f2 e3
    · rw [f1]; exact gp
  · rcases ix e1 e2 with ⟨f1, f2⟩ | ⟨f1, f2⟩
    · obtain ⟨u', hu⟩ := r.thr a (Rel.mem f1)
      exact ObjR.mono (T := T) (Same.refl G) ((hH _ _ hu).trans hu.symm) (r.ob k a u f1 f2)
    · subst f1; subst f2; exact q
  · rcases List.mem_append.mp ha with h | h
    · obtain ⟨u, e⟩ := r.thr a h; exact ⟨u, hH _ _ e⟩
    · simp at h; subst h; exact ⟨ho, hn⟩
  · rcases List.mem_append.mp h with h | h
    · exact n h
    · simp at h; subst h; rw [hp] at e; cases e
/-- a live object written -/
theorem Rel.write (r : Rel T K G φ S H) {k : Nat} {a : Addr} {o o' : Ob} {ho : HO} (ha : φ[k]? = some a) (hk : S[k]? = some o) (hd : o.own = true) (q : ObjR T K G φ (upd H a ho) a o') :
    Rel T K G φ (S.set k o') (upd H a ho) ∧ Ext G φ H G φ (upd H a ho) := by
  have ga := r.fr k a o ha hk hd
  have ne : ∀ {j : Nat} {b : Addr}, φ[j]? = some b → j ≠ k → b ≠ a := fun {j b} hj hjk e => hjk (L2.nd_ix r.nd hj (by rw [e]; exact ha))
  refine ⟨⟨fun b u e => ?_, by rw [List.length_set]; exact r.len, r.nd, fun j b u e1 e2 e3 => ?_, fun j b u e1 e2 => ?_, fun b hb => ?_⟩, ⟨Same.refl G, ⟨[], (List.append_nil φ).symm⟩, fun b u e g n => ⟨?_, g, n⟩⟩⟩
  · rw [upd_ne (ne_of_none e ga)]; exact r.ex _ _ e
  · by_cases hj : j = k
    · subst hj
      have : b = a := Option.some.inj (e1.symm.trans ha)
      subst this; exact ga
    · rw [List.getElem?_set_ne (Ne.symm hj)] at e2
      exact r.fr j b u e1 e2 e3
  · by_cases hj : j = k
    · subst hj
      have : b = a := Option.some.inj (e1.symm.trans ha)
      subst this
      rw [List.getElem?_set_self (List.getElem?_eq_some_iff.mp hk).1] at e2
      cases e2; exact q
    · rw [List.getElem?_set_ne (Ne.symm hj)] at e2
      have := ObjR.mono (T := T) (H' := upd H a ho) (ψ := []) (Same.refl G) (upd_ne (ne e1 hj)) (r.ob j b u e1 e2)
      rwa [List.append_nil] at this
  · by_cases e : b = a
    · subst e; exact ⟨ho, upd_same⟩
    · obtain ⟨u, h⟩ := r.thr b hb; exact ⟨u, by rw [upd_ne e]; exact h⟩
  · have : b ≠ a := fun z => n (by rw [z]; exact Rel.mem ha)
    rw [upd_ne this]; exact e
/-- a live list is frozen: no more to be changed -/
theorem Rel.freeze (r : Rel T K G φ S H) {k : Nat} {a : Addr} {ws : List Wv} (ha : φ[k]? = some a) (hk : S[k]? = some (.lst ws)) :
    ∃ vs, Rel T K (upd G a (.lst vs)) φ (S.set k .dead) H ∧ Ext G φ H (upd G a (.lst vs)) φ H ∧ Dens K (upd G a (.lst vs)) φ vs ws := by
  obtain ⟨vs, hv, d⟩ := r.ob k a _ ha hk
  have ga := r.fr k a _ ha hk rfl
  have sm : Same G (upd G a (.lst vs)) := fun b u e => by rw [upd_ne (ne_of_none e ga)]; exact e
  have ne : ∀ {j : Nat} {b : Addr}, φ[j]? = some b → j ≠ k → b ≠ a := fun {j b} hj hjk e => hjk (L2.nd_ix r.nd hj (by rw [e]; exact ha))
  have dd : Dens K (upd G a (.lst vs)) φ vs ws := by
    have := Dens.mono (ψ := []) sm d
    rwa [List.append_nil] at this
  refine ⟨vs, ⟨fun b u e => ?_, by rw [List.length_set]; exact r.len, r.nd, fun j b u e1 e2 e3 => ?_, fun j b u e1 e2 => ?_, r.thr⟩, ⟨sm, ⟨[], (List.append_nil φ).symm⟩, fun b u e g n => ⟨e, ?_, n⟩⟩, dd⟩
  · by_cases h : b = a
    · subst h; rw [upd_same] at e; cases e; exact hv
    · rw [upd_ne h] at e; exact r.ex _ _ e
  · by_cases hj : j = k
    · subst hj
      rw [List.getElem?_set_self (List.getElem?_eq_some_iff.mp hk).1] at e2
      cases e2; cases e3
    · rw [List.getElem?_set_ne (Ne.symm hj)] at e2
      rw [upd_ne (ne e1 hj)]
      exact r.fr j b u e1 e2 e3
  · by_cases hj : j = k
    · subst hj
      rw [List.getElem?_set_self (List.getElem?_eq_some_iff.mp hk).1] at e2
      cases e2; trivial
    · rw [List.getElem?_set_ne (Ne.symm hj)] at e2
      have := ObjR.mono (T := T) (H' := H) (ψ := []) sm rfl (r.ob j b u e1 e2)
      rwa [List.append_nil] at this
  · have : b ≠ a := fun z => n (by rw [z]; exact Rel.mem ha)
    rw [upd_ne this]; exact g
end

/-! ### what an outcome wants -/
section
variable {α ν : Type}
def GoodR (R : Hp → List Addr → ν → α → Prop) (T : Tab) (K : PySem.W.Frag) (W : WX) (σ : L2.St) (H : Hp) (G : Hp) (φ : List Addr) (Q : ν → Hp → Prop) : Out α → Prop
  | .ok w S' => ∀ v H' G' φ', Ext G φ H G' φ' H' → Rel T K G' φ' S' H' → R G' φ' v w → Q v H'
  | .exc c S' => ∀ H' G' φ', Ext G φ H G' φ' H' → Rel T K G' φ' S' H' → W (.ref (T.ead c)) none σ H'
  | .bad => False
variable {R : Hp → List Addr → ν → α → Prop} {T : Tab} {K : PySem.W.Frag} {W : WX} {σ : L2.St} {H H' G G' : Hp} {φ φ' : List Addr} {Q : ν → Hp → Prop} {S : Sto}
theorem GoodR.ext {o : Out α} (e : Ext G φ H G' φ' H') (h : GoodR R T K W σ H G φ Q o) : GoodR R T K W σ H' G' φ' Q o := by
  cases o with
  | ok w S => exact fun v H2 G2 φ2 x => h v H2 G2 φ2 (e.trans x)
  | exc c S => exact fun H2 G2 φ2 x => h H2 G2 φ2 (e.trans x)
  | bad => exact h
theorem GoodR.imp {o : Out α} {Q' : ν → Hp → Prop} (h : GoodR R T K W σ H G φ Q o) (i : ∀ v H, Q v H → Q' v H) : GoodR R T K W σ H G φ Q' o := by
  cases o with
  | ok w S => exact fun v H2 G2 φ2 x r d => i _ _ (h v H2 G2 φ2 x r d)
  | exc c S => exact h
  | bad => exact h
/-- the answer at once -/
theorem GoodR.here {w : α} {v : ν} (h : GoodR R T K W σ H G φ Q (.ok w S)) (r : Rel T K G φ S H) (d : R G φ v w) : Q v H := h v H G φ Ext.refl r d
variable {β μ : Type} {R2 : Hp → List Addr → μ → β → Prop} {Q2 : μ → Hp → Prop}
/-- one thing after another -/
theorem GoodR.bind {o : Out α} {g : α → Sto → Out β} (h : GoodR R2 T K W σ H G φ Q2 (o.bind g)) :
    GoodR R T K W σ H G φ (fun v H1 => ∃ w S1 G1 φ1, Ext G φ H G1 φ1 H1 ∧ Rel T K G1 φ1 S1 H1 ∧ R G1 φ1 v w ∧ GoodR R2 T K W σ H1 G1 φ1 Q2 (g w S1)) o := by
  cases o with
  | ok w S => exact fun v H1 G1 φ1 x r d => ⟨w, S, G1, φ1, x, r, d, h.ext x⟩
  | exc c S => exact h
  | bad => exact h
end
abbrev BoolR : Hp → List Addr → Bool → Bool → Prop := fun _ _ a b => a = b
abbrev OptR : Hp → List Addr → Option Int → Option Int → Prop := fun _ _ a b => a = b

def tI (T : Tab) (K : PySem.W.Frag) (W : WX) (f : FE) : TE := fun σ H Q => ∃ env G φ S, Rel T K G φ S H ∧ EnvR K G φ σ env ∧ GoodR (Den K) T K W σ H G φ Q (f env S)
def tA (T : Tab) (K : PySem.W.Frag) (W : WX) (f : FA) : TA := fun σ H Q => ∃ env G φ S, Rel T K G φ S H ∧ EnvR K G φ σ env ∧ GoodR (Dens K) T K W σ H G φ Q (f env S)
def tT (T : Tab) (K : PySem.W.Frag) (W : WX) (f : FT) : TT := fun σ H Q => ∃ env G φ S, Rel T K G φ S H ∧ EnvR K G φ σ env ∧ GoodR BoolR T K W σ H G φ Q (f env S)
def tO (T : Tab) (K : PySem.W.Frag) (W : WX) (f : Env → Sto → Out (Option Int)) : TO := fun σ H Q => ∃ env G φ S, Rel T K G φ S H ∧ EnvR K G φ σ env ∧ GoodR OptR T K W σ H G φ Q (f env S)

/-- what holds of the place where one stands -/
structure At (T : Tab) (X : Cx) (W : WX) (k : Nat) : Prop where
  tk : Takes X W
  calm : X.calm = true
  nd : X.N.Nodup
  room : Room k X.A

abbrev SE (T : Tab) (X : Cx) (W : WX) (e : Expr) (f : FE) : Prop := PE X e (tI T X.K W f)
/-- arguments: n of them, none starred -/
structure SA (T : Tab) (X : Cx) (W : WX) (es : List Expr) (f : FA) : Prop where
  pa : PA X es (tA T X.K W f)
  plain : ∀ pos, (backTo pos (starEach es X.env)).any (·.1) = false
  len : ∀ env S ws S', f env S = .ok ws S' → ws.length = es.length
abbrev ST (T : Tab) (X : Cx) (W : WX) (e : Expr) (f : FT) : Prop := PT X e (tT T X.K W f)
abbrev SO (T : Tab) (X : Cx) (W : WX) (e : Option Expr) (f : Env → Sto → Out (Option Int)) : Prop := PO X e (tO T X.K W f)

section
variable {X : Cx} {e : Expr} {t t' : TE}
theorem pe_imp (h : PE X e t) (i : ∀ σ H Q, t' σ H Q → t σ H Q) : PE X e t' := ⟨fun pins s σ H Q I q => h.run pins s σ H Q I (i σ H Q q)⟩
theorem pt_imp {t t' : TT} (h : PT X e t) (i : ∀ σ H Q, t' σ H Q → t σ H Q) : PT X e t' := ⟨fun pins s σ H Q I q => h.run pins s σ H Q I (i σ H Q q)⟩
theorem pw_imp {t t' : TT} (h : PW X e t) (i : ∀ σ H Q, t' σ H Q → t σ H Q) : PW X e t' := ⟨fun whole pins s σ H Q I q => h.run whole pins s σ H Q I (i σ H Q q)⟩
theorem pa_imp {es : List Expr} {t t' : TA} (h : PA X es t) (i : ∀ σ H Q, t' σ H Q → t σ H Q) : PA X es t' := ⟨fun pos pins s σ H Q I q => h.run pos pins s σ H Q I (i σ H Q q)⟩
theorem po_imp {eo : Option Expr} {t t' : TO} (h : PO X eo t) (i : ∀ σ H Q, t' σ H Q → t σ H Q) : PO X eo t' := ⟨fun pins s σ H Q I q => h.run pins s σ H Q I (i σ H Q q)⟩
theorem pc_imp {op : CmpOp} {a b : Expr} (h : PC X op a b t) (i : ∀ σ H Q, t' σ H Q → t σ H Q) : PC X op a b t' := ⟨fun pins s σ H Q I q => h.run pins s σ H Q I (i σ H Q q)⟩
theorem ps_imp {st : Stmt} {t t' : TS} (h : PS X st t) (i : ∀ D σ H, t' D σ H → t D σ H) : PS X st t' := ⟨fun pins s σ H D I q => h.run pins s σ H D I (i D σ H q)⟩
theorem pss_imp {st : List Stmt} {t t' : TS} (h : PSs X st t) (i : ∀ D σ H, t' D σ H → t D σ H) : PSs X st t' := ⟨fun pins s σ H D I q => h.run pins s σ H D I (i D σ H q)⟩
end

/-! ### the first combinators -/
def fVar (i : Nat) : FE := fun env S => match env[i]? with
  | some (some w) => .ok w S
  | _ => .bad
def fC (w : Wv) : FE := fun _ S => .ok w S
def f1 (g : Wv → Sto → Out Wv) (fa : FE) : FE := fun env S => (fa env S).bind g
def f2 (g : Wv → Wv → Sto → Out Wv) (fa fb : FE) : FE := fun env S => (fa env S).bind fun x S1 => (fb env S1).bind fun y S2 => g x y S2
def fNil : FA := fun _ S => .ok [] S
def fCons (fa : FE) (fr : FA) : FA := fun env S => (fa env S).bind fun x S1 => (fr env S1).bind fun xs S2 => .ok (x :: xs) S2
def fN (g : List Wv → Sto → Out Wv) (fa : FA) : FE := fun env S => (fa env S).bind g
def fMN (g : Wv → List Wv → Sto → Out Wv) (fo : FE) (fa : FA) : FE := fun env S => (fo env S).bind fun x S1 => (fa env S1).bind fun ys S2 => g x ys S2
/-- the value of a test -/
def fTest (fa : FE) : FT := fun env S => (fa env S).bind fun x S1 => match x with
  | .bl b => .ok b S1
  | _ => .bad
def fTAnd (fa fb : FT) : FT := fun env S => (fa env S).bind fun b S1 => if b then fb env S1 else .ok false S1
def fTOr (fa fb : FT) : FT := fun env S => (fa env S).bind fun b S1 => if b then .ok true S1 else fb env S1
def fTNot (fa : FT) : FT := fun env S => (fa env S).bind fun b S1 => .ok (!b) S1
def fAndV (fa fb : FE) : FE := fun env S => (fa env S).bind fun x S1 => match x with
  | .bl true => fb env S1
  | .bl false => .ok (.bl false) S1
  | _ => .bad
def fOrV (fa fb : FE) : FE := fun env S => (fa env S).bind fun x S1 => match x with
  | .bl false => fb env S1
  | .bl true => .ok (.bl true) S1
  | _ => .bad
def notP : Wv → Sto → Out Wv := fun x S => match x with
  | .bl b => .ok (.bl (!b)) S
  | _ => .bad

/-- what a one-place, a two-place, a many-place step of the machine is worth -/
def G1 (T : Tab) (K : PySem.W.Frag) (W : WX) (r : V → Hp → VK → Prop) (g : Wv → Sto → Out Wv) : Prop :=
  ∀ (x : V) (w : Wv) (σ : L2.St) (G : Hp) (φ : List Addr) (S : Sto) (H : Hp) (Q : VK), Rel T K G φ S H → Den K G φ x w → GoodR (Den K) T K W σ H G φ Q (g w S) → r x H Q
def G2 (T : Tab) (K : PySem.W.Frag) (W : WX) (r : R2) (g : Wv → Wv → Sto → Out Wv) : Prop :=
  ∀ (x y : V) (w u : Wv) (σ : L2.St) (G : Hp) (φ : List Addr) (S : Sto) (H : Hp) (Q : VK), Rel T K G φ S H → Den K G φ x w → Den K G φ y u → GoodR (Den K) T K W σ H G φ Q (g w u S) → r x y H Q
def GN (T : Tab) (K : PySem.W.Frag) (W : WX) (r : List V → Hp → VK → Prop) (g : List Wv → Sto → Out Wv) : Prop :=
  ∀ (xs : List V) (ws : List Wv) (σ : L2.St) (G : Hp) (φ : List Addr) (S : Sto) (H : Hp) (Q : VK), Rel T K G φ S H → Dens K G φ xs ws → GoodR (Den K) T K W σ H G φ Q (g ws S) → r xs H Q

section
variable {T : Tab} {X : Cx} {W : WX} {k : Nat} {a b e : Expr} {es rest : List Expr} {fa fb : FE} {fr : FA} {pos : Pos} {ta tb : FT}
theorem se_var {i : Nat} {x : Str} (hN : X.N[i]? = some x) (hv : Vis X.env.scope x) (hd : (x == ("__debug__" : Str)) = false := by decide) (hcd : (x == ("__classdict__" : Str)) = false := by decide) : SE T X W (.Name x pos) (fVar i) :=
  pe_imp (pe_var hN hv hd hcd) fun σ H Q ⟨env, G, φ, S, r, er, g⟩ => by
    unfold fVar at g
    cases h : env[i]? with
    | none => rw [h] at g; exact g.elim
    | some o =>
      cases o with
      | none => rw [h] at g; exact g.elim
      | some w =>
        rw [h] at g
        obtain ⟨v, e, d⟩ := er.2 i w h
        exact ⟨v, e, g.here r d⟩
theorem se_c {v : V} {w : Wv} (h : PE X e (tC v)) (d : ∀ K G φ, Den K G φ v w) : SE T X W e (fC w) :=
  pe_imp h fun σ H Q ⟨env, G, φ, S, r, er, g⟩ => GoodR.here (S := S) (w := w) g r (d _ _ _)
theorem se_int {i : Int} {j : Nat} : SE T X W (.Constant (.int i) j pos) (fC (.int i)) := se_c pe_int fun _ _ _ => .int i
theorem se_bl {i : Bool} {j : Nat} : SE T X W (.Constant (.bool i) j pos) (fC (.bl i)) := se_c pe_bl fun _ _ _ => .bl i
theorem se_non {j : Nat} : SE T X W (.Constant .none j pos) (fC .non) := se_c pe_non fun _ _ _ => .non
theorem se_str {x : Str} {j : Nat} : SE T X W (.Constant (.str x) j pos) (fC (.str x)) := se_c pe_str fun _ _ _ => .str x
theorem s_op {r : R2} {g : Wv → Wv → Sto → Out Wv} (hr : G2 T X.K W r g) : ∀ σ H Q, tI T X.K W (f2 g fa fb) σ H Q → tOp r (tI T X.K W fa) (tI T X.K W fb) σ H Q :=
  fun σ H Q ⟨env, G, φ, S, rl, er, gd⟩ => ⟨env, G, φ, S, rl, er, (GoodR.bind gd).imp fun x H1 ⟨w, S1, G1, φ1, x1, r1, d1, g1⟩ =>
    ⟨env, G1, φ1, S1, r1, x1.envr er, (GoodR.bind g1).imp fun y H2 ⟨u, S2, G2, φ2, x2, r2, d2, g2⟩ => hr x y w u σ G2 φ2 S2 H2 Q r2 (x2.den d1) d2 g2⟩⟩
theorem s_un {r : V → Hp → VK → Prop} {g : Wv → Sto → Out Wv} (hr : G1 T X.K W r g) : ∀ σ H Q, tI T X.K W (f1 g fa) σ H Q → tUn r (tI T X.K W fa) σ H Q :=
  fun σ H Q ⟨env, G, φ, S, rl, er, gd⟩ => ⟨env, G, φ, S, rl, er, (GoodR.bind gd).imp fun x H1 ⟨w, S1, G1, φ1, x1, r1, d1, g1⟩ => hr x w σ G1 φ1 S1 H1 Q r1 d1 g1⟩
theorem s_cb {r : List V → Hp → VK → Prop} {g : List Wv → Sto → Out Wv} (hr : GN T X.K W r g) : ∀ σ H Q, tI T X.K W (fN g fr) σ H Q → tCB r (tA T X.K W fr) σ H Q :=
  fun σ H Q ⟨env, G, φ, S, rl, er, gd⟩ => ⟨env, G, φ, S, rl, er, (GoodR.bind gd).imp fun x H1 ⟨w, S1, G1, φ1, x1, r1, d1, g1⟩ => hr x w σ G1 φ1 S1 H1 Q r1 d1 g1⟩
theorem se_op {op : Operator} {r : R2} {g : Wv → Wv → Sto → Out Wv} (ho : OpR X (binaryOp op) r) (hr : G2 T X.K W r g) (ha : SE T X W a fa) (hb : SE T X W b fb) : SE T X W (.BinOp a op b pos) (f2 g fa fb) := pe_imp (pe_op ho ha hb) (s_op hr)
theorem se_un {op : UnaryOp} {r : V → Hp → VK → Prop} {g : Wv → Sto → Out Wv} (ho : UnR X (unaryOp op) r) (hr : G1 T X.K W r g) (ha : SE T X W a fa) : SE T X W (.UnaryOp op a pos) (f1 g fa) := pe_imp (pe_un ho ha) (s_un hr)
theorem se_cmp {op : CmpOp} {r : R2} {g : Wv → Wv → Sto → Out Wv} (ho : OpR X (compareOp op) r) (hr : G2 T X.K W r g) (ha : SE T X W a fa) (hb : SE T X W b fb) (hm : behindInMarks op b = false) : SE T X W (.Compare a [op] [b] pos) (f2 g fa fb) := pe_imp (pe_cmpR ho ha hb hm) (s_op hr)
theorem sa_nil : SA T X W [] fNil := ⟨pa_imp pa_nil fun σ H Q ⟨env, G, φ, S, r, er, g⟩ => GoodR.here (S := S) g r .nil, fun _ => rfl, fun env S ws S' h => by cases h; rfl⟩
theorem sa_cons (ha : SE T X W e fa) (hr : SA T X W es fr) (hs : starEach (e :: es) X.env = (false, eval e X.env) :: starEach es X.env) : SA T X W (e :: es) (fCons fa fr) :=
  ⟨pa_imp (pa_cons ha hr.pa hs) fun σ H Q ⟨env, G, φ, S, rl, er, gd⟩ => ⟨env, G, φ, S, rl, er, (GoodR.bind gd).imp fun x H1 ⟨w, S1, G1, φ1, x1, r1, d1, g1⟩ =>
    ⟨env, G1, φ1, S1, r1, x1.envr er, (GoodR.bind g1).imp fun y H2 ⟨u, S2, G2, φ2, x2, r2, d2, g2⟩ => GoodR.here (S := S2) g2 r2 (.cons (x2.den d1) d2)⟩⟩, fun pos => by
      rw [hs]
      show (false || (backTo pos (starEach es X.env)).any (·.1)) = false
      rw [hr.plain]; rfl, fun env S ws S' h => by
      unfold fCons at h
      cases q : fa env S with
      | ok w S1 =>
        rw [q] at h
        have h : (fr env S1).bind (fun xs S2 => Out.ok (w :: xs) S2) = .ok ws S' := h
        cases q2 : fr env S1 with
        | ok us S2 =>
          rw [q2] at h; cases h
          rw [List.length_cons, List.length_cons, hr.len _ _ _ _ q2]
        | exc c S2 => rw [q2] at h; cases h
        | bad => rw [q2] at h; cases h
      | exc c S1 => rw [q] at h; cases h
      | bad => rw [q] at h; cases h⟩
/-! tests -/
theorem s_test : ∀ σ H Q, tT T X.K W (fTest fa) σ H Q → tB (tI T X.K W fa) σ H Q := fun σ H Q ⟨env, G, φ, S, rl, er, gd⟩ =>
  ⟨env, G, φ, S, rl, er, (GoodR.bind gd).imp fun x H1 ⟨w, S1, G1, φ1, x1, r1, d1, g1⟩ => by
    cases d1 with
    | bl c => exact ⟨c, rfl, GoodR.here (S := S1) g1 r1 rfl⟩
    | _ => exact g1.elim⟩
theorem st_val (h : SE T X W e fa) (he : ∀ whole, isTrue e X.env whole = (do let v ← whole; standAt e.pos; holding [v] (truthy v))) : ST T X W e (fTest fa) := pt_imp (pt_val h he) s_test
theorem st_cmp {op : CmpOp} {r : R2} {g : Wv → Wv → Sto → Out Wv} (ho : OpR X (compareOp op) r) (hr : G2 T X.K W r g) (ha : SE T X W a fa) (hb : SE T X W b fb) (hm : behindInMarks op b = false) : ST T X W (.Compare a [op] [b] pos) (fTest (f2 g fa fb)) :=
  pt_imp (pt_cmpR ho ha hb hm) fun σ H Q h => by
    have q := s_test (T := T) (X := X) (W := W) (fa := f2 g fa fb) σ H Q h
    exact s_op hr σ H _ q
theorem s_and : ∀ σ H Q, tT T X.K W (fTAnd ta tb) σ H Q → tAnd (tT T X.K W ta) (tT T X.K W tb) σ H Q := fun σ H Q ⟨env, G, φ, S, rl, er, gd⟩ =>
  ⟨env, G, φ, S, rl, er, (GoodR.bind gd).imp fun x H1 ⟨w, S1, G1, φ1, x1, r1, d1, g1⟩ => by
    cases d1
    cases x with
    | true => exact ⟨env, G1, φ1, S1, r1, x1.envr er, g1⟩
    | false => exact GoodR.here (S := S1) g1 r1 rfl⟩
theorem s_or : ∀ σ H Q, tT T X.K W (fTOr ta tb) σ H Q → tOr (tT T X.K W ta) (tT T X.K W tb) σ H Q := fun σ H Q ⟨env, G, φ, S, rl, er, gd⟩ =>
  ⟨env, G, φ, S, rl, er, (GoodR.bind gd).imp fun x H1 ⟨w, S1, G1, φ1, x1, r1, d1, g1⟩ => by
    cases d1
    cases x with
    | true => exact GoodR.here (S := S1) g1 r1 rfl
    | false => exact ⟨env, G1, φ1, S1, r1, x1.envr er, g1⟩⟩
abbrev SW (T : Tab) (X : Cx) (W : WX) (e : Expr) (f : FT) : Prop := PW X e (tT T X.K W f)
theorem sw_and1 (h : ST T X W a ta) : SW T X W (.BoolOp .And [a] pos) ta := pw_and1 h
theorem sw_or1 (h : ST T X W a ta) : SW T X W (.BoolOp .Or [a] pos) ta := pw_or1 h
theorem sw_and (h : ST T X W a ta) (hb : SW T X W (.BoolOp .And (b :: rest) pos) tb) : SW T X W (.BoolOp .And (a :: b :: rest) pos) (fTAnd ta tb) := pw_imp (pw_and h hb) s_and
theorem sw_or (h : ST T X W a ta) (hb : SW T X W (.BoolOp .Or (b :: rest) pos) tb) : SW T X W (.BoolOp .Or (a :: b :: rest) pos) (fTOr ta tb) := pw_imp (pw_or h hb) s_or
theorem st_w (h : SW T X W e ta) : ST T X W e ta := PW.pt h
theorem st_not (h : ST T X W a ta) : ST T X W (.UnaryOp .Not a pos) (fTNot ta) := pt_imp (pt_not h) fun σ H Q ⟨env, G, φ, S, rl, er, gd⟩ =>
  ⟨env, G, φ, S, rl, er, (GoodR.bind gd).imp fun x H1 ⟨w, S1, G1, φ1, x1, r1, d1, g1⟩ => by
    cases d1
    exact GoodR.here (S := S1) g1 r1 rfl⟩
/-! and, or, not as values -/
theorem se_one {op : BoolOp} (h : SE T X W a fa) : SE T X W (.BoolOp op [a] pos) fa := pe_one h
theorem se_and (ha : SE T X W a fa) (hb : SE T X W (.BoolOp .And (b :: rest) pos) fb) : SE T X W (.BoolOp .And (a :: b :: rest) pos) (fAndV fa fb) := pe_imp (pe_and ha hb) fun σ H Q ⟨env, G, φ, S, rl, er, gd⟩ =>
  ⟨env, G, φ, S, rl, er, (GoodR.bind gd).imp fun x H1 ⟨w, S1, G1, φ1, x1, r1, d1, g1⟩ => by
    cases d1 with
    | bl c =>
      cases c with
      | true => exact ⟨true, rfl, env, G1, φ1, S1, r1, x1.envr er, g1⟩
      | false => exact ⟨false, rfl, GoodR.here (S := S1) g1 r1 (.bl false)⟩
    | _ => exact g1.elim⟩
theorem se_or (ha : SE T X W a fa) (hb : SE T X W (.BoolOp .Or (b :: rest) pos) fb) : SE T X W (.BoolOp .Or (a :: b :: rest) pos) (fOrV fa fb) := pe_imp (pe_or ha hb) fun σ H Q ⟨env, G, φ, S, rl, er, gd⟩ =>
  ⟨env, G, φ, S, rl, er, (GoodR.bind gd).imp fun x H1 ⟨w, S1, G1, φ1, x1, r1, d1, g1⟩ => by
    cases d1 with
    | bl c =>
      cases c with
      | true => exact ⟨true, rfl, GoodR.here (S := S1) g1 r1 (.bl true)⟩
      | false => exact ⟨false, rfl, env, G1, φ1, S1, r1, x1.envr er, g1⟩
    | _ => exact g1.elim⟩
theorem se_not (ha : SE T X W a fa) : SE T X W (.UnaryOp .Not a pos) (f1 notP fa) := pe_imp (pe_not ha) fun σ H Q ⟨env, G, φ, S, rl, er, gd⟩ =>
  ⟨env, G, φ, S, rl, er, (GoodR.bind gd).imp fun x H1 ⟨w, S1, G1, φ1, x1, r1, d1, g1⟩ => by
    cases d1 with
    | bl c => exact ⟨c, rfl, GoodR.here (S := S1) g1 r1 (.bl _)⟩
    | _ => exact g1.elim⟩
end
end CL
namespace CL
open PySem PySem.Spec PyProof.Rows L2

theorem line_eq : sizeLine = 16777216 := by decide
def lenOk (n : Nat) : Bool := decide (n ≤ 1000000)
theorem lenOk_le {n : Nat} (h : lenOk n = true) : n ≤ sizeLine := by
  have := of_decide_eq_true h
  rw [line_eq]; omega
theorem lenOk_lt {n : Nat} (h : lenOk n = true) : n < sizeLine := by
  have := of_decide_eq_true h
  rw [line_eq]; omega

/-! ### reading -/
def intsOf : List Wv → Option (List Int)
  | [] => some []
  | .int i :: r => (intsOf r).map (i :: ·)
  | _ :: _ => none
theorem intsOf_eq : ∀ {ws : List Wv} {ns : List Int}, intsOf ws = some ns → ws = ns.map .int
  | [], ns, h => by cases h; rfl
  | .int i :: r, ns, h => by
    unfold intsOf at h
    cases e : intsOf r with
    | none => rw [e] at h; cases h
    | some ms => rw [e] at h; cases h; rw [intsOf_eq e]; rfl
  | .non :: _, _, h => by simp [intsOf] at h
  | .bl _ :: _, _, h => by simp [intsOf] at h
  | .str _ :: _, _, h => by simp [intsOf] at h
  | .tup _ :: _, _, h => by simp [intsOf] at h
  | .lst _ :: _, _, h => by simp [intsOf] at h
  | .scr _ :: _, _, h => by simp [intsOf] at h
  | .exn _ :: _, _, h => by simp [intsOf] at h
  | .ref _ :: _, _, h => by simp [intsOf] at h
theorem intsOf_map : ∀ ns : List Int, intsOf (ns.map .int) = some ns
  | [] => rfl
  | n :: r => by show (intsOf (r.map .int)).map (n :: ·) = _; rw [intsOf_map r]; rfl
def strsOf : List Wv → Option (List Str)
  | [] => some []
  | .str i :: r => (strsOf r).map (i :: ·)
  | _ :: _ => none
theorem strsOf_eq : ∀ {ws : List Wv} {ns : List Str}, strsOf ws = some ns → ws = ns.map .str
  | [], ns, h => by cases h; rfl
  | .str i :: r, ns, h => by
    unfold strsOf at h
    cases e : strsOf r with
    | none => rw [e] at h; cases h
    | some ms => rw [e] at h; cases h; rw [strsOf_eq e]; rfl
  | .non :: _, _, h => by simp [strsOf] at h
  | .bl _ :: _, _, h => by simp [strsOf] at h
  | .int _ :: _, _, h => by simp [strsOf] at h
  | .tup _ :: _, _, h => by simp [strsOf] at h
  | .lst _ :: _, _, h => by simp [strsOf] at h
  | .scr _ :: _, _, h => by simp [strsOf] at h
  | .exn _ :: _, _, h => by simp [strsOf] at h
  | .ref _ :: _, _, h => by simp [strsOf] at h
theorem strsOf_map : ∀ ns : List Str, strsOf (ns.map .str) = some ns
  | [] => rfl
  | n :: r => by show (strsOf (r.map .str)).map (n :: ·) = _; rw [strsOf_map r]; rfl
def blsOf : List Wv → Option (List Bool)
  | [] => some []
  | .bl i :: r => (blsOf r).map (i :: ·)
  | _ :: _ => none
theorem blsOf_eq : ∀ {ws : List Wv} {ns : List Bool}, blsOf ws = some ns → ws = ns.map .bl
  | [], ns, h => by cases h; rfl
  | .bl i :: r, ns, h => by
    unfold blsOf at h
    cases e : blsOf r with
    | none => rw [e] at h; cases h
    | some ms => rw [e] at h; cases h; rw [blsOf_eq e]; rfl
  | .non :: _, _, h => by simp [blsOf] at h
  | .str _ :: _, _, h => by simp [blsOf] at h
  | .int _ :: _, _, h => by simp [blsOf] at h
  | .tup _ :: _, _, h => by simp [blsOf] at h
  | .lst _ :: _, _, h => by simp [blsOf] at h
  | .scr _ :: _, _, h => by simp [blsOf] at h
  | .exn _ :: _, _, h => by simp [blsOf] at h
  | .ref _ :: _, _, h => by simp [blsOf] at h
theorem blsOf_map : ∀ ns : List Bool, blsOf (ns.map .bl) = some ns
  | [] => rfl
  | n :: r => by show (blsOf (r.map .bl)).map (n :: ·) = _; rw [blsOf_map r]; rfl
/-- what a list holds -/
def seqOf (S : Sto) : Wv → Option (List Wv)
  | .lst xs => some xs
  | .scr ns => some (ns.map .int)
  | .ref k => match S[k]? with
    | some (.lst xs) => some xs
    | _ => none
  | _ => none
def tupOf : Wv → Option (List Wv)
  | .tup xs => some xs
  | _ => none
/-- a list that may be changed or joined: what it holds (the script is none) -/
def lstOf (S : Sto) : Wv → Option (List Wv)
  | .lst xs => some xs
  | .ref k => match S[k]? with
    | some (.lst xs) => some xs
    | _ => none
  | _ => none
section
variable {T : Tab} {K : PySem.W.Frag} {G : Hp} {φ : List Addr} {S : Sto} {H : Hp} {v : V} {w : Wv} {xs : List Wv}
theorem Rel.lref (r : Rel T K G φ S H) {k : Nat} (h : S[k]? = some (.lst xs)) {a : Addr} (ha : φ[k]? = some a) : ∃ vs, H a = some (.lst vs) ∧ Dens K G φ vs xs := r.ob k a _ ha h
theorem lst_rd (r : Rel T K G φ S H) (d : Den K G φ v w) (h : lstOf S w = some xs) : ∃ a vs, v = .ref a ∧ H a = some (.lst vs) ∧ Dens K G φ vs xs := by
  cases d with
  | lst e dd => cases h; exact ⟨_, _, rfl, r.ex _ _ e, dd⟩
  | @ref k a e =>
    simp only [lstOf] at h
    cases q : S[k]? with
    | none => rw [q] at h; cases h
    | some o =>
      cases o with
      | lst ys => rw [q] at h; cases h; obtain ⟨vs, e1, e2⟩ := r.lref q e; exact ⟨_, _, rfl, e1, e2⟩
      | dct _ => rw [q] at h; cases h
      | ins _ _ => rw [q] at h; cases h
      | dead => rw [q] at h; cases h
      | tab => rw [q] at h; cases h
      | lck d => rw [q] at h; cases h
  | _ => cases h
theorem seq_rd (r : Rel T K G φ S H) (d : Den K G φ v w) (h : seqOf S w = some xs) : ∃ a vs, v = .ref a ∧ SqL K H a vs ∧ Dens K G φ vs xs := by
  cases d with
  | lst e dd => cases h; exact ⟨_, _, rfl, SqL.of (r.ex _ _ e), dd⟩
  | scr e => cases h; exact ⟨_, _, rfl, r.ex.seq e, Dens.ints _⟩
  | @ref k a e =>
    simp only [seqOf] at h
    cases q : S[k]? with
    | none => rw [q] at h; cases h
    | some o =>
      cases o with
      | lst ys => rw [q] at h; cases h; obtain ⟨vs, e1, e2⟩ := r.lref q e; exact ⟨_, _, rfl, SqL.of e1, e2⟩
      | dct _ => rw [q] at h; cases h
      | ins _ _ => rw [q] at h; cases h
      | dead => rw [q] at h; cases h
      | tab => rw [q] at h; cases h
      | lck d => rw [q] at h; cases h
  | _ => cases h
theorem tup_rd (r : Rel T K G φ S H) (d : Den K G φ v w) (h : tupOf w = some xs) : ∃ a vs, v = .ref a ∧ H a = some (.tup vs) ∧ Dens K G φ vs xs := by
  cases d with
  | tup e dd => cases h; exact ⟨_, _, rfl, r.ex _ _ e, dd⟩
  | _ => cases h
end

/-! ### making -/
def mkL (live : Bool) (ws : List Wv) (S : Sto) : Out Wv := if live = true then .ok (.ref S.length) (S ++ [.lst ws]) else .ok (.lst ws) S
section
variable {T : Tab} {K : PySem.W.Frag} {W : WX} {σ : L2.St} {G : Hp} {φ : List Addr} {S : Sto} {H : Hp} {Q : VK} {p : Addr} {vs : List V} {ws : List Wv}
theorem made_tup (r : Rel T K G φ S H) (hp : H p = none) (d : Dens K G φ vs ws) (gd : GoodR (Den K) T K W σ H G φ Q (.ok (.tup ws) S)) : Q (.ref p) (upd H p (.tup vs)) := by
  obtain ⟨r', x⟩ := r.frozen hp (.tup vs)
  exact gd _ _ _ _ x r' (.tup upd_same (x.dens d))
theorem made_lst (live : Bool) (r : Rel T K G φ S H) (hp : H p = none) (d : Dens K G φ vs ws) (gd : GoodR (Den K) T K W σ H G φ Q (mkL live ws S)) : Q (.ref p) (upd H p (.lst vs)) := by
  cases live with
  | false =>
    obtain ⟨r', x⟩ := r.frozen hp (.lst vs)
    exact gd _ _ _ _ x r' (.lst upd_same (x.dens d))
  | true =>
    obtain ⟨r', x⟩ := r.alive (ho := .lst vs) (o := .lst ws) hp (up_of hp) upd_same ⟨vs, upd_same, Dens.mono (Same.refl G) d⟩
    exact gd _ _ _ _ x r' (.ref (by rw [← r.len]; simp))
end

/-! ### arithmetic -/
def addI : Wv → Wv → Sto → Out Wv
  | .int i, .int j, S => .ok (.int (i + j)) S
  | _, _, _ => .bad
def subI : Wv → Wv → Sto → Out Wv
  | .int i, .int j, S => .ok (.int (i - j)) S
  | _, _, _ => .bad
def mulI : Wv → Wv → Sto → Out Wv
  | .int i, .int j, S => if (-(2 ^ 64) < i ∧ i < 2 ^ 64) ∨ (-(2 ^ 64) < j ∧ j < 2 ^ 64) then .ok (.int (i * j)) S else .bad
  | _, _, _ => .bad
def fdivI : Wv → Wv → Sto → Out Wv
  | .int i, .int j, S => if 0 < j ∧ j < 1073741824 then .ok (.int (i / j)) S else .bad
  | _, _, _ => .bad
def modI : Wv → Wv → Sto → Out Wv
  | .int i, .int j, S => if 0 < j then .ok (.int (i % j)) S else .bad
  | _, _, _ => .bad
def powI : Wv → Wv → Sto → Out Wv
  | .int i, .int j, S => if 0 ≤ j ∧ j ≤ 1000000 ∧ i.natAbs < 2 ^ 64 then .ok (.int (i ^ j.toNat)) S else .bad
  | _, _, _ => .bad
def cmpI (p : Int → Int → Bool) : Wv → Wv → Sto → Out Wv
  | .int i, .int j, S => .ok (.bl (p i j)) S
  | _, _, _ => .bad
def negI : Wv → Sto → Out Wv
  | .int i, S => .ok (.int (-i)) S
  | _, _ => .bad
section
variable {T : Tab} {K : PySem.W.Frag} {W : WX}
theorem g_I0 {g : Int → Int → V} {f : Wv → Wv → Sto → Out Wv} {g' : Int → Int → Wv} (hf : ∀ i j S, f (.int i) (.int j) S = .ok (g' i j) S) (hg : ∀ i j G φ, Den K G φ (g i j) (g' i j))
    (hb : ∀ x y S, (∀ i j, x = .int i → y = .int j → False) → f x y S = .bad) : G2 T K W (rI0 g) f := fun x y w u σ G φ S H Q r dx dy gd => by
  have bad : (∀ i j, w = .int i → u = .int j → False) → rI0 g x y H Q := fun h => by rw [hb _ _ _ h] at gd; exact gd.elim
  cases dx with
  | int i =>
    cases dy with
    | int j => rw [hf] at gd; exact ⟨i, j, rfl, rfl, gd.here r (hg i j G φ)⟩
    | _ => exact bad (fun _ _ _ h => by cases h)
  | _ => exact bad (fun _ _ h _ => by cases h)
theorem g_I {C : Int → Int → Prop} {g : Int → Int → V} {f : Wv → Wv → Sto → Out Wv} {g' : Int → Int → Wv} (hf : ∀ i j S, (C i j ∧ f (.int i) (.int j) S = .ok (g' i j) S) ∨ f (.int i) (.int j) S = .bad) (hg : ∀ i j G φ, Den K G φ (g i j) (g' i j))
    (hb : ∀ x y S, (∀ i j, x = .int i → y = .int j → False) → f x y S = .bad) : G2 T K W (rI C g) f := fun x y w u σ G φ S H Q r dx dy gd => by
  have bad : (∀ i j, w = .int i → u = .int j → False) → rI C g x y H Q := fun h => by rw [hb _ _ _ h] at gd; exact gd.elim
  cases dx with
  | int i =>
    cases dy with
    | int j =>
      rcases hf i j S with ⟨c, e⟩ | e
      · rw [e] at gd; exact ⟨i, j, rfl, rfl, c, gd.here r (hg i j G φ)⟩
      · rw [e] at gd; exact gd.elim
    | _ => exact bad (fun _ _ _ h => by cases h)
  | _ => exact bad (fun _ _ h _ => by cases h)
theorem nn_int {f : Wv → Wv → Sto → Out Wv} (h : ∀ x y S, f x y S = .bad ∨ ∃ i j, x = .int i ∧ y = .int j) : ∀ x y S, (∀ i j, x = .int i → y = .int j → False) → f x y S = .bad := fun x y S n => by
  rcases h x y S with e | ⟨i, j, e1, e2⟩
  · exact e
  · exact (n i j e1 e2).elim
theorem g_add : G2 T K W (rI0 fun i j => .int (i + j)) addI := g_I0 (g' := fun i j => .int (i + j)) (fun _ _ _ => rfl) (fun _ _ _ _ => .int _) (nn_int fun x y S => by cases x <;> cases y <;> first | exact .inr ⟨_, _, rfl, rfl⟩ | exact .inl rfl)
theorem g_sub : G2 T K W (rI0 fun i j => .int (i - j)) subI := g_I0 (g' := fun i j => .int (i - j)) (fun _ _ _ => rfl) (fun _ _ _ _ => .int _) (nn_int fun x y S => by cases x <;> cases y <;> first | exact .inr ⟨_, _, rfl, rfl⟩ | exact .inl rfl)
theorem g_cmpI (p : Int → Int → Bool) : G2 T K W (rI0 fun i j => .bl (p i j)) (cmpI p) := g_I0 (g' := fun i j => .bl (p i j)) (fun _ _ _ => rfl) (fun _ _ _ _ => .bl _) (nn_int fun x y S => by cases x <;> cases y <;> first | exact .inr ⟨_, _, rfl, rfl⟩ | exact .inl rfl)
theorem g_mul : G2 T K W (rI CMul fun i j => .int (i * j)) mulI := g_I (g' := fun i j => .int (i * j)) (fun i j S => by
    by_cases h : (-(2 ^ 64) < i ∧ i < 2 ^ 64) ∨ (-(2 ^ 64) < j ∧ j < 2 ^ 64)
    · exact .inl ⟨h, if_pos h⟩
    · exact .inr (if_neg h)) (fun _ _ _ _ => .int _) (nn_int fun x y S => by cases x <;> cases y <;> first | exact .inr ⟨_, _, rfl, rfl⟩ | exact .inl rfl)
theorem g_fdiv : G2 T K W (rI CDiv fun i j => .int (i / j)) fdivI := g_I (g' := fun i j => .int (i / j)) (fun i j S => by
    by_cases h : 0 < j ∧ j < 1073741824
    · exact .inl ⟨h, if_pos h⟩
    · exact .inr (if_neg h)) (fun _ _ _ _ => .int _) (nn_int fun x y S => by cases x <;> cases y <;> first | exact .inr ⟨_, _, rfl, rfl⟩ | exact .inl rfl)
theorem g_mod : G2 T K W (rI (fun _ j => 0 < j) fun i j => .int (i % j)) modI := g_I (g' := fun i j => .int (i % j)) (fun i j S => by
    by_cases h : 0 < j
    · exact .inl ⟨h, if_pos h⟩
    · exact .inr (if_neg h)) (fun _ _ _ _ => .int _) (nn_int fun x y S => by cases x <;> cases y <;> first | exact .inr ⟨_, _, rfl, rfl⟩ | exact .inl rfl)
theorem g_pow : G2 T K W (rI CPow fun i j => .int (i ^ j.toNat)) powI := g_I (g' := fun i j => .int (i ^ j.toNat)) (fun i j S => by
    by_cases h : 0 ≤ j ∧ j ≤ 1000000 ∧ i.natAbs < 2 ^ 64
    · exact .inl ⟨h, if_pos h⟩
    · exact .inr (if_neg h)) (fun _ _ _ _ => .int _) (nn_int fun x y S => by cases x <;> cases y <;> first | exact .inr ⟨_, _, rfl, rfl⟩ | exact .inl rfl)
theorem g_neg : G1 T K W (rU fun i => .int (-i)) negI := fun x w σ G φ S H Q r d gd => by
  cases d with
  | int i => exact ⟨i, rfl, GoodR.here (S := S) gd r (.int _)⟩
  | _ => exact gd.elim
end

/-! ### None, True, False asked by `is` -/
def isNonP : Wv → Wv → Sto → Out Wv
  | .non, .non, S => .ok (.bl true) S
  | .ref _, .non, S => .ok (.bl false) S
  | .bl _, .non, S => .ok (.bl false) S
  | .int _, .non, S => .ok (.bl false) S
  | .str _, .non, S => .ok (.bl false) S
  | .tup _, .non, S => .ok (.bl false) S
  | .lst _, .non, S => .ok (.bl false) S
  | _, _, _ => .bad
def notNonP : Wv → Wv → Sto → Out Wv
  | .non, .non, S => .ok (.bl false) S
  | .ref _, .non, S => .ok (.bl true) S
  | .bl _, .non, S => .ok (.bl true) S
  | .int _, .non, S => .ok (.bl true) S
  | .str _, .non, S => .ok (.bl true) S
  | .tup _, .non, S => .ok (.bl true) S
  | .lst _, .non, S => .ok (.bl true) S
  | _, _, _ => .bad
def isBlP : Wv → Wv → Sto → Out Wv
  | .bl a, .bl b, S => .ok (.bl (decide (a = b))) S
  | _, _, _ => .bad
def notBlP : Wv → Wv → Sto → Out Wv
  | .bl a, .bl b, S => .ok (.bl (!decide (a = b))) S
  | _, _, _ => .bad
section
variable {T : Tab} {K : PySem.W.Frag} {W : WX}
theorem g_isN : G2 T K W (fun x y H Q => y = .non ∧ Q (.bl (decide (x = .non))) H) isNonP := fun x y w u σ G φ S H Q r dx dy gd => by
  cases dy with
  | non =>
    cases dx with
    | non => exact ⟨rfl, GoodR.here (S := S) gd r (.bl _)⟩
    | bl b => exact ⟨rfl, GoodR.here (S := S) gd r (.bl _)⟩
    | int b => exact ⟨rfl, GoodR.here (S := S) gd r (.bl _)⟩
    | str b => exact ⟨rfl, GoodR.here (S := S) gd r (.bl _)⟩
    | tup h d => exact ⟨rfl, GoodR.here (S := S) gd r (.bl _)⟩
    | lst h d => exact ⟨rfl, GoodR.here (S := S) gd r (.bl _)⟩
    | scr h => exact gd.elim
    | exn h => exact gd.elim
    | ref h => exact ⟨rfl, GoodR.here (S := S) gd r (.bl _)⟩
  | _ => cases dx <;> exact gd.elim
theorem g_notN : G2 T K W (fun x y H Q => y = .non ∧ Q (.bl (!decide (x = .non))) H) notNonP := fun x y w u σ G φ S H Q r dx dy gd => by
  cases dy with
  | non =>
    cases dx with
    | non => exact ⟨rfl, GoodR.here (S := S) gd r (.bl _)⟩
    | bl b => exact ⟨rfl, GoodR.here (S := S) gd r (.bl _)⟩
    | int b => exact ⟨rfl, GoodR.here (S := S) gd r (.bl _)⟩
    | str b => exact ⟨rfl, GoodR.here (S := S) gd r (.bl _)⟩
    | tup h d => exact ⟨rfl, GoodR.here (S := S) gd r (.bl _)⟩
    | lst h d => exact ⟨rfl, GoodR.here (S := S) gd r (.bl _)⟩
    | scr h => exact gd.elim
    | exn h => exact gd.elim
    | ref h => exact ⟨rfl, GoodR.here (S := S) gd r (.bl _)⟩
  | _ => cases dx <;> exact gd.elim
theorem g_isBl : G2 T K W rIsB isBlP := fun x y w u σ G φ S H Q r dx dy gd => by
  cases dx with
  | bl a =>
    cases dy with
    | bl b => exact ⟨a, b, rfl, rfl, GoodR.here (S := S) gd r (.bl _)⟩
    | _ => exact gd.elim
  | _ => exact gd.elim
theorem g_notBl : G2 T K W rNotB notBlP := fun x y w u σ G φ S H Q r dx dy gd => by
  cases dx with
  | bl a =>
    cases dy with
    | bl b => exact ⟨a, b, rfl, rfl, GoodR.here (S := S) gd r (.bl _)⟩
    | _ => exact gd.elim
  | _ => exact gd.elim
end

/-! ### == of data -/
def optAll {α β : Type} (f : α → Option β) : List α → Option (List β)
  | [] => some []
  | x :: r => match f x with
    | some y => (optAll f r).map (y :: ·)
    | none => none
def toD (S : Sto) : Nat → Wv → Option PyData
  | _, .non => some .none
  | _, .bl b => some (.bool b)
  | _, .int i => some (.int i)
  | _, .str x => some (.str x)
  | n + 1, .tup ws => (optAll (toD S n) ws).map .tuple
  | n + 1, .lst ws => (optAll (toD S n) ws).map .list
  | _, .scr ns => some (.list (ns.map .int))
  | n + 1, .ref k => match S[k]? with
    | some (.lst ws) => (optAll (toD S n) ws).map .list
    | _ => none
  | _, _ => none
section
variable {T : Tab} {K : PySem.W.Frag} {G : Hp} {φ : List Addr} {S : Sto} {H : Hp}
theorem dp_ints : ∀ ns : List Int, DpAll K H (ns.map V.int) (ns.map PyData.int)
  | [] => .nil
  | n :: r => .cons (.int n) (dp_ints r)
theorem toD_ok (r : Rel T K G φ S H) : ∀ (n : Nat) {v : V} {w : Wv} {d : PyData}, Den K G φ v w → toD S n w = some d → Dp K H v d := by
  intro n
  induction n with
  | zero =>
    intro v w d dn h
    cases dn with
    | non => simp [toD] at h; subst h; exact .non
    | bl b => simp [toD] at h; subst h; exact .bl b
    | int b => simp [toD] at h; subst h; exact .int b
    | str b => simp [toD] at h; subst h; exact .str b
    | tup e dd => simp [toD] at h
    | lst e dd => simp [toD] at h
    | scr e => simp [toD] at h; subst h; exact .lst (r.ex.seq e) (dp_ints _)
    | exn e => simp [toD] at h
    | ref e => simp [toD] at h
  | succ n ih =>
    have all : ∀ {vs : List V} {ws : List Wv} {ds : List PyData}, Dens K G φ vs ws → optAll (toD S n) ws = some ds → DpAll K H vs ds := by
      intro vs ws ds dd
      induction ws generalizing vs ds with
      | nil => intro h; cases dd; simp [optAll] at h; subst h; exact .nil
      | cons w ws ihw =>
        intro h
        cases dd with
        | cons d1 dr =>
          unfold optAll at h
          cases e : toD S n w with
          | none => rw [e] at h; cases h
          | some d =>
            rw [e] at h
            cases e2 : optAll (toD S n) ws with
            | none => rw [e2] at h; cases h
            | some ds' =>
              rw [e2] at h
              cases h
              exact .cons (ih d1 e) (ihw dr e2)
    intro v w d dn h
    cases dn with
    | non => simp [toD] at h; subst h; exact .non
    | bl b => simp [toD] at h; subst h; exact .bl b
    | int b => simp [toD] at h; subst h; exact .int b
    | str b => simp [toD] at h; subst h; exact .str b
    | @tup a vs ws e dd =>
      simp only [toD] at h
      cases e2 : optAll (toD S n) ws with
      | none => rw [e2] at h; cases h
      | some ds => rw [e2] at h; cases h; exact .tup (SqT.of (r.ex _ _ e)) (all dd e2)
    | @lst a vs ws e dd =>
      simp only [toD] at h
      cases e2 : optAll (toD S n) ws with
      | none => rw [e2] at h; cases h
      | some ds => rw [e2] at h; cases h; exact .lst (SqL.of (r.ex _ _ e)) (all dd e2)
    | scr e => simp [toD] at h; subst h; exact .lst (r.ex.seq e) (dp_ints _)
    | exn e => simp [toD] at h
    | @ref k a e =>
      simp only [toD] at h
      cases q : S[k]? with
      | none => rw [q] at h; cases h
      | some o =>
        cases o with
        | lst ws =>
          rw [q] at h
          obtain ⟨vs, e1, dd⟩ := r.lref q e
          simp only at h
          cases e2 : optAll (toD S n) ws with
          | none => rw [e2] at h; cases h
          | some ds => rw [e2] at h; cases h; exact .lst (SqL.of e1) (all dd e2)
        | dct _ => rw [q] at h; cases h
        | ins _ _ => rw [q] at h; cases h
        | dead => rw [q] at h; cases h
        | tab => rw [q] at h; cases h
        | lck d => rw [q] at h; cases h
end
def eqDeep (S : Sto) (x y : Wv) : Option Bool := match toD S 9 x, toD S 9 y with
  | some d, some e => if SeqAt.shaped d = true ∧ SeqAt.shaped e = true then some (PyData.eqv d e) else none
  | _, _ => none
def eqP : Wv → Wv → Sto → Out Wv
  | .int i, .int j, S => .ok (.bl (decide (i = j))) S
  | .str i, .str j, S => .ok (.bl (decide (i = j))) S
  | .bl i, .bl j, S => .ok (.bl (decide (i = j))) S
  | .non, .non, S => .ok (.bl true) S
  | .non, .str _, S => .ok (.bl false) S
  | .str _, .non, S => .ok (.bl false) S
  | .bl _, .str _, S => .ok (.bl false) S
  | .str _, .bl _, S => .ok (.bl false) S
  | x, y, S => match eqDeep S x y with
    | some b => .ok (.bl b) S
    | none => .bad
def neP : Wv → Wv → Sto → Out Wv
  | .int i, .int j, S => .ok (.bl (!decide (i = j))) S
  | .str i, .str j, S => .ok (.bl (!decide (i = j))) S
  | .bl i, .bl j, S => .ok (.bl (!decide (i = j))) S
  | .non, .non, S => .ok (.bl false) S
  | .non, .str _, S => .ok (.bl true) S
  | .str _, .non, S => .ok (.bl true) S
  | .bl _, .str _, S => .ok (.bl true) S
  | .str _, .bl _, S => .ok (.bl true) S
  | x, y, S => match eqDeep S x y with
    | some b => .ok (.bl (!b)) S
    | none => .bad
section
variable {T : Tab} {X : Cx} {K : PySem.W.Frag} {W : WX}
theorem ew_op (hu : X.A.units + 64 < cLine) : OpR X (compareOp .Eq) (fun x y H Q => rEq x y H Q ∨ rEqD X.K x y H Q) := op_eq.or (op_eqD hu)
theorem nw_op (hu : X.A.units + 64 < cLine) : OpR X (compareOp .NotEq) (fun x y H Q => rNe x y H Q ∨ rNeD X.K x y H Q) := op_ne.or (op_neD hu)
theorem dint {i j : Int} : decide (V.int i = V.int j) = decide (i = j) := by by_cases h : i = j <;> simp [h]
theorem dstr {i j : Str} : decide (V.str i = V.str j) = decide (i = j) := by by_cases h : i = j <;> simp [h]
theorem dbl {i j : Bool} : decide (V.bl i = V.bl j) = decide (i = j) := by by_cases h : i = j <;> simp [h]
theorem deep_ok {x y : V} {w u : Wv} {σ : L2.St} {G : Hp} {φ : List Addr} {S : Sto} {H : Hp} {Q : VK} {f : Bool → Bool} (r : Rel T K G φ S H) (dx : Den K G φ x w) (dy : Den K G φ y u)
    (gd : GoodR (Den K) T K W σ H G φ Q (match eqDeep S w u with | some b => .ok (.bl (f b)) S | none => .bad)) :
    ∃ d e, Dp K H x d ∧ Dp K H y e ∧ SeqAt.shaped d = true ∧ SeqAt.shaped e = true ∧ Q (.bl (f (PyData.eqv d e))) H := by
  unfold eqDeep at gd
  cases e1 : toD S 9 w with
  | none => rw [e1] at gd; exact gd.elim
  | some d =>
    cases e2 : toD S 9 u with
    | none => rw [e1, e2] at gd; exact gd.elim
    | some e =>
      rw [e1, e2] at gd
      simp only at gd
      by_cases c : SeqAt.shaped d = true ∧ SeqAt.shaped e = true
      · rw [if_pos c] at gd
        exact ⟨d, e, toD_ok r 9 dx e1, toD_ok r 9 dy e2, c.1, c.2, GoodR.here (S := S) gd r (.bl _)⟩
      · rw [if_neg c] at gd; exact gd.elim
theorem g_eq : G2 T K W (fun x y H Q => rEq x y H Q ∨ rEqD K x y H Q) eqP := fun x y w u σ G φ S H Q r dx dy gd => by
  have deep : ∀ {x y : V} {w u : Wv}, Den K G φ x w → Den K G φ y u → GoodR (Den K) T K W σ H G φ Q (match eqDeep S w u with | some b => .ok (.bl b) S | none => .bad) → rEq x y H Q ∨ rEqD K x y H Q := fun dx dy gd => .inr (deep_ok (f := fun b => b) r dx dy gd)
  cases dx with
  | int i =>
    cases dy with
    | int j => exact .inl ⟨rfl, by rw [dint]; exact GoodR.here (S := S) gd r (.bl _)⟩
    | non => exact deep (.int i) .non gd
    | bl b => exact deep (.int i) (.bl b) gd
    | str b => exact deep (.int i) (.str b) gd
    | tup h d => exact deep (.int i) (.tup h d) gd
    | lst h d => exact deep (.int i) (.lst h d) gd
    | scr h => exact deep (.int i) (.scr h) gd
    | exn h => exact deep (.int i) (.exn h) gd
    | ref h => exact deep (.int i) (.ref h) gd
  | str i =>
    cases dy with
    | str j => exact .inl ⟨rfl, by rw [dstr]; exact GoodR.here (S := S) gd r (.bl _)⟩
    | non => exact .inl ⟨rfl, GoodR.here (S := S) gd r (.bl _)⟩
    | bl b => exact .inl ⟨rfl, GoodR.here (S := S) gd r (.bl _)⟩
    | int b => exact deep (.str i) (.int b) gd
    | tup h d => exact deep (.str i) (.tup h d) gd
    | lst h d => exact deep (.str i) (.lst h d) gd
    | scr h => exact deep (.str i) (.scr h) gd
    | exn h => exact deep (.str i) (.exn h) gd
    | ref h => exact deep (.str i) (.ref h) gd
  | bl i =>
    cases dy with
    | bl j => exact .inl ⟨rfl, by rw [dbl]; exact GoodR.here (S := S) gd r (.bl _)⟩
    | str b => exact .inl ⟨rfl, GoodR.here (S := S) gd r (.bl _)⟩
    | non => exact deep (.bl i) .non gd
    | int b => exact deep (.bl i) (.int b) gd
    | tup h d => exact deep (.bl i) (.tup h d) gd
    | lst h d => exact deep (.bl i) (.lst h d) gd
    | scr h => exact deep (.bl i) (.scr h) gd
    | exn h => exact deep (.bl i) (.exn h) gd
    | ref h => exact deep (.bl i) (.ref h) gd
  | non =>
    cases dy with
    | non => exact .inl ⟨rfl, GoodR.here (S := S) gd r (.bl _)⟩
    | str b => exact .inl ⟨rfl, GoodR.here (S := S) gd r (.bl _)⟩
    | bl b => exact deep .non (.bl b) gd
    | int b => exact deep .non (.int b) gd
    | tup h d => exact deep .non (.tup h d) gd
    | lst h d => exact deep .non (.lst h d) gd
    | scr h => exact deep .non (.scr h) gd
    | exn h => exact deep .non (.exn h) gd
    | ref h => exact deep .non (.ref h) gd
  | tup h d => cases dy <;> exact deep (.tup h d) (by first | exact .non | exact .bl _ | exact .int _ | exact .str _ | (exact .tup (by assumption) (by assumption)) | (exact .lst (by assumption) (by assumption)) | (exact .scr (by assumption)) | (exact .ref (by assumption)) | exact .exn _) gd
  | lst h d => cases dy <;> exact deep (.lst h d) (by first | exact .non | exact .bl _ | exact .int _ | exact .str _ | (exact .tup (by assumption) (by assumption)) | (exact .lst (by assumption) (by assumption)) | (exact .scr (by assumption)) | (exact .ref (by assumption)) | exact .exn _) gd
  | scr h =>
    cases dy with
    | exn b => exact deep (.scr h) (.exn b) gd
    | _ => exact deep (.scr h) (by first | exact .non | exact .bl _ | exact .int _ | exact .str _ | (exact .tup (by assumption) (by assumption)) | (exact .lst (by assumption) (by assumption)) | (exact .scr (by assumption)) | (exact .ref (by assumption)) | exact .exn _) gd
  | exn h => cases dy <;> exact deep (.exn h) (by first | exact .non | exact .bl _ | exact .int _ | exact .str _ | (exact .tup (by assumption) (by assumption)) | (exact .lst (by assumption) (by assumption)) | (exact .scr (by assumption)) | (exact .ref (by assumption)) | exact .exn _) gd
  | ref h => cases dy <;> exact deep (.ref h) (by first | exact .non | exact .bl _ | exact .int _ | exact .str _ | (exact .tup (by assumption) (by assumption)) | (exact .lst (by assumption) (by assumption)) | (exact .scr (by assumption)) | (exact .ref (by assumption)) | exact .exn _) gd
theorem g_ne : G2 T K W (fun x y H Q => rNe x y H Q ∨ rNeD K x y H Q) neP := fun x y w u σ G φ S H Q r dx dy gd => by
  have deep : ∀ {x y : V} {w u : Wv}, Den K G φ x w → Den K G φ y u → GoodR (Den K) T K W σ H G φ Q (match eqDeep S w u with | some b => .ok (.bl (!b)) S | none => .bad) → rNe x y H Q ∨ rNeD K x y H Q := fun dx dy gd => .inr (deep_ok (f := fun b => !b) r dx dy gd)
  cases dx with
  | int i =>
    cases dy with
    | int j => exact .inl ⟨rfl, by rw [dint]; exact GoodR.here (S := S) gd r (.bl _)⟩
    | non => exact deep (.int i) .non gd
    | bl b => exact deep (.int i) (.bl b) gd
    | str b => exact deep (.int i) (.str b) gd
    | tup h d => exact deep (.int i) (.tup h d) gd
    | lst h d => exact deep (.int i) (.lst h d) gd
    | scr h => exact deep (.int i) (.scr h) gd
    | exn h => exact deep (.int i) (.exn h) gd
    | ref h => exact deep (.int i) (.ref h) gd
  | str i =>
    cases dy with
    | str j => exact .inl ⟨rfl, by rw [dstr]; exact GoodR.here (S := S) gd r (.bl _)⟩
    | non => exact .inl ⟨rfl, GoodR.here (S := S) gd r (.bl _)⟩
    | bl b => exact .inl ⟨rfl, GoodR.here (S := S) gd r (.bl _)⟩
    | int b => exact deep (.str i) (.int b) gd
    | tup h d => exact deep (.str i) (.tup h d) gd
    | lst h d => exact deep (.str i) (.lst h d) gd
    | scr h => exact deep (.str i) (.scr h) gd
    | exn h => exact deep (.str i) (.exn h) gd
    | ref h => exact deep (.str i) (.ref h) gd
  | bl i =>
    cases dy with
    | bl j => exact .inl ⟨rfl, by rw [dbl]; exact GoodR.here (S := S) gd r (.bl _)⟩
    | str b => exact .inl ⟨rfl, GoodR.here (S := S) gd r (.bl _)⟩
    | non => exact deep (.bl i) .non gd
    | int b => exact deep (.bl i) (.int b) gd
    | tup h d => exact deep (.bl i) (.tup h d) gd
    | lst h d => exact deep (.bl i) (.lst h d) gd
    | scr h => exact deep (.bl i) (.scr h) gd
    | exn h => exact deep (.bl i) (.exn h) gd
    | ref h => exact deep (.bl i) (.ref h) gd
  | non =>
    cases dy with
    | non => exact .inl ⟨rfl, GoodR.here (S := S) gd r (.bl _)⟩
    | str b => exact .inl ⟨rfl, GoodR.here (S := S) gd r (.bl _)⟩
    | bl b => exact deep .non (.bl b) gd
    | int b => exact deep .non (.int b) gd
    | tup h d => exact deep .non (.tup h d) gd
    | lst h d => exact deep .non (.lst h d) gd
    | scr h => exact deep .non (.scr h) gd
    | exn h => exact deep .non (.exn h) gd
    | ref h => exact deep .non (.ref h) gd
  | tup h d => cases dy <;> exact deep (.tup h d) (by first | exact .non | exact .bl _ | exact .int _ | exact .str _ | (exact .tup (by assumption) (by assumption)) | (exact .lst (by assumption) (by assumption)) | (exact .scr (by assumption)) | (exact .ref (by assumption)) | exact .exn _) gd
  | lst h d => cases dy <;> exact deep (.lst h d) (by first | exact .non | exact .bl _ | exact .int _ | exact .str _ | (exact .tup (by assumption) (by assumption)) | (exact .lst (by assumption) (by assumption)) | (exact .scr (by assumption)) | (exact .ref (by assumption)) | exact .exn _) gd
  | scr h =>
    cases dy with
    | exn b => exact deep (.scr h) (.exn b) gd
    | _ => exact deep (.scr h) (by first | exact .non | exact .bl _ | exact .int _ | exact .str _ | (exact .tup (by assumption) (by assumption)) | (exact .lst (by assumption) (by assumption)) | (exact .scr (by assumption)) | (exact .ref (by assumption)) | exact .exn _) gd
  | exn h => cases dy <;> exact deep (.exn h) (by first | exact .non | exact .bl _ | exact .int _ | exact .str _ | (exact .tup (by assumption) (by assumption)) | (exact .lst (by assumption) (by assumption)) | (exact .scr (by assumption)) | (exact .ref (by assumption)) | exact .exn _) gd
  | ref h => cases dy <;> exact deep (.ref h) (by first | exact .non | exact .bl _ | exact .int _ | exact .str _ | (exact .tup (by assumption) (by assumption)) | (exact .lst (by assumption) (by assumption)) | (exact .scr (by assumption)) | (exact .ref (by assumption)) | exact .exn _) gd
end
end CL
namespace CL
open PySem PySem.Spec PyProof.Rows L2

/-! ### items and slices -/
def cutA {α : Type} (xs : List α) (lo hi : Option Int) : List α := (xs.drop (HT.sIx xs.length 0 lo)).take (HT.sIx xs.length xs.length hi - HT.sIx xs.length 0 lo)
section
variable {K : PySem.W.Frag} {G : Hp} {φ : List Addr} {vs : List V} {ws : List Wv}
theorem Dens.at_ (d : Dens K G φ vs ws) {i : Int} {w : Wv} (h : atI ws i = some w) : ∃ v, atI vs i = some v ∧ Den K G φ v w := by
  unfold atI at h ⊢
  rw [d.len]
  cases e : ixN ws.length i with
  | none => rw [e] at h; cases h
  | some j =>
    rw [e] at h
    obtain ⟨v, h1, h2⟩ := d.get (i := j) (w := w) h
    exact ⟨v, h1, h2⟩
theorem Dens.cut (d : Dens K G φ vs ws) (lo hi : Option Int) : Dens K G φ (cutV vs lo hi) (cutA ws lo hi) := by
  unfold cutV cutA
  rw [d.len]
  exact (d.drop _).take _
end
theorem cutA_whole {α : Type} {xs : List α} {lo hi : Option Int} (h : HT.sIx xs.length 0 lo = 0 ∧ HT.sIx xs.length xs.length hi = xs.length) : cutA xs lo hi = xs := by
  unfold cutA
  rw [h.1, h.2]; simp
def idxP : Wv → Wv → Sto → Out Wv := fun w u S => match u with
  | .int i => match seqOf S w with
    | some xs => match atI xs i with
      | some x => .ok x S
      | none => .bad
    | none => match w with
      | .tup xs => match atI xs i with
        | some x => .ok x S
        | none => .bad
      | .str z => if lenOk z.length = true then match atI z.cps.toList i with
        | some c => .ok (.str ⟨#[c]⟩) S
        | none => .bad
        else .bad
      | _ => .bad
  | _ => .bad
section
variable {T : Tab} {X : Cx} {K : PySem.W.Frag} {W : WX}
theorem g_idx : G2 T K W (rIx K) idxP := fun x y w u σ G φ S H Q r dx dy gd => by
  cases dy with
  | int i =>
    simp only [idxP] at gd
    cases e : seqOf S w with
    | some xs =>
      rw [e] at gd
      obtain ⟨a, vs, rfl, hq, dd⟩ := seq_rd r dx e
      simp only at gd
      cases e2 : atI xs i with
      | none => rw [e2] at gd; exact gd.elim
      | some z =>
        rw [e2] at gd
        obtain ⟨v, hv, dv⟩ := dd.at_ e2
        exact .inl ⟨a, vs, i, v, rfl, rfl, hq, hv, GoodR.here (S := S) gd r dv⟩
    | none =>
      rw [e] at gd
      cases dx with
      | @tup a vs ws h d =>
        simp only at gd
        cases e2 : atI ws i with
        | none => rw [e2] at gd; exact gd.elim
        | some z =>
          rw [e2] at gd
          obtain ⟨v, hv, dv⟩ := d.at_ e2
          exact .inr (.inl ⟨a, vs, i, v, rfl, rfl, SqT.of (r.ex _ _ h), hv, GoodR.here (S := S) gd r dv⟩)
      | str z =>
        simp only at gd
        by_cases c : lenOk z.length = true
        · rw [if_pos c] at gd
          cases e2 : atI z.cps.toList i with
          | none => rw [e2] at gd; exact gd.elim
          | some q => rw [e2] at gd; exact .inr (.inr ⟨z, i, q, rfl, rfl, lenOk_le c, e2, GoodR.here (S := S) gd r (.str _)⟩)
        · rw [if_neg c] at gd; exact gd.elim
      | _ => exact gd.elim
  | _ => exact gd.elim
end
/-- a[lo:hi] -/
def slP (live : Bool) (w : Wv) (lo hi : Option Int) (S : Sto) : Out Wv := match w with
  | .tup xs => .ok (.tup (cutA xs lo hi)) S
  | .str z => if lenOk z.length = true then .ok (.str (cutS z lo hi)) S else .bad
  | w => match seqOf S w with
    | some xs => mkL live (cutA xs lo hi) S
    | none => .bad
def fSl (live : Bool) (fo : FE) (fl fh : Env → Sto → Out (Option Int)) : FE := fun env S => (fo env S).bind fun w S1 => (fl env S1).bind fun lo S2 => (fh env S2).bind fun hi S3 => slP live w lo hi S3
def fNoPart : Env → Sto → Out (Option Int) := fun _ S => .ok none S
def fPart (fa : FE) : Env → Sto → Out (Option Int) := fun env S => (fa env S).bind fun x S1 => match x with
  | .int i => .ok (some i) S1
  | _ => .bad
def rSlX (K : PySem.W.Frag) : V → Option Int → Option Int → Hp → VK → Prop := fun x lo hi H Q => rSlL K x lo hi H Q ∨ (rSlA K x lo hi H Q ∨ rSlS x lo hi H Q)
section
variable {T : Tab} {X : Cx} {K : PySem.W.Frag} {W : WX} {e : Expr} {lo hi : Option Expr} {fo fa : FE} {fl fh : Env → Sto → Out (Option Int)} {pos p2 : Pos}
theorem sl_X : SlR X (rSlX X.K) := sl_list.or (sl_tupA.or sl_str)
theorem so_none : SO T X W none fNoPart := po_imp po_none fun σ H Q ⟨env, G, φ, S, rl, er, gd⟩ => GoodR.here (S := S) gd rl rfl
theorem so_some (ha : SE T X W e fa) : SO T X W (some e) (fPart fa) := po_imp (po_some ha) fun σ H Q ⟨env, G, φ, S, rl, er, gd⟩ =>
  ⟨env, G, φ, S, rl, er, (GoodR.bind gd).imp fun x H1 ⟨w, S1, G1, φ1, x1, r1, d1, g1⟩ => by
    cases d1 with
    | int c => exact ⟨c, rfl, GoodR.here (S := S1) g1 r1 rfl⟩
    | _ => exact g1.elim⟩
theorem s_slP {live : Bool} {x : V} {w : Wv} {l h : Option Int} {σ : L2.St} {G : Hp} {φ : List Addr} {S : Sto} {H : Hp} {Q : VK} (r : Rel T K G φ S H) (d : Den K G φ x w) (gd : GoodR (Den K) T K W σ H G φ Q (slP live w l h S)) : rSlX K x l h H Q := by
  have sq : ∀ {w : Wv} {x : V}, Den K G φ x w → (GoodR (Den K) T K W σ H G φ Q (match seqOf S w with | some xs => mkL live (cutA xs l h) S | none => .bad)) → rSlX K x l h H Q := by
    intro w x d gd
    cases e : seqOf S w with
    | none => rw [e] at gd; exact gd.elim
    | some xs =>
      rw [e] at gd
      obtain ⟨a, vs, rfl, hq, dd⟩ := seq_rd r d e
      exact .inl ⟨a, vs, rfl, hq, fun p hp => made_lst live r hp (dd.cut l h) gd⟩
  cases d with
  | @tup a vs ws e dd =>
    refine .inr (.inl ⟨a, vs, rfl, SqT.of (r.ex _ _ e), fun c => ?_, fun _ p hp => made_tup r hp (dd.cut l h) gd⟩)
    rw [dd.len] at c
    have gd' : GoodR (Den K) T K W σ H G φ Q (.ok (.tup (cutA ws l h)) S) := gd
    rw [cutA_whole c] at gd'
    exact GoodR.here (S := S) gd' r (.tup e dd)
  | str z =>
    simp only [slP] at gd
    by_cases c : lenOk z.length = true
    · rw [if_pos c] at gd; exact .inr (.inr ⟨z, rfl, lenOk_le c, GoodR.here (S := S) gd r (.str _)⟩)
    · rw [if_neg c] at gd; exact gd.elim
  | non => exact gd.elim
  | bl b => exact gd.elim
  | int b => exact gd.elim
  | lst a b => exact sq (.lst a b) gd
  | scr a => exact sq (.scr a) gd
  | exn a => exact sq (.exn a) gd
  | ref a => exact sq (.ref a) gd
theorem se_slice (live : Bool) (ho : SE T X W e fo) (hl : SO T X W lo fl) (hh : SO T X W hi fh) : SE T X W (.Subscript e (.Slice lo hi none p2) pos) (fSl live fo fl fh) :=
  pe_imp (pe_slice sl_X ho hl hh) fun σ H Q ⟨env, G, φ, S, rl, er, gd⟩ => ⟨env, G, φ, S, rl, er, (GoodR.bind gd).imp fun x H1 ⟨w, S1, G1, φ1, x1, r1, d1, g1⟩ =>
    ⟨env, G1, φ1, S1, r1, x1.envr er, (GoodR.bind g1).imp fun l H2 ⟨lo', S2, G2, φ2, x2, r2, d2, g2⟩ =>
      ⟨env, G2, φ2, S2, r2, (x1.trans x2).envr er, (GoodR.bind g2).imp fun h H3 ⟨hi', S3, G3, φ3, x3, r3, d3, g3⟩ => by
        cases d2; cases d3
        exact s_slP r3 ((x2.trans x3).den d1) g3⟩⟩⟩
theorem se_idx {a b : Expr} {fb : FE} (ha : SE T X W a fa) (hb : SE T X W b fb) (hs : PlainIx b) : SE T X W (.Subscript a b pos) (f2 idxP fa fb) := pe_imp (pe_ix ix_seq ha hb hs) (s_op g_idx)
end

/-! ### displays -/
def tupP : List Wv → Sto → Out Wv := fun ws S => if lenOk ws.length = true then .ok (.tup ws) S else .bad
def lstP (live : Bool) : List Wv → Sto → Out Wv := fun ws S => if lenOk ws.length = true then mkL live ws S else .bad
section
variable {T : Tab} {X : Cx} {W : WX} {es : List Expr} {fr : FA} {pos : Pos}
theorem se_tup {k : Nat} (h : SA T X W es fr) : SE T X W (.Tuple es k pos) (fN tupP fr) := pe_imp (pe_tup h.pa) fun σ H Q ⟨env, G, φ, S, rl, er, gd⟩ =>
  ⟨env, G, φ, S, rl, er, (GoodR.bind gd).imp fun xs H1 ⟨ws, S1, G1, φ1, x1, r1, d1, g1⟩ => by
    by_cases c : lenOk ws.length = true
    · rw [tupP, if_pos c] at g1
      exact ⟨by rw [d1.len]; exact lenOk_le c, fun p hp => made_tup r1 hp d1 g1⟩
    · rw [tupP, if_neg c] at g1; exact g1.elim⟩
theorem se_lst (live : Bool) (h : SA T X W es fr) : SE T X W (.List es pos) (fN (lstP live) fr) := pe_imp (pe_lst h.pa) fun σ H Q ⟨env, G, φ, S, rl, er, gd⟩ =>
  ⟨env, G, φ, S, rl, er, (GoodR.bind gd).imp fun xs H1 ⟨ws, S1, G1, φ1, x1, r1, d1, g1⟩ => by
    by_cases c : lenOk ws.length = true
    · rw [lstP, if_pos c] at g1
      exact ⟨by rw [d1.len]; exact lenOk_le c, fun p hp => made_lst live r1 hp d1 g1⟩
    · rw [lstP, if_neg c] at g1; exact g1.elim⟩
end

/-! ### joining -/
def catL (live : Bool) : Wv → Wv → Sto → Out Wv := fun x y S => match lstOf S x, lstOf S y with
  | some xs, some ys => if lenOk (xs.length + ys.length) = true then mkL live (xs ++ ys) S else .bad
  | _, _ => .bad
def catT : Wv → Wv → Sto → Out Wv
  | .tup xs, .tup ys, S => if lenOk (xs.length + ys.length) = true then .ok (.tup (xs ++ ys)) S else .bad
  | _, _, _ => .bad
def catS : Wv → Wv → Sto → Out Wv
  | .str xs, .str ys, S => if lenOk (xs.length + ys.length) = true then .ok (.str (xs ++ ys)) S else .bad
  | _, _, _ => .bad
def repL (live : Bool) : Wv → Wv → Sto → Out Wv := fun x y S => match lstOf S x, y with
  | some xs, .int k => if k ≤ 1000000 ∧ 0 ≤ k ∧ lenOk (xs.length * k.toNat) = true then mkL live (List.replicate k.toNat xs).flatten S else .bad
  | _, _ => .bad
section
variable {T : Tab} {K : PySem.W.Frag} {W : WX}
theorem g_catL (live : Bool) : G2 T K W rCat (catL live) := fun x y w u σ G φ S H Q r dx dy gd => by
  unfold catL at gd
  cases e1 : lstOf S w with
  | none => rw [e1] at gd; exact gd.elim
  | some xs =>
    cases e2 : lstOf S u with
    | none => rw [e1, e2] at gd; exact gd.elim
    | some ys =>
      rw [e1, e2] at gd
      simp only at gd
      by_cases c : lenOk (xs.length + ys.length) = true
      · rw [if_pos c] at gd
        obtain ⟨a, vs, rfl, ha, da⟩ := lst_rd r dx e1
        obtain ⟨b, us, rfl, hb, db⟩ := lst_rd r dy e2
        exact ⟨a, b, vs, us, rfl, rfl, ha, hb, by rw [da.len, db.len]; exact lenOk_le c, fun p hp => made_lst live r hp (da.append db) gd⟩
      · rw [if_neg c] at gd; exact gd.elim
theorem g_catT : G2 T K W (rCatA K) catT := fun x y w u σ G φ S H Q r dx dy gd => by
  cases dx with
  | @tup a vs ws ha da =>
    cases dy with
    | @tup b us zs hb db =>
      simp only [catT] at gd
      by_cases c : lenOk (ws.length + zs.length) = true
      · rw [if_pos c] at gd
        refine ⟨a, b, vs, us, rfl, rfl, SqT.of (r.ex _ _ ha), SqT.of (r.ex _ _ hb), by rw [da.len, db.len]; exact lenOk_le c, fun e => ?_, fun _ e => ?_, fun _ _ p hp => made_tup r hp (da.append db) gd⟩
        · subst e; cases da; exact GoodR.here (S := S) gd r (.tup hb db)
        · subst e; cases db; rw [List.append_nil] at gd; exact GoodR.here (S := S) gd r (.tup ha da)
      · rw [if_neg c] at gd; exact gd.elim
    | _ => exact gd.elim
  | _ => exact gd.elim
theorem g_catS : G2 T K W (fun x y H Q => ∃ i j, x = .str i ∧ y = .str j ∧ i.length + j.length ≤ sizeLine ∧ Q (.str (i ++ j)) H) catS := fun x y w u σ G φ S H Q r dx dy gd => by
  cases dx with
  | str i =>
    cases dy with
    | str j =>
      simp only [catS] at gd
      by_cases c : lenOk (i.length + j.length) = true
      · rw [if_pos c] at gd; exact ⟨i, j, rfl, rfl, lenOk_le c, GoodR.here (S := S) gd r (.str _)⟩
      · rw [if_neg c] at gd; exact gd.elim
    | _ => exact gd.elim
  | _ => exact gd.elim
theorem g_repL (live : Bool) : G2 T K W rRep (repL live) := fun x y w u σ G φ S H Q r dx dy gd => by
  unfold repL at gd
  cases e1 : lstOf S w with
  | none => rw [e1] at gd; exact gd.elim
  | some xs =>
    rw [e1] at gd
    cases dy with
    | int k =>
      simp only at gd
      by_cases c : k ≤ 1000000 ∧ 0 ≤ k ∧ lenOk (xs.length * k.toNat) = true
      · rw [if_pos c] at gd
        obtain ⟨a, vs, rfl, ha, da⟩ := lst_rd r dx e1
        exact ⟨a, k, vs, rfl, rfl, ha, by omega, by omega, by rw [da.len]; exact lenOk_le c.2.2, fun p hp => made_lst live r hp (da.rep _) gd⟩
      · rw [if_neg c] at gd; exact gd.elim
    | _ => exact gd.elim
end

/-! ### built-ins -/
def lenP : List Wv → Sto → Out Wv
  | [w], S => match seqOf S w with
    | some xs => .ok (.int xs.length) S
    | none => match w with
      | .tup xs => .ok (.int xs.length) S
      | .str z => if lenOk z.length = true then .ok (.int z.length) S else .bad
      | _ => .bad
  | _, _ => .bad
def seqTup (S : Sto) (w : Wv) : Option (List Wv) := match seqOf S w with
  | some xs => some xs
  | none => tupOf w
def sumP : List Wv → Sto → Out Wv
  | [w], S => match seqTup S w with
    | some xs => match intsOf xs with
      | some ns => .ok (.int ns.sum) S
      | none => .bad
    | none => .bad
  | _, _ => .bad
def allP : List Wv → Sto → Out Wv
  | [w], S => match seqOf S w with
    | some xs => match blsOf xs with
      | some ns => .ok (.bl (ns.all id)) S
      | none => .bad
    | none => .bad
  | _, _ => .bad
def minI : List Int → Int
  | [] => 0
  | [a] => a
  | a :: r => min a (minI r)
def minP : List Wv → Sto → Out Wv
  | [.int i, .int j], S => .ok (.int (if j < i then j else i)) S
  | [.int i, .int j, .int k], S => .ok (.int (if k < (if j < i then j else i) then k else (if j < i then j else i))) S
  | _, _ => .bad
def minLP : List Wv → Sto → Out Wv
  | [w], S => match seqOf S w with
    | some xs => match intsOf xs with
      | some ns => if ns = [] then .bad else .ok (.int (minI ns)) S
      | none => .bad
    | none => .bad
  | _, _ => .bad
def intP : List Wv → Sto → Out Wv
  | [.int i], S => .ok (.int i) S
  | [.bl b], S => .ok (.int (if b = true then 1 else 0)) S
  | _, _ => .bad
def intSP : List Wv → Sto → Out Wv
  | [.str z], S => match PySem.intText? z with
    | some n => if z.length ≤ 640 then .ok (.int n) S else .bad
    | none => .bad
  | _, _ => .bad
def strP : List Wv → Sto → Out Wv
  | [.int i], S => if i.natAbs.log2 < 1920 then .ok (.str (toString i)) S else .bad
  | _, _ => .bad
def listP (live : Bool) : List Wv → Sto → Out Wv
  | [w], S => match seqTup S w with
    | some xs => mkL live xs S
    | none => .bad
  | _, _ => .bad
def tupleP : List Wv → Sto → Out Wv
  | [w], S => match seqTup S w with
    | some xs => .ok (.tup xs) S
    | none => .bad
  | _, _ => .bad
theorem minI_mem : ∀ {ns : List Int}, ns ≠ [] → minI ns ∈ ns ∧ ∀ y ∈ ns, minI ns ≤ y
  | [], h => absurd rfl h
  | [a], _ => by simp [minI]
  | a :: b :: r, _ => by
    obtain ⟨h1, h2⟩ := minI_mem (ns := b :: r) (by simp)
    show min a (minI (b :: r)) ∈ a :: b :: r ∧ ∀ y ∈ a :: b :: r, min a (minI (b :: r)) ≤ y
    refine ⟨?_, fun y hy => ?_⟩
    · by_cases c : a ≤ minI (b :: r)
      · rw [Int.min_eq_left c]; exact List.mem_cons_self
      · rw [Int.min_eq_right (by omega)]; exact List.mem_cons_of_mem _ h1
    · rcases List.mem_cons.mp hy with rfl | hy
      · exact Int.min_le_left _ _
      · exact Int.le_trans (Int.min_le_right _ _) (h2 y hy)
section
variable {T : Tab} {X : Cx} {K : PySem.W.Frag} {W : WX}
theorem one_den {G : Hp} {φ : List Addr} {xs : List V} {w : Wv} (d : Dens K G φ xs [w]) : ∃ v, xs = [v] ∧ Den K G φ v w := by
  cases d with
  | cons d t => cases t; exact ⟨_, rfl, d⟩
theorem st_rd {G : Hp} {φ : List Addr} {S : Sto} {H : Hp} {v : V} {w : Wv} {xs : List Wv} (r : Rel T K G φ S H) (d : Den K G φ v w) (h : seqTup S w = some xs) : ∃ a vs, v = .ref a ∧ (SqL K H a vs ∨ SqT K H a vs) ∧ Dens K G φ vs xs := by
  unfold seqTup at h
  cases e : seqOf S w with
  | some ys => rw [e] at h; cases h; obtain ⟨a, vs, e1, e2, e3⟩ := seq_rd r d e; exact ⟨a, vs, e1, .inl e2, e3⟩
  | none => rw [e] at h; obtain ⟨a, vs, e1, e2, e3⟩ := tup_rd r d h; exact ⟨a, vs, e1, .inr (SqT.of e2), e3⟩
theorem g_len : GN T K W (fun xs H Q => ∃ x n, xs = [x] ∧ LenV K x H n ∧ Q (.int n) H) lenP := fun xs ws σ G φ S H Q r d gd => by
  match ws, d, gd with
  | [], d, gd => exact gd.elim
  | [w], d, gd =>
    obtain ⟨v, rfl, dv⟩ := one_den d
    simp only [lenP] at gd
    cases e : seqOf S w with
    | some ys =>
      rw [e] at gd
      obtain ⟨a, vs, rfl, hq, dd⟩ := seq_rd r dv e
      exact ⟨_, ys.length, rfl, .inl ⟨vs, hq, dd.len.symm⟩, GoodR.here (S := S) gd r (.int _)⟩
    | none =>
      rw [e] at gd
      cases dv with
      | @tup a vs ws h dd => exact ⟨_, ws.length, rfl, .inr ⟨vs, SqT.of (r.ex _ _ h), dd.len.symm⟩, GoodR.here (S := S) gd r (.int _)⟩
      | str z =>
        simp only at gd
        by_cases c : lenOk z.length = true
        · rw [if_pos c] at gd; exact ⟨_, z.length, rfl, ⟨lenOk_le c, rfl⟩, GoodR.here (S := S) gd r (.int _)⟩
        · rw [if_neg c] at gd; exact gd.elim
      | _ => exact gd.elim
  | _ :: _ :: _, d, gd => exact gd.elim
/-- sum of a list or a tuple -/
def rSum2 (K : PySem.W.Frag) : List V → Hp → VK → Prop := fun vs H Q => ∃ (a : Addr) (ns : List Int), vs = [V.ref a] ∧ (SqL K H a (ns.map V.int) ∨ SqT K H a (ns.map V.int)) ∧ Q (.int ns.sum) H
theorem sum_tup {prog : Program} {w : World} {A : Around} {E : Value → Shared → Prop} {s : Shared} {Q : Value → Shared → Prop} {l : Addr} {its : List Value} {ns : List Int} (hh : A.handled = none) (hl : IsTup s.heap l its.toArray) (hi : IntsAre its ns)
    (h : ∀ h' tk t', (∀ b o, s.heap.get? b = some o → h'.get? b = some o) → Q (.int ns.sum t') { s with heap := h', toks := tk }) : wpAny (model prog w) A (call (.builtin "sum") [.ref l]) Q E s := by
  obtain ⟨xs, e⟩ := hi.allInts.items
  have hn : numsOf (intItems xs).toList = ns := by rw [← e]; exact hi.numsOf
  rw [nums_intItems] at hn
  rw [e] at hl
  have hT : s.heap.IsTuple l (intItems xs) := hl
  have hlt : l < s.heap.objs.size := hl.lt
  refine call_sum_walkG (wpAny_pyIter_tuple hT ?_)
  refine ⟨s.heap.objs.size, _, _, _, _, _, numAt xs, rfl, Walks.tuple (A := A.in1) hh s.heap.objs.size l (Nat.ne_of_lt hlt) (intItems xs), ?_, ?_, (fun _ _ => intItems_at), fun h' tk t' hk => ?_⟩
  · exact ⟨⟨_, Heap.get?_push_size _ rfl, rfl, rfl⟩, hT.at fun o e => Heap.get?_push_of_some _ e⟩
  · intro b hb
    rw [Heap.size_push]
    simp at hb
    rcases hb with rfl | rfl
    · exact Nat.lt_succ_self _
    · exact Nat.lt_succ_of_lt hlt
  · have := h h' tk t' fun b o e => hk b o (by simp; exact Nat.ne_of_lt (Heap.lt_size e)) (Heap.get?_push_of_some _ e)
    rw [preSum_eq, List.take_of_length_le (by simp [intItems]), hn]
    exact this
theorem cr_sum2 (hc : X.calm = true) : CallR X (.builtin "sum") (rSum2 X.K) := by
  intro pins s σ H vs us Q I r h
  obtain ⟨a, ns, rfl, hq, q⟩ := h
  rcases hq with hq | hq
  · exact cr_sum hc pins s σ H _ us Q I r ⟨a, ns, rfl, hq, q⟩
  · have e := Vals.ref1 r
    subst e
    obtain ⟨its, rv, ht, hz⟩ := I.tuple hq
    exact sum_tup (I.ok.hd hc) ht (Vals.ints rv) fun h' tk t' k => ⟨.int ns.sum, H, I.kept k, ⟨t', rfl⟩, q⟩
theorem g_sum : GN T K W (rSum2 K) sumP := fun xs ws σ G φ S H Q r d gd => by
  match ws, d, gd with
  | [], d, gd => exact gd.elim
  | [w], d, gd =>
    obtain ⟨v, rfl, dv⟩ := one_den d
    simp only [sumP] at gd
    cases e : seqTup S w with
    | none => rw [e] at gd; exact gd.elim
    | some ys =>
      rw [e] at gd
      obtain ⟨a, vs, rfl, hq, dd⟩ := st_rd r dv e
      simp only at gd
      cases e2 : intsOf ys with
      | none => rw [e2] at gd; exact gd.elim
      | some ns =>
        rw [e2] at gd
        have := intsOf_eq e2
        subst this
        have := dd.toInts
        subst this
        exact ⟨a, ns, rfl, hq, GoodR.here (S := S) gd r (.int _)⟩
  | _ :: _ :: _, d, gd => exact gd.elim
theorem g_all : GN T K W (rAll K) allP := fun xs ws σ G φ S H Q r d gd => by
  match ws, d, gd with
  | [], d, gd => exact gd.elim
  | [w], d, gd =>
    obtain ⟨v, rfl, dv⟩ := one_den d
    simp only [allP] at gd
    cases e : seqOf S w with
    | none => rw [e] at gd; exact gd.elim
    | some ys =>
      rw [e] at gd
      obtain ⟨a, vs, rfl, hq, dd⟩ := seq_rd r dv e
      simp only at gd
      cases e2 : blsOf ys with
      | none => rw [e2] at gd; exact gd.elim
      | some ns =>
        rw [e2] at gd
        have := blsOf_eq e2
        subst this
        have := dd.toBls
        subst this
        exact ⟨a, ns, rfl, hq, GoodR.here (S := S) gd r (.bl _)⟩
  | _ :: _ :: _, d, gd => exact gd.elim
theorem g_minL : GN T K W (rMin K) minLP := fun xs ws σ G φ S H Q r d gd => by
  match ws, d, gd with
  | [], d, gd => exact gd.elim
  | [w], d, gd =>
    obtain ⟨v, rfl, dv⟩ := one_den d
    simp only [minLP] at gd
    cases e : seqOf S w with
    | none => rw [e] at gd; exact gd.elim
    | some ys =>
      rw [e] at gd
      obtain ⟨a, vs, rfl, hq, dd⟩ := seq_rd r dv e
      simp only at gd
      cases e2 : intsOf ys with
      | none => rw [e2] at gd; exact gd.elim
      | some ns =>
        rw [e2] at gd
        have := intsOf_eq e2
        subst this
        have := dd.toInts
        subst this
        simp only at gd
        by_cases c : ns = []
        · rw [if_pos c] at gd; exact gd.elim
        · rw [if_neg c] at gd
          refine ⟨a, ns, rfl, hq, by cases ns with | nil => exact absurd rfl c | cons _ _ => simp, fun m hm hle => ?_⟩
          obtain ⟨h1, h2⟩ := minI_mem c
          have : m = minI ns := Int.le_antisymm (hle _ h1) (h2 _ hm)
          subst this
          exact GoodR.here (S := S) gd r (.int _)
  | _ :: _ :: _, d, gd => exact gd.elim
/-- min of two, of three -/
def rMin23 : List V → Hp → VK → Prop := fun xs H Q => (∃ i j, xs = [.int i, .int j] ∧ Q (.int (if j < i then j else i)) H) ∨ rNuC3 nuMin3 xs H Q
theorem cr_min23 (hc : X.calm = true) : CallR X (.builtin "min") rMin23 := (call_min2 hc).or (call_min3Nu hc)
theorem nuMin3_int (i j k : Int) : nuMin3 (.int i) (.int j) (.int k) = some (.int (if k < (if j < i then j else i) then k else (if j < i then j else i))) := by
  unfold nuMin3 nuMin2 nuLt nuCB
  simp only [Option.map, Option.bind]
  by_cases h : j < i
  · simp only [h, decide_true, if_true]
    by_cases h2 : k < j <;> simp [h2]
  · simp only [h, decide_false, if_false]
    by_cases h2 : k < i <;> simp [h2]
theorem g_min : GN T K W rMin23 minP := fun xs ws σ G φ S H Q r d gd => by
  cases d with
  | nil => exact gd.elim
  | cons d1 t1 =>
    cases t1 with
    | nil => cases d1 <;> exact gd.elim
    | cons d2 t2 =>
      cases t2 with
      | nil =>
        cases d1 with
        | int i =>
          cases d2 with
          | int j => exact .inl ⟨i, j, rfl, GoodR.here (S := S) gd r (.int _)⟩
          | _ => exact gd.elim
        | _ => cases d2 <;> exact gd.elim
      | cons d3 t3 =>
        cases t3 with
        | nil =>
          cases d1 with
          | int i =>
            cases d2 with
            | int j =>
              cases d3 with
              | int k => exact .inr ⟨_, _, _, _, rfl, nuMin3_int i j k, GoodR.here (S := S) gd r (.int _)⟩
              | _ => exact gd.elim
            | _ => cases d3 <;> exact gd.elim
          | _ => cases d2 <;> cases d3 <;> exact gd.elim
        | cons d4 t4 => cases d1 <;> cases d2 <;> cases d3 <;> exact gd.elim
theorem g_int : GN T K W (fun xs H Q => (∃ i, xs = [.int i] ∧ Q (.int i) H) ∨ ∃ k, xs = [.bl k] ∧ Q (.int (if k then 1 else 0)) H) intP := fun xs ws σ G φ S H Q r d gd => by
  match ws, d, gd with
  | [], d, gd => exact gd.elim
  | [w], d, gd =>
    obtain ⟨v, rfl, dv⟩ := one_den d
    cases dv with
    | int i => exact .inl ⟨i, rfl, GoodR.here (S := S) gd r (.int _)⟩
    | bl b => exact .inr ⟨b, rfl, GoodR.here (S := S) gd r (.int _)⟩
    | _ => exact gd.elim
  | _ :: _ :: _, d, gd => cases d with | cons d1 _ => cases d1 <;> exact gd.elim
theorem g_intS : GN T K W (fun xs H Q => ∃ a n, xs = [.str a] ∧ PySem.intText? a = some n ∧ a.length ≤ 640 ∧ Q (.int n) H) intSP := fun xs ws σ G φ S H Q r d gd => by
  match ws, d, gd with
  | [], d, gd => exact gd.elim
  | [w], d, gd =>
    obtain ⟨v, rfl, dv⟩ := one_den d
    cases dv with
    | str z =>
      simp only [intSP] at gd
      cases e : PySem.intText? z with
      | none => rw [e] at gd; exact gd.elim
      | some n =>
        rw [e] at gd
        simp only at gd
        by_cases c : z.length ≤ 640
        · rw [if_pos c] at gd; exact ⟨z, n, rfl, e, c, GoodR.here (S := S) gd r (.int _)⟩
        · rw [if_neg c] at gd; exact gd.elim
    | _ => exact gd.elim
  | _ :: _ :: _, d, gd => cases d with | cons d1 _ => cases d1 <;> exact gd.elim
theorem g_str : GN T K W (fun xs H Q => ∃ i, xs = [.int i] ∧ i.natAbs.log2 < 1920 ∧ Q (.str (toString i)) H) strP := fun xs ws σ G φ S H Q r d gd => by
  match ws, d, gd with
  | [], d, gd => exact gd.elim
  | [w], d, gd =>
    obtain ⟨v, rfl, dv⟩ := one_den d
    cases dv with
    | int z =>
      simp only [strP] at gd
      by_cases c : z.natAbs.log2 < 1920
      · rw [if_pos c] at gd; exact ⟨z, rfl, c, GoodR.here (S := S) gd r (.str _)⟩
      · rw [if_neg c] at gd; exact gd.elim
    | _ => exact gd.elim
  | _ :: _ :: _, d, gd => cases d with | cons d1 _ => cases d1 <;> exact gd.elim
theorem g_list (live : Bool) : GN T K W (fun xs H Q => ∃ p ys, xs = [.ref p] ∧ (SqL K H p ys ∨ SqT K H p ys) ∧ ∀ l, H l = none → Q (.ref l) (upd H l (.lst ys))) (listP live) := fun xs ws σ G φ S H Q r d gd => by
  match ws, d, gd with
  | [], d, gd => exact gd.elim
  | [w], d, gd =>
    obtain ⟨v, rfl, dv⟩ := one_den d
    simp only [listP] at gd
    cases e : seqTup S w with
    | none => rw [e] at gd; exact gd.elim
    | some ys =>
      rw [e] at gd
      obtain ⟨a, vs, rfl, hq, dd⟩ := st_rd r dv e
      exact ⟨a, vs, rfl, hq, fun l hl => made_lst live r hl dd gd⟩
  | _ :: _ :: _, d, gd => exact gd.elim
theorem g_tuple : GN T K W (fun xs H Q => ∃ p ys, xs = [.ref p] ∧ ((SqL K H p ys ∧ ∀ l, H l = none → Q (.ref l) (upd H l (.tup ys))) ∨ (SqT K H p ys ∧ Q (.ref p) H))) tupleP := fun xs ws σ G φ S H Q r d gd => by
  match ws, d, gd with
  | [], d, gd => exact gd.elim
  | [w], d, gd =>
    obtain ⟨v, rfl, dv⟩ := one_den d
    simp only [tupleP] at gd
    cases e : seqTup S w with
    | none => rw [e] at gd; exact gd.elim
    | some ys =>
      rw [e] at gd
      unfold seqTup at e
      cases e1 : seqOf S w with
      | some zs =>
        rw [e1] at e; cases e
        obtain ⟨a, vs, rfl, hq, dd⟩ := seq_rd r dv e1
        exact ⟨a, vs, rfl, .inl ⟨hq, fun l hl => made_tup r hl dd gd⟩⟩
      | none =>
        rw [e1] at e
        cases dv with
        | tup h dd => cases e; exact ⟨_, _, rfl, .inr ⟨SqT.of (r.ex _ _ h), GoodR.here (S := S) gd r (.tup h dd)⟩⟩
        | _ => cases e
  | _ :: _ :: _, d, gd => exact gd.elim
end
end CL
namespace CL
open PySem PySem.Spec PyProof.Rows L2

/-! ### names: what a scope says of them -/
def visB (sc : Scope) (l : List Str) : Bool := l.all fun x => (match sc.names.lookup x with | some .local => true | some .cell => true | some .free => true | _ => false) && !(x == ("__debug__" : Str)) && !(x == ("__classdict__" : Str))
def glB (sc : Scope) (l : List Str) : Bool := l.all fun x => (match sc.names.lookup x with | some .globalImplicit => true | _ => false) && !(x == ("__debug__" : Str)) && !(x == ("__name__" : Str))
/-- the place where one stands: slots N, the scope sc, the names seen vl, the global names gl -/
structure Cok (T : Tab) (X : Cx) (W : WX) (k : Nat) (N : List Str) (sc : Scope) (vl gl : List Str) : Prop where
  tk : Takes X W
  calm : X.calm = true
  nd : N.Nodup
  room : Room k X.A
  hN : X.N = N
  hsc : X.env.scope = sc
  vis : visB sc vl = true
  gls : glB sc gl = true
theorem visB_at {sc : Scope} {l : List Str} (h : visB sc l = true) {j : Nat} {x : Str} (e : l[j]? = some x) : Vis sc x ∧ (x == ("__debug__" : Str)) = false ∧ (x == ("__classdict__" : Str)) = false := by
  have q := List.all_eq_true.mp h x (List.mem_of_getElem? e)
  rw [Bool.and_eq_true, Bool.and_eq_true] at q
  obtain ⟨⟨q1, q2⟩, q3⟩ := q
  refine ⟨?_, by simpa using q2, by simpa using q3⟩
  unfold Vis
  cases z : sc.names.lookup x with
  | none => rw [z] at q1; cases q1
  | some kd => rw [z] at q1; cases kd <;> first | exact .inl rfl | exact .inr (.inl rfl) | exact .inr (.inr rfl) | cases q1
theorem glB_at {sc : Scope} {l : List Str} (h : glB sc l = true) {j : Nat} {x : Str} (e : l[j]? = some x) : sc.names.lookup x = some .globalImplicit ∧ (x == ("__debug__" : Str)) = false ∧ x ≠ "__name__" := by
  have q := List.all_eq_true.mp h x (List.mem_of_getElem? e)
  rw [Bool.and_eq_true, Bool.and_eq_true] at q
  obtain ⟨⟨q1, q2⟩, q3⟩ := q
  refine ⟨?_, by simpa using q2, by simpa using q3⟩
  cases z : sc.names.lookup x with
  | none => rw [z] at q1; cases q1
  | some kd => rw [z] at q1; cases kd <;> first | rfl | cases q1
section
variable {T : Tab} {X : Cx} {W : WX} {k : Nat} {N : List Str} {sc : Scope} {vl gl : List Str} {x : Str} {pos : Pos} {j : Nat}
theorem Cok.gle (C : Cok T X W k N sc vl gl) (e : gl[j]? = some x) : Gl X x ∧ (x == ("__debug__" : Str)) = false ∧ x ≠ "__name__" := by
  have := glB_at C.gls e
  exact ⟨by unfold Gl Env.kindOf; rw [C.hsc]; exact this.1, this.2⟩
theorem Cok.units (C : Cok T X W k N sc vl gl) : X.A.units + 64 < cLine := C.room.units
theorem Cok.hu (C : Cok T X W k N sc vl gl) : X.A.units + 1 < cLine := hu_of C.room
theorem cs_var (C : Cok T X W k N sc vl gl) {i : Nat} (hN : N[i]? = some x) (hv : vl[j]? = some x) : SE T X W (.Name x pos) (fVar i) := by
  obtain ⟨h1, h2, h3⟩ := visB_at C.vis hv
  exact se_var (by rw [C.hN]; exact hN) (by rw [C.hsc]; exact h1) h2 h3
theorem plain_tl {e : Expr} {es : List Expr} {fr : FA} (he : starEach (e :: es) X.env = (false, eval e X.env) :: starEach es X.env) (ha : SA T X W (e :: es) fr) : (backTo pos (starEach es X.env)).any (·.1) = false := by
  have h := ha.plain pos
  rw [he] at h
  have h : (false || (backTo pos (starEach es X.env)).any (·.1)) = false := h
  simpa using h
/-- a constant of the module -/
theorem cs_glob (C : Cok T X W k N sc vl gl) (hg : gl[j]? = some x) {v : V} {u : Value} {w : Wv} (hm : X.mg x = some u) (r : RelV v u) (d : ∀ K G φ, Den K G φ v w) : SE T X W (.Name x pos) (fC w) := by
  obtain ⟨h1, h2, h3⟩ := C.gle hg
  exact se_c (pe_glob h1 hm r h2) d
/-- a built-in function, a built-in class called -/
theorem cs_bi {e : Expr} {es : List Expr} {fr : FA} {id : String} {r : List V → Hp → VK → Prop} {g : List Wv → Sto → Out Wv} {p : Pos} (C : Cok T X W k N sc vl gl) (hg : gl[j]? = some x) (hm : X.mg x = none) (hc : CallR X (.builtin id) r) (hr : GN T X.K W r g)
    (hv : bootBuiltins x = some (.builtin id)) (ha : SA T X W (e :: es) fr) (he : starEach (e :: es) X.env = (false, eval e X.env) :: starEach es X.env) : SE T X W (.Call (.Name x p) (e :: es) [] pos) (fN g fr) := by
  obtain ⟨h1, h2, h3⟩ := C.gle hg
  exact pe_imp (pe_callB hc h1 hm hv ha.pa h3 h2 he (plain_tl he ha)) (s_cb hr)
theorem cs_ty {e : Expr} {es : List Expr} {fr : FA} {id : String} {r : List V → Hp → VK → Prop} {g : List Wv → Sto → Out Wv} {p : Pos} (C : Cok T X W k N sc vl gl) (hg : gl[j]? = some x) (hm : X.mg x = none) (hc : CallR X (.type id) r) (hr : GN T X.K W r g)
    (hv : bootBuiltins x = some (.type id)) (ha : SA T X W (e :: es) fr) (he : starEach (e :: es) X.env = (false, eval e X.env) :: starEach es X.env) : SE T X W (.Call (.Name x p) (e :: es) [] pos) (fN g fr) := by
  obtain ⟨h1, h2, h3⟩ := C.gle hg
  exact pe_imp (pe_callTy hc h1 hm hv ha.pa h3 h2 he (plain_tl he ha)) (s_cb hr)
end

/-! ### isinstance -/
inductive Ty where | non | bl | int | str | tup | lst | dct
  deriving DecidableEq
def Ty.nm : Ty → String
  | .non => "NoneType" | .bl => "bool" | .int => "int" | .str => "str" | .tup => "tuple" | .lst => "list" | .dct => "dict"
def tyOf (S : Sto) : Wv → Option Ty
  | .non => some .non
  | .bl _ => some .bl
  | .int _ => some .int
  | .str _ => some .str
  | .tup _ => some .tup
  | .lst _ => some .lst
  | .scr _ => none
  | .exn _ => none
  | .ref k => match S[k]? with
    | some (.lst _) => some .lst
    | some (.dct _) => some .dct
    | _ => none
def isT (t c : Ty) : Bool := match t, c with
  | .bl, .int => true
  | t, c => decide (t = c)
theorem kitB_ty (t c : Ty) : kitB t.nm c.nm = some (isT t c) := by cases t <;> cases c <;> decide +kernel
def isP (c : Ty) : Wv → Sto → Out Wv := fun w S => match tyOf S w with
  | some t => .ok (.bl (isT t c)) S
  | none => .bad
section
variable {T : Tab} {X : Cx} {W : WX} {k : Nat} {N : List Str} {sc : Scope} {vl gl : List Str} {x : Str} {pos : Pos} {j j2 : Nat}
theorem ty_ok {K : PySem.W.Frag} {G : Hp} {φ : List Addr} {S : Sto} {H : Hp} {v : V} {w : Wv} {t : Ty} (r : Rel T K G φ S H) (d : Den K G φ v w) (h : tyOf S w = some t) : TyX K H v (.type t.nm) := by
  cases d with
  | non => cases h; exact .base .non
  | bl b => cases h; exact .base (.bl b)
  | int b => cases h; exact .base (.int b)
  | str b => cases h; exact .base (.str b)
  | tup e _ => cases h; exact .base (.tup (r.ex _ _ e))
  | lst e _ => cases h; exact .base (.lst (r.ex _ _ e))
  | scr e => cases h
  | exn e => cases h
  | @ref k a e =>
    simp only [tyOf] at h
    cases q : S[k]? with
    | none => rw [q] at h; cases h
    | some o =>
      cases o with
      | lst ys => rw [q] at h; cases h; obtain ⟨vs, e1, _⟩ := r.lref q e; exact .base (.lst e1)
      | dct kvs => rw [q] at h; cases h; obtain ⟨vs, e1, _⟩ := r.ob _ _ _ e q; exact .base (.dK e1)
      | ins _ _ => rw [q] at h; cases h
      | dead => rw [q] at h; cases h
      | tab => rw [q] at h; cases h
      | lck d => rw [q] at h; cases h
theorem cs_isi {e : Expr} {fa : FE} {p p2 : Pos} (c : Ty) {y : Str} (C : Cok T X W k N sc vl gl) (hg : gl[j]? = some ("isinstance" : Str)) (hm : X.mg "isinstance" = none) (hg2 : gl[j2]? = some y) (hm2 : X.mg y = none) (hv2 : bootBuiltins y = some (.type c.nm))
    (ha : SE T X W e fa) (hs : starEach [e, .Name y p2] X.env = (false, eval e X.env) :: starEach [.Name y p2] X.env) : SE T X W (.Call (.Name "isinstance" p) [e, .Name y p2] [] pos) (f1 (isP c) fa) := by
  obtain ⟨h1, h2, h3⟩ := C.gle hg
  obtain ⟨h4, h5, h6⟩ := C.gle hg2
  have q : PE X (.Name y p2) (tC (.ty c.nm)) := pe_bltn h4 hm2 hv2 rfl h6 h5
  refine pe_imp (pe_callB (X := X) (r := rIsi X.K) call_isi h1 hm (by decide +kernel) (pa_cons ha (pa_cons q pa_nil (by rfl)) hs) h3 h2 hs (by rfl)) fun σ H Q ⟨env, G, φ, S, rl, er, gd⟩ => ?_
  refine ⟨env, G, φ, S, rl, er, (GoodR.bind gd).imp fun v H1 ⟨w, S1, G1, φ1, x1, r1, d1, g1⟩ => ?_⟩
  simp only [isP] at g1
  cases e1 : tyOf S1 w with
  | none => rw [e1] at g1; exact g1.elim
  | some t =>
    rw [e1] at g1
    exact ⟨v, .ty c.nm, _, _, isT t c, rfl, .ty _, ty_ok r1 d1 e1, kit_ty (kitB_ty t c), GoodR.here (S := S1) g1 r1 (.bl _)⟩
end

/-! ### defs -/
def spF (T : Tab) (K : PySem.W.Frag) (n : Nat) (F : List Wv → Sto → Out Wv) : Sp := fun vs H Q E => vs.length = n ∧ ∃ G φ S ws, Rel T K G φ S H ∧ Dens K G φ vs ws ∧ GoodR (Den K) T K (fun c d _ H => E c d H) [] H G φ Q (F ws S)
theorem GoodR.sig {α ν : Type} {R : Hp → List Addr → ν → α → Prop} {T : Tab} {K : PySem.W.Frag} {W W' : WX} {σ σ' : L2.St} {H G : Hp} {φ : List Addr} {Q : ν → Hp → Prop} {o : Out α} (h : GoodR R T K W σ H G φ Q o) (i : ∀ c d H, W c d σ H → W' c d σ' H) : GoodR R T K W' σ' H G φ Q o := by
  cases o with
  | ok w S => exact h
  | exc c S => exact fun H' G' φ' x r => i _ _ _ (h H' G' φ' x r)
  | bad => exact h
/-- a def of the module, under its name -/
structure Cal (T : Tab) (P : Program) (w : World) (K : PySem.W.Frag) (mg : Str → Option Value) (base : Heap) (x : Str) (k n : Nat) (F : List Wv → Sto → Out Wv) : Prop where
  ex : ∃ f fd ps, ps.length = n ∧ FnOk P w K mg base (L2.CX P w) k f fd ps (spF T K n F) ∧ mg x = some (.ref f) ∧ PySem.W.keepIn K (.ref f) = true ∧ Binds K fd ps []
/-- a method of the class c -/
structure Mal (T : Tab) (P : Program) (w : World) (K : PySem.W.Frag) (mg : Str → Option Value) (base : Heap) (c : Nat) (m : Str) (k n : Nat) (F : List Wv → Sto → Out Wv) : Prop where
  ex : ∃ f fd ps, ps.length = n ∧ FnOk P w K mg base (L2.CX P w) k f fd ps (spF T K n F) ∧ Meth K (T.cad c) m f ∧ Binds K fd ps []
/-- a class, made by its __init__ -/
structure Kal (T : Tab) (P : Program) (w : World) (K : PySem.W.Frag) (mg : Str → Option Value) (base : Heap) (c : Nat) (x : Str) (k n : Nat) (F : List Wv → Sto → Out Wv) : Prop where
  ex : ∃ f fd ps, ps.length = n ∧ FnOk P w K mg base (L2.CX P w) k f fd ps (spF T K n F) ∧ Mk K (T.cad c) f ∧ mg x = some (.ref (T.cad c)) ∧ Binds K fd ps []
/-- the class itself: its attributes -/
structure Cla (T : Tab) (K : PySem.W.Frag) (c : Nat) : Prop where
  cl : Cls K (T.cad c)
  no : ∀ f ∈ T.cnm c, NoAttr K (T.cad c) f
  nd : (T.cnm c).Nodup
  few : (T.cnm c).length < 1000

def newP (c : Nat) (F : List Wv → Sto → Out Wv) : List Wv → Sto → Out Wv := fun ws S => (F (.ref S.length :: ws) (S ++ [.ins c []])).bind fun v S1 => match v with
  | .non => .ok (.ref S.length) S1
  | _ => .bad
/-- the receiver is an instance of the class c -/
def isInst (c : Nat) (S : Sto) (w : Wv) : Bool := match w with
  | .ref k => match S[k]? with
    | some (.ins c' _) => decide (c' = c)
    | _ => false
  | _ => false
def fMeth (c : Nat) (F : List Wv → Sto → Out Wv) (fo : FE) (fr : FA) : FE := fun env S => (fo env S).bind fun w S1 => if isInst c S1 w = true then (fr env S1).bind fun ws S2 => F (w :: ws) S2 else .bad
def fFld (c i : Nat) (fo : FE) : FE := fun env S => (fo env S).bind fun w S1 => match w with
  | .ref k => match S1[k]? with
    | some (.ins c' ws) => if c' = c then match ws[i]? with
      | some x => .ok x S1
      | none => .bad
      else .bad
    | _ => .bad
  | _ => .bad
theorem zip_none {α : Type} : ∀ {ns : List Str} {vs : List α} {m : Str}, m ∉ ns → (ns.zip vs).lookup m = none
  | [], _, _, _ => rfl
  | _ :: _, [], _, _ => rfl
  | n :: ns, v :: vs, m, h => by
    have h1 : (m == n) = false := by simp; exact fun e => h (by rw [e]; exact List.mem_cons_self)
    rw [List.zip_cons_cons, List.lookup_cons, h1]
    exact zip_none fun q => h (List.mem_cons_of_mem _ q)
theorem zip_at {α : Type} : ∀ {ns : List Str} {vs : List α} {i : Nat} {f : Str} {v : α}, ns.Nodup → ns[i]? = some f → vs[i]? = some v → (ns.zip vs).lookup f = some v
  | [], _, _, _, _, _, h, _ => by simp at h
  | _ :: _, [], _, _, _, _, _, h => by simp at h
  | n :: ns, w :: vs, 0, f, v, _, h1, h2 => by
    simp at h1 h2; subst h1; subst h2
    simp
  | n :: ns, w :: vs, i + 1, f, v, nd, h1, h2 => by
    have h1' : ns[i]? = some f := by simpa using h1
    have h2' : vs[i]? = some v := by simpa using h2
    obtain ⟨n1, n2⟩ := List.nodup_cons.mp nd
    have h3 : (f == n) = false := by simp; exact fun e => n1 (by rw [← e]; exact List.mem_of_getElem? h1')
    rw [List.zip_cons_cons, List.lookup_cons, h3]
    exact zip_at n2 h1' h2'
section
variable {T : Tab} {X : Cx} {W : WX} {k k' n c : Nat} {N : List Str} {sc : Scope} {vl gl : List Str} {x m : Str} {pos p apos : Pos} {j : Nat} {F : List Wv → Sto → Out Wv} {e o : Expr} {es : List Expr} {fr : FA} {fo : FE}
theorem sp_ok {vs : List V} {H : Hp} {Q : VK} {ws : List Wv} {S : Sto} {G : Hp} {φ : List Addr} {σ : L2.St} {n : Nat} (hl : vs.length = n) (r : Rel T X.K G φ S H) (d : Dens X.K G φ vs ws) (g : GoodR (Den X.K) T X.K W σ H G φ Q (F ws S)) : spF T X.K n F vs H Q (WE W σ) :=
  ⟨hl, G, φ, S, ws, r, d, g.sig fun _ _ _ h => h⟩
theorem cs_call (C : Cok T X W k N sc vl gl) (hg : gl[j]? = some x) (h : Cal T X.prog X.w X.K X.mg X.base x k' n F) (hk : k' ≤ k) (ha : SA T X W (e :: es) fr) (hne : (e :: es).length = n)
    (he : starEach (e :: es) X.env = (false, eval e X.env) :: starEach es X.env) : SE T X W (.Call (.Name x p) (e :: es) [] pos) (fN F fr) := by
  obtain ⟨f, fd, ps, hps, FO, hm, hkp, hb⟩ := h.ex
  obtain ⟨h1, h2, h3⟩ := C.gle hg
  refine pe_imp (pe_callS FO (C.room.mono hk) h1 hm hkp hb (fun σ => passAt C.tk σ) ha.pa h2 he (plain_tl he ha)) fun σ H Q ⟨env, G, φ, S, rl, er, gd⟩ => ?_
  refine ⟨env, G, φ, S, rl, er, ?_⟩
  have g0 : GoodR (Den X.K) T X.K W σ H G φ Q ((fr env S).bind F) := gd
  cases q : fr env S with
  | bad => rw [q] at g0; exact g0
  | exc c S' => rw [q] at g0; exact g0
  | ok ws S' =>
    rw [q] at g0
    exact fun v H1 G1 φ1 x1 r1 d1 => sp_ok (by rw [d1.len, ha.len _ _ _ _ q]; exact hne) r1 d1 (g0.ext x1)
/-- a method's call, what it raises wished for at the slots -/
theorem pe_methSD {CX : CXT} {k : Nat} {C f : Addr} {fd : FuncData} {ps : List Str} {sp : Sp} {E : L2.St → XK} {ta : TE} {t : TA} {pl : Sem Bool} (he : PE X o ta) (c : Cls X.K C) (hm : Meth X.K C m f) (F : FnOk X.prog X.w X.K X.mg X.base CX k f fd ps sp) (hr : Room k X.A) (hb : Binds X.K fd ps []) (hx : ∀ σ, PassesAt CX X σ (E σ)) (ha : PA X (e :: es) t)
    (hst : starEach (e :: es) X.env = (false, eval e X.env) :: starEach es X.env) (hpl : (backTo pos (starEach es X.env)).any (·.1) = false)
    (ht : eval (.Call (.Attribute o m apos) (e :: es) [] pos) X.env = (do
      let ov ← eval o X.env
      standAt apos.atName
      let (f, first) ← holding [ov] (getMethod ov m pl)
      callWith pos f first (backTo pos (starEach (e :: es) X.env)) (backToKw pos (keywordEach [] X.env)))) :
    PE X (.Call (.Attribute o m apos) (e :: es) [] pos) (fun σ H Q => ta σ H fun x H1 => ∃ a dx fs, x = .ref a ∧ H1 a = some (.ins C dx fs) ∧ fs.lookup m = none ∧ t σ H1 fun vs H2 => sp (x :: vs) H2 Q (E σ)) := by
  refine ⟨fun pins s σ H Q I h => ?_⟩
  refine PySem.W.methodCall_KW (pl := pl) (thn (he.run pins s σ H _ I h) fun u s1 ⟨x, H1, I1, rx, a, dx, fs, ex, ea, l, q⟩ => ?_) ht
  subst ex
  obtain rfl : u = Value.ref a := rx
  refine getmeth_ok I1 ea c hm l ?_
  refine PySem.W.callWith_K (first := [.ref a]) (h₀ := X.base) I.ok.mod.kin hm.kp (thn (ha.run pos pins s1 σ H1 _ I1 q) fun us s2 ⟨vs, H2, I2, r, q2⟩ => ⟨I2.kIn, ?_⟩) hst hpl
  exact run_fnS (us := .ref a :: us) (vs := .ref a :: vs) F hr hb (hx σ) I2 (.cons rfl r) q2
theorem pe_methSD0 {CX : CXT} {k : Nat} {C f : Addr} {fd : FuncData} {ps : List Str} {sp : Sp} {E : L2.St → XK} {ta : TE} {pl : Sem Bool} (he : PE X o ta) (c : Cls X.K C) (hm : Meth X.K C m f) (F : FnOk X.prog X.w X.K X.mg X.base CX k f fd ps sp) (hr : Room k X.A) (hb : Binds X.K fd ps []) (hx : ∀ σ, PassesAt CX X σ (E σ))
    (ht : eval (.Call (.Attribute o m apos) [] [] pos) X.env = (do
      let ov ← eval o X.env
      standAt apos.atName
      let (f, first) ← holding [ov] (getMethod ov m pl)
      callWith pos f first (backTo pos (starEach [] X.env)) (backToKw pos (keywordEach [] X.env)))) :
    PE X (.Call (.Attribute o m apos) [] [] pos) (fun σ H Q => ta σ H fun x H1 => ∃ a dx fs, x = .ref a ∧ H1 a = some (.ins C dx fs) ∧ fs.lookup m = none ∧ sp [x] H1 Q (E σ)) := by
  refine ⟨fun pins s σ H Q I h => ?_⟩
  refine PySem.W.methodCall_KW (pl := pl) (thn (he.run pins s σ H _ I h) fun u s1 ⟨x, H1, I1, rx, a, dx, fs, ex, ea, l, q⟩ => ?_) ht
  subst ex
  obtain rfl : u = Value.ref a := rx
  refine getmeth_ok I1 ea c hm l ?_
  exact PySem.W.callWith_K0 (first := [.ref a]) I1.kIn hm.kp (run_fnS (us := [.ref a]) (vs := [.ref a]) F hr hb (hx σ) I1 (.cons rfl .nil) q)
theorem inst_rd {G : Hp} {φ : List Addr} {S : Sto} {H : Hp} {v : V} {w : Wv} {c : Nat} {K : PySem.W.Frag} (r : Rel T K G φ S H) (d : Den K G φ v w) (h : isInst c S w = true) : ∃ a dx vs, v = .ref a ∧ H a = some (.ins (T.cad c) dx ((T.cnm c).zip vs)) := by
  cases d with
  | @ref k a e =>
    simp only [isInst] at h
    cases q : S[k]? with
    | none => rw [q] at h; cases h
    | some o =>
      cases o with
      | ins c' ws =>
        rw [q] at h
        have : c' = c := of_decide_eq_true h
        subst this
        obtain ⟨dx, vs, e1, _⟩ := r.ob _ _ _ e q
        exact ⟨a, dx, vs, rfl, e1⟩
      | _ => rw [q] at h; cases h
  | _ => cases h
theorem cs_meth (c : Nat) (C : Cok T X W k N sc vl gl) (cl : Cla T X.K c) (h : Mal T X.prog X.w X.K X.mg X.base c m k' n F) (hk : k' ≤ k) (hmn : m ∉ T.cnm c) (ho : SE T X W o fo) (ha : SA T X W (e :: es) fr) (hne : (e :: es).length + 1 = n)
    {pl : Sem Bool} (hst : starEach (e :: es) X.env = (false, eval e X.env) :: starEach es X.env)
    (ht : eval (.Call (.Attribute o m apos) (e :: es) [] pos) X.env = (do
      let ov ← eval o X.env
      standAt apos.atName
      let (f, first) ← holding [ov] (getMethod ov m pl)
      callWith pos f first (backTo pos (starEach (e :: es) X.env)) (backToKw pos (keywordEach [] X.env)))) : SE T X W (.Call (.Attribute o m apos) (e :: es) [] pos) (fMeth c F fo fr) := by
  obtain ⟨f, fd, ps, hps, FO, hm, hb⟩ := h.ex
  refine pe_imp (pe_methSD ho cl.cl hm FO (C.room.mono hk) hb (fun σ => passAt C.tk σ) ha.pa hst (plain_tl hst ha) ht) fun σ H Q ⟨env, G, φ, S, rl, er, gd⟩ => ?_
  refine ⟨env, G, φ, S, rl, er, (GoodR.bind gd).imp fun v H1 ⟨w, S1, G1, φ1, x1, r1, d1, g1⟩ => ?_⟩
  by_cases ci : isInst c S1 w = true
  · rw [if_pos ci] at g1
    obtain ⟨a, dx, vs, rfl, ha1⟩ := inst_rd r1 d1 ci
    refine ⟨a, dx, _, rfl, ha1, zip_none hmn, env, G1, φ1, S1, r1, x1.envr er, ?_⟩
    cases q : fr env S1 with
    | bad => rw [q] at g1; exact g1
    | exc c S' => rw [q] at g1; exact g1
    | ok ws S' =>
      rw [q] at g1
      exact fun vs H2 G2 φ2 x2 r2 d2 => sp_ok (by rw [List.length_cons, d2.len, ha.len _ _ _ _ q]; exact hne) r2 (.cons (x2.den d1) d2) (g1.ext x2)
  · rw [if_neg ci] at g1; exact g1.elim
theorem cs_meth0 (c : Nat) (C : Cok T X W k N sc vl gl) (cl : Cla T X.K c) (h : Mal T X.prog X.w X.K X.mg X.base c m k' 1 F) (hk : k' ≤ k) (hmn : m ∉ T.cnm c) (ho : SE T X W o fo)
    {pl : Sem Bool} (ht : eval (.Call (.Attribute o m apos) [] [] pos) X.env = (do
      let ov ← eval o X.env
      standAt apos.atName
      let (f, first) ← holding [ov] (getMethod ov m pl)
      callWith pos f first (backTo pos (starEach [] X.env)) (backToKw pos (keywordEach [] X.env)))) : SE T X W (.Call (.Attribute o m apos) [] [] pos) (fMeth c F fo fNil) := by
  obtain ⟨f, fd, ps, hps, FO, hm, hb⟩ := h.ex
  refine pe_imp (pe_methSD0 ho cl.cl hm FO (C.room.mono hk) hb (fun σ => passAt C.tk σ) ht) fun σ H Q ⟨env, G, φ, S, rl, er, gd⟩ => ?_
  refine ⟨env, G, φ, S, rl, er, (GoodR.bind gd).imp fun v H1 ⟨w, S1, G1, φ1, x1, r1, d1, g1⟩ => ?_⟩
  by_cases ci : isInst c S1 w = true
  · rw [if_pos ci] at g1
    obtain ⟨a, dx, vs, rfl, ha1⟩ := inst_rd r1 d1 ci
    exact ⟨a, dx, _, rfl, ha1, zip_none hmn, sp_ok rfl r1 (.cons d1 .nil) g1⟩
  · rw [if_neg ci] at g1; exact g1.elim
theorem run_makeS {CX : CXT} {k : Nat} {C f : Addr} {fd : FuncData} {ps : List Str} {sp : Sp} {E : XK} {pins : List (Addr × Obj)} {σ : L2.St} {H : Hp} {s : Shared} {Q : VK} {us : List Value} {vs : List V} (M : Mk X.K C f) (F : FnOk X.prog X.w X.K X.mg X.base CX k f fd ps sp) (hr : Room (k + 1) X.A) (hb : Binds X.K fd ps [])
    (hx : PassesAt CX X σ E) (I : Inv X pins σ H s) (r : Vals vs us)
    (h : ∀ x dx, H x = none → H dx = none → dx ≠ x → sp (.ref x :: vs) (upd (upd H dx (.own x)) x (.ins C dx [])) (fun v H2 => v = .non ∧ Q (.ref x) H2) E) :
    wpAny (model X.prog X.w) X.A (call (.ref C) us) (EP X pins σ Q) X.xe s := by
  have hq := h (s.heap.objs.size + 1) s.heap.objs.size (I.hok.fresh (Nat.le_succ _)) (I.hok.fresh (Nat.le_refl _)) (Nat.ne_of_lt (Nat.lt_succ_self _))
  have I2 := Inv.made (C := C) I
  have r2 : Vals (V.ref (s.heap.objs.size + 1) :: vs) (Value.ref (s.heap.objs.size + 1) :: us) := .cons rfl r
  have hl : (Value.ref (s.heap.objs.size + 1) :: us).length = ps.length := by
    have e := r2.length
    rw [F.len _ _ _ _ hq] at e
    exact e.symm
  have b := hb _ (Value.ref (s.heap.objs.size + 1) :: us) I2.kIn (by rw [List.append_nil]; exact hl)
  rw [List.append_nil] at b
  refine wpAny_call (make_map (f := f) I.kIn M.makes M.init (beq_iff_eq.mp M.fn) (codeAny_mono (F.run _ X.stack _ _ ⟨Value.ref (s.heap.objs.size + 1) :: us, []⟩ (Value.ref (s.heap.objs.size + 1) :: us) _ _ E (hr.make C us [])
    (I2.env0.make C us []) b r2 hq) fun r s' hq' => ?_))
  cases r with
  | error e => exact hx pins _ _ e s' I2 hq'
  | ok fl =>
    cases fl with
    | ret u =>
      obtain ⟨v, H', I3, rv, ev, q3⟩ := I2.after hq'
      subst ev
      exact ⟨rv, ⟨V.ref (s.heap.objs.size + 1), H', I3, rfl, q3⟩⟩
    | next => exact False.elim hq'
    | brk => exact False.elim hq'
    | cont => exact False.elim hq'
theorem cs_new (c : Nat) (C : Cok T X W k N sc vl gl) (hg : gl[j]? = some x) (h : Kal T X.prog X.w X.K X.mg X.base c x k' n F) (hk : k' + 1 ≤ k) (ha : SA T X W (e :: es) fr) (hne : (e :: es).length + 1 = n)
    (he : starEach (e :: es) X.env = (false, eval e X.env) :: starEach es X.env) : SE T X W (.Call (.Name x p) (e :: es) [] pos) (fN (newP c F) fr) := by
  obtain ⟨f, fd, ps, hps, FO, M, hm, hb⟩ := h.ex
  obtain ⟨h1, h2, h3⟩ := C.gle hg
  refine ⟨fun pins s σ H Q I ⟨env, G, φ, S, rl, er, gd⟩ => ?_⟩
  refine wpAny_Call_Name_kw (ld_glob I h1 hm ?_ h2)
  have g0 : GoodR (Den X.K) T X.K W σ H G φ Q ((fr env S).bind (newP c F)) := gd
  refine PySem.W.callWith_K (h₀ := X.base) I.ok.mod.kin M.kp (thn (ha.pa.run pos pins s σ H (fun vs H1 => ∀ x dx, H1 x = none → H1 dx = none → dx ≠ x → spF T X.K n F (.ref x :: vs) (upd (upd H1 dx (.own x)) x (.ins (T.cad c) dx [])) (fun v H2 => v = .non ∧ Q (.ref x) H2) (WE W σ)) I ⟨env, G, φ, S, rl, er, ?_⟩) fun us s1 ⟨vs, H1, I1, r, q⟩ => ⟨I1.kIn, ?_⟩) he (plain_tl he ha)
  · cases q : fr env S with
    | bad => rw [q] at g0; exact g0
    | exc c S' => rw [q] at g0; exact g0
    | ok ws S' =>
      rw [q] at g0
      intro vs H1 G1 φ1 x1 r1 d1 x dx nx ndx ne
      have g1 := g0.ext x1
      have hH : ∀ a u, H1 a = some u → upd (upd H1 dx (.own x)) x (.ins (T.cad c) dx []) a = some u := fun a u e => by
        rw [upd_ne (ne_of_none e nx), upd_ne (ne_of_none e ndx)]; exact e
      obtain ⟨r2, x2⟩ := r1.alive (T := T) (o := .ins c []) (H' := upd (upd H1 dx (.own x)) x (.ins (T.cad c) dx [])) nx hH upd_same ⟨dx, [], by rw [upd_same]; simp, .nil, by simp⟩
      refine ⟨by rw [List.length_cons, d1.len, ha.len _ _ _ _ q]; exact hne, G1, φ1 ++ [x], S' ++ [.ins c []], .ref S'.length :: ws, r2, .cons (.ref (by rw [← r1.len]; simp)) (x2.dens d1), ?_⟩
      have g2 : GoodR (Den X.K) T X.K W σ (upd (upd H1 dx (.own x)) x (.ins (T.cad c) dx [])) G1 (φ1 ++ [x]) Q ((F (.ref S'.length :: ws) (S' ++ [.ins c []])).bind fun v S1 => match v with | .non => .ok (.ref S'.length) S1 | _ => .bad) := g1.ext x2
      refine ((GoodR.bind (R := Den X.K) g2).imp fun v H2 ⟨w, S2, G2, φ2, x3, r3, d3, g3⟩ => ?_).sig fun _ _ _ h => h
      cases d3 with
      | non => exact ⟨rfl, GoodR.here (S := S2) g3 r3 (x3.den (.ref (by rw [← r1.len]; simp)))⟩
      | _ => exact g3.elim
  · exact run_makeS M FO (C.room.mono hk) hb (passAt C.tk σ) I1 r q
theorem cs_fld (c i : Nat) {f : Str} (cl : Cla T X.K c) (hf : (T.cnm c)[i]? = some f) (ho : SE T X W o fo) (hb : attributeBase o f X.env (eval o X.env) = eval o X.env) : SE T X W (.Attribute o f pos) (fFld c i fo) :=
  pe_imp (pe_fld ho hb) fun σ H Q ⟨env, G, φ, S, rl, er, gd⟩ => by
    refine ⟨env, G, φ, S, rl, er, (GoodR.bind gd).imp fun v H1 ⟨w, S1, G1, φ1, x1, r1, d1, g1⟩ => ?_⟩
    cases d1 with
    | @ref k a e =>
      simp only at g1
      cases q : S1[k]? with
      | none => rw [q] at g1; exact g1.elim
      | some ob =>
        rw [q] at g1
        cases ob with
        | ins c' ws =>
          simp only at g1
          by_cases hc : c' = c
          · subst hc
            rw [if_pos rfl] at g1
            cases q2 : ws[i]? with
            | none => rw [q2] at g1; exact g1.elim
            | some y =>
              rw [q2] at g1
              obtain ⟨dx, vs, e1, dd, _⟩ := r1.ob _ _ _ e q
              obtain ⟨v, hv, dv⟩ := dd.get q2
              exact ⟨a, _, dx, _, v, rfl, e1, cl.cl, cl.no _ (List.mem_of_getElem? hf), zip_at cl.nd hf hv, GoodR.here (S := S1) g1 r1 dv⟩
          · rw [if_neg hc] at g1; exact g1.elim
        | _ => exact g1.elim
    | _ => exact g1.elim
end
end CL
namespace CL
open PySem PySem.Spec PyProof.Rows L2

/-! ### statements -/
def GoodS (T : Tab) (K : PySem.W.Frag) (W : WX) (D : Ends) (H : Hp) (G : Hp) (φ : List Addr) : SOut → Prop
  | .nx e S' => ∀ σ' H' G' φ', Ext G φ H G' φ' H' → Rel T K G' φ' S' H' → EnvR K G' φ' σ' e → D.nx σ' H'
  | .rt w S' => ∀ v H' G' φ', Ext G φ H G' φ' H' → Rel T K G' φ' S' H' → Den K G' φ' v w → D.rt v H'
  | .bk e S' => ∀ σ' H' G' φ', Ext G φ H G' φ' H' → Rel T K G' φ' S' H' → EnvR K G' φ' σ' e → D.bk σ' H'
  | .ct e S' => ∀ σ' H' G' φ', Ext G φ H G' φ' H' → Rel T K G' φ' S' H' → EnvR K G' φ' σ' e → D.ct σ' H'
  | .exc c e S' => ∀ σ' H' G' φ', Ext G φ H G' φ' H' → Rel T K G' φ' S' H' → EnvR K G' φ' σ' e → W (.ref (T.ead c)) none σ' H'
  | .bad => False
theorem GoodS.ext {T : Tab} {K : PySem.W.Frag} {W : WX} {D : Ends} {H H' G G' : Hp} {φ φ' : List Addr} {o : SOut} (e : Ext G φ H G' φ' H') (h : GoodS T K W D H G φ o) : GoodS T K W D H' G' φ' o := by
  cases o with
  | nx _ S => exact fun σ H2 G2 φ2 x => h σ H2 G2 φ2 (e.trans x)
  | rt _ S => exact fun σ H2 G2 φ2 x => h σ H2 G2 φ2 (e.trans x)
  | bk _ S => exact fun σ H2 G2 φ2 x => h σ H2 G2 φ2 (e.trans x)
  | ct _ S => exact fun σ H2 G2 φ2 x => h σ H2 G2 φ2 (e.trans x)
  | exc c _ S => exact fun σ H2 G2 φ2 x => h σ H2 G2 φ2 (e.trans x)
  | bad => exact h
def tS (T : Tab) (K : PySem.W.Frag) (W : WX) (f : FS) : TS := fun D σ H => ∃ env G φ S, Rel T K G φ S H ∧ EnvR K G φ σ env ∧ GoodS T K W D H G φ (f env S)
abbrev SS (T : Tab) (X : Cx) (W : WX) (st : Stmt) (f : FS) : Prop := PS X st (tS T X.K W f)
abbrev SSs (T : Tab) (X : Cx) (W : WX) (st : List Stmt) (f : FS) : Prop := PSs X st (tS T X.K W f)

def SOut.andThen (o : SOut) (g : FS) : SOut := match o with
  | .nx e S => g e S
  | o => o
def sSeq (f g : FS) : FS := fun env S => (f env S).andThen g
def sNil : FS := fun env S => .nx env S
/-- an expression's outcome, then a statement's -/
def Out.thn {α : Type} (o : Out α) (env : Env) (g : α → Sto → SOut) : SOut := match o with
  | .ok a S => g a S
  | .exc c S => .exc c env S
  | .bad => .bad
def sSet (i : Nat) (fe : FE) : FS := fun env S => (fe env S).thn env fun w S1 => .nx (env.set i (some w)) S1
def sExpr (fe : FE) : FS := fun env S => (fe env S).thn env fun _ S1 => .nx env S1
def sRet (fe : FE) : FS := fun env S => (fe env S).thn env fun w S1 => .rt w S1
def sIf (ft : FT) (f g : FS) : FS := fun env S => (ft env S).thn env fun b S1 => if b = true then f env S1 else g env S1
def sFld (c i : Nat) (fo fe : FE) : FS := fun env S => (fe env S).thn env fun w S1 => (fo env S1).thn env fun o S2 => match o with
  | .ref k => match S2[k]? with
    | some (.ins c' ws) => if c' = c then
        if i < ws.length then .nx env (S2.set k (.ins c (ws.set i w)))
        else if i = ws.length then .nx env (S2.set k (.ins c (ws ++ [w]))) else .bad
      else .bad
    | _ => .bad
  | _ => .bad
def sRaise (c : Nat) : FS := fun env S => .exc c env S
/-- no statement of the text: the list that the slot i holds is changed no more -/
def frzW (S : Sto) : Wv → Option (Wv × Sto)
  | .ref k => match S[k]? with
    | some (.lst ws) => some (.lst ws, S.set k .dead)
    | _ => none
  | _ => none
def sFrz (i : Nat) : FS := fun env S => match env[i]? with
  | some (some w) => match frzW S w with
    | some (w', S') => .nx (env.set i (some w')) S'
    | none => .bad
  | _ => .bad

section
variable {T : Tab} {X : Cx} {W : WX} {k : Nat} {N : List Str} {sc : Scope} {vl gl : List Str} {x : Str} {pos pos' : Pos} {j : Nat} {e : Expr} {fe fo : FE} {ft : FT} {f g : FS} {st : Stmt} {rest a b : List Stmt}
theorem GoodR.stmt {α ν : Type} {R : Hp → List Addr → ν → α → Prop} {K : PySem.W.Frag} {σ : L2.St} {H G : Hp} {φ : List Addr} {env : Env} {D : Ends} {o : Out α} {gk : α → Sto → SOut} (er : EnvR K G φ σ env) (h : GoodS T K W D H G φ (o.thn env gk)) :
    GoodR R T K W σ H G φ (fun v H1 => ∃ w S1 G1 φ1, Ext G φ H G1 φ1 H1 ∧ Rel T K G1 φ1 S1 H1 ∧ R G1 φ1 v w ∧ GoodS T K W D H1 G1 φ1 (gk w S1)) o := by
  cases o with
  | ok w S => exact fun v H1 G1 φ1 x r d => ⟨w, S, G1, φ1, x, r, d, h.ext x⟩
  | exc c S => exact fun H1 G1 φ1 x r => h σ H1 G1 φ1 x r (x.envr er)
  | bad => exact h
theorem ss_nil : SSs T X W [] sNil := pss_imp pss_nil fun D σ H ⟨env, G, φ, S, r, er, g⟩ => g σ H G φ Ext.refl r er
theorem ss_cons (h1 : SS T X W st f) (h2 : SSs T X W rest g) : SSs T X W (st :: rest) (sSeq f g) := pss_imp (pss_cons h1 h2) fun D σ H ⟨env, G, φ, S, r, er, gd⟩ => by
  refine ⟨env, G, φ, S, r, er, ?_⟩
  unfold sSeq at gd
  cases q : f env S with
  | nx e' S' => rw [q] at gd; exact fun σ' H' G' φ' x r' er' => ⟨e', G', φ', S', r', er', GoodS.ext x gd⟩
  | rt w S' => rw [q] at gd; exact gd
  | bk e' S' => rw [q] at gd; exact gd
  | ct e' S' => rw [q] at gd; exact gd
  | exc c e' S' => rw [q] at gd; exact gd
  | bad => rw [q] at gd; exact gd
theorem ss_one (h1 : SS T X W st f) : SSs T X W [st] f := pss_one h1
/-- a ghost step ahead of the rest -/
theorem ss_ghost {gh : FS} (hg : ∀ D σ H, tS T X.K W (sSeq gh g) D σ H → tS T X.K W g D σ H) (h2 : SSs T X W rest g) : SSs T X W rest (sSeq gh g) := pss_imp h2 hg
theorem ss_frz (i : Nat) (h2 : SSs T X W rest g) : SSs T X W rest (sSeq (sFrz i) g) := ss_ghost (fun D σ H ⟨env, G, φ, S, r, er, gd⟩ => by
  unfold sSeq sFrz at gd
  cases q : env[i]? with
  | none => rw [q] at gd; exact gd.elim
  | some o =>
    cases o with
    | none => rw [q] at gd; exact gd.elim
    | some w =>
      rw [q] at gd
      cases w with
      | ref k =>
        simp only [frzW] at gd
        cases q2 : S[k]? with
        | none => rw [q2] at gd; exact gd.elim
        | some ob =>
          rw [q2] at gd
          cases ob with
          | lst ws =>
            obtain ⟨v, hv, d⟩ := er.2 i _ q
            cases d with
            | @ref _ a ha =>
              obtain ⟨vs, r', x', d'⟩ := r.freeze ha q2
              refine ⟨env.set i (some (.lst ws)), _, φ, _, r', ?_, GoodS.ext x' gd⟩
              have := (x'.envr er).set (v := .ref a) (w := .lst ws) (.lst upd_same d') i
              have e2 : σ.set i (some (V.ref a)) = σ := by
                have := (List.getElem?_eq_some_iff.mp hv)
                obtain ⟨h1, h2⟩ := this
                rw [← h2]; exact List.set_getElem_self h1
              rwa [e2] at this
          | dct _ => exact gd.elim
          | ins _ _ => exact gd.elim
          | dead => exact gd.elim
          | tab => exact gd.elim
          | lck d => exact gd.elim
      | _ => exact gd.elim) h2
theorem cs_set (C : Cok T X W k N sc vl gl) {i : Nat} {p : Pos} (hi : N[i]? = some x) (hv : vl[j]? = some x) (hx : Loc sc x) (he : SE T X W e fe) (hs : swapsWith e (some (.Name x p)) pos.line X.env = pure false) (hf : X.fn x = true ∨ X.env.scope.names.lookup x = some .local) :
    SS T X W (.Assign [.Name x p] e pos) (sSet i fe) := ps_imp (ps_set (by rw [C.hN]; exact C.nd) (by rw [C.hN]; exact hi) (by rw [C.hsc]; exact hx) he hs hf) fun D σ H ⟨env, G, φ, S, r, er, gd⟩ =>
  ⟨env, G, φ, S, r, er, (GoodR.stmt (R := Den X.K) er gd).imp fun v H1 ⟨w, S1, G1, φ1, x1, r1, d1, g1⟩ => g1 _ H1 G1 φ1 Ext.refl r1 ((x1.envr er).set d1 i)⟩
theorem cs_expr (he : SE T X W e fe) (hs : swapsWith e none pos.line X.env = pure false) : SS T X W (.Expr e pos) (sExpr fe) := ps_imp (ps_expr he hs) fun D σ H ⟨env, G, φ, S, r, er, gd⟩ =>
  ⟨env, G, φ, S, r, er, (GoodR.stmt (R := Den X.K) er gd).imp fun v H1 ⟨w, S1, G1, φ1, x1, r1, d1, g1⟩ => g1 _ H1 G1 φ1 Ext.refl r1 (x1.envr er)⟩
theorem cs_ret (he : SE T X W e fe) : SS T X W (.Return (some e) pos) (sRet fe) := ps_imp (ps_ret he) fun D σ H ⟨env, G, φ, S, r, er, gd⟩ =>
  ⟨env, G, φ, S, r, er, (GoodR.stmt (R := Den X.K) er gd).imp fun v H1 ⟨w, S1, G1, φ1, x1, r1, d1, g1⟩ => g1 v H1 G1 φ1 Ext.refl r1 d1⟩
theorem cs_if {c : Expr} (hc : ST T X W c ft) (ha : SSs T X W a f) (hb : SSs T X W b g) : SS T X W (.If c a b pos) (sIf ft f g) := ps_imp (ps_if hc ha hb) fun D σ H ⟨env, G, φ, S, r, er, gd⟩ =>
  ⟨env, G, φ, S, r, er, (GoodR.stmt (R := BoolR) er gd).imp fun v H1 ⟨w, S1, G1, φ1, x1, r1, d1, g1⟩ => by
    cases d1
    cases v with
    | true => exact ⟨env, G1, φ1, S1, r1, x1.envr er, g1⟩
    | false => exact ⟨env, G1, φ1, S1, r1, x1.envr er, g1⟩⟩
theorem putF_at {v : V} : ∀ {ns : List Str} {vs : List V} {i : Nat} {f : Str}, ns.Nodup → ns[i]? = some f → i < vs.length → putF f v (ns.zip vs) = ns.zip (vs.set i v)
  | [], _, _, _, _, h, _ => by simp at h
  | _ :: _, [], _, _, _, _, h => by simp at h
  | n :: ns, w :: vs, 0, f, _, h1, _ => by simp at h1; subst h1; simp [putF]
  | n :: ns, w :: vs, i + 1, f, nd, h1, h2 => by
    have h1' : ns[i]? = some f := by simpa using h1
    obtain ⟨n1, n2⟩ := List.nodup_cons.mp nd
    have h3 : ¬ n = f := fun e => n1 (by rw [e]; exact List.mem_of_getElem? h1')
    rw [List.zip_cons_cons, List.set_cons_succ, List.zip_cons_cons]
    show (if n = f then _ else _) = _
    rw [if_neg h3, putF_at n2 h1' (by simpa using h2)]
theorem putF_end {v : V} : ∀ {ns : List Str} {vs : List V} {f : Str}, ns.Nodup → ns[vs.length]? = some f → putF f v (ns.zip vs) = ns.zip (vs ++ [v])
  | [], vs, _, _, h => by simp at h
  | n :: ns, [], f, _, h1 => by simp at h1; subst h1; simp [putF]
  | n :: ns, w :: vs, f, nd, h1 => by
    have h1' : ns[vs.length]? = some f := by simpa using h1
    obtain ⟨n1, n2⟩ := List.nodup_cons.mp nd
    have h3 : ¬ n = f := fun e => n1 (by rw [e]; exact List.mem_of_getElem? h1')
    rw [List.zip_cons_cons, List.cons_append, List.zip_cons_cons]
    show (if n = f then _ else _) = _
    rw [if_neg h3, putF_end n2 h1']
theorem cs_sfld (c i : Nat) {f : Str} {o : Expr} (cl : Cla T X.K c) (hf : (T.cnm c)[i]? = some f) (ho : SE T X W o fo) (he : SE T X W e fe) (hs : swapsWith e (some (.Attribute o f pos')) pos.line X.env = pure false) : SS T X W (.Assign [.Attribute o f pos'] e pos) (sFld c i fo fe) :=
  ps_imp (ps_fld ho he hs) fun D σ H ⟨env, G, φ, S, r, er, gd⟩ =>
    ⟨env, G, φ, S, r, er, (GoodR.stmt (R := Den X.K) er gd).imp fun v H1 ⟨w, S1, G1, φ1, x1, r1, d1, g1⟩ =>
      ⟨env, G1, φ1, S1, r1, x1.envr er, (GoodR.stmt (R := Den X.K) (x1.envr er) g1).imp fun ov H2 ⟨o, S2, G2, φ2, x2, r2, d2, g2⟩ => by
        cases d2 with
        | @ref k a ea =>
          simp only at g2
          cases q : S2[k]? with
          | none => rw [q] at g2; exact g2.elim
          | some ob =>
            rw [q] at g2
            cases ob with
            | ins c' ws =>
              simp only at g2
              by_cases hc : c' = c
              · subst hc
                rw [if_pos rfl] at g2
                obtain ⟨dx, vs, e1, dd, hle⟩ := r2.ob _ _ _ ea q
                have few : ((T.cnm c').zip vs).length < 1000 := by
                  rw [List.length_zip]; exact Nat.lt_of_le_of_lt (Nat.min_le_left _ _) cl.few
                refine ⟨a, _, dx, _, rfl, e1, cl.cl, cl.no _ (List.mem_of_getElem? hf), few, ?_⟩
                have dw : Den X.K G2 φ2 v w := x2.den d1
                by_cases h1 : i < ws.length
                · rw [if_pos h1] at g2
                  rw [putF_at cl.nd hf (by rw [dd.len]; exact h1)]
                  obtain ⟨r3, x3⟩ := r2.write (o' := .ins c' (ws.set i w)) (ho := .ins (T.cad c') dx ((T.cnm c').zip (vs.set i v))) ea q rfl ⟨dx, vs.set i v, upd_same, dd.set dw i, by rw [List.length_set]; exact hle⟩
                  exact g2 σ _ G2 φ2 x3 r3 ((x1.trans x2).envr er)
                · rw [if_neg h1] at g2
                  by_cases h2 : i = ws.length
                  · rw [if_pos h2] at g2
                    have hv : vs.length = i := by rw [dd.len, h2]
                    have h3 : (T.cnm c')[vs.length]? = some f := by rw [hv]; exact hf
                    rw [putF_end cl.nd h3]
                    obtain ⟨r3, x3⟩ := r2.write (o' := .ins c' (ws ++ [w])) (ho := .ins (T.cad c') dx ((T.cnm c').zip (vs ++ [v]))) ea q rfl ⟨dx, vs ++ [v], upd_same, dd.append (.cons dw .nil), by
                      have := (List.getElem?_eq_some_iff.mp h3).1
                      rw [List.length_append, List.length_singleton]; omega⟩
                    exact g2 σ _ G2 φ2 x3 r3 ((x1.trans x2).envr er)
                  · rw [if_neg h2] at g2; exact g2.elim
              · rw [if_neg hc] at g2; exact g2.elim
            | _ => exact g2.elim
        | _ => exact g2.elim⟩⟩
theorem cs_raise (c : Nat) {m : Str} {j2 : Nat} {p p2 ps : Pos} {B newId initId : String} {bmB : List Value} (C : Cok T X W k N sc vl gl) (hg : gl[j]? = some x) (Fx : ExcBaseFacts B newId initId bmB) (q : PySem.W.excIn X.K (T.ead c) bmB newId = true) (gC : X.mg x = some (.ref (T.ead c)))
    (kC : PySem.W.keepIn X.K (.ref (T.ead c)) = true) (rs : Raises X (.ref (T.ead c))) : SS T X W (.Raise (some (.Call (.Name x p) [.Constant (.str m) j2 p2] [] pos)) none ps) (sRaise c) := by
  obtain ⟨h1, h2, h3⟩ := C.gle hg
  exact ps_imp (ps_raise C.calm C.tk (pmk_own Fx q gC kC rs h1 h2)) fun D σ H ⟨env, G, φ, S, r, er, gd⟩ => gd σ H G φ Ext.refl r er

/-! ### targets -/
abbrev Tg := Wv → Env → Sto → Option Env
def tgName (i : Nat) : Tg := fun w env _ => some (env.set i (some w))
def setAll : List Nat → List Wv → Env → Env
  | i :: is, w :: ws, env => setAll is ws (env.set i (some w))
  | _, _, env => env
/-- a, b = a tuple -/
def tgTup (is : List Nat) : Tg := fun w env _ => match w with
  | .tup ws => if ws.length = is.length then some (setAll is ws env) else none
  | _ => none
/-- a, b = a list -/
def tgLst (is : List Nat) : Tg := fun w env S => match seqOf S w with
  | some ws => if ws.length = is.length then some (setAll is ws env) else none
  | none => none
/-- but for the slots sl all is as it was -/
def OffB (sl : List Nat) (σ σ' : L2.St) : Prop := ∀ i, i ∉ sl → σ'[i]? = σ[i]?
def tG (T : Tab) (K : PySem.W.Frag) (f : Tg) (sl : List Nat) : TG := fun v σ H Q => ∃ env G φ S w env', Rel T K G φ S H ∧ EnvR K G φ σ env ∧ Den K G φ v w ∧ f w env S = some env' ∧ ∀ σ', EnvR K G φ σ' env' → OffB sl σ σ' → Q σ' H
abbrev SG (T : Tab) (X : Cx) (tg : Expr) (f : Tg) (sl : List Nat) : Prop := PG X tg (tG T X.K f sl)
theorem pg_imp {tg : Expr} {t t' : TG} (h : PG X tg t) (i : ∀ v σ H Q, t' v σ H Q → t v σ H Q) : PG X tg t' := ⟨fun pins s σ H v u Q I r q => h.run pins s σ H v u Q I r (i v σ H Q q)⟩
theorem sg_name (C : Cok T X W k N sc vl gl) {i : Nat} {p : Pos} (hi : N[i]? = some x) (hx : Loc sc x) (hf : X.fn x = true ∨ X.env.scope.names.lookup x = some .local) : SG T X (.Name x p) (tgName i) [i] :=
  pg_imp (pg_name (by rw [C.hN]; exact C.nd) (by rw [C.hN]; exact hi) (by rw [C.hsc]; exact hx) hf) fun v σ H Q ⟨env, G, φ, S, w, env', r, er, d, hf, q⟩ => by
    cases hf
    exact q _ (er.set d i) fun j hj => List.getElem?_set_ne (fun e => hj (by rw [e]; exact List.mem_singleton.mpr rfl))
/-- several names in turn -/
structure SGs (T : Tab) (X : Cx) (ts : List Expr) (is : List Nat) : Prop where
  run : PGs X ts (fun vs σ H Q => ∃ env G φ S ws, Rel T X.K G φ S H ∧ EnvR X.K G φ σ env ∧ Dens X.K G φ vs ws ∧ ws.length = is.length ∧ ∀ σ', EnvR X.K G φ σ' (setAll is ws env) → OffB is σ σ' → Q σ' H)
theorem pgs_imp {ts : List Expr} {t t' : TGs} (h : PGs X ts t) (i : ∀ v σ H Q, t' v σ H Q → t v σ H Q) : PGs X ts t' := ⟨fun pins s σ H v u Q I r q => h.run pins s σ H v u Q I r (i v σ H Q q)⟩
theorem sgs_nil : SGs T X [] [] := ⟨pgs_imp pgs_nil fun vs σ H Q ⟨env, G, φ, S, ws, r, er, d, hl, q⟩ => by
  cases ws with
  | nil => cases d; exact ⟨rfl, q _ er fun _ _ => rfl⟩
  | cons _ _ => cases hl⟩
theorem sgs_cons {i : Nat} {is : List Nat} {e : Expr} {es : List Expr} (h1 : SG T X e (tgName i) [i]) (h2 : SGs T X es is) (hs : (assignEach (e :: es) X.env).map (·.2) = assign e X.env :: (assignEach es X.env).map (·.2)) : SGs T X (e :: es) (i :: is) :=
  ⟨pgs_imp (pgs_cons h1 h2.run hs) fun vs σ H Q ⟨env, G, φ, S, ws, r, er, d, hl, q⟩ => by
    cases ws with
    | nil => cases hl
    | cons w ws =>
      cases d with
      | cons d1 dr =>
        refine ⟨_, _, rfl, env, G, φ, S, w, _, r, er, d1, rfl, fun σ' er' of1 => ⟨_, G, φ, S, ws, r, er', dr, by simpa using hl, fun σ2 er2 of2 => q σ2 er2 fun j hj => (of2 j fun z => hj (List.mem_cons_of_mem _ z)).trans (of1 j fun z => hj (by rw [List.mem_singleton.mp z]; exact List.mem_cons_self))⟩⟩⟩
theorem sg_tup (C : Cok T X W k N sc vl gl) {is : List Nat} {es : List Expr} {kk : Nat} {p : Pos} (h : SGs T X es is) (hn : (assignEach es X.env).length = is.length) (hst : (assignEach es X.env).findIdx? (·.1) = none) : SG T X (.Tuple es kk p) (tgTup is) is :=
  pg_imp (pg_tup C.calm h.run hn hst) fun v σ H Q ⟨env, G, φ, S, w, env', r, er, d, hf, q⟩ => by
    cases d with
    | @tup a vs ws ha dd =>
      simp only [tgTup] at hf
      by_cases c : ws.length = is.length
      · rw [if_pos c] at hf; cases hf
        exact ⟨a, vs, rfl, SqT.of (r.ex _ _ ha), by rw [dd.len]; exact c, env, G, φ, S, ws, r, er, dd, c, q⟩
      · rw [if_neg c] at hf; cases hf
    | _ => cases hf
theorem sg_lst (C : Cok T X W k N sc vl gl) {is : List Nat} {es : List Expr} {kk : Nat} {p : Pos} (h : SGs T X es is) (hn : (assignEach es X.env).length = is.length) (hst : (assignEach es X.env).findIdx? (·.1) = none) : SG T X (.Tuple es kk p) (tgLst is) is :=
  pg_imp (pg_lst C.calm h.run hn hst) fun v σ H Q ⟨env, G, φ, S, w, env', r, er, d, hf, q⟩ => by
    simp only [tgLst] at hf
    cases e : seqOf S w with
    | none => rw [e] at hf; cases hf
    | some ws =>
      rw [e] at hf
      simp only at hf
      obtain ⟨a, vs, rfl, hq, dd⟩ := seq_rd r d e
      by_cases c : ws.length = is.length
      · rw [if_pos c] at hf; cases hf
        exact ⟨a, vs, rfl, hq, by rw [dd.len]; exact c, env, G, φ, S, ws, r, er, dd, c, q⟩
      · rw [if_neg c] at hf; cases hf
/-- an assignment to a target -/
def sAsg (tg : Tg) (fe : FE) : FS := fun env S => (fe env S).thn env fun w S1 => match tg w env S1 with
  | some env' => .nx env' S1
  | none => .bad
theorem cs_asg {tg : Expr} {f : Tg} {sl : List Nat} (hg : SG T X tg f sl) (he : SE T X W e fe) (hs : swapsWithSole [tg] e pos.line X.env = pure false) (hw : swappedStores [tg] e X.env = pure none) (h1 : (assignEach [tg] X.env).map (·.2) = [assign tg X.env]) : SS T X W (.Assign [tg] e pos) (sAsg f fe) :=
  ps_imp (ps_asg he hg hs hw h1) fun D σ H ⟨env, G, φ, S, r, er, gd⟩ =>
    ⟨env, G, φ, S, r, er, (GoodR.stmt (R := Den X.K) er gd).imp fun v H1 ⟨w, S1, G1, φ1, x1, r1, d1, g1⟩ => by
      cases q : f w env S1 with
      | none => simp only [q] at g1; exact g1.elim
      | some env' =>
        simp only [q] at g1
        exact ⟨env, G1, φ1, S1, w, env', r1, x1.envr er, d1, q, fun σ' er' _ => g1 σ' H1 G1 φ1 Ext.refl r1 er'⟩⟩

/-! ### what a loop walks -/
inductive Itr where
  | items (ws : List Wv)
  | live (k n : Nat)
  | zipl (w u : Wv) (n : Nat)
/-- the i-th item: none, it can't be told; some none, the end -/
def Itr.at : Itr → Nat → Sto → Option (Option Wv)
  | .items ws, i, _ => some ws[i]?
  | .live k n, i, S => match S[k]? with
    | some (.lst ws) => if i < n then some ws[i]? else (match ws[i]? with | none => some none | some _ => none)
    | _ => none
  | .zipl w u n, i, S => match lstOf S w, lstOf S u with
    | some xs, some ys => if i < n then some (List.zipWith (fun x y => Wv.tup [x, y]) xs ys)[i]? else (match (List.zipWith (fun x y => Wv.tup [x, y]) xs ys)[i]? with | none => some none | some _ => none)
    | _, _ => none
def Itr.len : Itr → Nat
  | .items ws => ws.length
  | .live _ n => n
  | .zipl _ _ n => n
theorem Itr.at_lt {it : Itr} {i : Nat} {S : Sto} {w : Wv} (h : it.at i S = some (some w)) : i < it.len := by
  cases it with
  | items ws => simp only [Itr.at] at h; exact (List.getElem?_eq_some_iff.mp (Option.some.inj h)).1
  | live k n =>
    simp only [Itr.at] at h
    cases q : S[k]? with
    | none => rw [q] at h; cases h
    | some o =>
      rw [q] at h
      cases o with
      | lst ws =>
        simp only at h
        by_cases c : i < n
        · exact c
        · rw [if_neg c] at h
          cases q2 : ws[i]? with
          | none => rw [q2] at h; cases h
          | some _ => rw [q2] at h; cases h
      | _ => cases h
  | zipl w u n =>
    simp only [Itr.at] at h
    cases q : lstOf S w with
    | none => rw [q] at h; cases h
    | some xs =>
      cases q3 : lstOf S u with
      | none => rw [q, q3] at h; cases h
      | some ys =>
        rw [q, q3] at h
        simp only at h
        by_cases c : i < n
        · exact c
        · rw [if_neg c] at h
          cases q2 : (List.zipWith (fun x y => Wv.tup [x, y]) xs ys)[i]? with
          | none => rw [q2] at h; cases h
          | some _ => rw [q2] at h; cases h
structure ItOk (T : Tab) (K : PySem.W.Frag) (J : It) (G : Hp) (φ : List Addr) (it : Itr) : Prop where
  step : ∀ (i : Nat) G' φ' S' H', Same G G' → (∃ ψ, φ' = φ ++ ψ) → Rel T K G' φ' S' H' → (it.at i S' = some none → J.stop i H') ∧
    ∀ w, it.at i S' = some (some w) → J.go i H' ∧ ∀ x H2, J.yld i H' x H2 → ∃ G2, Rel T K G2 φ' S' H2 ∧ Ext G' φ' H' G2 φ' H2 ∧ Den K G2 φ' x w
abbrev FI := Env → Sto → Out Itr
def tIt (T : Tab) (K : PySem.W.Frag) (W : WX) (f : FI) : TI := fun σ H R => ∃ env G φ S, Rel T K G φ S H ∧ EnvR K G φ σ env ∧
  GoodR (fun G' φ' J it => ItOk T K J G' φ' it) T K W σ H G φ R (f env S)
abbrev SI (T : Tab) (X : Cx) (W : WX) (tg iter : Expr) (f : FI) : Prop := PI X tg iter (tIt T X.K W f)
theorem pi_imp {tg iter : Expr} {t t' : TI} (h : PI X tg iter t) (i : ∀ σ H R, t' σ H R → t σ H R) : PI X tg iter t' := ⟨fun pins s σ H R I q => h.run pins s σ H R I (i σ H R q)⟩

/-! ### for -/
def forLoop (it : Itr) (tg : Tg) (body : FS) : Nat → Nat → Env → Sto → SOut
  | 0, i, env, S => match it.at i S with
    | some none => .nx env S
    | _ => .bad
  | n + 1, i, env, S => match it.at i S with
    | some none => .nx env S
    | some (some w) => match tg w env S with
      | some env1 => match body env1 S with
        | .nx e S' => forLoop it tg body n (i + 1) e S'
        | .ct e S' => forLoop it tg body n (i + 1) e S'
        | .bk e S' => .nx e S'
        | o => o
      | none => .bad
    | none => .bad
def sFor (fi : FI) (tg : Tg) (body : FS) : FS := fun env S => (fi env S).thn env fun it S1 => forLoop it tg body it.len 0 env S1
theorem cs_for (C : Cok T X W k N sc vl gl) (hp : PassesOwn (model X.prog X.w) X.A X.env X.xe) {iter tg : Expr} {body : List Stmt} {fi : FI} {t : Tg} {sl : List Nat} {fb : FS} (hi : SI T X W tg iter fi) (hg : SG T X tg t sl) (hb : SSs T X W body fb) (hs : ∀ x, foldedSetIterable iter X.env x = pure x) :
    SS T X W (.For tg iter body [] pos) (sFor fi t fb) := ps_imp (ps_for hp C.calm hi hg hb hs) fun D σ H ⟨env, G, φ, S, r, er, gd⟩ => by
  refine ⟨env, G, φ, S, r, er, (GoodR.stmt (R := fun G' φ' J it => ItOk T X.K J G' φ' it) er gd).imp fun J H1 ⟨it, S1, G1, φ1, x1, r1, d1, g1⟩ => ?_⟩
  refine ⟨fun i m σ' H' => ∃ env' G' φ' S', Same G1 G' ∧ (∃ ψ, φ' = φ1 ++ ψ) ∧ Rel T X.K G' φ' S' H' ∧ EnvR X.K G' φ' σ' env' ∧ GoodS T X.K W D H' G' φ' (forLoop it t fb m i env' S'),
    ⟨it.len, env, G1, φ1, S1, Same.refl _, ⟨[], (List.append_nil _).symm⟩, r1, x1.envr er, g1⟩, ?_⟩
  rintro i m σ' H' ⟨env', G', φ', S', sm, pr, r', er', g'⟩
  obtain ⟨stp, go⟩ := d1.step i G' φ' S' H' sm pr r'
  cases q : it.at i S' with
  | none => cases m <;> (unfold forLoop at g'; rw [q] at g'; exact g'.elim)
  | some o =>
    cases o with
    | none =>
      left
      refine ⟨stp q, ?_⟩
      cases m <;> (unfold forLoop at g'; rw [q] at g'; exact g' σ' H' G' φ' Ext.refl r' er')
    | some w =>
      cases m with
      | zero => unfold forLoop at g'; rw [q] at g'; exact g'.elim
      | succ m =>
        right
        obtain ⟨hgo, hy⟩ := go w q
        refine ⟨hgo, fun σ2 H2 => ∃ env2 G2 φ2 S2, Same G1 G2 ∧ (∃ ψ, φ2 = φ1 ++ ψ) ∧ Rel T X.K G2 φ2 S2 H2 ∧ EnvR X.K G2 φ2 σ2 env2 ∧ GoodS T X.K W D H2 G2 φ2 (forLoop it t fb m (i + 1) env2 S2), fun σ2 H2 h => ⟨m, Nat.lt_succ_self _, h⟩, fun x H2 hx => ?_⟩
        obtain ⟨G2, r2, x2, dx⟩ := hy x H2 hx
        unfold forLoop at g'
        simp only [q] at g'
        cases qt : t w env' S' with
        | none => rw [qt] at g'; exact g'.elim
        | some env1 =>
          rw [qt] at g'
          simp only at g'
          refine ⟨env', G2, φ', S', w, env1, r2, x2.envr er', dx, qt, fun σ3 er3 _ => ⟨env1, G2, φ', S', r2, er3, ?_⟩⟩
          have g2 := GoodS.ext x2 g'
          have base : ∀ {G3 φ3 H3}, Ext G2 φ' H2 G3 φ3 H3 → Same G1 G3 ∧ ∃ ψ, φ3 = φ1 ++ ψ := fun x3 => by
            obtain ⟨ψ, e⟩ := pr
            obtain ⟨ψ2, e2⟩ := x2.pre
            obtain ⟨ψ3, e3⟩ := x3.pre
            exact ⟨(sm.trans x2.same).trans x3.same, ψ ++ ψ3, by rw [e3, e, List.append_assoc]⟩
          cases qb : fb env1 S' with
          | nx e3 S3 =>
            simp only [qb] at g2
            exact fun σ4 H4 G4 φ4 x4 r4 er4 => ⟨e3, G4, φ4, S3, (base x4).1, (base x4).2, r4, er4, g2.ext x4⟩
          | ct e3 S3 =>
            simp only [qb] at g2
            exact fun σ4 H4 G4 φ4 x4 r4 er4 => ⟨e3, G4, φ4, S3, (base x4).1, (base x4).2, r4, er4, g2.ext x4⟩
          | bk e3 S3 => simp only [qb] at g2; exact g2
          | rt w3 S3 => simp only [qb] at g2; exact g2
          | exc c e3 S3 => simp only [qb] at g2; exact g2
          | bad => simp only [qb] at g2; exact g2
/-! ### while -/
def whLoop (c : FT) (body : FS) : Nat → Env → Sto → SOut
  | 0, _, _ => .bad
  | n + 1, env, S => (c env S).thn env fun b S1 => if b = true then (match body env S1 with
      | .nx e S' => whLoop c body n e S'
      | .ct e S' => whLoop c body n e S'
      | .bk e S' => .nx e S'
      | o => o) else .nx env S1
/-- fuel: the most turns -/
def sWhile (fuel : Nat) (c : FT) (body : FS) : FS := fun env S => whLoop c body fuel env S
theorem cs_while (fuel : Nat) (hp : PassesOwn (model X.prog X.w) X.A X.env X.xe) {c : Expr} {body : List Stmt} {fc : FT} {fb : FS} (hc : ST T X W c fc) (hb : SSs T X W body fb) : SS T X W (.While c body [] pos) (sWhile fuel fc fb) :=
  ps_imp (ps_while hp hc hb) fun D σ H ⟨env, G, φ, S, r, er, gd⟩ => by
    refine ⟨fun m σ' H' => ∃ env' G' φ' S', Rel T X.K G' φ' S' H' ∧ EnvR X.K G' φ' σ' env' ∧ GoodS T X.K W D H' G' φ' (whLoop fc fb m env' S'), ⟨fuel, env, G, φ, S, r, er, gd⟩, ?_⟩
    rintro m σ' H' ⟨env', G', φ', S', r', er', g'⟩
    cases m with
    | zero => exact g'.elim
    | succ m =>
      unfold whLoop at g'
      refine ⟨env', G', φ', S', r', er', (GoodR.stmt (R := BoolR) er' g').imp fun b H1 ⟨b', S1, G1, φ1, x1, r1, d1, g1⟩ => ?_⟩
      cases d1
      cases b with
      | false => exact g1 σ' H1 G1 φ1 Ext.refl r1 (x1.envr er')
      | true =>
        simp only [if_pos rfl] at g1
        refine ⟨fun σ2 H2 => ∃ env2 G2 φ2 S2, Rel T X.K G2 φ2 S2 H2 ∧ EnvR X.K G2 φ2 σ2 env2 ∧ GoodS T X.K W D H2 G2 φ2 (whLoop fc fb m env2 S2), fun σ2 H2 h => ⟨m, Nat.lt_succ_self _, h⟩, env', G1, φ1, S1, r1, x1.envr er', ?_⟩
        cases qb : fb env' S1 with
        | nx e3 S3 => rw [qb] at g1; exact fun σ4 H4 G4 φ4 x4 r4 er4 => ⟨e3, G4, φ4, S3, r4, er4, GoodS.ext x4 g1⟩
        | ct e3 S3 => rw [qb] at g1; exact fun σ4 H4 G4 φ4 x4 r4 er4 => ⟨e3, G4, φ4, S3, r4, er4, GoodS.ext x4 g1⟩
        | bk e3 S3 => rw [qb] at g1; exact g1
        | rt w3 S3 => rw [qb] at g1; exact g1
        | exc c e3 S3 => rw [qb] at g1; exact g1
        | bad => rw [qb] at g1; exact g1
end
end CL
namespace CL
open PySem PySem.Spec PyProof.Rows L2

/-! ### what is walked: lists, tuples, ranges, zips, texts -/
def itSeq (fa : FE) : FI := fun env S => (fa env S).bind fun w S1 => match w with
  | .lst ws => .ok (.items ws) S1
  | .scr ns => .ok (.items (ns.map .int)) S1
  | .ref k => match S1[k]? with
    | some (.lst ws) => .ok (.live k ws.length) S1
    | _ => .bad
  | _ => .bad
def itTup (fa : FE) : FI := fun env S => (fa env S).bind fun w S1 => match w with
  | .tup ws => .ok (.items ws) S1
  | _ => .bad
def rangeW (lo : Int) (n : Nat) : List Wv := (List.range n).map fun i => .int (lo + (i : Nat))
def itRng1 (fr : FA) : FI := fun env S => (fr env S).bind fun ws S1 => match ws with
  | [.int n] => if -(2 ^ 62) ≤ n ∧ n < 2 ^ 62 then .ok (.items (rangeW 0 n.toNat)) S1 else .bad
  | _ => .bad
def itRng2 (fr : FA) : FI := fun env S => (fr env S).bind fun ws S1 => match ws with
  | [.int m, .int n] => if -(2 ^ 62) ≤ m ∧ m < 2 ^ 62 ∧ -(2 ^ 62) ≤ n ∧ n < 2 ^ 62 then .ok (.items (rangeW m (n - m).toNat)) S1 else .bad
  | _ => .bad
def itStr (fa : FE) : FI := fun env S => (fa env S).bind fun w S1 => match w with
  | .str z => .ok (.items (z.cps.toList.map fun c => .str ⟨#[c]⟩)) S1
  | _ => .bad
theorem items_at {ws : List Wv} {i : Nat} {S : Sto} {w : Wv} (h : (Itr.items ws).at i S = some (some w)) : ws[i]? = some w := Option.some.inj h
theorem items_end {ws : List Wv} {i : Nat} {S : Sto} (h : (Itr.items ws).at i S = some none) : ws.length ≤ i := List.getElem?_eq_none_iff.mp (Option.some.inj h)
theorem SqL.inj {K : PySem.W.Frag} : True := trivial
section
variable {T : Tab} {X : Cx} {W : WX} {k : Nat} {N : List Str} {sc : Scope} {vl gl : List Str} {x : Str} {pos p : Pos} {j : Nat} {a b tg : Expr} {fa fb : FE} {fr : FA}
theorem dens_pre {K : PySem.W.Frag} {G G' : Hp} {φ φ' : List Addr} {vs : List V} {ws : List Wv} (d : Dens K G φ vs ws) (sm : Same G G') (pr : ∃ ψ, φ' = φ ++ ψ) : Dens K G' φ' vs ws := by
  obtain ⟨ψ, e⟩ := pr
  subst e
  exact d.mono sm
theorem ok_list {K : PySem.W.Frag} {G : Hp} {φ : List Addr} {c : Addr} {vs : List V} {ws : List Wv} (hq : SqL K G c vs) (dd : Dens K G φ vs ws) : ItOk T K (Itl K c) G φ (.items ws) := ⟨fun i G' φ' S' H' sm pr r => by
  have h1 : SqL K H' c vs := (sm.trans r.ex).seq hq
  refine ⟨fun e => ⟨vs, h1, by rw [dd.len]; exact items_end e⟩, fun w e => ?_⟩
  obtain ⟨v, hv, dv⟩ := (dens_pre dd sm pr).get (items_at e)
  refine ⟨⟨vs, v, h1, hv⟩, fun x H2 hy => ?_⟩
  obtain ⟨rfl, hy⟩ := hy
  have : x = v := Option.some.inj ((hy vs h1).symm.trans hv)
  subst this
  exact ⟨G', r, Ext.refl, dv⟩⟩
theorem ok_tup {K : PySem.W.Frag} {G : Hp} {φ : List Addr} {c : Addr} {vs : List V} {ws : List Wv} (hq : G c = some (.tup vs)) (dd : Dens K G φ vs ws) : ItOk T K (Itt K c) G φ (.items ws) := ⟨fun i G' φ' S' H' sm pr r => by
  have h1 : SqT K H' c vs := SqT.of (r.ex _ _ (sm _ _ hq))
  refine ⟨fun e => ⟨vs, h1, by rw [dd.len]; exact items_end e⟩, fun w e => ?_⟩
  obtain ⟨v, hv, dv⟩ := (dens_pre dd sm pr).get (items_at e)
  refine ⟨⟨vs, v, h1, hv⟩, fun x H2 hy => ?_⟩
  obtain ⟨rfl, hy⟩ := hy
  have : x = v := Option.some.inj ((hy vs h1).symm.trans hv)
  subst this
  exact ⟨G', r, Ext.refl, dv⟩⟩
theorem ok_live {K : PySem.W.Frag} {G : Hp} {φ : List Addr} {c : Addr} {k0 n : Nat} (hk : φ[k0]? = some c) : ItOk T K (Itl K c) G φ (.live k0 n) := ⟨fun i G' φ' S' H' sm pr r => by
  have hk' : φ'[k0]? = some c := by obtain ⟨ψ, e⟩ := pr; rw [e]; exact getPre hk
  have rd : ∀ {o}, (Itr.live k0 n).at i S' = some o → ∃ ws, S'[k0]? = some (.lst ws) ∧ ws[i]? = o := by
    intro o e
    simp only [Itr.at] at e
    cases q : S'[k0]? with
    | none => rw [q] at e; cases e
    | some ob =>
      rw [q] at e
      cases ob with
      | lst ws =>
        simp only at e
        by_cases c : i < n
        · rw [if_pos c] at e; exact ⟨ws, rfl, Option.some.inj e⟩
        · rw [if_neg c] at e
          cases q2 : ws[i]? with
          | none => rw [q2] at e; exact ⟨ws, rfl, by rw [q2]; exact Option.some.inj e⟩
          | some _ => rw [q2] at e; cases e
      | _ => cases e
  refine ⟨fun e => ?_, fun w e => ?_⟩
  · obtain ⟨ws, e1, e2⟩ := rd e
    obtain ⟨vs, h1, dd⟩ := r.lref e1 hk'
    exact ⟨vs, SqL.of h1, by rw [dd.len]; exact List.getElem?_eq_none_iff.mp e2⟩
  · obtain ⟨ws, e1, e2⟩ := rd e
    obtain ⟨vs, h1, dd⟩ := r.lref e1 hk'
    obtain ⟨v, hv, dv⟩ := dd.get e2
    refine ⟨⟨vs, v, SqL.of h1, hv⟩, fun x H2 hy => ?_⟩
    obtain ⟨rfl, hy⟩ := hy
    have : x = v := Option.some.inj ((hy vs (SqL.of h1)).symm.trans hv)
    subst this
    exact ⟨G', r, Ext.refl, dv⟩⟩
theorem si_seq (ha : SE T X W a fa) : SI T X W tg a (itSeq fa) := pi_imp (pi_list ha) fun σ H R ⟨env, G, φ, S, rl, er, gd⟩ => by
  refine ⟨env, G, φ, S, rl, er, (GoodR.bind gd).imp fun v H1 ⟨w, S1, G1, φ1, x1, r1, d1, g1⟩ => ?_⟩
  cases d1 with
  | @lst c vs ws h dd => exact ⟨c, rfl, ⟨vs, SqL.of (r1.ex _ _ h)⟩, GoodR.here (S := S1) g1 r1 (ok_list (SqL.of h) dd)⟩
  | @scr c ns h => exact ⟨c, rfl, ⟨_, r1.ex.seq h⟩, GoodR.here (S := S1) g1 r1 (ok_list h (Dens.ints ns))⟩
  | @ref k0 c hk =>
    simp only at g1
    cases q : S1[k0]? with
    | none => rw [q] at g1; exact g1.elim
    | some ob =>
      rw [q] at g1
      cases ob with
      | lst ws =>
        obtain ⟨vs, h1, dd⟩ := r1.lref q hk
        exact ⟨c, rfl, ⟨vs, SqL.of h1⟩, GoodR.here (S := S1) g1 r1 (ok_live hk)⟩
      | _ => exact g1.elim
  | _ => exact g1.elim
theorem si_tup (ha : SE T X W a fa) : SI T X W tg a (itTup fa) := pi_imp (pi_tup ha) fun σ H R ⟨env, G, φ, S, rl, er, gd⟩ => by
  refine ⟨env, G, φ, S, rl, er, (GoodR.bind gd).imp fun v H1 ⟨w, S1, G1, φ1, x1, r1, d1, g1⟩ => ?_⟩
  cases d1 with
  | @tup c vs ws h dd => exact ⟨c, rfl, ⟨vs, SqT.of (r1.ex _ _ h)⟩, GoodR.here (S := S1) g1 r1 (ok_tup h dd)⟩
  | _ => exact g1.elim
theorem ok_rng {K : PySem.W.Frag} {G : Hp} {φ : List Addr} (lo : Int) (n : Nat) : ItOk T K (L2.Itr lo n) G φ (.items (rangeW lo n)) := ⟨fun i G' φ' S' H' sm pr r => by
  refine ⟨fun e => by have := items_end e; simpa [rangeW, L2.Itr] using this, fun w e => ?_⟩
  have e := items_at e
  have hi : i < n := by have := (List.getElem?_eq_some_iff.mp e).1; simpa [rangeW] using this
  refine ⟨hi, fun x H2 hy => ?_⟩
  obtain ⟨rfl, rfl⟩ := hy
  have : w = .int (lo + (i : Nat)) := by
    unfold rangeW at e
    rw [List.getElem?_map, List.getElem?_range hi] at e
    exact (Option.some.inj e).symm
  subst this
  exact ⟨G', r, Ext.refl, .int _⟩⟩
theorem si_rng1 (C : Cok T X W k N sc vl gl) (hg : gl[j]? = some ("range" : Str)) (hm : X.mg "range" = none) (ha : SA T X W [a] fr) (hs : starEach [a] X.env = [(false, eval a X.env)]) : SI T X W tg (.Call (.Name "range" p) [a] [] pos) (itRng1 fr) :=
  pi_imp (pi_range1 (C.gle hg).1 hm ha.pa hs) fun σ H R ⟨env, G, φ, S, rl, er, gd⟩ => by
    refine ⟨env, G, φ, S, rl, er, (GoodR.bind gd).imp fun vs H1 ⟨ws, S1, G1, φ1, x1, r1, d1, g1⟩ => ?_⟩
    match ws, d1, g1 with
    | [], _, g1 => exact g1.elim
    | [w], d1, g1 =>
      obtain ⟨v, rfl, dv⟩ := one_den d1
      cases dv with
      | int n =>
        simp only at g1
        by_cases c : -(2 ^ 62) ≤ n ∧ n < 2 ^ 62
        · rw [if_pos c] at g1
          exact ⟨n, rfl, c.1, c.2, GoodR.here (S := S1) g1 r1 (ok_rng 0 n.toNat)⟩
        · rw [if_neg c] at g1; exact g1.elim
      | _ => exact g1.elim
    | w :: _ :: _, d1, g1 => cases d1 with | cons d _ => cases d <;> exact g1.elim
theorem si_rng2 (C : Cok T X W k N sc vl gl) (hg : gl[j]? = some ("range" : Str)) (hm : X.mg "range" = none) (ha : SA T X W [a, b] fr) (hs : starEach [a, b] X.env = [(false, eval a X.env), (false, eval b X.env)]) (hs2 : starEach [b] X.env = [(false, eval b X.env)]) : SI T X W tg (.Call (.Name "range" p) [a, b] [] pos) (itRng2 fr) :=
  pi_imp (pi_range2 (C.gle hg).1 hm ha.pa hs hs2) fun σ H R ⟨env, G, φ, S, rl, er, gd⟩ => by
    refine ⟨env, G, φ, S, rl, er, (GoodR.bind gd).imp fun vs H1 ⟨ws, S1, G1, φ1, x1, r1, d1, g1⟩ => ?_⟩
    cases d1 with
    | nil => exact g1.elim
    | cons d t =>
      cases t with
      | nil => cases d <;> exact g1.elim
      | cons d2 t2 =>
        cases t2 with
        | cons _ _ => cases d <;> cases d2 <;> exact g1.elim
        | nil =>
          cases d with
          | int m =>
            cases d2 with
            | int n =>
              simp only at g1
              by_cases c : -(2 ^ 62) ≤ m ∧ m < 2 ^ 62 ∧ -(2 ^ 62) ≤ n ∧ n < 2 ^ 62
              · rw [if_pos c] at g1
                exact ⟨m, n, rfl, ⟨c.1, c.2.1, c.2.2.1, c.2.2.2⟩, GoodR.here (S := S1) g1 r1 (ok_rng m _)⟩
              · rw [if_neg c] at g1; exact g1.elim
            | _ => exact g1.elim
          | _ => cases d2 <;> exact g1.elim
theorem si_str (ha : SE T X W a fa) : SI T X W tg a (itStr fa) := pi_imp (pi_str ha) fun σ H R ⟨env, G, φ, S, rl, er, gd⟩ => by
  refine ⟨env, G, φ, S, rl, er, (GoodR.bind gd).imp fun v H1 ⟨w, S1, G1, φ1, x1, r1, d1, g1⟩ => ?_⟩
  cases d1 with
  | str z =>
    refine ⟨z, rfl, GoodR.here (S := S1) g1 r1 ⟨fun i G' φ' S' H' sm pr r => ⟨fun e => by have := items_end e; simpa [Its] using this, fun w e => ?_⟩⟩⟩
    have e := items_at e
    rw [List.getElem?_map] at e
    cases q : z.cps.toList[i]? with
    | none => rw [q] at e; cases e
    | some c =>
      rw [q] at e
      have e : Wv.str ⟨#[c]⟩ = w := Option.some.inj e
      subst e
      have hi := (List.getElem?_eq_some_iff.mp q).1
      refine ⟨by simpa [Its] using hi, fun x H2 hy => ?_⟩
      obtain ⟨rfl, c', hc', rfl⟩ := hy
      have : c' = c := by
        rw [Array.getElem?_toList] at q
        exact Option.some.inj (hc'.symm.trans q)
      subst this
      exact ⟨G', r, Ext.refl, .str _⟩
  | _ => exact g1.elim
end

/-! ### comprehensions -/
def Out.nox {α : Type} : Out α → Out α
  | .exc _ _ => .bad
  | o => o
def fYes : FT := fun _ S => .ok true S
def lcLoop (it : Itr) (tg : Tg) (cond : FT) (elt : FE) (env0 : Env) : Nat → Nat → Sto → Out (List Wv)
  | 0, i, S => match it.at i S with
    | some none => .ok [] S
    | _ => .bad
  | n + 1, i, S => match it.at i S with
    | some none => .ok [] S
    | some (some w) => match tg w env0 S with
      | some env1 => (cond env1 S).nox.bind fun b S1 => if b = true then (elt env1 S1).nox.bind fun x S2 => (lcLoop it tg cond elt env0 n (i + 1) S2).bind fun r S3 => .ok (x :: r) S3
        else lcLoop it tg cond elt env0 n (i + 1) S1
      | none => .bad
    | none => .bad
def wipeE (env : Env) : List Nat → Env
  | [] => env
  | v :: vs => (wipeE env vs).set v none
def fLc (live : Bool) (fi : FI) (own : List Nat) (tg : Tg) (cond : FT) (elt : FE) : FE := fun env S => (fi env S).bind fun it S1 => if lenOk it.len = true then
  (lcLoop it tg cond elt (wipeE env own) it.len 0 S1).nox.bind fun ws S2 => mkL live ws S2 else .bad
theorem GoodR.nox {α ν : Type} {R : Hp → List Addr → ν → α → Prop} {T : Tab} {K : PySem.W.Frag} {W W' : WX} {σ σ' : L2.St} {H G : Hp} {φ : List Addr} {Q : ν → Hp → Prop} {o : Out α} (h : GoodR R T K W σ H G φ Q o.nox) : GoodR R T K W' σ' H G φ Q o := by
  cases o with
  | ok w S => exact h
  | exc c S => exact h.elim
  | bad => exact h
section
variable {T : Tab} {X : Cx} {W : WX} {k : Nat} {N : List Str} {sc : Scope} {vl gl : List Str} {x : Str} {pos p : Pos} {j : Nat}
theorem wipe_env {K : PySem.W.Frag} {G : Hp} {φ : List Addr} {σ : L2.St} {env : Env} (er : EnvR K G φ σ env) : ∀ own : List Nat, EnvR K G φ (wipe σ own) (wipeE env own)
  | [] => er
  | v :: vs => (wipe_env er vs).clr v
theorem wipe_get : ∀ {vs : List Nat} {σ : L2.St} {i : Nat}, (wipe σ vs)[i]? = if i ∈ vs ∧ i < σ.length then some none else σ[i]?
  | [], σ, i => by simp [wipe]
  | v :: vs, σ, i => by
    unfold wipe
    by_cases e : v = i
    · subst e
      by_cases h : v < σ.length
      · rw [if_pos ⟨List.mem_cons_self, h⟩, List.getElem?_set_self (by rw [wipe_length]; exact h)]
      · rw [if_neg (fun z => h z.2), List.getElem?_eq_none (by rw [List.length_set, wipe_length]; omega), List.getElem?_eq_none (by omega)]
    · rw [List.getElem?_set_ne e, wipe_get]
      have : i ∈ v :: vs ↔ i ∈ vs := by simp [Ne.symm e]
      simp only [this]
theorem wipe_off {σ σ2 : L2.St} {own sl : List Nat} (hl : σ2.length = σ.length) (hs : ∀ i ∈ sl, i ∈ own) (h : OffB sl (wipe σ own) σ2) : wipe σ2 own = wipe σ own := by
  refine List.ext_getElem? fun i => ?_
  rw [wipe_get, wipe_get, hl]
  by_cases c : i ∈ own ∧ i < σ.length
  · rw [if_pos c, if_pos c]
  · rw [if_neg c, if_neg c]
    by_cases hi : i ∈ own
    · have : σ.length ≤ i := Nat.le_of_not_lt fun z => c ⟨hi, z⟩
      rw [List.getElem?_eq_none (by omega), List.getElem?_eq_none this]
    · rw [h i fun z => hi (hs i z), wipe_get, if_neg fun z => hi z.1]
theorem takes_no {X : Cx} : Takes X (fun _ _ _ _ => False) := takes_none5
abbrev Wno : WX := fun _ _ _ _ => False
/-- the place within a comprehension -/
theorem Cok.blk (C : Cok T X W k N sc vl gl) {s : Shared} {H : Hp} {scope : Scope} {cl : List (Str × Addr)} {A : Addr} {fp : List Addr} {vl' gl' : List Str} (hv : visB (relS scope sc) vl' = true) (hg : glB (relS scope sc) gl' = true) :
    Cok T (X.blk s H scope (compEnvC scope cl A X.env) fp) Wno k N (relS scope sc) vl' gl' := by
  refine ⟨takes_no, C.calm, C.nd, C.room, C.hN, ?_, hv, hg⟩
  have h := C.hsc
  show relabel scope X.env = relS scope sc
  subst h
  rfl
theorem ext_upd {G G' : Hp} {φ φ' : List Addr} {H H' : Hp} {D : Addr} {o : HO} (x : Ext G φ H G' φ' H') (hD : H D = none) : Ext G φ H G' φ' (upd H' D o) :=
  ⟨x.same, x.pre, fun a u e g n => by
    obtain ⟨h1, h2, h3⟩ := x.frame a u e g n
    exact ⟨by rw [upd_ne (ne_of_none e hD)]; exact h1, h2, h3⟩⟩
theorem Rel.off {K : PySem.W.Frag} {G : Hp} {φ : List Addr} {S : Sto} {H : Hp} {D : Addr} {o : HO} (r : Rel T K G φ S H) (gD : G D = none) (nD : D ∉ φ) : Rel T K G φ S (upd H D o) := by
  have ne : ∀ {a : Addr}, a ∈ φ → a ≠ D := fun h e => nD (by rw [← e]; exact h)
  refine ⟨fun a u e => by rw [upd_ne (ne_of_none e gD)]; exact r.ex _ _ e, r.len, r.nd, r.fr, fun k a u e1 e2 => ?_, fun a ha => ?_⟩
  · have q := ObjR.mono (T := T) (H' := upd H D o) (ψ := []) (Same.refl G) (upd_ne (ne (Rel.mem e1))) (r.ob k a u e1 e2)
    rwa [List.append_nil] at q
  · obtain ⟨u, e⟩ := r.thr a ha; exact ⟨u, by rw [upd_ne (ne ha)]; exact e⟩
theorem lc_step {it : Itr} {tg : Tg} {cond : FT} {elt : FE} {env0 : Env} {m i : Nat} {S Sf : Sto} {ws : List Wv} {w : Wv} (h : lcLoop it tg cond elt env0 m i S = .ok ws Sf) (hw : it.at i S = some (some w)) :
    ∃ n env1 b S1, m = n + 1 ∧ tg w env0 S = some env1 ∧ cond env1 S = .ok b S1 ∧ (b = false → lcLoop it tg cond elt env0 n (i + 1) S1 = .ok ws Sf) ∧
      (b = true → ∃ x S2 r, elt env1 S1 = .ok x S2 ∧ lcLoop it tg cond elt env0 n (i + 1) S2 = .ok r Sf ∧ ws = x :: r) := by
  cases m with
  | zero => unfold lcLoop at h; rw [hw] at h; cases h
  | succ n =>
    unfold lcLoop at h
    rw [hw] at h
    simp only at h
    cases q : tg w env0 S with
    | none => rw [q] at h; cases h
    | some env1 =>
      rw [q] at h
      simp only at h
      cases qc : cond env1 S with
      | bad => rw [qc] at h; cases h
      | exc c S1 => rw [qc] at h; cases h
      | ok b S1 =>
        rw [qc] at h
        refine ⟨n, env1, b, S1, rfl, rfl, qc, fun hb => ?_, fun hb => ?_⟩
        · subst hb; exact h
        · subst hb
          have h : (elt env1 S1).nox.bind (fun x S2 => (lcLoop it tg cond elt env0 n (i + 1) S2).bind fun r S3 => .ok (x :: r) S3) = .ok ws Sf := h
          cases qe : elt env1 S1 with
          | bad => rw [qe] at h; cases h
          | exc c S2 => rw [qe] at h; cases h
          | ok x S2 =>
            rw [qe] at h
            have h : (lcLoop it tg cond elt env0 n (i + 1) S2).bind (fun r S3 => .ok (x :: r) S3) = .ok ws Sf := h
            cases qr : lcLoop it tg cond elt env0 n (i + 1) S2 with
            | bad => rw [qr] at h; cases h
            | exc c S3 => rw [qr] at h; cases h
            | ok r S3 =>
              rw [qr] at h
              cases h
              exact ⟨x, S2, r, rfl, qr, rfl⟩
theorem lc_end {it : Itr} {tg : Tg} {cond : FT} {elt : FE} {env0 : Env} {m i : Nat} {S Sf : Sto} {ws : List Wv} (h : lcLoop it tg cond elt env0 m i S = .ok ws Sf) (hw : it.at i S = some none) : ws = [] ∧ Sf = S := by
  cases m <;> (unfold lcLoop at h; rw [hw] at h; cases h; exact ⟨rfl, rfl⟩)
theorem lc_any {it : Itr} {tg : Tg} {cond : FT} {elt : FE} {env0 : Env} {m i : Nat} {S Sf : Sto} {ws : List Wv} (h : lcLoop it tg cond elt env0 m i S = .ok ws Sf) : ∃ o, it.at i S = some o := by
  cases q : it.at i S with
  | some o => exact ⟨o, rfl⟩
  | none => cases m <;> (unfold lcLoop at h; rw [q] at h; cases h)
theorem s_lc {fi : FI} {own sl : List Nat} {tg : Tg} {cond : FT} {elt : FE} {live : Bool} {g : TG} (hown : ∀ i ∈ sl, i ∈ own)
    (hg : ∀ v σ H Q, (∃ env G φ S w env', Rel T X.K G φ S H ∧ EnvR X.K G φ σ env ∧ Den X.K G φ v w ∧ tg w env S = some env' ∧ ∀ σ', EnvR X.K G φ σ' env' → OffB sl σ σ' → Q σ' H) → g v σ H Q)
    (tgl : ∀ w env S env', tg w env S = some env' → env'.length = env.length) :
    ∀ σ H Q, tI T X.K W (fLc live fi own tg cond elt) σ H Q → tLc (tIt T X.K W fi) g (tT T X.K Wno cond) (tI T X.K Wno elt) own σ H Q := fun σ H Q ⟨env, G, φ, S, r, er, gd⟩ => by
  refine ⟨env, G, φ, S, r, er, (GoodR.bind (R := fun G' φ' J it => ItOk T X.K J G' φ' it) gd).imp fun J H1 ⟨it, S1, G1, φ1, x1, r1, d1, g1⟩ => ?_⟩
  intro D hD
  by_cases cl : lenOk it.len = true
  case neg => rw [if_neg cl] at g1; exact g1.elim
  rw [if_pos cl] at g1
  have erw : EnvR X.K G1 φ1 (wipe σ own) (wipeE env own) := wipe_env (x1.envr er) own
  have nD : D ∉ φ1 := fun h => by obtain ⟨o, e⟩ := r1.thr D h; rw [hD] at e; cases e
  have gD : G1 D = none := by
    cases e : G1 D with
    | none => rfl
    | some o => rw [r1.ex _ _ e] at hD; cases hD
  cases tot : lcLoop it tg cond elt (wipeE env own) it.len 0 S1 with
  | bad => rw [tot] at g1; exact g1.elim
  | exc c S' => rw [tot] at g1; exact g1.elim
  | ok wsAll Sf =>
    rw [tot] at g1
    have g1 : GoodR (Den X.K) T X.K W σ H1 G1 φ1 Q (mkL live wsAll Sf) := g1
    refine ⟨fun i m H' => ∃ (vs : List V) (ws ws2 : List Wv) (G' : Hp) (φ' : List Addr) (S' : Sto), Ext G1 φ1 H1 G' φ' H' ∧ H' D = some (.lst vs) ∧ G' D = none ∧ D ∉ φ' ∧ Rel T X.K G' φ' S' H' ∧ Dens X.K G' φ' vs ws ∧ ws.length + m ≤ it.len ∧
      wsAll = ws ++ ws2 ∧ lcLoop it tg cond elt (wipeE env own) m i S' = .ok ws2 Sf, ⟨it.len, [], [], wsAll, G1, φ1, S1, ext_upd Ext.refl hD, upd_same, gD, nD, r1.off gD nD, .nil, by simp, rfl, tot⟩, ?_⟩
    rintro i m H' ⟨vs, ws, ws2, G', φ', S', xe, hv, gD', nD', r', dd, hle, hall, hl⟩
    obtain ⟨o, ho⟩ := lc_any hl
    have pr := xe.pre
    obtain ⟨stp, go⟩ := d1.step i G' φ' S' H' xe.same pr r'
    cases o with
    | none =>
      left
      refine ⟨stp ho, ?_⟩
      obtain ⟨e1, e2⟩ := lc_end hl ho
      subst e1; subst e2
      rw [List.append_nil] at hall
      subst hall
      cases live with
      | false =>
        have sm : Same G' (upd G' D (.lst vs)) := fun b u e => by rw [upd_ne (ne_of_none e gD')]; exact e
        have dd' : Dens X.K (upd G' D (.lst vs)) φ' vs wsAll := by
          have := Dens.mono (ψ := []) sm dd
          rwa [List.append_nil] at this
        have ne : ∀ {a : Addr}, a ∈ φ' → a ≠ D := fun h e => nD' (by rw [← e]; exact h)
        refine g1 (.ref D) H' (upd G' D (.lst vs)) φ' ⟨xe.same.trans sm, xe.pre, fun a u e g n => ?_⟩ ⟨fun b u e => ?_, r'.len, r'.nd, fun k a u e1 e2 e3 => ?_, fun k a u e1 e2 => ?_, r'.thr⟩ (.lst upd_same dd')
        · obtain ⟨h1, h2, h3⟩ := xe.frame a u e g n
          exact ⟨h1, by rw [upd_ne (ne_of_none e hD)]; exact h2, h3⟩
        · by_cases h : b = D
          · subst h; rw [upd_same] at e; cases e; exact hv
          · rw [upd_ne h] at e; exact r'.ex _ _ e
        · rw [upd_ne (ne (Rel.mem e1))]; exact r'.fr k a u e1 e2 e3
        · have q := ObjR.mono (T := T) (H' := H') (ψ := []) sm rfl (r'.ob k a u e1 e2)
          rwa [List.append_nil] at q
      | true =>
        have ix : ∀ {k : Nat} {a : Addr} {u : Ob}, (φ' ++ [D])[k]? = some a → (Sf ++ [Ob.lst wsAll])[k]? = some u → (φ'[k]? = some a ∧ Sf[k]? = some u) ∨ (a = D ∧ u = .lst wsAll) := by
          intro k a u e1 e2
          by_cases hk : k < φ'.length
          · rw [List.getElem?_append_left hk] at e1
            rw [List.getElem?_append_left (by rw [← r'.len]; exact hk)] at e2
            exact .inl ⟨e1, e2⟩
          · rw [List.getElem?_append_right (by omega)] at e1
            rw [List.getElem?_append_right (by rw [← r'.len]; omega)] at e2
            have k0 : k - φ'.length = 0 := by
              have := (List.getElem?_eq_some_iff.mp e1).1
              simp at this; omega
            have k1 : k - Sf.length = 0 := by rw [← r'.len]; exact k0
            rw [k0] at e1; rw [k1] at e2
            simp at e1 e2
            exact .inr ⟨e1.symm, e2.symm⟩
        refine g1 (.ref D) H' G' (φ' ++ [D]) ⟨xe.same, ?_, fun a u e g n => ?_⟩ ⟨r'.ex, by simp [r'.len], ?_, fun k a u e1 e2 e3 => ?_, fun k a u e1 e2 => ?_, fun a ha => ?_⟩ (.ref (by rw [← r'.len]; simp))
        · obtain ⟨ψ, e⟩ := xe.pre
          exact ⟨ψ ++ [D], by rw [e, List.append_assoc]⟩
        · obtain ⟨h1, h2, h3⟩ := xe.frame a u e g n
          refine ⟨h1, h2, fun h => ?_⟩
          rcases List.mem_append.mp h with h | h
          · exact h3 h
          · simp at h; subst h; rw [hD] at e; cases e
        · refine List.nodup_append.mpr ⟨r'.nd, by simp, fun a ha b hb e => ?_⟩
          simp at hb; subst hb; subst e; exact nD' ha
        · rcases ix e1 e2 with ⟨f1, f2⟩ | ⟨f1, f2⟩
          · exact r'.fr k a u f1 f2 e3
          · rw [f1]; exact gD'
        · rcases ix e1 e2 with ⟨f1, f2⟩ | ⟨f1, f2⟩
          · exact ObjR.mono (T := T) (Same.refl G') rfl (r'.ob k a u f1 f2)
          · subst f1; subst f2; exact ⟨vs, hv, Dens.mono (Same.refl G') dd⟩
        · rcases List.mem_append.mp ha with h | h
          · exact r'.thr a h
          · simp at h; subst h; exact ⟨_, hv⟩
    | some w =>
      right
      obtain ⟨hgo, hy⟩ := go w ho
      obtain ⟨n, env1, b, S2, rfl, ht, hc, hno, hyes⟩ := lc_step hl ho
      refine ⟨hgo, fun H2 => ∃ (vs : List V) (ws ws2 : List Wv) (G' : Hp) (φ' : List Addr) (S' : Sto), Ext G1 φ1 H1 G' φ' H2 ∧ H2 D = some (.lst vs) ∧ G' D = none ∧ D ∉ φ' ∧ Rel T X.K G' φ' S' H2 ∧ Dens X.K G' φ' vs ws ∧ ws.length + n ≤ it.len ∧
        wsAll = ws ++ ws2 ∧ lcLoop it tg cond elt (wipeE env own) n (i + 1) S' = .ok ws2 Sf, fun H2 h => ⟨n, Nat.lt_succ_self _, h⟩, fun x H2 hx => ?_⟩
      obtain ⟨G2, r2, x2, dx⟩ := hy x H2 hx
      have erw2 : EnvR X.K G2 φ' (wipe σ own) (wipeE env own) := (xe.trans x2).envr erw
      refine hg x _ H2 _ ⟨wipeE env own, G2, φ', S', w, env1, r2, erw2, dx, ht, fun σ3 er3 off => ⟨?_, env1, G2, φ', S', r2, er3, ?_⟩⟩
      · refine wipe_off ?_ hown off
        rw [er3.1, tgl _ _ _ _ ht, ← erw.1, wipe_length]
      · rw [hc]
        intro bb H3 G3 φ3 x3 r3 eb
        cases eb
        obtain ⟨hv2, gD2, nD2⟩ := x2.frame D _ hv gD' nD'
        obtain ⟨hv3, gD3, nD3⟩ := x3.frame D _ hv2 gD2 nD2
        cases b with
        | false => exact ⟨vs, ws, ws2, G3, φ3, S2, (xe.trans x2).trans x3, hv3, gD3, nD3, r3, (x2.trans x3).dens dd, by omega, hall, hno rfl⟩
        | true =>
          obtain ⟨y, S4, rr, he, hr, e2⟩ := hyes rfl
          subst e2
          refine ⟨env1, G3, φ3, S2, r3, x3.envr er3, ?_⟩
          rw [he]
          intro v4 H4 G4 φ4 x4 r4 d4
          obtain ⟨hv4, gD4, nD4⟩ := x4.frame D _ hv3 gD3 nD3
          refine ⟨vs, hv4, ?_, vs ++ [v4], ws ++ [y], rr, G4, φ4, S4, ext_upd (((xe.trans x2).trans x3).trans x4) hD, upd_same, gD4, nD4, r4.off gD4 nD4, (((x2.trans x3).trans x4).dens dd).append (.cons d4 .nil), ?_, by rw [hall]; simp, hr⟩
          · have := of_decide_eq_true cl
            rw [dd.len, line_eq]; omega
          · rw [List.length_append, List.length_singleton]; omega
theorem tgName_len {i : Nat} : ∀ w env S env', tgName i w env S = some env' → env'.length = env.length := fun w env S env' h => by cases h; rw [List.length_set]
theorem setAll_len : ∀ (is : List Nat) (ws : List Wv) (env : Env), (setAll is ws env).length = env.length
  | [], _, _ => by simp [setAll]
  | _ :: _, [], _ => by simp [setAll]
  | i :: is, w :: ws, env => by unfold setAll; rw [setAll_len is ws, List.length_set]
theorem tgTup_len {is : List Nat} : ∀ w env S env', tgTup is w env S = some env' → env'.length = env.length := fun w env S env' h => by
  cases w with
  | tup ws =>
    simp only [tgTup] at h
    by_cases c : ws.length = is.length
    · rw [if_pos c] at h; cases h; exact setAll_len _ _ _
    · rw [if_neg c] at h; cases h
  | _ => cases h
/-- the tests of a comprehension -/
structure STs (T : Tab) (X : Cx) (ifs : List Expr) (f : FT) : Prop where
  run : PTs X ifs (tT T X.K Wno f)
theorem pts_imp {ifs : List Expr} {t t' : TT} (h : PTs X ifs t) (i : ∀ σ H Q, t' σ H Q → t σ H Q) : PTs X ifs t' := ⟨fun pins s σ H Q I q => h.run pins s σ H Q I (i σ H Q q)⟩
theorem sts_nil : STs T X [] fYes := ⟨pts_imp pts_nil fun σ H Q ⟨env, G, φ, S, r, er, g⟩ => GoodR.here (S := S) g r rfl⟩
theorem sts_one {c : Expr} {f : FT} (h : ST T X Wno c f) : STs T X [c] f := ⟨pts_one h⟩
/-- the comprehension's own names are its to store -/
def locsB (scope : Scope) (own : List (Str × Nat)) : Bool := own.all fun p => match scope.names.lookup p.1 with | some .local => true | some .cell => true | _ => false
def lcB (N : List Str) (sc scope : Scope) (own : List (Str × Nat)) (vl' gl' : List Str) : Bool := blkC N sc scope own && visB (relS scope sc) vl' && glB (relS scope sc) gl' && locsB scope own
/-- the place within a comprehension, with its own names -/
structure Bok (T : Tab) (X : Cx) (k : Nat) (N : List Str) (sc scope : Scope) (own : List (Str × Nat)) (vl gl : List Str) : Prop extends Cok T X Wno k N (relS scope sc) vl gl where
  fnb : ∀ y, X.fn y = (scope.names.lookup y == some .cell)
  loc : locsB scope own = true
  ix : ∀ (j : Nat) p, own[j]? = some p → N[p.2]? = some p.1
theorem sg_own {scope : Scope} {own : List (Str × Nat)} {i : Nat} (B : Bok T X k N sc scope own vl gl) (ho : own[j]? = some (x, i)) : SG T X (.Name x p) (tgName i) [i] := by
  have q := List.all_eq_true.mp B.loc _ (List.mem_of_getElem? ho)
  have hi := B.ix _ _ ho
  cases z : scope.names.lookup x with
  | none => simp only [z] at q; cases q
  | some kd =>
    cases kd with
    | «local» =>
      have h : (relS scope sc).names.lookup x = some .local := lookup_relS_keep (sc := sc) (by intro e; cases e) z
      exact sg_name B.toCok hi (.inl h) (.inr (by rw [B.hsc]; exact h))
    | cell =>
      have h : (relS scope sc).names.lookup x = some .cell := lookup_relS_keep (sc := sc) (by intro e; cases e) z
      exact sg_name B.toCok hi (.inr h) (.inl (by rw [B.fnb, z]; rfl))
    | _ => simp only [z] at q; cases q
theorem Cok.blkB (C : Cok T X W k N sc vl gl) {s : Shared} {H : Hp} {scope : Scope} {own : List (Str × Nat)} {cl : List (Str × Addr)} {A : Addr} {fp : List Addr} {vl' gl' : List Str} (hb : lcB N sc scope own vl' gl' = true) :
    Bok T (X.blk s H scope (compEnvC scope cl A X.env) fp) k N sc scope own vl' gl' := by
  unfold lcB at hb
  rw [Bool.and_eq_true, Bool.and_eq_true, Bool.and_eq_true] at hb
  obtain ⟨⟨⟨h1, h2⟩, h3⟩, h4⟩ := hb
  have ok := blkOk_by h1
  exact ⟨C.blk h2 h3, fun _ => rfl, h4, fun j p e => ok.ix p (List.mem_of_getElem? e)⟩
theorem cs_lc (live : Bool) (C : Cok T X W k N sc vl gl) {elt tg iter : Expr} {ifs : List Expr} {scope : Scope} (own : List (Str × Nat)) {sl : List Nat} {fi : FI} {t : Tg} {cond : FT} {fe : FE} (vl' gl' : List Str)
    (hb : lcB N sc scope own vl' gl' = true) (hsl : ∀ i ∈ sl, i ∈ own.map (·.2)) (tgl : ∀ w env S env', t w env S = some env' → env'.length = env.length)
    (hi : SI T X W tg iter fi)
    (hg : ∀ s H A cl fp, Bok T (X.blk s H scope (compEnvC scope cl A X.env) fp) k N sc scope own vl' gl' → SG T (X.blk s H scope (compEnvC scope cl A X.env) fp) tg t sl)
    (ht : ∀ s H A cl fp, Bok T (X.blk s H scope (compEnvC scope cl A X.env) fp) k N sc scope own vl' gl' → STs T (X.blk s H scope (compEnvC scope cl A X.env) fp) ifs cond)
    (he : ∀ s H A cl fp, Bok T (X.blk s H scope (compEnvC scope cl A X.env) fp) k N sc scope own vl' gl' → SE T (X.blk s H scope (compEnvC scope cl A X.env) fp) Wno elt fe)
    (hs : ∀ x, foldedSetIterable iter X.env x = pure x) : SE T X W (.ListComp elt [⟨tg, iter, ifs, 0⟩] scope pos) (fLc live fi (own.map (·.2)) t cond fe) := by
  have hb' := hb
  unfold lcB at hb'
  rw [Bool.and_eq_true, Bool.and_eq_true, Bool.and_eq_true] at hb'
  obtain ⟨⟨⟨h1, h2⟩, h3⟩, h4⟩ := hb'
  refine pe_imp (pe_lc (te := tI T X.K Wno fe) (tt := tT T X.K Wno cond) (g := tG T X.K t sl) C.calm (by rw [C.hN]; exact C.nd) hi (by rw [C.hN, C.hsc]; exact blkOk_by h1) (fun s H A cl fp => hg s H A cl fp (C.blkB hb)) (fun s H A cl fp => (ht s H A cl fp (C.blkB hb)).run) (fun s H A cl fp => he s H A cl fp (C.blkB hb)) hs) (s_lc hsl (fun _ _ _ _ h => h) tgl)
/-- name = [..] on one line -/
theorem cs_setLc (live : Bool) (C : Cok T X W k N sc vl gl) {i : Nat} {y : Str} {py spos : Pos} {elt tg iter : Expr} {ifs : List Expr} {scope : Scope} (own : List (Str × Nat)) {sl : List Nat} {fi : FI} {t : Tg} {cond : FT} {fe : FE} (vl' gl' : List Str)
    (hi0 : N[i]? = some y) (hyl : sc.names.lookup y = some .local) (hsw : swapsWith (.ListComp elt [⟨tg, iter, ifs, 0⟩] scope pos) (some (.Name y py)) spos.line X.env = pure true)
    (hb : lcB N sc scope own vl' gl' = true) (hsl : ∀ i ∈ sl, i ∈ own.map (·.2)) (tgl : ∀ w env S env', t w env S = some env' → env'.length = env.length)
    (hi : SI T X W tg iter fi)
    (hg : ∀ s H A cl fp, Bok T (X.blk s H scope (compEnvC scope cl A X.env) fp) k N sc scope own vl' gl' → SG T (X.blk s H scope (compEnvC scope cl A X.env) fp) tg t sl)
    (ht : ∀ s H A cl fp, Bok T (X.blk s H scope (compEnvC scope cl A X.env) fp) k N sc scope own vl' gl' → STs T (X.blk s H scope (compEnvC scope cl A X.env) fp) ifs cond)
    (he : ∀ s H A cl fp, Bok T (X.blk s H scope (compEnvC scope cl A X.env) fp) k N sc scope own vl' gl' → SE T (X.blk s H scope (compEnvC scope cl A X.env) fp) Wno elt fe)
    (hs : ∀ x, foldedSetIterable iter X.env x = pure x) : SS T X W (.Assign [.Name y py] (.ListComp elt [⟨tg, iter, ifs, 0⟩] scope pos) spos) (sSet i (fLc live fi (own.map (·.2)) t cond fe)) := by
  have hb' := hb
  unfold lcB at hb'
  rw [Bool.and_eq_true, Bool.and_eq_true, Bool.and_eq_true] at hb'
  obtain ⟨⟨⟨h1, h2⟩, h3⟩, h4⟩ := hb'
  refine ps_imp (ps_setLc (te := tI T X.K Wno fe) (tt := tT T X.K Wno cond) (g := tG T X.K t sl) C.calm (by rw [C.hN]; exact C.nd) (by rw [C.hN]; exact hi0) (by rw [C.hsc]; exact hyl) hsw hi (by rw [C.hN, C.hsc]; exact blkOk_by h1) (fun s H A cl fp => hg s H A cl fp (C.blkB hb)) (fun s H A cl fp => (ht s H A cl fp (C.blkB hb)).run) (fun s H A cl fp => he s H A cl fp (C.blkB hb)) hs) fun D σ H ⟨env, G, φ, S, r, er, gd⟩ => ?_
  refine s_lc (T := T) (X := X) (W := W) (live := live) (fi := fi) (elt := fe) hsl (fun _ _ _ _ h => h) tgl σ H _ ⟨env, G, φ, S, r, er, (GoodR.stmt (R := Den X.K) er gd).imp fun v H1 ⟨w, S1, G1, φ1, x1, r1, d1, g1⟩ => ?_⟩
  exact g1 _ H1 G1 φ1 Ext.refl r1 ((x1.envr er).set d1 i)
end

/-! ### defs -/
/-- the place within a def -/
structure Dok (T : Tab) (X : Cx) (W : WX) (k : Nat) (N : List Str) (sc : Scope) (vl gl : List Str) : Prop extends Cok T X W k N sc vl gl where
  fnt : ∀ x, X.fn x = true
  nofree : ∀ y ∈ sc.names, y.2 ≠ .free
  pass : PassesOwn (model X.prog X.w) X.A X.env X.xe
  stk : X.stack = X.env :: X.outer
  frm : X.env.frame = some X.env.locals
section
variable {T : Tab} {X : Cx} {W : WX} {k : Nat} {N : List Str} {sc : Scope} {vl gl : List Str} {x : Str} {pos p : Pos} {j : Nat}
theorem lookup_mem {α : Type} : ∀ {l : List (Str × α)} {n : Str} {a : α}, l.lookup n = some a → (n, a) ∈ l
  | [], _, _, h => by cases h
  | (m, b) :: r, n, a, h => by
    rw [List.lookup_cons] at h
    cases e : n == m with
    | true => rw [e] at h; cases h; have : n = m := by simpa using e
              rw [this]; exact List.mem_cons_self
    | false => rw [e] at h; exact List.mem_cons_of_mem _ (lookup_mem h)
theorem Dok.loc (D : Dok T X W k N sc vl gl) (hv : vl[j]? = some x) : Loc sc x := by
  obtain ⟨h1, _, _⟩ := visB_at D.vis hv
  rcases h1 with h | h | h
  · exact .inl h
  · exact .inr h
  · exact absurd rfl (D.nofree _ (lookup_mem h))
theorem ds_set (D : Dok T X W k N sc vl gl) {i : Nat} {e : Expr} {fe : FE} (hi : N[i]? = some x) (hv : vl[j]? = some x) (he : SE T X W e fe) (hs : swapsWith e (some (.Name x p)) pos.line X.env = pure false) : SS T X W (.Assign [.Name x p] e pos) (sSet i fe) :=
  cs_set D.toCok hi hv (D.loc hv) he hs (.inl (D.fnt x))
theorem dg_name (D : Dok T X W k N sc vl gl) {i : Nat} (hi : N[i]? = some x) (hv : vl[j]? = some x) : SG T X (.Name x p) (tgName i) [i] := sg_name D.toCok hi (D.loc hv) (.inl (D.fnt x))
def SOut.out (o : SOut) : Out Wv := match o with
  | .nx _ S' => .ok .non S'
  | .rt w S' => .ok w S'
  | .exc c _ S' => .exc c S'
  | _ => .bad
def runDef (n : Nat) (body : FS) (ws : List Wv) (S : Sto) : Out Wv := (body (ws.map some ++ List.replicate (n - ws.length) none) S).out
end
section
variable {T : Tab} {P : Program} {w : World} {K : PySem.W.Frag} {mg : Str → Option Value} {base : Heap}
theorem def_ok {x qual : Str} {st : Stmt} {f : Addr} {fd : FuncData} {N ps vl gl : List Str} {k : Nat} {body : FS} (F : Fun K x qual st f fd) (S : FnScope N ps (defScope st)) (hv : (visB (defScope st) vl && glB (defScope st) gl) = true)
    (hb : ∀ X W, X.prog = P → X.w = w → X.K = K → X.mg = mg → X.base = base → Dok T X W k N (defScope st) vl gl → SSs T X W (defBody st) body) : FnOk P w K mg base (L2.CX P w) (k + 1) f fd ps (spF T K ps.length (runDef N.length body)) := by
  rw [Bool.and_eq_true] at hv
  refine F.okX S (fun vs H Q E h => h.1) (fun cdv A outer s H vs Q E hr h => ?_)
  obtain ⟨hl, G, φ, S0, ws, r, d, g⟩ := h
  refine ⟨tS T K (fun cls d _ H => E cls d H) body, hb (cxOf (L2.CX P w) P w K mg base N qual (defScope st) f cdv A outer s H E) (fun cls d _ H => E cls d H) rfl rfl rfl rfl rfl
    ⟨⟨takes_of rfl rfl rfl rfl, rfl, S.nd, hr, rfl, rfl, hv.1, hv.2⟩, fun _ => rfl, S.nofree, passes_of rfl, rfl, rfl⟩, ?_⟩
  refine ⟨ws.map some ++ List.replicate (N.length - ws.length) none, G, φ, S0, r, ⟨?_, fun i u hu => ?_⟩, ?_⟩
  · unfold L2.start
    rw [List.length_append, List.length_append, List.length_map, List.length_map, List.length_replicate, List.length_replicate, d.len]
  · unfold L2.start
    by_cases hi : i < ws.length
    · rw [List.getElem?_append_left (by simpa using hi), List.getElem?_map] at hu
      cases q : ws[i]? with
      | none => rw [q] at hu; cases hu
      | some u' =>
        rw [q] at hu
        have hu : u' = u := by simpa using hu
        subst hu
        obtain ⟨v, hv, dv⟩ := d.get q
        exact ⟨v, by rw [List.getElem?_append_left (by rw [List.length_map, d.len]; exact hi), List.getElem?_map, hv]; rfl, dv⟩
    · rw [List.getElem?_append_right (by simpa using hi)] at hu
      have := List.getElem?_replicate (n := N.length - ws.length) (a := (none : Option Wv)) (i := i - (ws.map some).length)
      rw [this] at hu
      split at hu <;> cases hu
  · unfold runDef at g
    cases q : body (ws.map some ++ List.replicate (N.length - ws.length) none) S0 with
    | nx e S' => rw [q] at g; exact fun σ' H' G' φ' x r' er' => g .non H' G' φ' x r' .non
    | rt u S' => rw [q] at g; exact fun v H' G' φ' x r' d' => g v H' G' φ' x r' d'
    | exc c e S' => rw [q] at g; exact fun σ' H' G' φ' x r' er' => g H' G' φ' x r'
    | bk _ _ => rw [q] at g; exact g.elim
    | ct _ _ => rw [q] at g; exact g.elim
    | bad => rw [q] at g; exact g.elim
end
end CL
namespace CL
open PySem PySem.Spec PyProof.Rows L2

/-! ### methods of the built-in types -/
def fBM (t : Ty) (g : Wv → List Wv → Sto → Out Wv) (fo : FE) (fr : FA) : FE := fun env S => (fo env S).bind fun w S1 => if tyOf S1 w = some t then (fr env S1).bind fun ws S2 => g w ws S2 else .bad
def GM (T : Tab) (K : PySem.W.Frag) (W : WX) (r : V → List V → Hp → VK → Prop) (g : Wv → List Wv → Sto → Out Wv) : Prop :=
  ∀ (x : V) (xs : List V) (w : Wv) (ws : List Wv) (σ : L2.St) (G : Hp) (φ : List Addr) (S : Sto) (H : Hp) (Q : VK), Rel T K G φ S H → Den K G φ x w → Dens K G φ xs ws → GoodR (Den K) T K W σ H G φ Q (g w ws S) → r x xs H Q
/-- the types that have methods here -/
def Ty.meth : Ty → Bool
  | .str => true | .lst => true | .dct => true | _ => false
section
variable {T : Tab} {X : Cx} {W : WX} {k : Nat} {N : List Str} {sc : Scope} {vl gl : List Str} {x name : Str} {pos p apos cpos : Pos} {j : Nat} {o e : Expr} {es : List Expr} {fo : FE} {fr : FA} {id : String} {r : V → List V → Hp → VK → Prop} {g : Wv → List Wv → Sto → Out Wv}
theorem tyV_ok {K : PySem.W.Frag} {G : Hp} {φ : List Addr} {S : Sto} {H : Hp} {v : V} {w : Wv} {t : Ty} (hm : t.meth = true) (r : Rel T K G φ S H) (d : Den K G φ v w) (h : tyOf S w = some t) : tyV K t.nm v H := by
  cases d with
  | non => cases h; cases hm
  | bl b => cases h; cases hm
  | int b => cases h; cases hm
  | str b => cases h; rfl
  | tup e _ => cases h; cases hm
  | lst e _ => cases h; exact .inl ⟨rfl, _, SqL.of (r.ex _ _ e)⟩
  | scr e => cases h
  | exn e => cases h
  | @ref k a e =>
    simp only [tyOf] at h
    cases q : S[k]? with
    | none => rw [q] at h; cases h
    | some o =>
      cases o with
      | lst ys => rw [q] at h; cases h; obtain ⟨vs, e1, _⟩ := r.lref q e; exact .inl ⟨rfl, _, SqL.of e1⟩
      | dct kvs => rw [q] at h; cases h; obtain ⟨vs, e1, _⟩ := r.ob _ _ _ e q; exact .inr (.inr (.inl ⟨rfl, .inl ⟨_, e1⟩⟩))
      | ins _ _ => rw [q] at h; cases h
      | dead => rw [q] at h; cases h
      | tab => rw [q] at h; cases h
      | lck d => rw [q] at h; cases h
theorem cs_bm (t : Ty) (hm : t.meth = true) (pa : PlainAttrs t.nm) (slot : Slot t.nm name id) (hty : typeOf (.builtin id) = pure (.type "method_descriptor")) (hr : MtR X id r) (hg : GM T X.K W r g) (ho : SE T X W o fo) (ha : SA T X W (e :: es) fr)
    (hbase : attributeBase o name X.env (eval o X.env) = eval o X.env)
    (hfew : ((backTo cpos (starEach (e :: es) X.env)).all (fun x => !x.1) && (backToKw cpos (keywordEach [] X.env)).all (fun x => x.1.isSome)
      && decide ((e :: es).length + ([] : List Keyword).length + (if ([] : List Keyword).isEmpty then 0 else 1) < 30)) = true)
    (hline : (apos.endLine == cpos.line) = true) (hs : starEach (e :: es) X.env = (false, eval e X.env) :: starEach es X.env) : SE T X W (.Call (.Attribute o name apos) (e :: es) [] cpos) (fBM t g fo fr) :=
  pe_imp (pe_bm pa slot hty hr ho ha.pa hbase hfew hline hs (plain_tl hs ha)) fun σ H Q ⟨env, G, φ, S, rl, er, gd⟩ => by
    refine ⟨env, G, φ, S, rl, er, (GoodR.bind gd).imp fun v H1 ⟨w, S1, G1, φ1, x1, r1, d1, g1⟩ => ?_⟩
    by_cases c : tyOf S1 w = some t
    · rw [if_pos c] at g1
      exact ⟨tyV_ok hm r1 d1 c, env, G1, φ1, S1, r1, x1.envr er, (GoodR.bind g1).imp fun vs H2 ⟨ws, S2, G2, φ2, x2, r2, d2, g2⟩ => hg v vs w ws σ G2 φ2 S2 H2 Q r2 (x2.den d1) d2 g2⟩
    · rw [if_neg c] at g1; exact g1.elim
theorem cs_bm0 (t : Ty) (hm : t.meth = true) (pa : PlainAttrs t.nm) (slot : Slot t.nm name id) (hty : typeOf (.builtin id) = pure (.type "method_descriptor")) (hr : MtR X id r) (hg : GM T X.K W r g) (ho : SE T X W o fo)
    (hbase : attributeBase o name X.env (eval o X.env) = eval o X.env) (hline : (apos.endLine == cpos.line) = true) : SE T X W (.Call (.Attribute o name apos) [] [] cpos) (fBM t g fo fNil) :=
  pe_imp (pe_bm0 pa slot hty hr ho hbase hline) fun σ H Q ⟨env, G, φ, S, rl, er, gd⟩ => by
    refine ⟨env, G, φ, S, rl, er, (GoodR.bind gd).imp fun v H1 ⟨w, S1, G1, φ1, x1, r1, d1, g1⟩ => ?_⟩
    by_cases c : tyOf S1 w = some t
    · rw [if_pos c] at g1
      exact ⟨tyV_ok hm r1 d1 c, hg v [] w [] σ G1 φ1 S1 H1 Q r1 d1 .nil g1⟩
    · rw [if_neg c] at g1; exact g1.elim
end

/-! lists -/
/-- the live list k -/
def liveL (S : Sto) : Wv → Option (Nat × List Wv)
  | .ref k => match S[k]? with
    | some (.lst ws) => some (k, ws)
    | _ => none
  | _ => none
def appP : Wv → List Wv → Sto → Out Wv := fun w us S => match us, liveL S w with
  | [u], some (k, ws) => if lenOk ws.length = true then .ok .non (S.set k (.lst (ws ++ [u]))) else .bad
  | _, _ => .bad
def insP : Wv → List Wv → Sto → Out Wv := fun w us S => match us, liveL S w with
  | [.int i, u], some (k, ws) => if lenOk ws.length = true ∧ 0 ≤ i ∧ i < 2 ^ 63 then .ok .non (S.set k (.lst (ws.take i.toNat ++ [u] ++ ws.drop i.toNat))) else .bad
  | _, _ => .bad
def popP : Wv → List Wv → Sto → Out Wv := fun w us S => match us, liveL S w with
  | [.int i], some (k, ws) => if 0 ≤ i ∧ i < 2 ^ 63 then match ws[i.toNat]? with
    | some y => .ok y (S.set k (.lst (ws.eraseIdx i.toNat)))
    | none => .bad
    else .bad
  | _, _ => .bad
def remP : Wv → List Wv → Sto → Out Wv := fun w us S => match us, liveL S w with
  | [.int i], some (k, ws) => match intsOf ws with
    | some ns => if i ∈ ns then .ok .non (S.set k (.lst ((ns.eraseIdx (ns.idxOf i)).map .int))) else .bad
    | none => .bad
  | _, _ => .bad
def indP : Wv → List Wv → Sto → Out Wv := fun w us S => match us, seqOf S w with
  | [.int i], some ws => match intsOf ws with
    | some ns => if i ∈ ns then .ok (.int (ns.idxOf i)) S else .bad
    | none => .bad
  | _, _ => .bad
section
variable {T : Tab} {X : Cx} {K : PySem.W.Frag} {W : WX}
theorem live_rd {G : Hp} {φ : List Addr} {S : Sto} {H : Hp} {v : V} {w : Wv} {k : Nat} {ws : List Wv} (r : Rel T K G φ S H) (d : Den K G φ v w) (h : liveL S w = some (k, ws)) : ∃ a vs, v = .ref a ∧ φ[k]? = some a ∧ S[k]? = some (.lst ws) ∧ H a = some (.lst vs) ∧ Dens K G φ vs ws := by
  cases d with
  | @ref k0 a e =>
    simp only [liveL] at h
    cases q : S[k0]? with
    | none => rw [q] at h; cases h
    | some o =>
      cases o with
      | lst ys => rw [q] at h; cases h; obtain ⟨vs, e1, e2⟩ := r.lref q e; exact ⟨a, vs, rfl, e, q, e1, e2⟩
      | _ => rw [q] at h; cases h
  | _ => cases h
theorem wr_lst {σ : L2.St} {G : Hp} {φ : List Addr} {S : Sto} {H : Hp} {Q : VK} {k : Nat} {a : Addr} {ws ws' : List Wv} {vs' : List V} {y : V} {u : Wv} (r : Rel T K G φ S H) (ha : φ[k]? = some a) (hk : S[k]? = some (.lst ws)) (d : Dens K G φ vs' ws') (dy : Den K G φ y u) (gd : GoodR (Den K) T K W σ H G φ Q (.ok u (S.set k (.lst ws')))) :
    Q y (upd H a (.lst vs')) := by
  obtain ⟨r', x'⟩ := r.write (o' := .lst ws') (ho := .lst vs') ha hk rfl ⟨vs', upd_same, d⟩
  exact gd _ _ _ _ x' r' (x'.den dy)
theorem g_app : GM T K W rAppend appP := fun x xs w ws σ G φ S H Q r d ds gd => by
  unfold appP at gd
  match ws, ds, gd with
  | [], _, gd => exact gd.elim
  | _ :: _ :: _, _, gd => exact gd.elim
  | [u], ds, gd =>
    cases q : liveL S w with
    | none => simp only [q] at gd; exact gd.elim
    | some kw =>
      obtain ⟨k, us⟩ := kw
      simp only [q] at gd
      obtain ⟨v, rfl, dv⟩ := one_den ds
      obtain ⟨a, vs, rfl, h1, h2, h3, h4⟩ := live_rd r d q
      by_cases c : lenOk us.length = true
      · rw [if_pos c] at gd
        exact ⟨a, vs, v, rfl, rfl, h3, by rw [h4.len]; exact lenOk_lt c, wr_lst r h1 h2 (h4.append (.cons dv .nil)) .non gd⟩
      · rw [if_neg c] at gd; exact gd.elim
theorem two_den {G : Hp} {φ : List Addr} {xs : List V} {w u : Wv} (d : Dens K G φ xs [w, u]) : ∃ v y, xs = [v, y] ∧ Den K G φ v w ∧ Den K G φ y u := by
  cases d with
  | cons d t =>
    obtain ⟨y, rfl, dy⟩ := one_den t
    exact ⟨_, y, rfl, d, dy⟩
theorem g_ins : GM T K W (fun x vs H Q => ∃ (l : Addr) (xs : List V) (i : Int) (y : V), x = .ref l ∧ vs = [.int i, y] ∧ H l = some (.lst xs) ∧ xs.length < sizeLine ∧ 0 ≤ i ∧ i < 2 ^ 63 ∧ Q .non (upd H l (.lst (xs.take i.toNat ++ [y] ++ xs.drop i.toNat)))) insP := fun x xs w ws σ G φ S H Q r d ds gd => by
  unfold insP at gd
  match ws, ds, gd with
  | [], _, gd => exact gd.elim
  | [u], _, gd => cases u <;> exact gd.elim
  | u :: _ :: _ :: _, _, gd => cases u <;> exact gd.elim
  | [u, u2], ds, gd =>
    obtain ⟨v, y, rfl, dv, dy⟩ := two_den ds
    cases dv with
    | int i =>
      cases q : liveL S w with
      | none => simp only [q] at gd; exact gd.elim
      | some kw =>
        obtain ⟨k, us⟩ := kw
        simp only [q] at gd
        obtain ⟨a, vs, rfl, h1, h2, h3, h4⟩ := live_rd r d q
        by_cases c : lenOk us.length = true ∧ 0 ≤ i ∧ i < 2 ^ 63
        · rw [if_pos c] at gd
          exact ⟨a, vs, i, y, rfl, rfl, h3, by rw [h4.len]; exact lenOk_lt c.1, c.2.1, c.2.2, wr_lst r h1 h2 (((h4.take _).append (.cons dy .nil)).append (h4.drop _)) .non gd⟩
        · rw [if_neg c] at gd; exact gd.elim
    | _ => exact gd.elim
theorem seqIx {i : Int} {n : Nat} (h0 : 0 ≤ i) (h : i.toNat < n) : seqIndex? i n = some i.toNat := by
  unfold seqIndex?
  simp only [show ¬ i < 0 from by omega, if_false]
  rw [if_pos]
  simp; omega
theorem g_pop : GM T K W rPopAt popP := fun x xs w ws σ G φ S H Q r d ds gd => by
  unfold popP at gd
  match ws, ds, gd with
  | [], _, gd => exact gd.elim
  | u :: _ :: _, _, gd => cases u <;> exact gd.elim
  | [u], ds, gd =>
    obtain ⟨v, rfl, dv⟩ := one_den ds
    cases dv with
    | int i =>
      cases q : liveL S w with
      | none => simp only [q] at gd; exact gd.elim
      | some kw =>
        obtain ⟨k, us⟩ := kw
        simp only [q] at gd
        obtain ⟨a, vs, rfl, h1, h2, h3, h4⟩ := live_rd r d q
        by_cases c : 0 ≤ i ∧ i < 2 ^ 63
        · rw [if_pos c] at gd
          cases e : us[i.toNat]? with
          | none => rw [e] at gd; exact gd.elim
          | some y =>
            rw [e] at gd
            obtain ⟨vy, hy, dy⟩ := h4.get e
            exact ⟨a, vs, i, i.toNat, vy, rfl, rfl, h3, by omega, c.2, seqIx c.1 (by rw [h4.len]; exact (List.getElem?_eq_some_iff.mp e).1), hy, wr_lst r h1 h2 (h4.erase _) dy gd⟩
        · rw [if_neg c] at gd; exact gd.elim
    | _ => exact gd.elim
theorem idx_first {ns : List Int} {i : Int} (h : i ∈ ns) : ns[ns.idxOf i]? = some i ∧ ∀ m : Nat, m < ns.idxOf i → ns[m]? ≠ some i := by
  have hl := List.idxOf_lt_length_of_mem h
  refine ⟨by rw [List.getElem?_eq_getElem hl, List.getElem_idxOf hl], fun m hm e => ?_⟩
  have h2 := (List.getElem?_eq_some_iff.mp e)
  obtain ⟨h3, h4⟩ := h2
  have := List.not_of_lt_findIdx (p := (· == i)) (xs := ns) (i := m) hm
  simp [h4] at this
theorem map_erase {ns : List Int} {j : Nat} : (ns.eraseIdx j).map Wv.int = (ns.map Wv.int).eraseIdx j := by
  induction ns generalizing j with
  | nil => rfl
  | cons n r ih => cases j with
    | zero => rfl
    | succ j => simp [List.eraseIdx, ih]
theorem g_rem : GM T K W rRemI remP := fun x xs w ws σ G φ S H Q r d ds gd => by
  unfold remP at gd
  match ws, ds, gd with
  | [], _, gd => exact gd.elim
  | u :: _ :: _, _, gd => cases u <;> exact gd.elim
  | [u], ds, gd =>
    obtain ⟨v, rfl, dv⟩ := one_den ds
    cases dv with
    | int i =>
      cases q : liveL S w with
      | none => simp only [q] at gd; exact gd.elim
      | some kw =>
        obtain ⟨k, us⟩ := kw
        simp only [q] at gd
        obtain ⟨a, vs, rfl, h1, h2, h3, h4⟩ := live_rd r d q
        cases e : intsOf us with
        | none => rw [e] at gd; exact gd.elim
        | some ns =>
          rw [e] at gd
          have := intsOf_eq e
          subst this
          have := h4.toInts
          subst this
          simp only at gd
          by_cases c : i ∈ ns
          · rw [if_pos c] at gd
            obtain ⟨f1, f2⟩ := idx_first c
            exact ⟨a, ns, i, _, rfl, rfl, h3, f1, f2, wr_lst r h1 h2 (Dens.ints _) .non gd⟩
          · rw [if_neg c] at gd; exact gd.elim
    | _ => exact gd.elim
theorem g_ind : GM T K W (rIndex K) indP := fun x xs w ws σ G φ S H Q r d ds gd => by
  unfold indP at gd
  match ws, ds, gd with
  | [], _, gd => exact gd.elim
  | u :: _ :: _, _, gd => cases u <;> exact gd.elim
  | [u], ds, gd =>
    obtain ⟨v, rfl, dv⟩ := one_den ds
    cases dv with
    | int i =>
      cases q : seqOf S w with
      | none => simp only [q] at gd; exact gd.elim
      | some us =>
        simp only [q] at gd
        obtain ⟨a, vs, rfl, hq, h4⟩ := seq_rd r d q
        cases e : intsOf us with
        | none => rw [e] at gd; exact gd.elim
        | some ns =>
          rw [e] at gd
          have := intsOf_eq e
          subst this
          have := h4.toInts
          subst this
          simp only at gd
          by_cases c : i ∈ ns
          · rw [if_pos c] at gd
            obtain ⟨f1, f2⟩ := idx_first c
            refine ⟨a, ns.map V.int, .int i, ns.idxOf i, .int i, rfl, rfl, hq, rfl, by simp [flatV], by rw [List.getElem?_map, f1]; rfl, by simp [eqV], fun m z hm hz => ?_, GoodR.here (S := S) gd r (.int _)⟩
            rw [List.getElem?_map] at hz
            cases e2 : ns[m]? with
            | none => rw [e2] at hz; cases hz
            | some n =>
              rw [e2] at hz
              have hz : V.int n = z := Option.some.inj hz
              subst hz
              have : n ≠ i := fun e3 => f2 m hm (by rw [e2, e3])
              simp [eqV, this]
          · rw [if_neg c] at gd; exact gd.elim
    | _ => exact gd.elim
end

/-! texts -/
def joinP : Wv → List Wv → Sto → Out Wv := fun w us S => match w, us with
  | .str a, [u] => match seqOf S u with
    | some ws => match strsOf ws with
      | some ys => if (ys.map (·.length)).sum + ys.length * a.length ≤ 16777216 then .ok (.str (Txt.join a ys)) S else .bad
      | none => .bad
    | none => .bad
  | _, _ => .bad
def splitP (live : Bool) : Wv → List Wv → Sto → Out Wv := fun w us S => match w, us with
  | .str a, [.str b] => if (b.length == 0) = false ∧ lenOk (a.length + 2) = true then mkL live ((Txt.split a b).map .str) S else .bad
  | _, _ => .bad
def upperP : Wv → List Wv → Sto → Out Wv := fun w us S => match w, us with
  | .str a, [] => if a.length ≤ 5592405 then .ok (.str (Txt.upper a)) S else .bad
  | _, _ => .bad
section
variable {T : Tab} {X : Cx} {K : PySem.W.Frag} {W : WX}
theorem g_join : GM T K W (fun x xs H Q => ∃ a p, ∃ ys : List Str, x = .str a ∧ xs = [.ref p] ∧ (SqL K H p (ys.map V.str) ∨ SqT K H p (ys.map V.str)) ∧ (ys.map (·.length)).sum + ys.length * a.length ≤ 16777216 ∧ Q (.str (Txt.join a ys)) H) joinP := fun x xs w ws σ G φ S H Q r d ds gd => by
  unfold joinP at gd
  cases d with
  | str a =>
    match ws, ds, gd with
    | [], _, gd => exact gd.elim
    | u :: _ :: _, _, gd => exact gd.elim
    | [u], ds, gd =>
      obtain ⟨v, rfl, dv⟩ := one_den ds
      cases q : seqOf S u with
      | none => simp only [q] at gd; exact gd.elim
      | some us =>
        simp only [q] at gd
        obtain ⟨b, vs, rfl, hq, h4⟩ := seq_rd r dv q
        cases e : strsOf us with
        | none => simp only [e] at gd; exact gd.elim
        | some ys =>
          simp only [e] at gd
          have := strsOf_eq e
          subst this
          have := h4.toStrs
          subst this
          by_cases c : (ys.map (·.length)).sum + ys.length * a.length ≤ 16777216
          · rw [if_pos c] at gd; exact ⟨a, b, ys, rfl, rfl, .inl hq, c, GoodR.here (S := S) gd r (.str _)⟩
          · rw [if_neg c] at gd; exact gd.elim
  | _ => exact gd.elim
theorem g_split (live : Bool) : GM T K W (fun x xs H Q => ∃ a b, x = .str a ∧ xs = [.str b] ∧ (b.length == 0) = false ∧ a.length + 2 ≤ sizeLine ∧ rNewStrs (Txt.split a b) H Q) (splitP live) := fun x xs w ws σ G φ S H Q r d ds gd => by
  unfold splitP at gd
  cases d with
  | str a =>
    match ws, ds, gd with
    | [], _, gd => exact gd.elim
    | u :: _ :: _, _, gd => cases u <;> exact gd.elim
    | [u], ds, gd =>
      obtain ⟨v, rfl, dv⟩ := one_den ds
      cases dv with
      | str b =>
        simp only at gd
        by_cases c : (b.length == 0) = false ∧ lenOk (a.length + 2) = true
        · rw [if_pos c] at gd; exact ⟨a, b, rfl, rfl, c.1, lenOk_le c.2, fun p hp => made_lst live r hp (Dens.strs _) gd⟩
        · rw [if_neg c] at gd; exact gd.elim
      | _ => exact gd.elim
  | _ => exact gd.elim
theorem g_upper : GM T K W (fun x xs H Q => ∃ a, x = .str a ∧ xs = [] ∧ a.length ≤ 5592405 ∧ Q (.str (Txt.upper a)) H) upperP := fun x xs w ws σ G φ S H Q r d ds gd => by
  unfold upperP at gd
  cases d with
  | str a =>
    cases ds with
    | nil =>
      simp only at gd
      by_cases c : a.length ≤ 5592405
      · rw [if_pos c] at gd; exact ⟨a, rfl, rfl, c, GoodR.here (S := S) gd r (.str _)⟩
      · rw [if_neg c] at gd; exact gd.elim
    | cons _ _ => exact gd.elim
  | _ => exact gd.elim
end

/-! one sign in a text; flat things in lists and tuples -/
def inStrP (neg : Bool) : Wv → Wv → Sto → Out Wv
  | .str c, .str z, S => match c.cps.toList with
    | [n] => .ok (.bl (if neg = true then !decide (n ∈ z.cps.toList) else decide (n ∈ z.cps.toList))) S
    | _ => .bad
  | _, _, _ => .bad
def inIntP (neg : Bool) : Wv → Wv → Sto → Out Wv := fun w u S => match w with
  | .int i => match seqTup S u with
    | some ws => match intsOf ws with
      | some ns => .ok (.bl (if neg = true then !decide (i ∈ ns) else decide (i ∈ ns))) S
      | none => .bad
    | none => .bad
  | .str i => match seqTup S u with
    | some ws => match strsOf ws with
      | some ns => .ok (.bl (if neg = true then !decide (i ∈ ns) else decide (i ∈ ns))) S
      | none => .bad
    | none => .bad
  | _ => .bad
section
variable {T : Tab} {X : Cx} {K : PySem.W.Frag} {W : WX}
theorem one_sign {c : Str} {n : Nat} (h : c.cps.toList = [n]) : c = ⟨#[n]⟩ := by
  obtain ⟨a⟩ := c
  have : a = #[n] := by
    apply Array.toList_inj.mp
    simpa using h
  rw [this]
theorem g_inStr : G2 T K W (fun x y H Q => ∃ (c : Nat) (z : Str), x = .str ⟨#[c]⟩ ∧ y = .str z ∧ Q (.bl (decide (c ∈ z.cps.toList))) H) (inStrP false) := fun x y w u σ G φ S H Q r dx dy gd => by
  cases dx with
  | str c =>
    cases dy with
    | str z =>
      simp only [inStrP] at gd
      cases e : c.cps.toList with
      | nil => simp only [e] at gd; exact gd.elim
      | cons n t =>
        cases t with
        | nil => simp only [e] at gd; rw [one_sign e]; exact ⟨n, z, rfl, rfl, GoodR.here (S := S) gd r (.bl _)⟩
        | cons _ _ => simp only [e] at gd; exact gd.elim
    | _ => exact gd.elim
  | _ => exact gd.elim
theorem g_notInStr : G2 T K W (fun x y H Q => ∃ (c : Nat) (z : Str), x = .str ⟨#[c]⟩ ∧ y = .str z ∧ Q (.bl (!decide (c ∈ z.cps.toList))) H) (inStrP true) := fun x y w u σ G φ S H Q r dx dy gd => by
  cases dx with
  | str c =>
    cases dy with
    | str z =>
      simp only [inStrP] at gd
      cases e : c.cps.toList with
      | nil => simp only [e] at gd; exact gd.elim
      | cons n t =>
        cases t with
        | nil => simp only [e] at gd; rw [one_sign e]; exact ⟨n, z, rfl, rfl, GoodR.here (S := S) gd r (.bl _)⟩
        | cons _ _ => simp only [e] at gd; exact gd.elim
    | _ => exact gd.elim
  | _ => exact gd.elim
theorem inV_int (i : Int) : ∀ ns : List Int, inV (.int i) (ns.map V.int) = decide (i ∈ ns)
  | [] => rfl
  | n :: r => by
    unfold inV
    rw [List.map_cons, List.any_cons]
    have ih := inV_int i r
    unfold inV at ih
    rw [ih]
    by_cases e : n = i
    · subst e; simp [eqV]
    · have e' : ¬ i = n := fun z => e z.symm
      simp [eqV, e, e']
theorem inV_str (i : Str) : ∀ ns : List Str, inV (.str i) (ns.map V.str) = decide (i ∈ ns)
  | [] => rfl
  | n :: r => by
    unfold inV
    rw [List.map_cons, List.any_cons]
    have ih := inV_str i r
    unfold inV at ih
    rw [ih]
    by_cases e : n = i
    · subst e; simp [eqV]
    · have e' : ¬ i = n := fun z => e z.symm
      simp [eqV, e, e']
theorem g_inInt (neg : Bool) : G2 T K W (rIn K neg) (inIntP neg) := fun x y w u σ G φ S H Q r dx dy gd => by
  cases dx with
  | int i =>
    simp only [inIntP] at gd
    cases e : seqTup S u with
    | none => simp only [e] at gd; exact gd.elim
    | some ws =>
      simp only [e] at gd
      obtain ⟨a, vs, rfl, hq, dd⟩ := st_rd r dy e
      cases e2 : intsOf ws with
      | none => simp only [e2] at gd; exact gd.elim
      | some ns =>
        simp only [e2] at gd
        have := intsOf_eq e2
        subst this
        have := dd.toInts
        subst this
        refine ⟨a, _, rfl, hq, rfl, by simp [flatV], ?_⟩
        rw [inV_int]
        exact GoodR.here (S := S) gd r (.bl _)
  | str i =>
    simp only [inIntP] at gd
    cases e : seqTup S u with
    | none => simp only [e] at gd; exact gd.elim
    | some ws =>
      simp only [e] at gd
      obtain ⟨a, vs, rfl, hq, dd⟩ := st_rd r dy e
      cases e2 : strsOf ws with
      | none => simp only [e2] at gd; exact gd.elim
      | some ns =>
        simp only [e2] at gd
        have := strsOf_eq e2
        subst this
        have := dd.toStrs
        subst this
        refine ⟨a, _, rfl, hq, rfl, by simp [flatV], ?_⟩
        rw [inV_str]
        exact GoodR.here (S := S) gd r (.bl _)
  | _ => exact gd.elim
end

/-! items stored -/
def setLP : Wv → Wv → Wv → Sto → Option Sto := fun o i v S => match liveL S o, i with
  | some (k, ws), .int j => match ixN ws.length j with
    | some n => some (S.set k (.lst (ws.set n v)))
    | none => none
  | _, _ => none
/-- o[i] = e, o a list: e first -/
def sSetL (fo fi fe : FE) : FS := fun env S => (fe env S).thn env fun v S1 => (fo env S1).thn env fun o S2 => (fi env S2).thn env fun i S3 => match setLP o i v S3 with
  | some S4 => .nx env S4
  | none => .bad
section
variable {T : Tab} {X : Cx} {W : WX} {o i e : Expr} {fo fi fe : FE} {pos tpos : Pos}
theorem cs_setL (ho : SE T X W o fo) (hi : SE T X W i fi) (he : SE T X W e fe) (hs : swapsWithSole [.Subscript o i tpos] e pos.line X.env = pure false) (hw : swappedStores [.Subscript o i tpos] e X.env = pure none) (h1 : (assignEach [.Subscript o i tpos] X.env).map (·.2) = [assign (.Subscript o i tpos) X.env])
    (ha : ∀ v, assign (.Subscript o i tpos) X.env v = (do
      let ov ← holding [v] (eval o X.env)
      let iv ← holding [v, ov] (eval i X.env)
      standAt tpos
      holding [v, ov, iv] (setItem ov iv v)
      release [v, ov, iv] [])) : SS T X W (.Assign [.Subscript o i tpos] e pos) (sSetL fo fi fe) :=
  ps_imp (ps_asg he (pg_sub ho hi set_list ha) hs hw h1) fun D σ H ⟨env, G, φ, S, r, er, gd⟩ =>
    ⟨env, G, φ, S, r, er, (GoodR.stmt (R := Den X.K) er gd).imp fun v H1 ⟨w, S1, G1, φ1, x1, r1, d1, g1⟩ =>
      ⟨env, G1, φ1, S1, r1, x1.envr er, (GoodR.stmt (R := Den X.K) (x1.envr er) g1).imp fun ov H2 ⟨ow, S2, G2, φ2, x2, r2, d2, g2⟩ =>
        ⟨env, G2, φ2, S2, r2, (x1.trans x2).envr er, (GoodR.stmt (R := Den X.K) ((x1.trans x2).envr er) g2).imp fun iv H3 ⟨iw, S3, G3, φ3, x3, r3, d3, g3⟩ => by
          cases q : setLP ow iw w S3 with
          | none => simp only [q] at g3; exact g3.elim
          | some S4 =>
            simp only [q] at g3
            unfold setLP at q
            cases q1 : liveL S3 ow with
            | none => simp only [q1] at q; cases q
            | some kw =>
              obtain ⟨k, ws⟩ := kw
              simp only [q1] at q
              cases d3 with
              | int j =>
                simp only at q
                cases q2 : ixN ws.length j with
                | none => simp only [q2] at q; cases q
                | some n =>
                  simp only [q2] at q
                  cases q
                  obtain ⟨a, vs, rfl, h1, h2, h3, h4⟩ := live_rd r3 (x3.den d2) q1
                  refine ⟨a, vs, j, n, rfl, rfl, h3, by rw [h4.len]; exact q2, ?_⟩
                  obtain ⟨r', x'⟩ := r3.write (o' := .lst (ws.set n w)) (ho := .lst (vs.set n v)) h1 h2 rfl ⟨_, upd_same, h4.set ((x2.trans x3).den d1) n⟩
                  exact g3 σ _ G3 φ3 x' r' (((x1.trans x2).trans x3).envr er)
              | _ => cases q⟩⟩⟩
end
end CL
namespace CL
open PySem PySem.Spec PyProof.Rows L2

/-! ### constants of the module -/
structure ConF (mg : Str → Option Value) (x : Str) (v : V) : Prop where
  ex : ∃ u, mg x = some u ∧ RelV v u
section
variable {T : Tab} {X : Cx} {W : WX} {k : Nat} {N : List Str} {sc : Scope} {vl gl : List Str} {x : Str} {pos p : Pos} {j : Nat} {a b c tg : Expr} {fa fb fc : FE} {fr : FA}
theorem cs_const_int (C : Cok T X W k N sc vl gl) (hg : gl[j]? = some x) {i : Int} (h : ConF X.mg x (.int i)) : SE T X W (.Name x pos) (fC (.int i)) := by
  obtain ⟨u, h1, h2⟩ := h.ex
  exact cs_glob C hg h1 h2 fun _ _ _ => .int i
theorem cs_const_str (C : Cok T X W k N sc vl gl) (hg : gl[j]? = some x) {i : Str} (h : ConF X.mg x (.str i)) : SE T X W (.Name x pos) (fC (.str i)) := by
  obtain ⟨u, h1, h2⟩ := h.ex
  exact cs_glob C hg h1 h2 fun _ _ _ => .str i
end

section
variable {T : Tab} {X : Cx} {W : WX} {k : Nat} {N : List Str} {sc : Scope} {vl gl : List Str}
theorem sw_cell (C : Cok T X W k N sc vl gl) {elt : Expr} {gs : List Comprehension} {scope : Scope} {pos py : Pos} {y : Str} {l : Nat} (hy : sc.names.lookup y = some .cell) : swapsWith (.ListComp elt gs scope pos) (some (.Name y py)) l X.env = pure false := by
  show (pure (X.env.blockKind == .function && X.env.scope.names.lookup y == some .local && py.line == pos.line && !(scope.names.any fun (n, k) => n == y && (k == .local || k == .cell))) : Sem Bool) = pure false
  rw [C.hsc, hy, show ((some NameKind.cell : Option NameKind) == some .local) = false from rfl, Bool.and_false, Bool.false_and, Bool.false_and]
theorem sw_trueC (C : Cok T X W k N sc vl gl) {elt : Expr} {gs : List Comprehension} {scope : Scope} {pos py : Pos} {y : Str} {l : Nat} (hk : sc.kind = .function) (hy : sc.names.lookup y = some .local) (hl : (py.line == pos.line) = true)
    (hn : (scope.names.any fun (n, k) => n == y && (k == .local || k == .cell)) = false) : swapsWith (.ListComp elt gs scope pos) (some (.Name y py)) l X.env = pure true := sw_true (by rw [C.hsc]; exact hk) (by rw [C.hsc]; exact hy) hl hn
end

/-! ### a op b op c -/
def chainK (g2 : Wv → Wv → Sto → Out Wv) (y : Wv) (fc : Sto → Out Wv) (z : Wv) (S : Sto) : Out Wv := match z with
  | .bl b => if b = true then (fc S).bind fun w S1 => g2 y w S1 else .ok (.bl false) S
  | _ => .bad
def fChainG (g1 g2 : Wv → Wv → Sto → Out Wv) (fa fb fc : FE) : FE := fun env S => (fa env S).bind fun x S1 => (fb env S1).bind fun y S2 => (g1 x y S2).bind (chainK g2 y (fc env))
def fChain (p q : Int → Int → Bool) (fa fb fc : FE) : FE := fChainG (cmpI p) (cmpI q) fa fb fc
section
variable {T : Tab} {X : Cx} {W : WX} {k : Nat} {N : List Str} {sc : Scope} {vl gl : List Str} {x : Str} {pos p : Pos} {j : Nat} {a b c tg : Expr} {fa fb fc : FE} {fr : FA}
theorem chain_t {p q : Int → Int → Bool} {σ : L2.St} {H : Hp} {Q : VK} (h : tI T X.K W (fChain p q fa fb fc) σ H Q) : tChain (rI0 fun i j => .bl (p i j)) (rI0 fun i j => .bl (q i j)) (tI T X.K W fa) (tI T X.K W fb) (tI T X.K W fc) σ H Q := by
  obtain ⟨env, G, φ, S, r, er, gd⟩ := h
  refine ⟨env, G, φ, S, r, er, (GoodR.bind gd).imp fun v H1 ⟨w, S1, G1, φ1, x1, r1, d1, g1⟩ => ?_⟩
  refine ⟨env, G1, φ1, S1, r1, x1.envr er, (GoodR.bind g1).imp fun u H2 ⟨w2, S2, G2, φ2, x2, r2, d2, g2⟩ => ?_⟩
  have d1' := x2.den d1
  cases d1' with
  | int i =>
    cases d2 with
    | int j =>
      refine ⟨i, j, rfl, rfl, p i j, rfl, ?_⟩
      have g3 : GoodR (Den X.K) T X.K W σ H2 G2 φ2 Q (chainK (cmpI q) (.int j) (fc env) (.bl (p i j)) S2) := g2
      cases hp : p i j with
      | false =>
        rw [hp] at g3
        rw [if_neg Bool.false_ne_true]
        exact GoodR.here (S := S2) g3 r2 (.bl false)
      | true =>
        rw [hp] at g3
        rw [if_pos rfl]
        have g3 : GoodR (Den X.K) T X.K W σ H2 G2 φ2 Q ((fc env S2).bind fun w S1 => cmpI q (.int j) w S1) := g3
        exact ⟨env, G2, φ2, S2, r2, (x1.trans x2).envr er, (GoodR.bind g3).imp fun z H3 ⟨w3, S3, G3, φ3, x3, r3, d3, g4⟩ => g_cmpI q _ _ _ _ σ G3 φ3 S3 H3 Q r3 (.int j) d3 g4⟩
    | _ => exact g2.elim
  | _ => cases d2 <;> exact g2.elim
theorem cs_chain {o o' : CmpOp} {p q : Int → Int → Bool} (h1 : OpR X (compareOp o) (rI0 fun i j => .bl (p i j))) (h2 : OpR X (compareOp o') (rI0 fun i j => .bl (q i j))) (ha : SE T X W a fa) (hb : SE T X W b fb) (hc : SE T X W c fc)
    (hm : lastMarks [o, o'] [b, c] = false) : SE T X W (.Compare a [o, o'] [b, c] pos) (fChain p q fa fb fc) := pe_imp (pe_chain h1 h2 ha hb hc hm) fun σ H Q h => chain_t h
theorem ct_chain {o o' : CmpOp} {p q : Int → Int → Bool} (h1 : OpR X (compareOp o) (rI0 fun i j => .bl (p i j))) (h2 : OpR X (compareOp o') (rI0 fun i j => .bl (q i j))) (ha : SE T X W a fa) (hb : SE T X W b fb) (hc : SE T X W c fc)
    (hm : lastMarks [o, o'] [b, c] = false) : ST T X W (.Compare a [o, o'] [b, c] pos) (fTest (fChain p q fa fb fc)) := pt_imp (pt_chain h1 h2 ha hb hc hm) fun σ H Q ⟨env, G, φ, S, r, er, gd⟩ => chain_t ⟨env, G, φ, S, r, er, (GoodR.bind gd).imp fun v H1 ⟨w, S1, G1, φ1, x1, r1, d1, g1⟩ => by
      cases d1 with
      | bl b => exact ⟨b, rfl, GoodR.here (S := S1) g1 r1 rfl⟩
      | _ => exact g1.elim⟩
end

/-! ### tuples and texts multiplied, tuples of numbers compared -/
def repT : Wv → Wv → Sto → Out Wv := fun x y S => match x, y with
  | .tup xs, .int k => if xs.length = 0 ∨ xs.length > 1000 ∨ k < 2 ∨ k > 1000 then .bad else .ok (.tup (List.replicate k.toNat xs).flatten) S
  | _, _ => .bad
def repS : Wv → Wv → Sto → Out Wv := fun x y S => match x, y with
  | .str z, .int k => if z.length = 1 ∧ 1 ≤ k ∧ k ≤ 100000 then .ok (.str (Txt.mul z k)) S else .bad
  | _, _ => .bad
def ltTP : Wv → Wv → Sto → Out Wv := fun x y S => match x, y with
  | .tup xs, .tup ys => match intsOf xs, intsOf ys with
    | some ns, some ms => .ok (.bl (HT.lexLt ns ms)) S
    | _, _ => .bad
  | _, _ => .bad
section
variable {T : Tab} {X : Cx} {K : PySem.W.Frag} {W : WX}
theorem dens_flat {G : Hp} {φ : List Addr} {vs : List V} {ws : List Wv} (d : Dens K G φ vs ws) : ∀ n : Nat, Dens K G φ (List.replicate n vs).flatten (List.replicate n ws).flatten
  | 0 => .nil
  | n + 1 => by
    rw [List.replicate_succ, List.replicate_succ, List.flatten_cons, List.flatten_cons]
    exact d.append (dens_flat d n)
theorem g_repT : G2 T K W (rRepT K) repT := fun x y w u σ G φ S H Q r dx dy gd => by
  cases dx with
  | @tup a vs ws e dd =>
    cases dy with
    | int k =>
      simp only [repT] at gd
      by_cases c : ws.length = 0 ∨ ws.length > 1000 ∨ k < 2 ∨ k > 1000
      · rw [if_pos c] at gd; exact gd.elim
      · rw [if_neg c] at gd
        have hl := dd.len
        refine ⟨a, k, vs, rfl, rfl, SqT.of (r.ex _ _ e), ?_, by omega, by omega, by omega, fun p hp => made_tup r hp (dens_flat dd _) gd⟩
        rintro rfl
        simp at hl
        omega
    | _ => exact gd.elim
  | _ => cases dy <;> exact gd.elim
theorem op_repS : OpR X (binaryOp .Mult) (fun x y H Q => ∃ z k, x = .str z ∧ y = .int k ∧ z.length = 1 ∧ 1 ≤ k ∧ k ≤ 100000 ∧ Q (.str (Txt.mul z k)) H) := by
  intro pins s σ H x y v u Q I rx ry h
  obtain ⟨z, k, rfl, rfl, h1, h2, h3, q⟩ := h
  obtain ⟨t, rfl⟩ := rx
  obtain ⟨t2, rfl⟩ := ry
  refine SB.mul ⟨?_, fun _ _ => ?_, fun _ _ => ?_⟩ fun t' n => ⟨.str (Txt.mul z k), H, I.tok _, ⟨_, rfl⟩, q⟩
  · have e1 : decide (k < -(2 ^ 63 : Int)) = false := decide_eq_false (by omega)
    have e2 : decide (k ≥ 2 ^ 63) = false := decide_eq_false (by omega)
    rw [e1, e2]; rfl
  · rw [h1]
    have : (1 : Int) ≤ (2 ^ 63 - 1) / k := (Int.le_ediv_iff_mul_le (by omega)).mpr (by omega)
    show ¬ (((1 : Nat) : Int) > _)
    omega
  · rw [h1]
    exact decide_eq_false (by rw [line_eq]; omega)
theorem g_repS : G2 T K W (fun x y H Q => ∃ z k, x = .str z ∧ y = .int k ∧ z.length = 1 ∧ 1 ≤ k ∧ k ≤ 100000 ∧ Q (.str (Txt.mul z k)) H) repS := fun x y w u σ G φ S H Q r dx dy gd => by
  cases dx with
  | str z =>
    cases dy with
    | int k =>
      simp only [repS] at gd
      by_cases c : z.length = 1 ∧ 1 ≤ k ∧ k ≤ 100000
      · rw [if_pos c] at gd; exact ⟨z, k, rfl, rfl, c.1, c.2.1, c.2.2, GoodR.here (S := S) gd r (.str _)⟩
      · rw [if_neg c] at gd; exact gd.elim
    | _ => exact gd.elim
  | _ => cases dy <;> exact gd.elim
theorem g_ltT : G2 T K W (rLtT K) ltTP := fun x y w u σ G φ S H Q r dx dy gd => by
  cases dx with
  | @tup a vs ws e dd =>
    cases dy with
    | @tup b us zs e2 dd2 =>
      simp only [ltTP] at gd
      cases h1 : intsOf ws with
      | none => rw [h1] at gd; exact gd.elim
      | some ns =>
        cases h2 : intsOf zs with
        | none => rw [h1, h2] at gd; exact gd.elim
        | some ms =>
          rw [h1, h2] at gd
          have := intsOf_eq h1
          subst this
          have := intsOf_eq h2
          subst this
          have := dd.toInts
          subst this
          have := dd2.toInts
          subst this
          exact ⟨a, b, ns, ms, rfl, rfl, SqT.of (r.ex _ _ e), SqT.of (r.ex _ _ e2), GoodR.here (S := S) gd r (.bl _)⟩
    | _ => exact gd.elim
  | _ => cases dy <;> exact gd.elim
end
end CL
namespace CL
open PySem PySem.Spec PyProof.Rows L2

/-! ### enumerate(tuple) -/
def ItE (K : PySem.W.Frag) (a : Addr) (n : Nat) : It :=
  ⟨fun i H => ∃ (zs : List V) (z : V), SqT K H a zs ∧ zs.length = n ∧ zs[i]? = some z, fun i H v H' => ∃ t z, v = .ref t ∧ H t = none ∧ H' = upd H t (.tup [.int (i : Nat), z]) ∧ ∀ zs, SqT K H a zs → zs[i]? = some z,
    fun i H => ∃ zs : List V, SqT K H a zs ∧ zs.length = n ∧ n ≤ i⟩
theorem it_ne {h : Heap} {a it : Addr} {i : Nat} {items : Array Value} (hi : h.IsTupleIter it a i) (ht : h.IsTuple a items) : a ≠ it := fun z => by
  subst z
  obtain ⟨o, h1, c1, _⟩ := hi
  obtain ⟨o2, h2, c2, _⟩ := ht
  rw [h1] at h2; cases h2
  rw [c1] at c2
  injection c2 with q
  exact absurd q (by decide)
theorem it_neL {h : Heap} {a it : Addr} {i : Nat} {items : Array Value} (hi : h.IsListIter it a i) (ht : h.IsList a items) : a ≠ it := fun z => by
  subst z
  obtain ⟨o, h1, c1, _⟩ := hi
  obtain ⟨o2, h2, c2, _⟩ := ht
  rw [h1] at h2; cases h2
  rw [c1] at c2
  injection c2 with q
  exact absurd q (by decide)
theorem en_ne {h : Heap} {a e it : Addr} {i : Int} {old : Value} {items : Array Value} (he : IsEnum h e it i old) (ht : h.IsTuple a items) : e ≠ a := fun z => by
  subst z
  obtain ⟨o2, h2, c2, _⟩ := ht
  have he : h.get? e = some _ := he
  rw [he] at h2; cases h2
  injection c2 with q
  exact absurd q (by decide)
theorem zip_ne {h : Heap} {a z TI TO : Addr} {r : Value} {items : Array Value} (he : IsZip h z TI TO r) (ht : h.IsTuple a items) : z ≠ a := fun q => by
  subst q
  obtain ⟨o2, h2, c2, _⟩ := ht
  have he : h.get? z = some _ := he
  rw [he] at h2; cases h2
  injection c2 with q
  exact absurd q (by decide)
theorem turnE {P : Program} {w : World} {K : PySem.W.Frag} {elts : List Expr} {kk : Nat} {tpos : Pos} (a e it : Addr) (n : Nat) :
    Turn P w K (.Tuple elts kk tpos) (ItE K a n) [e, it] e (fun i h => (∃ old, IsEnum h e it ((i : Nat) : Int) old) ∧ h.IsTupleIter it a i ∧ e ≠ it ∧ i ≤ n) where
  mem := List.mem_cons_self
  obj := fun i h st b hb => by
    obtain ⟨⟨old, he⟩, ⟨o, ho, hc, hd⟩, _⟩ := st
    rcases List.mem_cons.mp hb with z | z
    · subst z; exact ⟨_, he, fun v q => nomatch q⟩
    · rw [List.mem_singleton.mp z]; exact ⟨o, ho, fun v q => by rw [hd] at q; cases q⟩
  keep := fun i h h' st k => ⟨st.1.imp fun old he => k e (by simp) _ he, st.2.1.at fun o q => k it (by simp) o q, st.2.2⟩
  item := by
    intro X hP hw hK hc i pins s σ H E I hf st hg
    subst hP hw hK
    obtain ⟨⟨old, he⟩, hit, hne, hle⟩ := st
    obtain ⟨zs, z, hq, hn, hz⟩ := hg
    obtain ⟨its, rv, p, _⟩ := I.tuple hq
    have pt : s.heap.IsTuple a its.toArray := p
    obtain ⟨u, hu, ru⟩ := rv.get hz
    have hel : e < s.heap.objs.size := Heap.lt_size he
    have hil : it < s.heap.objs.size := by obtain ⟨_, q, _⟩ := hit; exact Heap.lt_size q
    have hlt : i < its.toArray.size := by
      have := (List.getElem?_eq_some_iff.mp hu).1
      simpa using this
    have ena := en_ne he pt
    refine wpAny_pyNext_enum_itemD (Draws.tuple (A := X.A.in1) (I.ok.hd hc) it a (it_ne hit pt) its.toArray) he ⟨hit, pt⟩ hlt hne (by simp [hne, ena]) fun x h' tk hx ho hst hT hsz hk => ?_
    have ex : x = u := Option.some.inj (hx.symm.trans (by simpa using hu))
    subst ex
    refine ⟨_, rfl, wpAny_letOwnedTupleGo_enum (s := { s with heap := h', toks := tk + 1 }) ho fun h2 he' sb => ?_⟩
    have hT2 : h2.get? s.heap.objs.size = some { cls := .type "tuple", data := .seq #[.int i tk, x] } := (sb.2 _ (Nat.ne_of_gt hel)).trans hT
    have nw : ObjOk X.prog X.w (upd H s.heap.objs.size (.tup [.int (i : Nat), z])) h2 s.heap.objs.size (.tup [.int (i : Nat), z]) :=
      ⟨by show 2 ≤ sizeLine; decide, [.int i tk, x], .cons ⟨_, rfl⟩ (.cons ru .nil), ⟨_, hT2, rfl, _, rfl⟩⟩
    have I1 : Inv X pins σ (upd H s.heap.objs.size (.tup [.int (i : Nat), z])) { s with heap := h2, toks := tk + 1 } :=
      I.turnedNew (ch := [e, it]) (fun b ob hb q => (sb.2 b (fun q2 => hb (by simp [q2]))).trans (hk b ob (fun q2 => hb (by simp [q2])) (fun q2 => hb (by simp [q2])) q)) hf (Nat.le_refl _) nw
    refine ⟨.ref s.heap.objs.size, _, I1, rfl, ⟨_, z, rfl, I.hok.fresh (Nat.le_refl _), rfl, fun ys hy => by rw [I.tuple_inj hy hq]; exact hz⟩, ⟨⟨x, ?_⟩, hst.1.at fun o q => (sb.2 it (Ne.symm hne)).trans q, hne, ?_⟩, fun b hb => ?_⟩
    · rw [show ((i + 1 : Nat) : Int) = (i : Int) + 1 from rfl]; exact he'
    · have := (List.getElem?_eq_some_iff.mp hz).1
      omega
    · have hb' : b < s.heap.objs.size := by
        rcases List.mem_cons.mp hb with q | q
        · rw [q]; exact hel
        · rw [List.mem_singleton.mp q]; exact hil
      exact (upd_ne (Nat.ne_of_lt hb')).trans (hf b hb).1
  done := by
    intro X hP hw hK hc i pins s σ H E I hf st hg
    subst hP hw hK
    obtain ⟨⟨old, he⟩, hit, hne, hle⟩ := st
    obtain ⟨zs, hq, hn, hz⟩ := hg
    obtain ⟨its, rv, p, _⟩ := I.tuple hq
    have pt : s.heap.IsTuple a its.toArray := p
    obtain ⟨f0, f1, f2, f3, f4, f5⟩ := hf it (by simp)
    have hl := rv.length
    have hi : i = its.toArray.size := by rw [List.size_toArray]; omega
    exact wpAny_pyNext_enum_endD (Draws.tuple (A := X.A.in1) (I.ok.hd hc) it a (it_ne hit pt) its.toArray) he ⟨by rw [← hi]; exact hit, pt⟩ fun h' eb => ⟨rfl, I.turned (t' := s.toks) (fun b o hb q => eb b o hb q) f0 f1 f3 f4 f5⟩
  self := fun A i s Q E st h => let ⟨_, he⟩ := st.1; wpAny_pyIter_enum he h

set_option maxHeartbeats 1000000 in
theorem meets_enum1 {v : Value} {o : Obj} {H : Heap → Prop} (B : Begins v o H) :
    Meets (Builtin.«enumerate.__new__» ⟨[.type "enumerate", v], []⟩) (fun _ R s => H s.heap ∧
      R (.ok (.ret (.ref (s.heap.push o).objs.size))) { s with heap := (s.heap.push o).push { cls := .type "enumerate", data := .fields #[.none, .bool false, .ref s.heap.objs.size, rawInt 0, .none, .none] } }) :=
  .of_wp fun prog w A R s h => by
    obtain ⟨hp, g, d, tk, os⟩ := s
    obtain ⟨h1, h⟩ := h
    have hsub := sub_enumerate
    have q1 : ∀ {A' : Around} {E Q : Value → Shared → Prop}, Q (.ref hp.objs.size) ⟨hp.push o, g, d, tk, os⟩ → wpAny (model prog w) A' (pyIter v) Q E ⟨hp, g, d, tk, os⟩ := fun q => B.iter prog w _ _ ⟨hp, g, d, tk, os⟩ _ h1 q
    wp_walk using q1
    refine wpAny_stack_any fun st => wpAny_pure ?_
    split
    · rename_i c _ _ _ _ _
      cases (c == Value.type "enumerate")
      all_goals
        wp_walk using q1
        exact ⟨_, rfl, h⟩
    · wp_walk using q1
      exact ⟨_, rfl, h⟩
theorem enum_begins1 {prog : Program} {w : World} {A : Around} {E : Value → Shared → Prop} {s : Shared} {v : Value} {o : Obj} {H : Heap → Prop} {Q : Value → Shared → Prop} (B : Begins v o H) (h1 : H s.heap)
    (h : ∀ h', IsEnum h' (s.heap.objs.size + 1) s.heap.objs.size 0 .none → h'.get? s.heap.objs.size = some o → (∀ b u, s.heap.get? b = some u → h'.get? b = some u) → Q (.ref (s.heap.objs.size + 1)) { s with heap := h' }) :
    wpAny (model prog w) A (call (.type "enumerate") [v]) Q E s := by
  refine callType_new F.called_enumerate (by decide) (F.typeCall_enumerate_1 _) (F.newCall_enumerate_1 _) (fun obj => F.args_object_init_2 obj _) F.entry_enumerate_new (meets_enum1 B) ⟨h1, ?_⟩
  have hz : (s.heap.push o).objs.size = s.heap.objs.size + 1 := Heap.size_push ..
  show _ ∧ _
  rw [hz]
  have he : IsEnum ((s.heap.push o).push { cls := .type "enumerate", data := .fields #[.none, .bool false, .ref s.heap.objs.size, rawInt 0, .none, .none] }) (s.heap.objs.size + 1) s.heap.objs.size 0 .none := by
    have q := Heap.get?_push_size (s.heap.push o) (o := { cls := .type "enumerate", data := .fields #[.none, .bool false, .ref s.heap.objs.size, rawInt 0, .none, .none] }) rfl
    rw [hz] at q
    exact q
  exact ⟨⟨_, he, rfl⟩, h _ he (Heap.get?_push_of_some _ (Heap.get?_push_size _ B.free)) fun b u x => Heap.get?_push_of_some _ (Heap.get?_push_of_some _ x)⟩
def iEnumT (K : PySem.W.Frag) (ta : TA) : TI := fun σ H R => ta σ H fun vs H1 => ∃ a zs, vs = [.ref a] ∧ SqT K H1 a zs ∧ R (ItE K a zs.length) H1
theorem pi_enumT {X : Cx} {e : Expr} {ta : TA} {p pos tpos : Pos} {elts : List Expr} {kk : Nat} (hg : Gl X "enumerate") (hm : X.mg "enumerate" = none) (ha : PA X [e] ta) (hs : starEach [e] X.env = [(false, eval e X.env)]) :
    PI X (.Tuple elts kk tpos) (.Call (.Name "enumerate" p) [e] [] pos) (iEnumT X.K ta) := by
  refine ⟨fun pins s σ H R I h => Call_ (ld_blt I hg hm boot_enumerate (PyProof.Rows.callWith_type1 (thn (ha.run pos pins s σ H _ I h) fun us s1 ⟨vs, H1, I1, r1, a, zs, ex, hq, q⟩ => ?_) hs rfl))⟩
  subst ex
  cases r1 with
  | cons r rr =>
    cases rr
    cases r
    obtain ⟨its, rv, p', hz⟩ := I1.tuple hq
    have pt : s1.heap.IsTuple a its.toArray := p'
    refine enum_begins1 (begins_tuple a its.toArray) pt fun h' he hit hk => wpAny_pyIter_enum he ?_
    have I2 : Inv X pins σ H1 { s1 with heap := h' } := I1.kept (t' := s1.toks) hk
    refine ⟨s1.heap.objs.size + 1, [s1.heap.objs.size + 1, s1.heap.objs.size], _, _, H1, rfl, I2, turnE a (s1.heap.objs.size + 1) s1.heap.objs.size zs.length, ⟨⟨.none, he⟩, ⟨_, hit, rfl, rfl⟩, Nat.succ_ne_self _, Nat.zero_le _⟩, fun b hb => ?_, q⟩
    have hle : s1.heap.objs.size ≤ b := by
      rcases List.mem_cons.mp hb with z | z
      · rw [z]; exact Nat.le_succ _
      · rw [List.mem_singleton.mp z]; exact Nat.le_refl _
    exact I1.fpOk hle (I1.hok.fresh hle)

/-! ### zip(list, tuple) -/
def ItZ (K : PySem.W.Frag) (a b : Addr) (n m : Nat) : It :=
  ⟨fun i H => ∃ (us zs : List V) (u z : V), SqL K H a us ∧ us.length = n ∧ SqT K H b zs ∧ zs.length = m ∧ us[i]? = some u ∧ zs[i]? = some z,
    fun i H v H' => ∃ t u z, v = .ref t ∧ H t = none ∧ H' = upd H t (.tup [u, z]) ∧ (∀ us, SqL K H a us → us[i]? = some u) ∧ ∀ zs, SqT K H b zs → zs[i]? = some z,
    fun i H => ∃ us zs : List V, SqL K H a us ∧ us.length = n ∧ SqT K H b zs ∧ zs.length = m ∧ (n ≤ i ∨ m ≤ i)⟩
/-- the cells of the zip lie apart -/
structure ZA (z TI TO i1 i2 : Addr) : Prop where
  a1 : TI ≠ z
  a2 : TO ≠ z
  a3 : TI ≠ TO
  a4 : TI ≠ i1
  a5 : TI ≠ i2
  a6 : z ≠ i1
  a7 : z ≠ i2
  a8 : TO ≠ i1
  a9 : TO ≠ i2
  aa : i1 ≠ i2
theorem ne_of_data {h : Heap} {a b : Addr} {o u : Obj} (h1 : h.get? a = some o) (h2 : h.get? b = some u) (hn : o.data ≠ u.data) : a ≠ b := fun q => by
  subst q
  rw [h1] at h2; cases h2
  exact hn rfl
theorem turnZ {P : Program} {w : World} {K : PySem.W.Frag} {elts : List Expr} {kk : Nat} {tpos : Pos} {a b z TI TO i1 i2 : Addr} {n m : Nat} (D : ZA z TI TO i1 i2) (D2 : i1 ≠ b ∧ i2 ≠ a ∧ z ≠ a ∧ z ≠ b ∧ TO ≠ a ∧ TO ≠ b) :
    Turn P w K (.Tuple elts kk tpos) (ItZ K a b n m) [z, TI, TO, i1, i2] z (fun i h => (IsZip h z TI TO .none ∧ IsTupOf2 h TI (.ref i1) (.ref i2) ∧ (∃ x y, IsTupOf2 h TO x y) ∧ h.IsListIter i1 a i ∧ h.IsTupleIter i2 b i) ∧ i ≤ n ∧ i ≤ m) where
  mem := List.mem_cons_self
  obj := fun i h st c hc => by
    obtain ⟨⟨hz, hTI, ⟨x, y, hTO⟩, ⟨o1, e1, _, d1⟩, ⟨o2, e2, _, d2⟩⟩, _⟩ := st
    have e' : c = z ∨ c = TI ∨ c = TO ∨ c = i1 ∨ c = i2 := by simpa using hc
    rcases e' with rfl | rfl | rfl | rfl | rfl
    · exact ⟨_, hz, fun v q => nomatch q⟩
    · exact ⟨_, hTI, fun v q => nomatch q⟩
    · exact ⟨_, hTO, fun v q => nomatch q⟩
    · exact ⟨o1, e1, fun v q => by rw [d1] at q; cases q⟩
    · exact ⟨o2, e2, fun v q => by rw [d2] at q; cases q⟩
  keep := fun i h h' ⟨⟨hz, hTI, ⟨x, y, hTO⟩, h1, h2⟩, hb⟩ k => ⟨⟨k z (by simp) _ hz, k TI (by simp) _ hTI, ⟨x, y, k TO (by simp) _ hTO⟩, h1.at fun o q => k i1 (by simp) o q, h2.at fun o q => k i2 (by simp) o q⟩, hb⟩
  item := by
    intro X hP hw hK hc i pins s σ H E I hf st hg
    subst hP hw hK
    obtain ⟨⟨hz, hTI, ⟨x0, y0, hTO⟩, h1, h2⟩, hn, hm⟩ := st
    obtain ⟨us, zs, x, y, hqx, hlx, hqy, hly, hx, hy⟩ := hg
    obtain ⟨its, rv, p, _⟩ := I.list hqx
    obtain ⟨its2, rv2, p2, _⟩ := I.tuple hqy
    have pl := p.isList
    have pt : s.heap.IsTuple b its2.toArray := p2
    obtain ⟨u, hu, ru⟩ := rv.get hx
    obtain ⟨u2, hu2, ru2⟩ := rv2.get hy
    have hzl : z < s.heap.objs.size := Heap.lt_size hz
    have l1 : i < its.toArray.size := by
      have := (List.getElem?_eq_some_iff.mp hu).1
      simpa using this
    have l2 : i < its2.toArray.size := by
      have := (List.getElem?_eq_some_iff.mp hu2).1
      simpa using this
    have S2 : ZipSep2 z TI TO i1 i2 [i1, a] [i2, b] := ⟨D.a1, D.a2, D.a3, D.a4, by simp, by simp [D.a6, D2.2.2.1], by simp [D.a8, D2.2.2.2.2.1], D.a5, by simp, by simp [D.a7, D2.2.2.2.1], by simp [D.a9, D2.2.2.2.2.2], by simp [D.aa, D2.1], by simp [D.aa.symm, D2.2.1]⟩
    refine wpAny_pyNext_zipD2_item S2 (Draws.list (A := X.A.in1) (I.ok.hd hc) i1 a (it_neL h1 pl) its.toArray) (Draws.tuple (A := X.A.in1) (I.ok.hd hc) i2 b (it_ne h2 pt) its2.toArray) hz hTI hTO ⟨h1, pl⟩ ⟨h2, pt⟩ l1 l2 fun v1 v2 h' tk hv1 hv2 z' TO' st1 st2 hT hsz hk => ?_
    have ex : v1 = u := Option.some.inj (hv1.symm.trans (by simpa using hu))
    have ey : v2 = u2 := Option.some.inj (hv2.symm.trans (by simpa using hu2))
    subst ex ey
    refine ⟨_, rfl, wpAny_letOwnedTupleGo_zip (s := { s with heap := h', toks := tk }) z' fun h3 z3 sb => ?_⟩
    have hT2 : h3.get? s.heap.objs.size = some { cls := .type "tuple", data := .seq #[v1, v2] } := (sb.2 _ (Nat.ne_of_gt hzl)).trans hT
    have nw : ObjOk X.prog X.w (upd H s.heap.objs.size (.tup [x, y])) h3 s.heap.objs.size (.tup [x, y]) :=
      ⟨by show 2 ≤ sizeLine; decide, [v1, v2], .cons ru (.cons ru2 .nil), ⟨_, hT2, rfl, _, rfl⟩⟩
    have I1 : Inv X pins σ (upd H s.heap.objs.size (.tup [x, y])) { s with heap := h3, toks := tk } :=
      I.turnedNew (t' := tk) (ch := [z, TI, TO, i1, i2]) (fun c o hb q => (sb.2 c (fun q2 => hb (by simp [q2]))).trans (hk c o (fun q2 => hb (by simp [q2])) (fun q2 => hb (by simp [q2])) (fun q2 => hb (by simp [q2])) (fun q2 => hb (by simp [q2])) q)) hf (Nat.le_refl _) nw
    have k1 := (List.getElem?_eq_some_iff.mp hx).1
    have k2 := (List.getElem?_eq_some_iff.mp hy).1
    refine ⟨.ref s.heap.objs.size, _, I1, rfl, ⟨_, x, y, rfl, I.hok.fresh (Nat.le_refl _), rfl, fun l hl => by rw [I.list_inj hl hqx]; exact hx, fun l hl => by rw [I.tuple_inj hl hqy]; exact hy⟩, ⟨⟨z3, ?_, ⟨v1, v2, ?_⟩, ?_, ?_⟩, by omega, by omega⟩, fun c hcm => ?_⟩
    · exact (sb.2 _ D.a1).trans (hk _ _ D.a1 D.a3 D.a4 D.a5 hTI)
    · exact (sb.2 _ D.a2).trans TO'
    · exact st1.1.at fun o q => (sb.2 _ D.a6.symm).trans q
    · exact st2.1.at fun o q => (sb.2 _ D.a7.symm).trans q
    · have hlt : c < s.heap.objs.size := by
        have e' : c = z ∨ c = TI ∨ c = TO ∨ c = i1 ∨ c = i2 := by simpa using hcm
        rcases e' with rfl | rfl | rfl | rfl | rfl
        · exact hzl
        · exact Heap.lt_size hTI
        · exact Heap.lt_size hTO
        · obtain ⟨_, e1, _⟩ := h1; exact Heap.lt_size e1
        · obtain ⟨_, e2, _⟩ := h2; exact Heap.lt_size e2
      exact (upd_ne (Nat.ne_of_lt hlt)).trans (hf c hcm).1
  done := by
    intro X hP hw hK hc i pins s σ H E I hf st hg
    subst hP hw hK
    obtain ⟨⟨hz, hTI, ⟨x0, y0, hTO⟩, h1, h2⟩, hn, hm⟩ := st
    obtain ⟨us, zs, hqx, hlx, hqy, hly, hend⟩ := hg
    obtain ⟨its, rv, p, _⟩ := I.list hqx
    obtain ⟨its2, rv2, p2, _⟩ := I.tuple hqy
    have pl := p.isList
    have pt : s.heap.IsTuple b its2.toArray := p2
    have l1 := rv.length
    have l2 := rv2.length
    have S2 : ZipSep2 z TI TO i1 i2 [i1, a] [i2, b] := ⟨D.a1, D.a2, D.a3, D.a4, by simp, by simp [D.a6, D2.2.2.1], by simp [D.a8, D2.2.2.2.2.1], D.a5, by simp, by simp [D.a7, D2.2.2.2.1], by simp [D.a9, D2.2.2.2.2.2], by simp [D.aa, D2.1], by simp [D.aa.symm, D2.2.1]⟩
    exact wpAny_pyNext_zipD2_end S2 (Draws.list (A := X.A.in1) (I.ok.hd hc) i1 a (it_neL h1 pl) its.toArray) (Draws.tuple (A := X.A.in1) (I.ok.hd hc) i2 b (it_ne h2 pt) its2.toArray) hz hTI hTO ⟨h1, pl⟩ ⟨h2, pt⟩ (by simp; omega) (by simp; omega) (by simp; omega)
      fun h' tk hk => ⟨rfl, I.turnedL (t' := tk) (ch := [z, TI, TO, i1, i2]) (fun c o hb q => hk c o (fun q2 => hb (by simp [q2])) (fun q2 => hb (by simp [q2])) (fun q2 => hb (by simp [q2])) (fun q2 => hb (by simp [q2])) q) hf⟩
  self := fun A i s Q E st h => wpAny_pyIter_zip st.1.1 h
def iZipT (K : PySem.W.Frag) (ta : TA) : TI := fun σ H R => ta σ H fun vs H1 => ∃ a b us zs, vs = [.ref a, .ref b] ∧ ((SqL K H1 a us ∧ SqL K H1 b zs ∧ R (Itz K a b) H1) ∨ (SqL K H1 a us ∧ SqT K H1 b zs ∧ R (ItZ K a b us.length zs.length) H1))
theorem pi_zipT {X : Cx} {e e2 : Expr} {ta : TA} {p pos tpos : Pos} {elts : List Expr} {kk : Nat} (hg : Gl X "zip") (hm : X.mg "zip" = none) (ha : PA X [e, e2] ta)
    (hs : starEach [e, e2] X.env = (false, eval e X.env) :: starEach [e2] X.env) (hpl : (backTo pos (starEach [e2] X.env)).any (·.1) = false) : PI X (.Tuple elts kk tpos) (.Call (.Name "zip" p) [e, e2] [] pos) (iZipT X.K ta) := by
  refine ⟨fun pins s σ H R I h => Call_ (ld_blt I hg hm PyProof.Rows.boot_zip (PyProof.Rows.callWith_type1 (thn (ha.run pos pins s σ H _ I h) fun us s1 ⟨vs, H1, I1, r1, a, b, xs, ys, ex, q1⟩ => ?_) hs hpl))⟩
  subst ex
  cases r1 with
  | cons r rr =>
    cases rr with
    | cons r' rr =>
      cases rr
      cases r
      cases r'
      have fresh5 : ∀ c, c ∈ [s1.heap.objs.size + 4, s1.heap.objs.size + 2, s1.heap.objs.size + 3, s1.heap.objs.size, s1.heap.objs.size + 1] → FpOk X pins H1 c := fun c hcm => by
        have hle : s1.heap.objs.size ≤ c := by
          have e' : c = s1.heap.objs.size + 4 ∨ c = s1.heap.objs.size + 2 ∨ c = s1.heap.objs.size + 3 ∨ c = s1.heap.objs.size ∨ c = s1.heap.objs.size + 1 := by simpa using hcm
          omega
        exact I1.fpOk hle (I1.hok.fresh hle)
      rcases q1 with ⟨hqx, hqy, q⟩ | ⟨hqx, hqy, q⟩
      · obtain ⟨its, rv, p1, _⟩ := I1.list hqx
        obtain ⟨its2, rv2, p2, _⟩ := I1.list hqy
        refine call_zip_2 p1.isList p2.isList fun h' hz hTI hTO h1 h2 hsz hk => wpAny_pyIter_zip hz ?_
        exact ⟨_, [s1.heap.objs.size + 4, s1.heap.objs.size + 2, s1.heap.objs.size + 3, s1.heap.objs.size, s1.heap.objs.size + 1], _, _, H1, rfl, I1.kept (t' := s1.toks) hk, turn_zip (PySem.W.ktu_apart s1.heap.objs.size a b p1.lt p2.lt), ⟨hz, hTI, ⟨_, _, hTO⟩, h1, h2⟩, fresh5, q⟩
      · obtain ⟨its, rv, p1, _⟩ := I1.list hqx
        obtain ⟨its2, rv2, p2, _⟩ := I1.tuple hqy
        have pl := p1.isList
        have pt : s1.heap.IsTuple b its2.toArray := p2
        have la : @LT.lt Nat _ a s1.heap.objs.size := p1.lt
        have lb : @LT.lt Nat _ b s1.heap.objs.size := by obtain ⟨_, e, _⟩ := id pt; exact Heap.lt_size e
        refine zip_begins2 (begins_list a its.toArray) (begins_tuple b its2.toArray) pl pt fun h' hz hTI hTO h1 h2 hsz hk => wpAny_pyIter_zip hz ?_
        refine ⟨_, [s1.heap.objs.size + 4, s1.heap.objs.size + 2, s1.heap.objs.size + 3, s1.heap.objs.size, s1.heap.objs.size + 1], _, _, H1, rfl, I1.kept (t' := s1.toks) hk, turnZ ⟨?_, ?_, ?_, ?_, ?_, ?_, ?_, ?_, ?_, ?_⟩ ⟨?_, ?_, ?_, ?_, ?_, ?_⟩, ⟨⟨hz, hTI, ⟨_, _, hTO⟩, ⟨_, h1, rfl, rfl⟩, ⟨_, h2, rfl, rfl⟩⟩, Nat.zero_le _, Nat.zero_le _⟩, fresh5, q⟩ <;> show (_ : Nat) ≠ _ <;> omega

/-! ### over the values -/
def enumW (ws : List Wv) : List Wv := ws.zipIdx.map fun p => .tup [.int (p.2 : Nat), p.1]
def zipW (xs ys : List Wv) : List Wv := List.zipWith (fun x y => .tup [x, y]) xs ys
def enumK (ws : List Wv) (S : Sto) : Out Itr := match ws with
  | [.tup xs] => .ok (.items (enumW xs)) S
  | _ => .bad
def itEnum (fr : FA) : FI := fun env S => (fr env S).bind enumK
def zipK (ws : List Wv) (S : Sto) : Out Itr := match ws with
  | [.lst xs, .lst ys] => .ok (.items (zipW xs ys)) S
  | [.lst xs, .tup ys] => .ok (.items (zipW xs ys)) S
  | [w, u] => match lstOf S w, lstOf S u with
    | some xs, some ys => .ok (.zipl w u (zipW xs ys).length) S
    | _, _ => .bad
  | _ => .bad
def itZip (fr : FA) : FI := fun env S => (fr env S).bind zipK
section
variable {T : Tab} {X : Cx} {W : WX} {k : Nat} {N : List Str} {sc : Scope} {vl gl : List Str} {x : Str} {pos p tpos : Pos} {j kk : Nat} {a b tg : Expr} {elts : List Expr} {fa fb : FE} {fr : FA}
theorem zipW_at {xs ys : List Wv} {i : Nat} {w : Wv} (h : (zipW xs ys)[i]? = some w) : ∃ x y, xs[i]? = some x ∧ ys[i]? = some y ∧ w = .tup [x, y] := by
  unfold zipW at h
  rw [List.getElem?_zipWith] at h
  cases e1 : xs[i]? with
  | none => rw [e1] at h; cases h
  | some x =>
    cases e2 : ys[i]? with
    | none => rw [e1, e2] at h; cases h
    | some y => rw [e1, e2] at h; exact ⟨x, y, rfl, rfl, (Option.some.inj h).symm⟩
theorem zipW_len {xs ys : List Wv} : (zipW xs ys).length = min xs.length ys.length := List.length_zipWith
theorem enumW_at {xs : List Wv} {i : Nat} {w : Wv} (h : (enumW xs)[i]? = some w) : ∃ x, xs[i]? = some x ∧ w = .tup [.int (i : Nat), x] := by
  unfold enumW at h
  rw [List.getElem?_map, List.getElem?_zipIdx] at h
  cases e1 : xs[i]? with
  | none => rw [e1] at h; cases h
  | some x => rw [e1] at h; exact ⟨x, rfl, by rw [Nat.zero_add] at h; exact (Option.some.inj h).symm⟩
theorem enumW_len {xs : List Wv} : (enumW xs).length = xs.length := by unfold enumW; rw [List.length_map, List.length_zipIdx]
theorem new_den {K : PySem.W.Frag} {G' : Hp} {φ' : List Addr} {S' : Sto} {H' : Hp} {t : Addr} {vs : List V} {ws : List Wv} (r : Rel T K G' φ' S' H') (hp : H' t = none) (dd : Dens K G' φ' vs ws) : ∃ G2, Rel T K G2 φ' S' (upd H' t (.tup vs)) ∧ Ext G' φ' H' G2 φ' (upd H' t (.tup vs)) ∧ Den K G2 φ' (.ref t) (.tup ws) := by
  obtain ⟨r2, x⟩ := r.frozen hp (.tup vs)
  exact ⟨_, r2, x, .tup upd_same (x.dens dd)⟩
theorem ok_enum {K : PySem.W.Frag} {G : Hp} {φ : List Addr} {c : Addr} {vs : List V} {ws : List Wv} (hq : G c = some (.tup vs)) (dd : Dens K G φ vs ws) : ItOk T K (ItE K c vs.length) G φ (.items (enumW ws)) := ⟨fun i G' φ' S' H' sm pr r => by
  have h1 : SqT K H' c vs := SqT.of (r.ex _ _ (sm _ _ hq))
  refine ⟨fun e => ⟨vs, h1, rfl, by rw [dd.len, ← enumW_len]; exact items_end e⟩, fun w e => ?_⟩
  obtain ⟨x, hx, rfl⟩ := enumW_at (items_at e)
  obtain ⟨v, hv, dv⟩ := (dens_pre dd sm pr).get hx
  refine ⟨⟨vs, v, h1, rfl, hv⟩, fun y H2 hy => ?_⟩
  obtain ⟨t, z, rfl, hn, rfl, hz⟩ := hy
  have : z = v := Option.some.inj ((hz vs h1).symm.trans hv)
  subst this
  exact new_den r hn (.cons (.int _) (.cons dv .nil))⟩
theorem si_enum (C : Cok T X W k N sc vl gl) (hg : gl[j]? = some ("enumerate" : Str)) (hm : X.mg "enumerate" = none) (ha : SA T X W [a] fr) (hs : starEach [a] X.env = [(false, eval a X.env)]) : SI T X W (.Tuple elts kk tpos) (.Call (.Name "enumerate" p) [a] [] pos) (itEnum fr) :=
  pi_imp (pi_enumT (C.gle hg).1 hm ha.pa hs) fun σ H R ⟨env, G, φ, S, rl, er, gd⟩ => by
    refine ⟨env, G, φ, S, rl, er, (GoodR.bind gd).imp fun vs H1 ⟨ws, S1, G1, φ1, x1, r1, d1, g1⟩ => ?_⟩
    match ws, d1, g1 with
    | [], _, g1 => exact g1.elim
    | [w], d1, g1 =>
      obtain ⟨v, rfl, dv⟩ := one_den d1
      cases dv with
      | @tup c us xs h dd => exact ⟨c, us, rfl, SqT.of (r1.ex _ _ h), GoodR.here (S := S1) g1 r1 (ok_enum h dd)⟩
      | _ => exact g1.elim
    | w :: _ :: _, d1, g1 => cases d1 with | cons d _ => cases d <;> exact g1.elim
theorem ok_zipLL {K : PySem.W.Frag} {G : Hp} {φ : List Addr} {c d : Addr} {vs us : List V} {ws zs : List Wv} (hq : SqL K G c vs) (dd : Dens K G φ vs ws) (hq2 : SqL K G d us) (dd2 : Dens K G φ us zs) : ItOk T K (Itz K c d) G φ (.items (zipW ws zs)) := ⟨fun i G' φ' S' H' sm pr r => by
  have h1 : SqL K H' c vs := (sm.trans r.ex).seq hq
  have h2 : SqL K H' d us := (sm.trans r.ex).seq hq2
  refine ⟨fun e => ⟨vs, us, h1, h2, ?_⟩, fun w e => ?_⟩
  · have e := items_end e
    rw [zipW_len] at e
    rw [dd.len, dd2.len]; omega
  obtain ⟨x, y, hx, hy, rfl⟩ := zipW_at (items_at e)
  obtain ⟨v, hv, dv⟩ := (dens_pre dd sm pr).get hx
  obtain ⟨u, hu, du⟩ := (dens_pre dd2 sm pr).get hy
  refine ⟨⟨vs, us, v, u, h1, h2, hv, hu⟩, fun y H2 hy => ?_⟩
  obtain ⟨t, z, z2, rfl, hn, rfl, hz, hz2⟩ := hy
  have : z = v := Option.some.inj ((hz vs h1).symm.trans hv)
  subst this
  have : z2 = u := Option.some.inj ((hz2 us h2).symm.trans hu)
  subst this
  exact new_den r hn (.cons dv (.cons du .nil))⟩
theorem ok_zipLT {K : PySem.W.Frag} {G : Hp} {φ : List Addr} {c d : Addr} {vs us : List V} {ws zs : List Wv} (hq : SqL K G c vs) (dd : Dens K G φ vs ws) (hq2 : G d = some (.tup us)) (dd2 : Dens K G φ us zs) : ItOk T K (ItZ K c d vs.length us.length) G φ (.items (zipW ws zs)) := ⟨fun i G' φ' S' H' sm pr r => by
  have h1 : SqL K H' c vs := (sm.trans r.ex).seq hq
  have h2 : SqT K H' d us := SqT.of (r.ex _ _ (sm _ _ hq2))
  refine ⟨fun e => ⟨vs, us, h1, rfl, h2, rfl, ?_⟩, fun w e => ?_⟩
  · have e := items_end e
    rw [zipW_len] at e
    rw [dd.len, dd2.len]; omega
  obtain ⟨x, y, hx, hy, rfl⟩ := zipW_at (items_at e)
  obtain ⟨v, hv, dv⟩ := (dens_pre dd sm pr).get hx
  obtain ⟨u, hu, du⟩ := (dens_pre dd2 sm pr).get hy
  refine ⟨⟨vs, us, v, u, h1, rfl, h2, rfl, hv, hu⟩, fun y H2 hy => ?_⟩
  obtain ⟨t, z, z2, rfl, hn, rfl, hz, hz2⟩ := hy
  have : z = v := Option.some.inj ((hz vs h1).symm.trans hv)
  subst this
  have : z2 = u := Option.some.inj ((hz2 us h2).symm.trans hu)
  subst this
  exact new_den r hn (.cons dv (.cons du .nil))⟩
/-- two lists walked together, as they stand at each turn -/
theorem ok_zipl {K : PySem.W.Frag} {G : Hp} {φ : List Addr} {c d : Addr} {w u : Wv} {n : Nat} (dw : Den K G φ (.ref c) w) (du : Den K G φ (.ref d) u) : ItOk T K (Itz K c d) G φ (.zipl w u n) := ⟨fun i G' φ' S' H' sm pr r => by
  obtain ⟨ψ, eψ⟩ := pr
  have dw' : Den K G' φ' (.ref c) w := by rw [eψ]; exact dw.mono sm
  have du' : Den K G' φ' (.ref d) u := by rw [eψ]; exact du.mono sm
  have rd : ∀ {o}, (Itr.zipl w u n).at i S' = some o → ∃ xs ys, lstOf S' w = some xs ∧ lstOf S' u = some ys ∧ (zipW xs ys)[i]? = o := by
    intro o e
    simp only [Itr.at] at e
    cases q1 : lstOf S' w with
    | none => rw [q1] at e; cases e
    | some xs =>
      cases q2 : lstOf S' u with
      | none => rw [q1, q2] at e; cases e
      | some ys =>
        rw [q1, q2] at e
        simp only at e
        refine ⟨xs, ys, rfl, rfl, ?_⟩
        by_cases cc : i < n
        · rw [if_pos cc] at e; exact Option.some.inj e
        · rw [if_neg cc] at e
          show (List.zipWith (fun x y => Wv.tup [x, y]) xs ys)[i]? = o
          cases q3 : (List.zipWith (fun x y => Wv.tup [x, y]) xs ys)[i]? with
          | none => rw [q3] at e; exact Option.some.inj e
          | some z => rw [q3] at e; cases e
  refine ⟨fun e => ?_, fun z e => ?_⟩
  · obtain ⟨xs, ys, h1, h2, h3⟩ := rd e
    obtain ⟨a1, v1, e1, g1, d1⟩ := lst_rd r dw' h1
    obtain ⟨a2, v2, e2, g2, d2⟩ := lst_rd r du' h2
    cases e1; cases e2
    have hl := List.getElem?_eq_none_iff.mp h3
    rw [zipW_len] at hl
    exact ⟨v1, v2, SqL.of g1, SqL.of g2, by rw [d1.len, d2.len]; omega⟩
  · obtain ⟨xs, ys, h1, h2, h3⟩ := rd e
    obtain ⟨a1, v1, e1, g1, d1⟩ := lst_rd r dw' h1
    obtain ⟨a2, v2, e2, g2, d2⟩ := lst_rd r du' h2
    cases e1; cases e2
    obtain ⟨x, y, hx, hy, rfl⟩ := zipW_at h3
    obtain ⟨v, hv, dv⟩ := d1.get hx
    obtain ⟨q, hq, dq⟩ := d2.get hy
    refine ⟨⟨v1, v2, v, q, SqL.of g1, SqL.of g2, hv, hq⟩, fun y H2 hy => ?_⟩
    obtain ⟨t, z1, z2, rfl, hn, rfl, hz, hz2⟩ := hy
    have : z1 = v := Option.some.inj ((hz v1 (SqL.of g1)).symm.trans hv)
    subst this
    have : z2 = q := Option.some.inj ((hz2 v2 (SqL.of g2)).symm.trans hq)
    subst this
    exact new_den r hn (.cons dv (.cons dq .nil))⟩
theorem si_zip (C : Cok T X W k N sc vl gl) (hg : gl[j]? = some ("zip" : Str)) (hm : X.mg "zip" = none) (ha : SA T X W [a, b] fr) (hs : starEach [a, b] X.env = (false, eval a X.env) :: starEach [b] X.env) : SI T X W (.Tuple elts kk tpos) (.Call (.Name "zip" p) [a, b] [] pos) (itZip fr) :=
  pi_imp (pi_zipT (C.gle hg).1 hm ha.pa hs (plain_tl hs ha)) fun σ H R ⟨env, G, φ, S, rl, er, gd⟩ => by
    refine ⟨env, G, φ, S, rl, er, (GoodR.bind gd).imp fun vs H1 ⟨ws, S1, G1, φ1, x1, r1, d1, g1⟩ => ?_⟩
    match ws, d1, g1 with
    | [], d1, g1 => exact g1.elim
    | [x], d1, g1 =>
      have e : zipK [x] S1 = .bad := by cases x <;> rfl
      rw [e] at g1
      exact g1.elim
    | x :: y :: z :: zs, d1, g1 =>
      have e : zipK (x :: y :: z :: zs) S1 = .bad := by cases x <;> cases y <;> rfl
      rw [e] at g1
      exact g1.elim
    | [w, u], .cons d (.cons d2 .nil), g1 =>
      by_cases hc : (∃ xs ys, w = .lst xs ∧ u = .lst ys) ∨ ∃ xs ys, w = .lst xs ∧ u = .tup ys
      · rcases hc with ⟨xs, ys, rfl, rfl⟩ | ⟨xs, ys, rfl, rfl⟩
        · cases d with | @lst c us _ h dd => cases d2 with | @lst c2 us2 _ h2 dd2 =>
          exact ⟨c, c2, us, us2, rfl, .inl ⟨SqL.of (r1.ex _ _ h), SqL.of (r1.ex _ _ h2), GoodR.here (S := S1) g1 r1 (ok_zipLL (SqL.of h) dd (SqL.of h2) dd2)⟩⟩
        · cases d with | @lst c us _ h dd => cases d2 with | @tup c2 us2 _ h2 dd2 =>
          exact ⟨c, c2, us, us2, rfl, .inr ⟨SqL.of (r1.ex _ _ h), SqT.of (r1.ex _ _ h2), GoodR.here (S := S1) g1 r1 (ok_zipLT (SqL.of h) dd h2 dd2)⟩⟩
      · have g2 : GoodR (fun G' φ' J it => ItOk T X.K J G' φ' it) T X.K W σ H1 G1 φ1 R (match lstOf S1 w, lstOf S1 u with
            | some xs, some ys => .ok (.zipl w u (zipW xs ys).length) S1
            | _, _ => .bad) := by
          unfold zipK at g1
          split at g1
          · rename_i xs ys e
            injection e with e1 e2
            injection e2 with e2 e3
            exact (hc (.inl ⟨xs, ys, e1, e2⟩)).elim
          · rename_i xs ys e
            injection e with e1 e2
            injection e2 with e2 e3
            exact (hc (.inr ⟨xs, ys, e1, e2⟩)).elim
          · rename_i w2 u2 _ _ e
            injection e with e1 e2
            injection e2 with e2 e3
            subst e1 e2
            exact g1
          · exact g1.elim
        cases q1 : lstOf S1 w with
        | none => rw [q1] at g2; exact g2.elim
        | some xs =>
          cases q2 : lstOf S1 u with
          | none => rw [q1, q2] at g2; exact g2.elim
          | some ys =>
            rw [q1, q2] at g2
            obtain ⟨a1, v1, rfl, h1, e1⟩ := lst_rd r1 d q1
            obtain ⟨a2, v2, rfl, h2, e2⟩ := lst_rd r1 d2 q2
            exact ⟨a1, a2, v1, v2, rfl, .inl ⟨SqL.of h1, SqL.of h2, GoodR.here (S := S1) g2 r1 (ok_zipl d d2)⟩⟩
end
end CL
namespace CL
open PySem PySem.Spec PyProof.Rows L2

/-! ### dicts with flat keys -/
abbrev Ks := List (Key × Wv)
def getW : Ks → Key → Option Wv
  | [], _ => none
  | p :: r, k => if p.1 = k then some p.2 else getW r k
def setW : Ks → Key → Wv → Ks
  | [], _, _ => []
  | p :: r, k, w => (if p.1 = k then (p.1, w) else p) :: setW r k w
def putW (d : Ks) (k : Key) (w : Wv) : Ks := if (getW d k).isSome = true then setW d k w else d ++ [(k, w)]
def dropW : Ks → Key → Ks
  | [], _ => []
  | p :: r, k => if p.1 = k then dropW r k else p :: dropW r k
def keyOf : Wv → Option Key
  | .int i => some (.inl i)
  | .str z => some (.inr z)
  | _ => none
def dctOf (S : Sto) : Wv → Option (Nat × Ks)
  | .ref k => match S[k]? with
    | some (.dct d) => some (k, d)
    | _ => none
  | _ => none
section
variable {K : PySem.W.Frag} {G : Hp} {φ : List Addr} {vs : List (Key × V)} {d : Ks}
theorem DKV.get (h : DKV K G φ vs d) (k : Key) : (getW d k = none ∧ valV vs k = none) ∨ ∃ v w, getW d k = some w ∧ valV vs k = some v ∧ Den K G φ v w := by
  induction h with
  | nil => exact .inl ⟨rfl, rfl⟩
  | @cons k' v w r r' dn dr ih =>
    by_cases c : k' = k
    · subst c
      exact .inr ⟨v, w, if_pos rfl, valV_pos rfl, dn⟩
    · rw [show getW ((k', w) :: r') k = getW r' k from if_neg c, valV_neg (p := (k', v)) c]
      exact ih
theorem DKV.set (h : DKV K G φ vs d) {k : Key} {v : V} {w : Wv} (dn : Den K G φ v w) : DKV K G φ (vs.map fun kv => if kv.1 = k then (kv.1, v) else kv) (setW d k w) := by
  induction h with
  | nil => exact .nil
  | @cons k' v' w' r r' dn' dr ih =>
    rw [List.map_cons]
    by_cases c : k' = k
    · rw [show setW ((k', w') :: r') k w = (k', w) :: setW r' k w by simp only [setW, if_pos c]]
      rw [if_pos c]
      exact .cons dn ih
    · rw [show setW ((k', w') :: r') k w = (k', w') :: setW r' k w by simp only [setW, if_neg c]]
      rw [if_neg c]
      exact .cons dn' ih
theorem DKV.end_ (h : DKV K G φ vs d) {k : Key} {v : V} {w : Wv} (dn : Den K G φ v w) : DKV K G φ (vs ++ [(k, v)]) (d ++ [(k, w)]) := by
  induction h with
  | nil => exact .cons dn .nil
  | cons dn' dr ih => exact .cons dn' ih
theorem DKV.put (h : DKV K G φ vs d) {k : Key} {v : V} {w : Wv} (dn : Den K G φ v w) : DKV K G φ (putK vs k v) (putW d k w) := by
  unfold putK putW
  rw [valV_any]
  rcases h.get k with ⟨e1, e2⟩ | ⟨v', w', e1, e2, _⟩
  · rw [e1, e2, if_neg (by exact Bool.false_ne_true), if_neg (by exact Bool.false_ne_true)]
    exact h.end_ dn
  · rw [e1, e2, if_pos (show (some v').isSome = true from rfl), if_pos (show (some w').isSome = true from rfl)]
    exact h.set dn
theorem DKV.drop (h : DKV K G φ vs d) {k : Key} : DKV K G φ (dropK vs k) (dropW d k) := by
  unfold dropK
  induction h with
  | nil => exact .nil
  | @cons k' v w r r' dn dr ih =>
    rw [List.filter_cons]
    by_cases c : k' = k
    · rw [show dropW ((k', w) :: r') k = dropW r' k from if_pos c, if_neg (by simp [c])]
      exact ih
    · rw [show dropW ((k', w) :: r') k = (k', w) :: dropW r' k from if_neg c, if_pos (by simp [c])]
      exact .cons dn ih
theorem DKV.len (h : DKV K G φ vs d) : vs.length = d.length := by
  induction h with
  | nil => rfl
  | cons _ _ ih => rw [List.length_cons, List.length_cons, ih]
end
section
variable {T : Tab} {K : PySem.W.Frag} {W : WX} {σ : L2.St} {G : Hp} {φ : List Addr} {S : Sto} {H : Hp} {Q : VK} {v : V} {w : Wv} {k : Nat} {d : Ks}
theorem dct_rd (r : Rel T K G φ S H) (dn : Den K G φ v w) (h : dctOf S w = some (k, d)) : ∃ a vs, v = .ref a ∧ φ[k]? = some a ∧ S[k]? = some (.dct d) ∧ H a = some (.dK vs) ∧ DKV K G φ vs d := by
  cases dn with
  | @ref k0 a e =>
    simp only [dctOf] at h
    cases q : S[k0]? with
    | none => rw [q] at h; cases h
    | some o =>
      rw [q] at h
      cases o with
      | dct d' =>
        cases h
        obtain ⟨vs, e1, dd⟩ := r.ob k a _ e q
        exact ⟨a, vs, rfl, e, q, e1, dd⟩
      | _ => cases h
  | _ => cases h
theorem key_rd (dn : Den K G φ v w) {y : Key} (h : keyOf w = some y) : v = kV y := by
  cases dn with
  | int i => cases h; rfl
  | str i => cases h; rfl
  | _ => cases h
theorem wr_dct {a : Addr} {d' : Ks} {vs' : List (Key × V)} {α ν : Type} {R : Hp → List Addr → ν → α → Prop} {Qn : ν → Hp → Prop} {x : α} {y : ν} (r : Rel T K G φ S H) (ha : φ[k]? = some a) (hk : S[k]? = some (.dct d)) (dd : DKV K G φ vs' d') (dy : R G φ y x) (gd : GoodR R T K W σ H G φ Qn (.ok x (S.set k (.dct d')))) : Qn y (upd H a (.dK vs')) := by
  obtain ⟨r2, x2⟩ := r.write (o' := .dct d') (ho := .dK vs') ha hk rfl ⟨vs', upd_same, dd⟩
  exact gd _ _ _ _ x2 r2 dy
end
def fDNew : FE := fun _ S => .ok (.ref S.length) (S ++ [.dct []])
def dgetP : Wv → Wv → Sto → Out Wv := fun w u S => match dctOf S w, keyOf u with
  | some (_, d), some y => match getW d y with
    | some x => .ok x S
    | none => .bad
  | _, _ => .bad
def dinP : Wv → Wv → Sto → Out Wv := fun u w S => match dctOf S w, keyOf u with
  | some (_, d), some y => .ok (.bl (getW d y).isSome) S
  | _, _ => .bad
def dnotinP : Wv → Wv → Sto → Out Wv := fun u w S => match dctOf S w, keyOf u with
  | some (_, d), some y => .ok (.bl (!(getW d y).isSome)) S
  | _, _ => .bad
def dget2K (w u z : Wv) (S : Sto) : Out Wv := match dctOf S w, keyOf u with
  | some (_, d), some y => .ok ((getW d y).getD z) S
  | _, _ => .bad
def fDGet2 (fo fe ff : FE) : FE := fun env S => (fo env S).bind fun w S1 => if (dctOf S1 w).isSome = true then (fe env S1).bind fun u S2 => (ff env S2).bind fun z S3 => dget2K w u z S3 else .bad
def dpopK (w u : Wv) (S : Sto) : Out Wv := match dctOf S w, keyOf u with
  | some (k, d), some y => match getW d y with
    | some x => .ok x (S.set k (.dct (dropW d y)))
    | none => .bad
  | _, _ => .bad
def fDPop (fo fe : FE) : FE := fun env S => (fo env S).bind fun w S1 => if (dctOf S1 w).isSome = true then (fe env S1).bind fun u S2 => dpopK w u S2 else .bad
def dputK (w u x : Wv) (S : Sto) : Option Sto := match dctOf S w, keyOf u with
  | some (k, d), some y => if lenOk d.length = true then some (S.set k (.dct (putW d y x))) else none
  | _, _ => none
def sDPut (fo fi fe : FE) : FS := fun env S => (fe env S).thn env fun v S1 => (fo env S1).thn env fun o S2 => (fi env S2).thn env fun i S3 => match dputK o i v S3 with
  | some S4 => .nx env S4
  | none => .bad
section
variable {T : Tab} {X : Cx} {W : WX} {k : Nat} {N : List Str} {sc : Scope} {vl gl : List Str} {x : Str} {pos p apos cpos : Pos} {j : Nat} {a b c o e f : Expr} {fa fb fo fe ff fi : FE} {fr : FA}
theorem cs_dnew : SE T X W (.Dict [] [] pos) fDNew := pe_imp pe_dnewK fun σ H Q ⟨env, G, φ, S, r, er, gd⟩ p hp => by
  obtain ⟨r2, x2⟩ := r.alive (ho := .dK []) (o := .dct []) hp (up_of hp) upd_same ⟨[], upd_same, .nil⟩
  exact gd _ _ _ _ x2 r2 (.ref (by rw [← r.len]; simp))
theorem cs_dget (C : Cok T X W k N sc vl gl) (ho : SE T X W o fo) (hi : SE T X W e fe) (hs : NoSl e) : SE T X W (.Subscript o e pos) (f2 dgetP fo fe) := pe_imp (pe_dget C.hu ho hi hs) fun σ H Q ⟨env, G, φ, S, r, er, gd⟩ =>
  ⟨env, G, φ, S, r, er, (GoodR.bind gd).imp fun v H1 ⟨w, S1, G1, φ1, x1, r1, d1, g1⟩ => ⟨env, G1, φ1, S1, r1, x1.envr er, (GoodR.bind g1).imp fun u H2 ⟨w2, S2, G2, φ2, x2, r2, d2, g2⟩ => by
    simp only [dgetP] at g2
    cases q : dctOf S2 w with
    | none => rw [q] at g2; exact g2.elim
    | some kd =>
      obtain ⟨k, d⟩ := kd
      cases q2 : keyOf w2 with
      | none => rw [q, q2] at g2; exact g2.elim
      | some y =>
        rw [q, q2] at g2
        obtain ⟨a, vs, rfl, h1, h2, h3, dd⟩ := dct_rd r2 (x2.den d1) q
        have := key_rd d2 q2
        subst this
        rcases dd.get y with ⟨e1, e2⟩ | ⟨v', w', e1, e2, dn⟩
        · simp only [e1] at g2; exact g2.elim
        · simp only [e1] at g2
          exact ⟨a, v', rfl, by rw [← e2]; exact DGet.k h3, GoodR.here (S := S2) g2 r2 dn⟩⟩⟩
theorem din_t (neg : Bool) {σ : L2.St} {H : Hp} {Q : VK} (h : tI T X.K W (f2 (if neg = true then dnotinP else dinP) fa fo) σ H Q) : (if neg = true then tDNotIn (tI T X.K W fa) (tI T X.K W fo) else tDIn (tI T X.K W fa) (tI T X.K W fo)) σ H Q := by
  obtain ⟨env, G, φ, S, r, er, gd⟩ := h
  have key : ∀ (g : Option V → V) (g' : Option Wv → Wv) (f : Wv → Wv → Sto → Out Wv), (∀ u w S, f u w S = match dctOf S w, keyOf u with
      | some (_, d), some y => .ok (g' (getW d y)) S
      | _, _ => .bad) → (∀ G φ, Den X.K G φ (g none) (g' none)) → (∀ G φ v w, Den X.K G φ (g (some v)) (g' (some w))) → GoodR (Den X.K) T X.K W σ H G φ Q (f2 f fa fo env S) →
      tI T X.K W fa σ H fun y H1 => tI T X.K W fo σ H1 fun x H2 => ∃ a o, x = .ref a ∧ DGet H2 a y o ∧ Q (g o) H2 := by
    intro g g' f hf hn hs gd
    refine ⟨env, G, φ, S, r, er, (GoodR.bind gd).imp fun v H1 ⟨w, S1, G1, φ1, x1, r1, d1, g1⟩ => ⟨env, G1, φ1, S1, r1, x1.envr er, (GoodR.bind g1).imp fun u H2 ⟨w2, S2, G2, φ2, x2, r2, d2, g2⟩ => ?_⟩⟩
    rw [hf] at g2
    cases q : dctOf S2 w2 with
    | none => rw [q] at g2; exact g2.elim
    | some kd =>
      obtain ⟨k, d⟩ := kd
      cases q2 : keyOf w with
      | none => rw [q, q2] at g2; exact g2.elim
      | some y =>
        rw [q, q2] at g2
        obtain ⟨a, vs, rfl, h1, h2, h3, dd⟩ := dct_rd r2 d2 q
        have := key_rd d1 q2
        subst this
        refine ⟨a, valV vs y, rfl, DGet.k h3, ?_⟩
        rcases dd.get y with ⟨e1, e2⟩ | ⟨v', w', e1, e2, dn⟩
        · simp only [e1] at g2; rw [e2]; exact GoodR.here (S := S2) g2 r2 (hn _ _)
        · simp only [e1] at g2; rw [e2]; exact GoodR.here (S := S2) g2 r2 (hs _ _ _ _)
  cases neg with
  | false => exact key (fun o => .bl o.isSome) (fun o => .bl o.isSome) dinP (fun _ _ _ => rfl) (fun _ _ => .bl _) (fun _ _ _ _ => .bl _) gd
  | true => exact key (fun o => .bl (!o.isSome)) (fun o => .bl (!o.isSome)) dnotinP (fun _ _ _ => rfl) (fun _ _ => .bl _) (fun _ _ _ _ => .bl _) gd
theorem cs_din (C : Cok T X W k N sc vl gl) (ha : SE T X W a fa) (ho : SE T X W o fo) (hm : behindInMarks .In o = false) : SE T X W (.Compare a [.In] [o] pos) (f2 dinP fa fo) := pe_imp (pe_cmp (pc_din C.hu ha ho) hm) fun σ H Q h => din_t false h
theorem cs_dnotin (C : Cok T X W k N sc vl gl) (ha : SE T X W a fa) (ho : SE T X W o fo) (hm : behindInMarks .NotIn o = false) : SE T X W (.Compare a [.NotIn] [o] pos) (f2 dnotinP fa fo) := pe_imp (pe_cmp (pc_dnotin C.hu ha ho) hm) fun σ H Q h => din_t true h
theorem tb_of {g : FE} {σ : L2.St} {H : Hp} {Q : Bool → Hp → Prop} {t : TE} (ht : ∀ σ H Q, tI T X.K W g σ H Q → t σ H Q) (h : tT T X.K W (fTest g) σ H Q) : tB t σ H Q := by
  obtain ⟨env, G, φ, S, r, er, gd⟩ := h
  refine ht σ H _ ⟨env, G, φ, S, r, er, (GoodR.bind gd).imp fun v H1 ⟨w, S1, G1, φ1, x1, r1, d1, g1⟩ => ?_⟩
  cases d1 with
  | bl b => exact ⟨b, rfl, GoodR.here (S := S1) g1 r1 rfl⟩
  | _ => exact g1.elim
theorem ct_din (C : Cok T X W k N sc vl gl) (ha : SE T X W a fa) (ho : SE T X W o fo) (hm : behindInMarks .In o = false) : ST T X W (.Compare a [.In] [o] pos) (fTest (f2 dinP fa fo)) := pt_imp (pt_cmp (pc_din C.hu ha ho) hm) fun σ H Q h => tb_of (fun _ _ _ q => din_t false q) h
theorem ct_dnotin (C : Cok T X W k N sc vl gl) (ha : SE T X W a fa) (ho : SE T X W o fo) (hm : behindInMarks .NotIn o = false) : ST T X W (.Compare a [.NotIn] [o] pos) (fTest (f2 dnotinP fa fo)) := pt_imp (pt_cmp (pc_dnotin C.hu ha ho) hm) fun σ H Q h => tb_of (fun _ _ _ q => din_t true q) h
theorem dct_some {S : Sto} {w : Wv} (h : (dctOf S w).isSome = true) : ∃ k d, dctOf S w = some (k, d) := by
  cases q : dctOf S w with
  | none => rw [q] at h; cases h
  | some kd => exact ⟨kd.1, kd.2, rfl⟩
theorem cs_dget2 (C : Cok T X W k N sc vl gl) (ho : SE T X W o fo) (he : SE T X W e fe) (hf : SE T X W f ff) (m : M2 X o "get" apos e f cpos) : SE T X W (.Call (.Attribute o "get" apos) [e, f] [] cpos) (fDGet2 fo fe ff) := pe_imp (pe_dget2 C.hu ho he hf m) fun σ H Q ⟨env, G, φ, S, r, er, gd⟩ =>
  ⟨env, G, φ, S, r, er, (GoodR.bind gd).imp fun v H1 ⟨w, S1, G1, φ1, x1, r1, d1, g1⟩ => by
    by_cases c : (dctOf S1 w).isSome = true
    · rw [if_pos c] at g1
      obtain ⟨k, d, q0⟩ := dct_some c
      obtain ⟨a0, vs0, rfl, h1, h2, h3, dd⟩ := dct_rd r1 d1 q0
      refine ⟨a0, rfl, .inl ⟨_, .inl h3⟩, env, G1, φ1, S1, r1, x1.envr er, (GoodR.bind g1).imp fun u H2 ⟨w2, S2, G2, φ2, x2, r2, d2, g2⟩ => ⟨env, G2, φ2, S2, r2, (x1.trans x2).envr er, (GoodR.bind g2).imp fun z H3 ⟨w3, S3, G3, φ3, x3, r3, d3, g3⟩ => ?_⟩⟩
      simp only [dget2K] at g3
      cases q : dctOf S3 w with
      | none => rw [q] at g3; exact g3.elim
      | some kd =>
        obtain ⟨k', d'⟩ := kd
        cases q2 : keyOf w2 with
        | none => rw [q, q2] at g3; exact g3.elim
        | some y =>
          rw [q, q2] at g3
          obtain ⟨a, vs, e0, i1, i2, i3, dd'⟩ := dct_rd r3 ((x2.trans x3).den d1) q
          cases e0
          have := key_rd d2 q2
          subst this
          refine ⟨valV vs y, DGet.k i3, ?_⟩
          rcases dd'.get y with ⟨e1, e2⟩ | ⟨v', w', e1, e2, dn⟩
          · simp only [e1, Option.getD_none] at g3; rw [e2]; exact GoodR.here (S := S3) g3 r3 d3
          · simp only [e1, Option.getD_some] at g3; rw [e2]; exact GoodR.here (S := S3) g3 r3 dn
    · rw [if_neg c] at g1; exact g1.elim⟩
theorem cs_dpop (ho : SE T X W o fo) (he : SE T X W e fe) (m : M1 X o "pop" apos e cpos) : SE T X W (.Call (.Attribute o "pop" apos) [e] [] cpos) (fDPop fo fe) := pe_imp (pe_dpop1 ho he m) fun σ H Q ⟨env, G, φ, S, r, er, gd⟩ =>
  ⟨env, G, φ, S, r, er, (GoodR.bind gd).imp fun v H1 ⟨w, S1, G1, φ1, x1, r1, d1, g1⟩ => by
    by_cases c : (dctOf S1 w).isSome = true
    · rw [if_pos c] at g1
      obtain ⟨k, d, q0⟩ := dct_some c
      obtain ⟨a0, vs0, rfl, h1, h2, h3, dd⟩ := dct_rd r1 d1 q0
      refine ⟨a0, rfl, .inl ⟨_, .inl h3⟩, env, G1, φ1, S1, r1, x1.envr er, (GoodR.bind g1).imp fun u H2 ⟨w2, S2, G2, φ2, x2, r2, d2, g2⟩ => ?_⟩
      simp only [dpopK] at g2
      cases q : dctOf S2 w with
      | none => rw [q] at g2; exact g2.elim
      | some kd =>
        obtain ⟨k', d'⟩ := kd
        cases q2 : keyOf w2 with
        | none => rw [q, q2] at g2; exact g2.elim
        | some y =>
          rw [q, q2] at g2
          obtain ⟨a, vs, e0, i1, i2, i3, dd'⟩ := dct_rd r2 (x2.den d1) q
          cases e0
          have := key_rd d2 q2
          subst this
          rcases dd'.get y with ⟨e1, e2⟩ | ⟨v', w', e1, e2, dn⟩
          · simp only [e1] at g2; exact g2.elim
          · simp only [e1] at g2
            exact ⟨vs, y, v', i3, rfl, e2, wr_dct (R := Den X.K) r2 i1 i2 dd'.drop dn g2⟩
    · rw [if_neg c] at g1; exact g1.elim⟩
theorem cs_dput (C : Cok T X W k N sc vl gl) {tpos : Pos} (ho : SE T X W o fo) (hi : SE T X W e fi) (he : SE T X W a fa) (hs : swapsWith a (some (.Subscript o e tpos)) pos.line X.env = pure false) : SS T X W (.Assign [.Subscript o e tpos] a pos) (sDPut fo fi fa) :=
  ps_imp (ps_dput C.hu ho hi he hs) fun D σ H ⟨env, G, φ, S, r, er, gd⟩ =>
    ⟨env, G, φ, S, r, er, (GoodR.stmt (R := Den X.K) er gd).imp fun v H1 ⟨w, S1, G1, φ1, x1, r1, d1, g1⟩ =>
      ⟨env, G1, φ1, S1, r1, x1.envr er, (GoodR.stmt (R := Den X.K) (x1.envr er) g1).imp fun ov H2 ⟨ow, S2, G2, φ2, x2, r2, d2, g2⟩ =>
        ⟨env, G2, φ2, S2, r2, (x1.trans x2).envr er, (GoodR.stmt (R := Den X.K) ((x1.trans x2).envr er) g2).imp fun iv H3 ⟨iw, S3, G3, φ3, x3, r3, d3, g3⟩ => by
          simp only [dputK] at g3
          cases q : dctOf S3 ow with
          | none => simp only [q] at g3; exact g3.elim
          | some kd =>
            obtain ⟨k', d'⟩ := kd
            cases q2 : keyOf iw with
            | none => simp only [q, q2] at g3; exact g3.elim
            | some y =>
              simp only [q, q2] at g3
              obtain ⟨a, vs, rfl, i1, i2, i3, dd⟩ := dct_rd r3 (x3.den d2) q
              have := key_rd d3 q2
              subst this
              by_cases c : lenOk d'.length = true
              · rw [if_pos c] at g3
                obtain ⟨r4, x4⟩ := r3.write (o' := .dct (putW d' y w)) (ho := .dK (putK vs y v)) i1 i2 rfl ⟨_, upd_same, dd.put ((x2.trans x3).den d1)⟩
                exact ⟨a, _, rfl, DPut.k i3 (by rw [dd.len]; exact lenOk_lt c), g3 σ _ G3 φ3 x4 r4 (((x1.trans x2).trans x3).envr er)⟩
              · rw [if_neg c] at g3; exact g3.elim⟩⟩⟩
end
end CL
namespace CL
open PySem PySem.Spec PyProof.Rows L2

/-! ### the place within an except suite -/
structure Sok (T : Tab) (X : Cx) (k : Nat) (N : List Str) (sc : Scope) (vl gl : List Str) : Prop where
  nd : N.Nodup
  un : X.A.units + 64 < cLine
  hN : X.N = N
  hsc : X.env.scope = sc
  vis : visB sc vl = true
  gls : glB sc gl = true
section
variable {T : Tab} {X : Cx} {W : WX} {k : Nat} {N : List Str} {sc : Scope} {vl gl : List Str} {x : Str} {pos p p2 p3 : Pos} {j j2 : Nat}
theorem Cok.tok (C : Cok T X W k N sc vl gl) (a : Addr) (pn : List (Addr × Obj)) : Sok T (X.suite a pn) k N sc vl gl := ⟨C.nd, C.units, C.hN, C.hsc, C.vis, C.gls⟩
theorem Cok.try (C : Cok T X W k N sc vl gl) (pn : List (Addr × Obj)) (xe : Value → Shared → Prop) {W' : WX} (tk : Takes (X.tr pn xe) W') : Cok T (X.tr pn xe) W' k N sc vl gl := ⟨tk, C.calm, C.nd, C.room, C.hN, C.hsc, C.vis, C.gls⟩
theorem Dok.try (D : Dok T X W k N sc vl gl) (pn : List (Addr × Obj)) (xe : Value → Shared → Prop) {W' : WX} (tk : Takes (X.tr pn xe) W') (pa : PassesOwn (model X.prog X.w) X.A X.env xe) : Dok T (X.tr pn xe) W' k N sc vl gl := ⟨D.toCok.try pn xe tk, D.fnt, D.nofree, pa, D.stk, D.frm⟩
theorem Sok.gle (C : Sok T X k N sc vl gl) (e : gl[j]? = some x) : Gl X x ∧ (x == ("__debug__" : Str)) = false ∧ x ≠ "__name__" := by
  have := glB_at C.gls e
  exact ⟨by unfold Gl Env.kindOf; rw [C.hsc]; exact this.1, this.2⟩
theorem ts_var (C : Sok T X k N sc vl gl) {i : Nat} (hN : N[i]? = some x) (hv : vl[j]? = some x) : SE T X W (.Name x pos) (fVar i) := by
  obtain ⟨h1, h2, h3⟩ := visB_at C.vis hv
  exact se_var (by rw [C.hN]; exact hN) (by rw [C.hsc]; exact h1) h2 h3
end

/-! ### isinstance of the error that is held -/
def isEP (a : Addr) (b : Bool) : Wv → Sto → Out Wv := fun w S => match w with
  | .exn a' => if a' = a then .ok (.bl b) S else .bad
  | _ => .bad
@[simp] theorem isEP_d {a : Addr} {b : Bool} {S : Sto} : isEP a b (.exn a) S = .ok (.bl b) S := if_pos rfl
/-- a class in an isinstance: an own one, or ValueError -/
structure ClsE (X : Cx) (y : Str) (c : V) (u : Value) : Prop where
  pe : ∀ pos, Gl X y → (y == ("__debug__" : Str)) = false → y ≠ "__name__" → PE X (.Name y pos) (tC c)
  cl : ClsV c u
theorem clsE_own {X : Cx} {y : Str} {C : Addr} (g : X.mg y = some (.ref C)) : ClsE X y (.ref C) (.ref C) := ⟨fun pos h1 h2 _ => pe_glob h1 g rfl h2, .own C⟩
theorem clsE_ty {X : Cx} {y : Str} {n : String} (g : X.mg y = none) (hv : bootBuiltins y = some (.type n)) : ClsE X y (.ty n) (.type n) := ⟨fun pos h1 h2 h3 => pe_bltn h1 g hv rfl h3 h2, .ty n⟩
/-- the names of a tuple of classes -/
inductive ClsEs (X : Cx) (sc : Scope) : List Expr → List V → List Value → Prop
  | nil : ClsEs X sc [] [] []
  | cons {y : Str} {pos : Pos} {c : V} {u : Value} {es : List Expr} {cs : List V} {us : List Value} (h : ClsE X y c u) (g : sc.names.lookup y = some .globalImplicit ∧ (y == ("__debug__" : Str)) = false ∧ y ≠ "__name__") (he : starEach (.Name y pos :: es) X.env = (false, eval (.Name y pos) X.env) :: starEach es X.env) (r : ClsEs X sc es cs us) : ClsEs X sc (.Name y pos :: es) (c :: cs) (u :: us)
def rIsET (K : PySem.W.Frag) (D a : Addr) : List V → Hp → VK → Prop := fun xs H Q => ∃ (tp : Addr) (cs : List V) (us : List Value) (b : Bool), xs = [.ref a, .ref tp] ∧ H tp = some (.tup cs) ∧ Paired ClsV cs us ∧ PySem.W.kitAny K (.ref D) us = some b ∧ Q (.bl b) H
theorem call_isET {X : Cx} {a D : Addr} {oe : Obj} {pn : List (Addr × Obj)} (C : ExcC X.K D) (hz : Zc (.ref D) none oe) (hf : ∃ vs, oe.data = .fields vs) : CallR (X.suite a ((a, oe) :: pn)) (.builtin "isinstance") (rIsET X.K D a) := by
  intro pins s σ H xs us Q I r h
  obtain ⟨tp, cs, ws, b, rfl, hT, k, e, q⟩ := h
  cases r with
  | cons rx rr =>
    cases rr with
    | cons rt rr =>
      cases rr
      cases rx
      cases rt
      obtain ⟨hget, _⟩ := I.pin (a, oe) (List.mem_append.mpr (.inl List.mem_cons_self))
      obtain ⟨vs, hv⟩ := hf
      have J : PySem.W.InstAt s.heap a oe D none := by
        obtain ⟨oc, od, oda, osl⟩ := oe
        obtain ⟨h1, h2⟩ := hz
        dsimp only at h1 h2 hv
        subst h1 h2 hv
        exact ⟨hget, rfl, rfl, trivial⟩
      obtain ⟨_, its, rv, o, h1, h2, n, h3⟩ := (show ObjOk X.prog X.w H s.heap tp (.tup cs) from I.hok tp _ hT)
      have e3 := ClsV.all k rv
      subst e3
      obtain ⟨oc, od, dt, sl⟩ := o
      simp only at h2 h3
      subst h2 h3
      exact PySem.W.kia_tup (PySem.W.handS_kitx_exc C.hg C.hk C.hs C.hd C.ha C.hn C.ht C.hm) I.kIn J h1 e (fun z => nomatch z) fun tk => ⟨.bl b, H, I.kept (t' := tk) fun _ _ z => z, rfl, q⟩
section
variable {T : Tab} {X0 : Cx} {W : WX} {k : Nat} {N : List Str} {sc : Scope} {vl gl : List Str} {x y : Str} {pos p p2 p3 : Pos} {j j2 jv i kk : Nat} {a D : Addr} {oe : Obj} {pn : List (Addr × Obj)} {b : Bool} {c : V} {u : Value}
theorem ts_isE (C : Sok T (X0.suite a ((a, oe) :: pn)) k N sc vl gl) (hg : gl[j]? = some ("isinstance" : Str)) (hm : X0.mg "isinstance" = none) (hN : N[i]? = some x) (hv : vl[jv]? = some x) (hg2 : gl[j2]? = some y) (EC : ExcC X0.K D) (hz : Zc (.ref D) none oe) (hf : ∃ vs, oe.data = .fields vs)
    (hc : ClsE (X0.suite a ((a, oe) :: pn)) y c u) (hk : PySem.W.kitOne X0.K (.ref D) u = some b) (hs : starEach [.Name x p2, .Name y p3] X0.env = (false, eval (.Name x p2) X0.env) :: starEach [.Name y p3] X0.env) :
    SE T (X0.suite a ((a, oe) :: pn)) W (.Call (.Name "isinstance" p) [.Name x p2, .Name y p3] [] pos) (f1 (isEP a b) (fVar i)) := by
  obtain ⟨h1, h2, h3⟩ := C.gle hg
  obtain ⟨h4, h5, h6⟩ := C.gle hg2
  refine pe_imp (pe_callB (X := X0.suite a ((a, oe) :: pn)) (r := rIsE X0.K D a) (call_isE EC hz hf) h1 hm (by decide +kernel) (pa_cons (ts_var (W := W) C hN hv) (pa_cons (hc.pe p3 h4 h5 h6) pa_nil (by rfl)) hs) h3 h2 hs (by rfl)) fun σ H Q ⟨env, G, φ, S, rl, er, gd⟩ => ?_
  refine ⟨env, G, φ, S, rl, er, (GoodR.bind gd).imp fun v H1 ⟨w, S1, G1, φ1, x1, r1, d1, g1⟩ => ?_⟩
  cases d1 with
  | exn a' =>
    simp only [isEP] at g1
    by_cases e : a' = a
    · subst e
      rw [if_pos rfl] at g1
      exact ⟨c, u, b, rfl, fun w r => hc.cl.eq r, hk, GoodR.here (S := S1) g1 r1 (.bl _)⟩
    · rw [if_neg e] at g1; exact g1.elim
  | _ => exact g1.elim
theorem ClsEs.pa {X : Cx} {sc : Scope} (hsc : X.env.scope = sc) {es : List Expr} {cs : List V} {us : List Value} (h : ClsEs X sc es cs us) : PA X es (fun _ H Q => Q cs H) ∧ Paired ClsV cs us := by
  induction h with
  | nil => exact ⟨pa_nil, .nil⟩
  | cons h g he r ih =>
    exact ⟨pa_cons (h.pe _ (by unfold Gl Env.kindOf; rw [hsc]; exact g.1) g.2.1 g.2.2) ih.1 he, .cons h.cl ih.2⟩
theorem ts_isET {es : List Expr} {cs : List V} {us : List Value} (C : Sok T (X0.suite a ((a, oe) :: pn)) k N sc vl gl) (hg : gl[j]? = some ("isinstance" : Str)) (hm : X0.mg "isinstance" = none) (hN : N[i]? = some x) (hv : vl[jv]? = some x) (EC : ExcC X0.K D) (hz : Zc (.ref D) none oe) (hf : ∃ vs, oe.data = .fields vs)
    (hc : ClsEs (X0.suite a ((a, oe) :: pn)) sc es cs us) (hl : cs.length ≤ 1000) (hk : PySem.W.kitAny X0.K (.ref D) us = some b) (hs : starEach [.Name x p2, .Tuple es kk p3] X0.env = (false, eval (.Name x p2) X0.env) :: starEach [.Tuple es kk p3] X0.env) :
    SE T (X0.suite a ((a, oe) :: pn)) W (.Call (.Name "isinstance" p) [.Name x p2, .Tuple es kk p3] [] pos) (f1 (isEP a b) (fVar i)) := by
  obtain ⟨h1, h2, h3⟩ := C.gle hg
  obtain ⟨hp, hpr⟩ := hc.pa C.hsc
  refine pe_imp (pe_callB (X := X0.suite a ((a, oe) :: pn)) (r := rIsET X0.K D a) (call_isET EC hz hf) h1 hm (by decide +kernel) (pa_cons (ts_var (W := W) C hN hv) (pa_cons (pe_tup hp) pa_nil (by rfl)) hs) h3 h2 hs (by rfl)) fun σ H Q ⟨env, G, φ, S, rl, er, gd⟩ => ?_
  refine ⟨env, G, φ, S, rl, er, (GoodR.bind gd).imp fun v H1 ⟨w, S1, G1, φ1, x1, r1, d1, g1⟩ => ?_⟩
  cases d1 with
  | exn a' =>
    simp only [isEP] at g1
    by_cases e : a' = a
    · subst e
      rw [if_pos rfl] at g1
      refine ⟨by rw [line_eq]; omega, fun q hq => ?_⟩
      obtain ⟨r2, x2⟩ := r1.frozen hq (.tup cs)
      exact ⟨q, cs, us, b, rfl, upd_same, hpr, hk, GoodR.here (S := S1) (GoodR.ext x2 g1) r2 (.bl _)⟩
    · rw [if_neg e] at g1; exact g1.elim
  | _ => exact g1.elim
end

/-! ### try -/
/-- how an except clause takes an error: some b where it is known -/
abbrev Hit := Nat → Option Bool
def sTry (hit : Hit) (body suite : FS) : FS := fun env S => match body env S with
  | .exc c e S' => match hit c with
    | some true => match suite e S' with
      | .exc _ _ _ => .bad
      | o => o
    | some false => .exc c e S'
    | none => .bad
  | o => o
theorem GoodS.wno {T : Tab} {K : PySem.W.Frag} {W W' : WX} {D : Ends} {H G : Hp} {φ : List Addr} {o : SOut} (h : GoodS T K W D H G φ (match o with
      | .exc _ _ _ => .bad
      | o => o)) : GoodS T K W' D H G φ o := by
  cases o <;> first | exact h | exact h.elim
/-- what an except clause of the class at the value c asks of the facts -/
structure HitOk (T : Tab) (K : PySem.W.Frag) (c : Value) (hit : Hit) : Prop where
  ok : ∀ n b, hit n = some b → PySem.W.exmOne K (.ref (T.ead n)) c = some b
section
variable {T : Tab} {X : Cx} {W : WX} {k : Nat} {N : List Str} {sc : Scope} {vl gl : List Str} {x y : Str} {pos p np pos' : Pos} {j i : Nat} {c : Value} {body suite : List Stmt} {b₀ : Stmt} {fb fs : FS} {hit : Hit}
theorem cs_try (D : Dok T X W k N sc vl gl) (hg : gl[j]? = some y) (hm : X.mg y = some c) (hh : HitOk T X.K c hit)
    (hb : ∀ pn xe W', Dok T (X.tr pn xe) W' k N sc vl gl → SSs T (X.tr pn xe) W' body fb)
    (hsu : ∀ a pn, Sok T (X.suite a pn) k N sc vl gl → SSs T (X.suite a pn) Wno (b₀ :: suite) fs) : SS T X W (.Try body [.ExceptHandler (some (.Name y np)) none (b₀ :: suite) pos'] [] [] pos) (sTry hit fb fs) := by
  obtain ⟨h1, h2, h3⟩ := D.toCok.gle hg
  refine ps_imp (ps_try_only (tb := fun W' => tS T X.K W' fb) (ts := fun a cls d => tS T X.K Wno fs) (Wout := W) D.stk D.frm ⟨h1, h2, .inl hm⟩ D.tk (fun W' pn xe tk pa => hb pn xe W' (D.try pn xe tk pa)) (fun a oe cls d pn _ _ => hsu a _ (D.toCok.tok a _))) fun E σ H ⟨env, G, φ, S, r, er, gd⟩ => ?_
  refine ⟨env, G, φ, S, r, er, ?_⟩
  unfold sTry at gd
  cases q : fb env S with
  | exc n e S' =>
    rw [q] at gd
    simp only at gd
    intro σ' H' G' φ' x' r' er'
    cases q2 : hit n with
    | none => rw [q2] at gd; exact gd.elim
    | some b =>
      rw [q2] at gd
      refine ⟨b, hh.ok n b q2, fun hb a ha => ?_, fun hb => ?_⟩
      · subst hb
        exact ⟨e, G', φ', S', r', er', GoodS.ext x' (GoodS.wno gd)⟩
      · subst hb
        exact gd σ' H' G' φ' x' r' er'
  | nx e S' => rw [q] at gd; exact gd
  | rt e S' => rw [q] at gd; exact gd
  | bk e S' => rw [q] at gd; exact gd
  | ct e S' => rw [q] at gd; exact gd
  | bad => rw [q] at gd; exact gd.elim
/-- with a name: the suite ends with a return -/
def sTryAs (hit : Hit) (i : Nat) (body : FS) (suite : Nat → Nat → FS) : FS := fun env S => match body env S with
  | .exc c e S' => match hit c with
    | some true => match suite 0 c (e.set i (some (.exn 0))) S' with
      | .rt w S2 => .rt w S2
      | _ => .bad
    | some false => .exc c e S'
    | none => .bad
  | o => o
theorem EnvR.exn {K : PySem.W.Frag} {G : Hp} {φ : List Addr} {σ : L2.St} {env : Env} (h : EnvR K G φ σ env) (i : Nat) (a : Addr) : EnvR K G φ (σ.set i (some (.ref a))) (env.set i (some (.exn a))) := h.set (.exn a) i
theorem cs_tryAs (D : Dok T X W k N sc vl gl) {e : Str} {jv : Nat} (hg : gl[j]? = some y) (hm : X.mg y = some c) (hh : HitOk T X.K c hit) (hi : N[i]? = some e) (hv : vl[jv]? = some e) (hl : sc.names.lookup e = some .local) {fs : Nat → Nat → FS}
    (hu : ∀ (a c : Nat) (env : Env) (S : Sto) (w : Wv) (S2 : Sto), fs 0 c (env.set i (some (.exn 0))) S = .rt w S2 → fs a c (env.set i (some (.exn a))) S = .rt w S2)
    (hb : ∀ pn xe W', Dok T (X.tr pn xe) W' k N sc vl gl → SSs T (X.tr pn xe) W' body fb)
    (hsu : ∀ (a : Addr) (oe : Obj) pn n, hit n = some true → Zc (.ref (T.ead n)) none oe → (∃ vs, oe.data = .fields vs) → Sok T (X.suite a ((a, oe) :: pn)) k N sc vl gl → SSs T (X.suite a ((a, oe) :: pn)) Wno (b₀ :: suite) (fs a n)) :
    SS T X W (.Try body [.ExceptHandler (some (.Name y np)) (some e) (b₀ :: suite) pos'] [] [] pos) (sTryAs hit i fb fs) := by
  obtain ⟨h1, h2, h3⟩ := D.toCok.gle hg
  have key : ∀ (a : Addr) (oe : Obj) (cls : Value) (d : Option Addr) (pn : List (Addr × Obj)), Zc cls d oe → (∃ vs, oe.data = .fields vs) → PSs (X.suite a ((a, oe) :: pn)) (b₀ :: suite) (fun E σ H => ∃ n, hit n = some true ∧ cls = .ref (T.ead n) ∧ d = none ∧ tS T X.K Wno (fs a n) E σ H) := fun a oe cls d pn hz hf => ⟨fun pins s σ H E I ⟨n, q1, q2, q3, q4⟩ => by
    subst q2 q3
    exact (hsu a oe pn n q1 hz hf (D.toCok.tok a _)).run pins s σ H E I q4⟩
  refine ps_imp (ps_try_as (i := i) (tb := fun W' => tS T X.K W' fb) (ts := fun a cls d E σ H => ∃ n, hit n = some true ∧ cls = .ref (T.ead n) ∧ d = none ∧ tS T X.K Wno (fs a n) E σ H) (Wout := W) D.stk D.frm (by rw [D.hN]; exact D.nd) (by rw [D.hN]; exact hi) (by unfold Env.kindOf; rw [D.hsc]; exact hl) ⟨h1, h2, .inl hm⟩ D.tk
    (fun W' pn xe tk pa => hb pn xe W' (D.try pn xe tk pa)) key) fun E σ H ⟨env, G, φ, S, r, er, gd⟩ => ?_
  refine ⟨env, G, φ, S, r, er, ?_⟩
  unfold sTryAs at gd
  cases q : fb env S with
  | exc n e S' =>
    rw [q] at gd
    simp only at gd
    intro σ' H' G' φ' x' r' er'
    cases q2 : hit n with
    | none => rw [q2] at gd; exact gd.elim
    | some b =>
      rw [q2] at gd
      refine ⟨b, hh.ok n b q2, fun hb a ha => ⟨n, by rw [q2, hb], rfl, rfl, _, G', φ', S', r', er'.exn i a, ?_⟩, fun hb => ?_⟩
      · subst hb
        simp only at gd
        cases q3 : fs 0 n (e.set i (some (.exn 0))) S' with
        | rt w S2 =>
          rw [q3] at gd
          rw [hu a n e S' w S2 q3]
          exact fun v H2 G2 φ2 x2 r2 d2 => gd v H2 G2 φ2 (x'.trans x2) r2 d2
        | nx _ _ => rw [q3] at gd; exact gd.elim
        | bk _ _ => rw [q3] at gd; exact gd.elim
        | ct _ _ => rw [q3] at gd; exact gd.elim
        | exc _ _ _ => rw [q3] at gd; exact gd.elim
        | bad => rw [q3] at gd; exact gd.elim
      · subst hb
        exact gd σ' H' G' φ' x' r' er'
  | nx e S' => rw [q] at gd; exact gd
  | rt e S' => rw [q] at gd; exact gd
  | bk e S' => rw [q] at gd; exact gd
  | ct e S' => rw [q] at gd; exact gd
  | bad => rw [q] at gd; exact gd.elim
end

/-! ### the eight errors: 0 is over the others -/
def isSub (n m : Nat) : Bool := decide (m = 0) || decide (m = n)
def hitOf (m : Nat) : Hit := fun n => if n < 8 then some (isSub n m) else none
structure ExAll (T : Tab) (K : PySem.W.Frag) : Prop where
  sub : ∀ n m, n < 8 → m < 8 → PySem.W.subIn K (.ref (T.ead n)) (.ref (T.ead m)) = some (isSub n m)
  kitV : ∀ n, n < 8 → PySem.W.kitOne K (.ref (T.ead n)) (.type "ValueError") = some true
  ty : ∀ n, n < 8 → PySem.W.typeIn K (.ref (T.ead n)) = some (.type "type")
  exc : ∀ n, n < 8 → ExcC K (T.ead n)
theorem kit_sub {K : PySem.W.Frag} {t : Value} {C : Addr} {b : Bool} (hd : PySem.W.hasDictIn K C = true) (ht : PySem.W.typeIn K (.ref C) = some (.type "type")) (hs : PySem.W.subIn K t (.ref C) = some b) (hself : t = .ref C → b = true) : PySem.W.kitOne K t (.ref C) = some b := by
  obtain ⟨cd, hc, _⟩ := PySem.W.any_some hd
  have e2 : ((PySem.W.clsIn K C).isSome && PySem.W.typeIn K (.ref C) == some (.type "type")) = true := by rw [hc, ht] <;> rfl
  show (if (t == .ref C) = true then some true else (if ((PySem.W.clsIn K C).isSome && PySem.W.typeIn K (.ref C) == some (.type "type")) = true then PySem.W.subIn K t (.ref C) else none)) = some b
  by_cases c : (t == .ref C) = true
  · rw [if_pos c, hself (eq_of_beq c)]
  · rw [if_neg c, if_pos e2]; exact hs
theorem ExAll.kit {T : Tab} {K : PySem.W.Frag} (E : ExAll T K) {n m : Nat} (hn : n < 8) (hm : m < 8) : PySem.W.kitOne K (.ref (T.ead n)) (.ref (T.ead m)) = some (isSub n m) :=
  kit_sub (E.exc m hm).hd (E.ty m hm) (E.sub n m hn hm) fun e => by
    have h1 := E.sub n m hn hm
    have h2 := E.sub m m hm hm
    rw [e, h2] at h1
    have h3 : isSub m m = true := by simp [isSub]
    rw [h3] at h1
    exact (Option.some.inj h1).symm
theorem ExAll.hit {T : Tab} {K : PySem.W.Frag} (E : ExAll T K) {m : Nat} (hm : m < 8) : HitOk T K (.ref (T.ead m)) (hitOf m) := ⟨fun n b h => by
  unfold hitOf at h
  by_cases hn : n < 8
  · rw [if_pos hn] at h
    cases h
    exact PySem.W.exm_ref (E.exc m hm).hs (E.exc m hm).hd (E.ty m hm) (E.sub n m hn hm)
  · rw [if_neg hn] at h; cases h⟩
theorem hit_lt {m n : Nat} (h : hitOf m n = some true) : n < 8 ∧ isSub n m = true := by
  unfold hitOf at h
  by_cases hn : n < 8
  · rw [if_pos hn] at h; exact ⟨hn, Option.some.inj h⟩
  · rw [if_neg hn] at h; cases h
theorem kitV_of {K : PySem.W.Frag} {a : Addr} (h : PySem.W.subIn K (.ref a) (.type "ValueError") = some true) : PySem.W.kitOne K (.ref a) (.type "ValueError") = some true := by
  show (if (Value.ref a == .type "ValueError") = true then some true else if PySem.W.kitMeta "ValueError" = true then PySem.W.subIn K (.ref a) (.type "ValueError") else none) = some true
  rw [if_neg (by exact Bool.false_ne_true), if_pos (by decide +kernel), h]
/-- one of some -/
def anySub (n : Nat) (ms : List Nat) : Bool := ms.any (isSub n)
theorem ExAll.kitAny {T : Tab} {K : PySem.W.Frag} (E : ExAll T K) {n : Nat} (hn : n < 8) : ∀ {ms : List Nat}, (∀ m ∈ ms, m < 8) → PySem.W.kitAny K (.ref (T.ead n)) (ms.map fun m => .ref (T.ead m)) = some (anySub n ms)
  | [], _ => rfl
  | m :: r, h => by
    have h1 := E.kit hn (h m (by simp))
    have ih := ExAll.kitAny E hn (ms := r) fun x hx => h x (by simp [hx])
    rw [List.map_cons]
    unfold PySem.W.kitAny
    rw [h1]
    cases q : isSub n m with
    | true => simp [anySub, q]
    | false => simp only [ih]; simp [anySub, q]
end CL
namespace CL
open PySem PySem.Spec PyProof.Rows L2
abbrev veT : List Value := [.type "ValueError", .type "Exception", .type "BaseException", .type "object"]
/-- an own error's class -/
structure ExF (T : Tab) (K : PySem.W.Frag) (mg : Str → Option Value) (c : Nat) (x : Str) : Prop where
  q : PySem.W.excIn K (T.ead c) veT "ValueError.__new__" = true
  g : mg x = some (.ref (T.ead c))
  k : PySem.W.keepIn K (.ref (T.ead c)) = true
  b : PySem.W.subIn K (.ref (T.ead c)) (.type "BaseException") = some true
  t : PySem.W.typeIn K (.ref (T.ead c)) = some (.type "type")
theorem ExF.r {T : Tab} {X : Cx} {mg : Str → Option Value} {c : Nat} {x : Str} (h : ExF T X.K mg c x) : Raises X (.ref (T.ead c)) := raises_own h.b h.t
/-- an own error's class, wherever it stands -/
structure ExG (K : PySem.W.Frag) (mg : Str → Option Value) (x : Str) (a : Addr) : Prop where
  f : ∀ (T : Tab) (c : Nat), T.ead c = a → ExF T K mg c x
structure ExE (K : PySem.W.Frag) (mg : Str → Option Value) (x : Str) : Prop where
  ex : ∃ a : Addr, ∀ (T : Tab) (c : Nat), T.ead c = a → ExF T K mg c x
theorem exG {K : PySem.W.Frag} {mg : Str → Option Value} {h : Heap} {x : Str} {a : Addr} (X : K.In h) (G : h.Ns mainGlobals mg) (g : PySem.W.nsIn K mainGlobals x = some (some (.ref a))) (q : PySem.W.excIn K a veT "ValueError.__new__" = true) (k : PySem.W.keepIn K (.ref a) = true)
    (b : PySem.W.subIn K (.ref a) (.type "BaseException") = some true) (t : PySem.W.typeIn K (.ref a) = some (.type "type")) : ExG K mg x a := ⟨fun T c e => ⟨by rw [e]; exact q, by rw [e]; exact PySem.W.mg_of X G g, by rw [e]; exact k, by rw [e]; exact b, by rw [e]; exact t⟩⟩
theorem exE {K : PySem.W.Frag} {mg : Str → Option Value} {h : Heap} {x : Str} {a : Addr} (X : K.In h) (G : h.Ns mainGlobals mg) (g : PySem.W.nsIn K mainGlobals x = some (some (.ref a))) (q : PySem.W.excIn K a veT "ValueError.__new__" = true) (k : PySem.W.keepIn K (.ref a) = true)
    (b : PySem.W.subIn K (.ref a) (.type "BaseException") = some true) (t : PySem.W.typeIn K (.ref a) = some (.type "type")) : ExE K mg x := ⟨a, fun T c e => ⟨by rw [e]; exact q, by rw [e]; exact PySem.W.mg_of X G g, by rw [e]; exact k, by rw [e]; exact b, by rw [e]; exact t⟩⟩
theorem conFI {K : PySem.W.Frag} {mg : Str → Option Value} {h : Heap} {x : Str} {i : Int} {t : Tok} (X : K.In h) (G : h.Ns mainGlobals mg) (g : PySem.W.nsIn K mainGlobals x = some (some (.int i t))) : ConF mg x (.int i) := ⟨_, PySem.W.mg_of X G g, ⟨t, rfl⟩⟩
theorem conFS {K : PySem.W.Frag} {mg : Str → Option Value} {h : Heap} {x : Str} {i : Str} {t : Tok} (X : K.In h) (G : h.Ns mainGlobals mg) (g : PySem.W.nsIn K mainGlobals x = some (some (.str i t))) : ConF mg x (.str i) := ⟨_, PySem.W.mg_of X G g, ⟨t, rfl⟩⟩
/-- a def stands under its name -/
structure DefF (K : PySem.W.Frag) (mg : Str → Option Value) (x qual : Str) (st : Stmt) : Prop where
  ex : ∃ f fd, Fun K x qual st f fd ∧ mg x = some (.ref f)
theorem defF {K : PySem.W.Frag} {mg : Str → Option Value} {h : Heap} {x qual : Str} {st : Stmt} {f : Addr} {oc : Value} {od an : Option Addr} {osl : Array (Option Value)} {kV doc pm cdv ct : Value} (X : K.In h) (G : h.Ns mainGlobals mg)
    (a : PySem.W.nsIn K mainGlobals x = some (some (.ref f))) (l : K.lookup f = some ⟨oc, od, .func (PySem.W.fnOf x qual (defArgs st) (defBody st) (defScope st) .none kV doc pm an cdv ct), osl⟩) (c : PySem.W.codeIn K cdv qual = true) (k : PySem.W.keepIn K (.ref f) = true) : DefF K mg x qual st :=
  ⟨f, _, fun_mk l c k, PySem.W.mg_of X G a⟩
/-- an own class, as it stands -/
structure ClsG (K : PySem.W.Frag) (mg : Str → Option Value) (x : Str) (C : Addr) : Prop where
  mg : mg x = some (.ref C)
  cl : Cls K C
  mks : PySem.W.makesIn K C = true
  kp : PySem.W.keepIn K (.ref C) = true
theorem clsG {K : PySem.W.Frag} {mg : Str → Option Value} {h : Heap} {x : Str} {C : Addr} (X : K.In h) (G : h.Ns mainGlobals mg) (a : PySem.W.nsIn K mainGlobals x = some (some (.ref C))) (pg : PySem.W.plainGet K C Str.empty = true) (hd : PySem.W.hasDictIn K C = true) (po : PySem.W.plainOver K C = true)
    (sa : PySem.W.findIn K (.ref C) "__setattr__" = some (some (.builtin "object.__setattr__"))) (mk : PySem.W.makesIn K C = true) (kp : PySem.W.keepIn K (.ref C) = true) : ClsG K mg x C := ⟨PySem.W.mg_of X G a, ⟨pg, hd, po, sa⟩, mk, kp⟩
/-- a method stands under its name in the class -/
structure MetF (K : PySem.W.Frag) (C : Addr) (x qual : Str) (st : Stmt) : Prop where
  ex : ∃ f fd, Fun K x qual st f fd ∧ PySem.W.findIn K (.ref C) x = some (some (.ref f)) ∧ PySem.W.isFn K (.ref f) = true
theorem metF {K : PySem.W.Frag} {C : Addr} {x qual : Str} {st : Stmt} {f : Addr} {oc : Value} {od an : Option Addr} {osl : Array (Option Value)} {kV doc pm cdv ct : Value} (a : PySem.W.findIn K (.ref C) x = some (some (.ref f))) (i : PySem.W.isFn K (.ref f) = true)
    (l : K.lookup f = some ⟨oc, od, .func (PySem.W.fnOf x qual (defArgs st) (defBody st) (defScope st) .none kV doc pm an cdv ct), osl⟩) (c : PySem.W.codeIn K cdv qual = true) (k : PySem.W.keepIn K (.ref f) = true) : MetF K C x qual st := ⟨f, _, fun_mk l c k, a, i⟩
theorem Cal.of {T : Tab} {P : Program} {w : World} {K : PySem.W.Frag} {mg : Str → Option Value} {base : Heap} {x : Str} {k n : Nat} {F : List Wv → Sto → Out Wv} {f : Addr} {fd : FuncData} {ps : List Str} {qual : Str} {st : Stmt} (FF : Fun K x qual st f fd) (h : FnOk P w K mg base (L2.CX P w) k f fd ps (spF T K n F)) (hl : ps.length = n) (hm : mg x = some (.ref f)) (hb : Binds K fd ps []) :
    Cal T P w K mg base x k n F := ⟨f, fd, ps, hl, h, hm, FF.kp, hb⟩
theorem freeF {K : PySem.W.Frag} {mg : Str → Option Value} {h : Heap} {x : Str} (X : K.In h) (G : h.Ns mainGlobals mg) (a : PySem.W.nsIn K mainGlobals x = some none) : mg x = none := PySem.W.mg_none_of X G a
/-- what the law's own def is asked: True, whatever the script -/
def spLaw (K : PySem.W.Frag) : Sp := fun vs H Q _ => ∃ (a : Addr) (ns : List Int), vs = [.ref a] ∧ SqL K H a (ns.map V.int) ∧ ns.length ≤ 63 ∧ ∀ H', Q (.bl true) H'
theorem law_sp {T : Tab} {K : PySem.W.Frag} {F : List Wv → Sto → Out Wv} (h : ∀ ns : List Int, ns.length ≤ 63 → ∃ S', F [.scr ns] [] = .ok (.bl true) S') {vs : List V} {H : Hp} {Q : VK} {E : XK} (q : spLaw K vs H Q E) : spF T K 1 F vs H Q E := by
  obtain ⟨a, ns, rfl, hs, hl, k⟩ := q
  obtain ⟨S', e⟩ := h ns hl
  refine ⟨rfl, H, [], [], [.scr ns], ⟨Same.refl H, rfl, List.nodup_nil, fun k a o e => by simp at e, fun k a o e => by simp at e, fun a ha => by simp at ha⟩, .cons (.scr hs) .nil, ?_⟩
  rw [e]
  intro v H' G' φ' x r d
  cases d
  exact k H'
theorem walk {l : PySem.W.OpenLaw} {q : Program} {loose : List Str} {XP : (Str → Option Value) → Heap → Prop} {YP : World → Heap → Prop} {d : DefRec} {K : Params → PySem.W.Frag} {k : Nat} {x : Str} (hn : l.most = some 63) (hdf : d.params.defaults = []) (hr : Room k callerA)
    (hY : ∀ (w : World) (h : Heap), YP w h → (K w.params).In h)
    (F : ∀ (w : World) (mg : Str → Option Value) (fa : Addr) (h : Heap), (K w.params).In h → h.Ns mainGlobals mg → mg d.name = some (.ref fa) →
      ∃ fd : FuncData, (∀ (s : Shared) (u : Value), BindsTo s fd ⟨[u], []⟩ [(x, u)]) ∧ ∀ base : Heap, (K w.params).In base → base.Ns mainGlobals mg → FnOk l.prog w (K w.params) mg base (L2.CX l.prog w) k fa fd [x] (spLaw (K w.params))) :
    PySem.W.WalkO q loose XP YP l.row.toRowW d [] (fun f vs => PySem.call f vs) :=
  L2.walk_of (n := 63) (k := k) (x := x) (CX := fun w => L2.CX l.prog w) (sp := fun w => spLaw (K w.params)) hn (by decide) hdf hr hY F (fun _ _ a ns hl _ hS => ⟨a, ns, rfl, hS, hl, fun _ => rfl⟩) fun w H s e s' z => by
    obtain ⟨_, _, _, _, _, _, _, _, _, _, _, _, q⟩ := z
    exact q
end CL
namespace CL
open PySem PySem.Spec PyProof.Rows L2

/-! ### loops over items, by the list -/
def forItems (tg : Tg) (body : FS) : List Wv → Env → Sto → SOut
  | [], env, S => .nx env S
  | w :: ws, env, S => match tg w env S with
    | some env1 => match body env1 S with
      | .nx e S' => forItems tg body ws e S'
      | .ct e S' => forItems tg body ws e S'
      | .bk e S' => .nx e S'
      | o => o
    | none => .bad
theorem forLoop_at (tg : Tg) (body : FS) : ∀ (rest pre : List Wv) (env : Env) (S : Sto), forLoop (.items (pre ++ rest)) tg body rest.length pre.length env S = forItems tg body rest env S
  | [], pre, env, S => by
    have h : (pre ++ [])[pre.length]? = none := by simp
    simp only [List.length_nil, forLoop, Itr.at, h, forItems]
  | w :: rest, pre, env, S => by
    have h : (pre ++ w :: rest)[pre.length]? = some w := by simp
    simp only [List.length_cons, forLoop, Itr.at, h, forItems]
    have ih := forLoop_at tg body rest (pre ++ [w])
    rw [List.append_assoc, List.length_append, List.length_singleton] at ih
    simp only [List.singleton_append] at ih
    cases q : tg w env S with
    | none => rfl
    | some env1 =>
      simp only []
      cases q2 : body env1 S <;> simp only [ih]
theorem forLoop_items (tg : Tg) (body : FS) (ws : List Wv) (env : Env) (S : Sto) : forLoop (.items ws) tg body ws.length 0 env S = forItems tg body ws env S := forLoop_at tg body ws [] env S
def lcItems (tg : Tg) (cond : FT) (elt : FE) (env0 : Env) : List Wv → Sto → Out (List Wv)
  | [], S => .ok [] S
  | w :: ws, S => match tg w env0 S with
    | some env1 => (cond env1 S).nox.bind fun b S1 => if b = true then (elt env1 S1).nox.bind fun x S2 => (lcItems tg cond elt env0 ws S2).bind fun r S3 => .ok (x :: r) S3
      else lcItems tg cond elt env0 ws S1
    | none => .bad
theorem lcLoop_at (tg : Tg) (cond : FT) (elt : FE) (env0 : Env) : ∀ (rest pre : List Wv) (S : Sto), lcLoop (.items (pre ++ rest)) tg cond elt env0 rest.length pre.length S = lcItems tg cond elt env0 rest S
  | [], pre, S => by
    have h : (pre ++ [])[pre.length]? = none := by simp
    simp only [List.length_nil, lcLoop, Itr.at, h, lcItems]
  | w :: rest, pre, S => by
    have h : (pre ++ w :: rest)[pre.length]? = some w := by simp
    simp only [List.length_cons, lcLoop, Itr.at, h, lcItems]
    have ih := lcLoop_at tg cond elt env0 rest (pre ++ [w])
    rw [List.append_assoc, List.length_append, List.length_singleton] at ih
    simp only [List.singleton_append] at ih
    cases q : tg w env0 S with
    | none => rfl
    | some env1 =>
      simp only [ih]
theorem lcLoop_items (tg : Tg) (cond : FT) (elt : FE) (env0 : Env) (ws : List Wv) (S : Sto) : lcLoop (.items ws) tg cond elt env0 ws.length 0 S = lcItems tg cond elt env0 ws S := lcLoop_at tg cond elt env0 ws [] S
/-- a loop that goes on to its end, by the turn's number -/
theorem for_ix {tg : Tg} {body : FS} {ws : List Wv} {env : Env} {S : Sto} (I : Nat → Env → Sto → Prop) (h0 : I 0 env S)
    (hs : ∀ (i : Nat) w env S, ws[i]? = some w → I i env S → ∃ env1, tg w env S = some env1 ∧ ∃ e S', body env1 S = .nx e S' ∧ I (i + 1) e S') : ∃ e S', forItems tg body ws env S = .nx e S' ∧ I ws.length e S' := by
  induction ws generalizing I env S with
  | nil => exact ⟨env, S, rfl, h0⟩
  | cons w ws ih =>
    obtain ⟨env1, h1, e, S', h2, h3⟩ := hs 0 w env S rfl h0
    obtain ⟨e2, S2, h4, h5⟩ := ih (I := fun i => I (i + 1)) h3 (fun i w env S hw hi => hs (i + 1) w env S (by simpa using hw) hi)
    refine ⟨e2, S2, ?_, h5⟩
    simp only [forItems, h1, h2, h4]
/-- a comprehension whose elements come one by one, without a test -/
theorem lc_ix {tg : Tg} {elt : FE} {env0 : Env} {ws : List Wv} {S : Sto} (v : Nat → Wv) (I : Nat → Sto → Prop) (h0 : I 0 S)
    (hs : ∀ (i : Nat) w S, ws[i]? = some w → I i S → ∃ env1, tg w env0 S = some env1 ∧ ∃ S', elt env1 S = .ok (v i) S' ∧ I (i + 1) S') : ∃ S', lcItems tg fYes elt env0 ws S = .ok ((List.range ws.length).map v) S' ∧ I ws.length S' := by
  induction ws generalizing I S v with
  | nil => exact ⟨S, rfl, h0⟩
  | cons w ws ih =>
    obtain ⟨env1, h1, S', h2, h3⟩ := hs 0 w S rfl h0
    obtain ⟨S2, h4, h5⟩ := ih (v := fun i => v (i + 1)) (I := fun i => I (i + 1)) h3 (fun i w S hw hi => hs (i + 1) w S (by simpa using hw) hi)
    refine ⟨S2, ?_, h5⟩
    simp only [lcItems, h1, fYes, Out.nox, Out.bind, if_true, h2, h4]
    rw [List.length_cons, List.range_succ_eq_map, List.map_cons, List.map_map]
    rfl
/-- the store is not touched -/
theorem lc_pure {tg : Tg} {elt : FE} {env0 : Env} {ws : List Wv} {S : Sto} (v : Nat → Wv)
    (hs : ∀ (i : Nat) w, ws[i]? = some w → ∃ env1, tg w env0 S = some env1 ∧ elt env1 S = .ok (v i) S) : lcItems tg fYes elt env0 ws S = .ok ((List.range ws.length).map v) S := by
  obtain ⟨S', h1, h2⟩ := lc_ix (tg := tg) (elt := elt) (env0 := env0) (ws := ws) (S := S) v (fun _ S' => S' = S) rfl (fun i w S' hw e => by
    subst e
    obtain ⟨env1, h1, h2⟩ := hs i w hw
    exact ⟨env1, h1, S', h2, rfl⟩)
  rw [h1, h2]
theorem rangeW_at {lo : Int} {n i : Nat} {w : Wv} (h : (rangeW lo n)[i]? = some w) : i < n ∧ w = .int (lo + (i : Nat)) := by
  have hi : i < n := by have := (List.getElem?_eq_some_iff.mp h).1; simpa [rangeW] using this
  refine ⟨hi, ?_⟩
  unfold rangeW at h
  rw [List.getElem?_map, List.getElem?_range hi] at h
  exact (Option.some.inj h).symm
theorem rangeW_len {lo : Int} {n : Nat} : (rangeW lo n).length = n := by simp [rangeW]
theorem atI_ok {α : Type} {xs : List α} {i : Int} (h0 : 0 ≤ i) (h : i.toNat < xs.length) : atI xs i = some (xs[i.toNat]'h) := by
  have e : i = (i.toNat : Int) := by omega
  have := atI_nat (xs := xs) (j := i.toNat) (v := xs[i.toNat]'h) (List.getElem?_eq_getElem h)
  rw [← e] at this
  exact this
theorem atI_get? {α : Type} {xs : List α} {i : Int} (h0 : 0 ≤ i) (h : i.toNat < xs.length) : atI xs i = xs[i.toNat]? := by
  rw [atI_ok h0 h, List.getElem?_eq_getElem h]
theorem fLc_items {live : Bool} {fi : FI} {own : List Nat} {tg : Tg} {cond : FT} {elt : FE} {env : Env} {S S1 S2 : Sto} {ws us : List Wv} (hi : fi env S = .ok (.items ws) S1) (hl : ws.length ≤ 1000000) (h : lcItems tg cond elt (wipeE env own) ws S1 = .ok us S2) :
    fLc live fi own tg cond elt env S = mkL live us S2 := by
  have e : lenOk (Itr.items ws).len = true := decide_eq_true hl
  have e2 : lcLoop (.items ws) tg cond elt (wipeE env own) (Itr.items ws).len 0 S1 = .ok us S2 := (lcLoop_items tg cond elt (wipeE env own) ws S1).trans h
  show (fi env S).bind (fun it S1 => if lenOk it.len = true then (lcLoop it tg cond elt (wipeE env own) it.len 0 S1).nox.bind fun ws S2 => mkL live ws S2 else .bad) = mkL live us S2
  rw [hi]
  show (if lenOk (Itr.items ws).len = true then _ else _) = _
  rw [if_pos e, e2]
  rfl
theorem sFor_items {fi : FI} {tg : Tg} {body : FS} {env : Env} {S S1 : Sto} {ws : List Wv} (hi : fi env S = .ok (.items ws) S1) : sFor fi tg body env S = forItems tg body ws env S1 := by
  show (fi env S).thn env (fun it S1 => forLoop it tg body it.len 0 env S1) = _
  rw [hi]
  exact forLoop_items _ _ _ _ _
/-! ### the steps, as equations -/
section
variable {α β : Type} {S : Sto} {env : Env}
@[simp] theorem bind_ok {a : α} {g : α → Sto → Out β} : (Out.ok a S).bind g = g a S := (rfl)
@[simp] theorem bind_exc {c : Nat} {g : α → Sto → Out β} : (Out.exc c S : Out α).bind g = .exc c S := (rfl)
@[simp] theorem bind_bad {g : α → Sto → Out β} : (Out.bad : Out α).bind g = .bad := (rfl)
@[simp] theorem nox_ok {a : α} : (Out.ok a S).nox = .ok a S := (rfl)
@[simp] theorem thn_ok {a : α} {g : α → Sto → SOut} : (Out.ok a S).thn env g = g a S := (rfl)
@[simp] theorem thn_exc {c : Nat} {g : α → Sto → SOut} : (Out.exc c S : Out α).thn env g = .exc c env S := (rfl)
@[simp] theorem at_nx {g : FS} : (SOut.nx env S).andThen g = g env S := (rfl)
@[simp] theorem at_rt {w : Wv} {g : FS} : (SOut.rt w S).andThen g = .rt w S := (rfl)
@[simp] theorem at_exc {c : Nat} {g : FS} : (SOut.exc c env S).andThen g = .exc c env S := (rfl)
@[simp] theorem out_nx : (SOut.nx env S).out = .ok .non S := (rfl)
@[simp] theorem out_rt {w : Wv} : (SOut.rt w S).out = .ok w S := (rfl)
@[simp] theorem out_exc {c : Nat} : (SOut.exc c env S).out = .exc c S := (rfl)
@[simp] theorem sSeq_d {f g : FS} : sSeq f g env S = (f env S).andThen g := (rfl)
@[simp] theorem sNil_d : sNil env S = .nx env S := (rfl)
@[simp] theorem sSet_d {i : Nat} {fe : FE} : sSet i fe env S = (fe env S).thn env fun w S1 => .nx (env.set i (some w)) S1 := (rfl)
@[simp] theorem sExpr_d {fe : FE} : sExpr fe env S = (fe env S).thn env fun _ S1 => .nx env S1 := (rfl)
@[simp] theorem sRet_d {fe : FE} : sRet fe env S = (fe env S).thn env fun w S1 => .rt w S1 := (rfl)
@[simp] theorem sIf_d {ft : FT} {f g : FS} : sIf ft f g env S = (ft env S).thn env fun b S1 => if b = true then f env S1 else g env S1 := (rfl)
@[simp] theorem sRaise_d {c : Nat} : sRaise c env S = .exc c env S := (rfl)
@[simp] theorem sFor_d {fi : FI} {tg : Tg} {body : FS} : sFor fi tg body env S = (fi env S).thn env fun it S1 => forLoop it tg body it.len 0 env S1 := (rfl)
@[simp] theorem forLoop_d {tg : Tg} {body : FS} {ws : List Wv} : forLoop (.items ws) tg body (Itr.items ws).len 0 env S = forItems tg body ws env S := forLoop_items _ _ _ _ _
@[simp] theorem fVar_z {w : Wv} : fVar 0 (some w :: env) S = .ok w S := (rfl)
@[simp] theorem fVar_s {i : Nat} {x : Option Wv} : fVar (i + 1) (x :: env) S = fVar i env S := (rfl)
@[simp] theorem fC_d {w : Wv} : fC w env S = .ok w S := (rfl)
@[simp] theorem f1_d {g : Wv → Sto → Out Wv} {fa : FE} : f1 g fa env S = (fa env S).bind g := (rfl)
@[simp] theorem f2_d {g : Wv → Wv → Sto → Out Wv} {fa fb : FE} : f2 g fa fb env S = (fa env S).bind fun x S1 => (fb env S1).bind fun y S2 => g x y S2 := (rfl)
@[simp] theorem fN_d {g : List Wv → Sto → Out Wv} {fa : FA} : fN g fa env S = (fa env S).bind g := (rfl)
@[simp] theorem fNil_d : fNil env S = .ok [] S := (rfl)
@[simp] theorem fCons_d {fa : FE} {fr : FA} : fCons fa fr env S = (fa env S).bind fun x S1 => (fr env S1).bind fun xs S2 => .ok (x :: xs) S2 := (rfl)
def testK (x : Wv) (S : Sto) : Out Bool := match x with
  | .bl b => .ok b S
  | _ => .bad
@[simp] theorem testK_d {b : Bool} : testK (.bl b) S = .ok b S := (rfl)
@[simp] theorem fTest_d {fa : FE} : fTest fa env S = (fa env S).bind testK := (rfl)
@[simp] theorem fTAnd_d {fa fb : FT} : fTAnd fa fb env S = (fa env S).bind fun b S1 => if b = true then fb env S1 else .ok false S1 := (rfl)
@[simp] theorem fTOr_d {fa fb : FT} : fTOr fa fb env S = (fa env S).bind fun b S1 => if b = true then .ok true S1 else fb env S1 := (rfl)
@[simp] theorem fTNot_d {fa : FT} : fTNot fa env S = (fa env S).bind fun b S1 => .ok (!b) S1 := (rfl)
def andK (k : Sto → Out Wv) (x : Wv) (S : Sto) : Out Wv := match x with
  | .bl b => if b = true then k S else .ok (.bl false) S
  | _ => .bad
def orK (k : Sto → Out Wv) (x : Wv) (S : Sto) : Out Wv := match x with
  | .bl b => if b = true then .ok (.bl true) S else k S
  | _ => .bad
@[simp] theorem andK_d {k : Sto → Out Wv} {b : Bool} : andK k (.bl b) S = if b = true then k S else .ok (.bl false) S := (rfl)
@[simp] theorem orK_d {k : Sto → Out Wv} {b : Bool} : orK k (.bl b) S = if b = true then .ok (.bl true) S else k S := (rfl)
@[simp] theorem fAndV_d {fa fb : FE} : fAndV fa fb env S = (fa env S).bind (andK (fb env)) := by
  unfold fAndV
  congr 1
  funext x S1
  cases x with
  | bl b => cases b <;> rfl
  | _ => rfl
@[simp] theorem fOrV_d {fa fb : FE} : fOrV fa fb env S = (fa env S).bind (orK (fb env)) := by
  unfold fOrV
  congr 1
  funext x S1
  cases x with
  | bl b => cases b <;> rfl
  | _ => rfl
@[simp] theorem notP_d {b : Bool} : notP (.bl b) S = .ok (.bl (!b)) S := (rfl)
@[simp] theorem addI_d {i j : Int} : addI (.int i) (.int j) S = .ok (.int (i + j)) S := (rfl)
@[simp] theorem subI_d {i j : Int} : subI (.int i) (.int j) S = .ok (.int (i - j)) S := (rfl)
@[simp] theorem negI_d {i : Int} : negI (.int i) S = .ok (.int (-i)) S := (rfl)
@[simp] theorem cmpI_d {p : Int → Int → Bool} {i j : Int} : cmpI p (.int i) (.int j) S = .ok (.bl (p i j)) S := (rfl)
@[simp] theorem mulI_d {i j : Int} (h : (-(2 ^ 64) < i ∧ i < 2 ^ 64) ∨ (-(2 ^ 64) < j ∧ j < 2 ^ 64)) : mulI (.int i) (.int j) S = .ok (.int (i * j)) S := if_pos h
@[simp] theorem fdivI_d {i j : Int} (h : 0 < j ∧ j < 1073741824) : fdivI (.int i) (.int j) S = .ok (.int (i / j)) S := if_pos h
@[simp] theorem modI_d {i j : Int} (h : 0 < j) : modI (.int i) (.int j) S = .ok (.int (i % j)) S := if_pos h
@[simp] theorem pow_0 : powI (.int 10) (.int 5) S = .ok (.int 100000) S := (rfl)
@[simp] theorem pow_1 : powI (.int 10) (.int 6) S = .ok (.int 1000000) S := (rfl)
@[simp] theorem pow_2 : powI (.int 10) (.int 7) S = .ok (.int 10000000) S := (rfl)
@[simp] theorem pow_3 : powI (.int 10) (.int 9) S = .ok (.int 1000000000) S := (rfl)
@[simp] theorem pow_4 : powI (.int 10) (.int 13) S = .ok (.int 10000000000000) S := (rfl)
@[simp] theorem pow_5 : powI (.int 10) (.int 15) S = .ok (.int 1000000000000000) S := (rfl)
@[simp] theorem pow_6 : powI (.int 10) (.int 18) S = .ok (.int 1000000000000000000) S := (rfl)
@[simp] theorem eqI_d {i j : Int} : eqP (.int i) (.int j) S = .ok (.bl (decide (i = j))) S := (rfl)
@[simp] theorem eqS_d {i j : Str} : eqP (.str i) (.str j) S = .ok (.bl (decide (i = j))) S := (rfl)
@[simp] theorem neI_d {i j : Int} : neP (.int i) (.int j) S = .ok (.bl (!decide (i = j))) S := (rfl)
@[simp] theorem neS_d {i j : Str} : neP (.str i) (.str j) S = .ok (.bl (!decide (i = j))) S := (rfl)
@[simp] theorem neB_d {i j : Bool} : neP (.bl i) (.bl j) S = .ok (.bl (!decide (i = j))) S := (rfl)
@[simp] theorem is_int_int {i : Int} : isP .int (.int i) S = .ok (.bl true) S := (rfl)
@[simp] theorem is_int_bl {i : Bool} : isP .int (.bl i) S = .ok (.bl true) S := (rfl)
@[simp] theorem is_bl_int {i : Int} : isP .bl (.int i) S = .ok (.bl false) S := (rfl)
@[simp] theorem is_bl_bl {i : Bool} : isP .bl (.bl i) S = .ok (.bl true) S := (rfl)
@[simp] theorem is_lst_lst {ws : List Wv} : isP .lst (.lst ws) S = .ok (.bl true) S := (rfl)
@[simp] theorem is_tup_tup {ws : List Wv} : isP .tup (.tup ws) S = .ok (.bl true) S := (rfl)
@[simp] theorem is_lst_ref {k : Nat} {ws : List Wv} (h : S[k]? = some (.lst ws)) : isP .lst (.ref k) S = .ok (.bl true) S := by
  simp only [isP, tyOf, h]
  rfl
@[simp] theorem tupP_d {ws : List Wv} (h : lenOk ws.length = true) : tupP ws S = .ok (.tup ws) S := if_pos h
@[simp] theorem lstP_d {live : Bool} {ws : List Wv} (h : lenOk ws.length = true) : lstP live ws S = mkL live ws S := if_pos h
@[simp] theorem mkL_t {ws : List Wv} : mkL true ws S = .ok (.ref S.length) (S ++ [.lst ws]) := (rfl)
@[simp] theorem mkL_f {ws : List Wv} : mkL false ws S = .ok (.lst ws) S := (rfl)
@[simp] theorem lenP_lst {ws : List Wv} : lenP [.lst ws] S = .ok (.int ws.length) S := (rfl)
@[simp] theorem lenP_tup {ws : List Wv} : lenP [.tup ws] S = .ok (.int ws.length) S := (rfl)
@[simp] theorem lenP_scr {ws : List Int} : lenP [.scr ws] S = .ok (.int ws.length) S := by
  show Out.ok (Wv.int ((ws.map Wv.int).length : Nat)) S = _
  rw [List.length_map]
@[simp] theorem lenP_ref {k : Nat} {ws : List Wv} (h : S[k]? = some (.lst ws)) : lenP [.ref k] S = .ok (.int ws.length) S := by
  simp only [lenP, seqOf, h]
@[simp] theorem tupleP_lst {ws : List Wv} : tupleP [.lst ws] S = .ok (.tup ws) S := (rfl)
def rng1K (ws : List Wv) (S : Sto) : Out Itr := match ws with
  | [.int n] => if -(2 ^ 62) ≤ n ∧ n < 2 ^ 62 then .ok (.items (rangeW 0 n.toNat)) S else .bad
  | _ => .bad
@[simp] theorem itRng1_d {fr : FA} : itRng1 fr env S = (fr env S).bind rng1K := (rfl)
@[simp] theorem rng1K_d {n : Int} (h : -(2 ^ 62) ≤ n ∧ n < 2 ^ 62) : rng1K [.int n] S = .ok (.items (rangeW 0 n.toNat)) S := if_pos h
def tupK (w : Wv) (S : Sto) : Out Itr := match w with
  | .tup ws => .ok (.items ws) S
  | _ => .bad
@[simp] theorem itTup_d {fa : FE} : itTup fa env S = (fa env S).bind tupK := (rfl)
@[simp] theorem tupK_d {ws : List Wv} : tupK (.tup ws) S = .ok (.items ws) S := (rfl)
def lcK (live : Bool) (own : List Nat) (tg : Tg) (cond : FT) (elt : FE) (env : Env) (it : Itr) (S1 : Sto) : Out Wv := if lenOk it.len = true then
  (lcLoop it tg cond elt (wipeE env own) it.len 0 S1).nox.bind fun ws S2 => mkL live ws S2 else .bad
@[simp] theorem fLc_d {live : Bool} {fi : FI} {own : List Nat} {tg : Tg} {cond : FT} {elt : FE} : fLc live fi own tg cond elt env S = (fi env S).bind (lcK live own tg cond elt env) := (rfl)
@[simp] theorem lcK_d {live : Bool} {own : List Nat} {tg : Tg} {cond : FT} {elt : FE} {ws : List Wv} (h : lenOk ws.length = true) : lcK live own tg cond elt env (.items ws) S = (lcItems tg cond elt (wipeE env own) ws S).nox.bind fun us S2 => mkL live us S2 := by
  unfold lcK
  have e : lcLoop (.items ws) tg cond elt (wipeE env own) (Itr.items ws).len 0 S = lcItems tg cond elt (wipeE env own) ws S := lcLoop_items _ _ _ _ _ _
  rw [if_pos (show lenOk (Itr.items ws).len = true from h), e]
end
/-- the cell k of the script, or nought -/
def cellAt (ns : List Int) (k : Nat) : Int := ns[k]?.getD 0
end CL
namespace CL
open PySem PySem.Spec PyProof.Rows L2
abbrev mI (ns : List Int) : List Wv := ns.map .int
section
variable {S : Sto} {env : Env} {ws : List Wv} {ns : List Int} {k : Nat} {w x : Wv}
@[simp] theorem seqOf_lst : seqOf S (.lst ws) = some ws := (rfl)
@[simp] theorem seqOf_scr : seqOf S (.scr ns) = some (ns.map .int) := (rfl)
@[simp] theorem seqOf_tup : seqOf S (.tup ws) = none := (rfl)
@[simp] theorem seqOf_str {z : Str} : seqOf S (.str z) = none := (rfl)
theorem seqOf_ref (h : S[k]? = some (.lst ws)) : seqOf S (.ref k) = some ws := by simp only [seqOf, h]
@[simp] theorem seqTup_lst : seqTup S (.lst ws) = some ws := (rfl)
@[simp] theorem seqTup_scr : seqTup S (.scr ns) = some (ns.map .int) := (rfl)
@[simp] theorem seqTup_tup : seqTup S (.tup ws) = some ws := (rfl)
theorem seqTup_ref (h : S[k]? = some (.lst ws)) : seqTup S (.ref k) = some ws := by simp only [seqTup, seqOf, h]
theorem liveL_ref (h : S[k]? = some (.lst ws)) : liveL S (.ref k) = some (k, ws) := by simp only [liveL, h]
@[simp] theorem tyOf_lst : tyOf S (.lst ws) = some .lst := (rfl)
@[simp] theorem tyOf_tup : tyOf S (.tup ws) = some .tup := (rfl)
@[simp] theorem tyOf_str {z : Str} : tyOf S (.str z) = some .str := (rfl)
@[simp] theorem tyOf_int {z : Int} : tyOf S (.int z) = some .int := (rfl)
@[simp] theorem tyOf_bl {z : Bool} : tyOf S (.bl z) = some .bl := (rfl)
@[simp] theorem tyOf_non : tyOf S .non = some .non := (rfl)
theorem tyOf_ref (h : S[k]? = some (.lst ws)) : tyOf S (.ref k) = some .lst := by simp only [tyOf, h]
theorem tyOf_dct {es} (h : S[k]? = some (.dct es)) : tyOf S (.ref k) = some .dct := by simp only [tyOf, h]
@[simp] theorem tgName_d {i : Nat} : tgName i w env S = some (env.set i (some w)) := (rfl)
@[simp] theorem tgTup_d {is : List Nat} : tgTup is (.tup ws) env S = if ws.length = is.length then some (setAll is ws env) else none := (rfl)
@[simp] theorem setAll_c {i : Nat} {is : List Nat} : setAll (i :: is) (w :: ws) env = setAll is ws (env.set i (some w)) := (rfl)
@[simp] theorem setAll_n : setAll [] ws env = env := by cases ws <;> rfl
@[simp] theorem sAsg_d {tg : Tg} {fe : FE} : sAsg tg fe env S = (fe env S).thn env fun w S1 => match tg w env S1 with
  | some e => .nx e S1
  | none => .bad := (rfl)
theorem idx_seq {i : Int} {xs : List Wv} (h : seqOf S w = some xs) (h2 : atI xs i = some x) : idxP w (.int i) S = .ok x S := by simp only [idxP, h, h2]
theorem idx_tup {i : Int} (h2 : atI ws i = some x) : idxP (.tup ws) (.int i) S = .ok x S := by simp only [idxP, seqOf_tup, h2]
theorem idx_lst {i : Int} (h2 : atI ws i = some x) : idxP (.lst ws) (.int i) S = .ok x S := idx_seq rfl h2
theorem idx_ref {i : Int} (h : S[k]? = some (.lst ws)) (h2 : atI ws i = some x) : idxP (.ref k) (.int i) S = .ok x S := idx_seq (seqOf_ref h) h2
@[simp] theorem fBM_d {t : Ty} {g : Wv → List Wv → Sto → Out Wv} {fo : FE} {fr : FA} : fBM t g fo fr env S = (fo env S).bind fun w S1 => if tyOf S1 w = some t then (fr env S1).bind fun ws S2 => g w ws S2 else .bad := (rfl)
@[simp] theorem fSl_d {live : Bool} {fo : FE} {fl fh : Env → Sto → Out (Option Int)} : fSl live fo fl fh env S = (fo env S).bind fun w S1 => (fl env S1).bind fun lo S2 => (fh env S2).bind fun hi S3 => slP live w lo hi S3 := (rfl)
@[simp] theorem fNoPart_d : fNoPart env S = .ok none S := (rfl)
def partK (x : Wv) (S1 : Sto) : Out (Option Int) := match x with
  | .int i => .ok (some i) S1
  | _ => .bad
@[simp] theorem partK_d {i : Int} : partK (.int i) S = .ok (some i) S := (rfl)
@[simp] theorem fPart_d {fa : FE} : fPart fa env S = (fa env S).bind partK := (rfl)
theorem app_ref (h : S[k]? = some (.lst ws)) (hl : lenOk ws.length = true) : appP (.ref k) [x] S = .ok .non (S.set k (.lst (ws ++ [x]))) := by simp only [appP, liveL_ref h, hl, if_true]
theorem sumP_seq (h : seqTup S w = some (ns.map .int)) : sumP [w] S = .ok (.int ns.sum) S := by simp only [sumP, h, intsOf_map]
@[simp] theorem sumP_tup : sumP [.tup (ns.map .int)] S = .ok (.int ns.sum) S := sumP_seq rfl
@[simp] theorem sumP_lst : sumP [.lst (ns.map .int)] S = .ok (.int ns.sum) S := sumP_seq rfl
@[simp] theorem sumP_scr : sumP [.scr ns] S = .ok (.int ns.sum) S := sumP_seq rfl
theorem sumP_ref (h : S[k]? = some (.lst (ns.map .int))) : sumP [.ref k] S = .ok (.int ns.sum) S := sumP_seq (seqTup_ref h)
theorem lenOk_t {n : Nat} (h : n ≤ 1000000) : lenOk n = true := decide_eq_true h
end
theorem atI_n {α : Type} {xs : List α} {k : Nat} : atI xs (k : Int) = xs[k]? := by
  cases h : xs[k]? with
  | some v => exact atI_nat h
  | none =>
    have hk : xs.length ≤ k := List.getElem?_eq_none_iff.mp h
    unfold atI ixN
    simp
    omega
theorem cut_take {α : Type} {xs : List α} {n : Int} (h0 : 0 ≤ n) : cutA xs none (some n) = xs.take n.toNat := by
  obtain ⟨m, rfl⟩ : ∃ m : Nat, n = m := ⟨n.toNat, by omega⟩
  unfold cutA
  rw [HT.sIx_none, HT.sIx_nat, List.drop_zero, Nat.sub_zero, Int.toNat_natCast]
  apply List.ext_getElem?
  intro i
  simp only [List.getElem?_take]
  by_cases h : i < m
  · by_cases h2 : i < xs.length
    · rw [if_pos (by omega), if_pos h]
    · rw [if_neg (by omega), if_pos h, List.getElem?_eq_none (by omega)]
  · rw [if_neg (by omega), if_neg h]
@[simp high] theorem cut_takeM {α β : Type} {f : α → β} {xs : List α} {n : Nat} : cutA (xs.map f) none (some (n : Int)) = (xs.take n).map f := by
  rw [cut_take (by omega), Int.toNat_natCast, List.map_take]
@[simp high] theorem cut_takeM1 {α β : Type} {f : α → β} {xs : List α} {n : Nat} : cutA (xs.map f) none (some ((n : Int) + 1)) = (xs.take (n + 1)).map f := cut_takeM (n := n + 1)
@[simp] theorem slP_tup {live : Bool} {ws : List Wv} {lo hi : Option Int} {S : Sto} : slP live (.tup ws) lo hi S = .ok (.tup (cutA ws lo hi)) S := (rfl)
@[simp] theorem slP_lst {live : Bool} {ws : List Wv} {lo hi : Option Int} {S : Sto} : slP live (.lst ws) lo hi S = mkL live (cutA ws lo hi) S := (rfl)
theorem slP_ref {live : Bool} {k : Nat} {ws : List Wv} {lo hi : Option Int} {S : Sto} (h : S[k]? = some (.lst ws)) : slP live (.ref k) lo hi S = mkL live (cutA ws lo hi) S := by simp only [slP, seqOf, h]
theorem fVar_get {env : Env} {S : Sto} {i : Nat} {w : Wv} (h : env[i]? = some (some w)) : fVar i env S = .ok w S := by simp only [fVar, h]
theorem set_get {S : Sto} {k : Nat} {o o' : Ob} (h : S[k]? = some o) : (S.set k o')[k]? = some o' := by
  have := (List.getElem?_eq_some_iff.mp h).1
  simp [this]
theorem set_self {S : Sto} {k : Nat} {o : Ob} (h : S[k]? = some o) : S.set k o = S := by
  apply List.ext_getElem?
  intro i
  by_cases e : k = i
  · subst e; rw [set_get h, h]
  · rw [List.getElem?_set_ne e]
theorem seq_nx {f g : FS} {env e : Env} {S S' : Sto} (h : f env S = .nx e S') : sSeq f g env S = g e S' := by rw [sSeq_d, h, at_nx]
theorem forItems_nil {tg : Tg} {body : FS} {env : Env} {S : Sto} : forItems tg body [] env S = .nx env S := rfl
theorem forItems_cons {tg : Tg} {body : FS} {w : Wv} {ws : List Wv} {env env1 env2 : Env} {S S1 : Sto} (h : tg w env S = some env1) (h2 : body env1 S = .nx env2 S1) : forItems tg body (w :: ws) env S = forItems tg body ws env2 S1 := by
  simp only [forItems, h, h2]

/-! ### items of a written list -/
def nthI (l : List Int) (i : Int) : Int := l.getD i.toNat 0
theorem nthI_mem {l : List Int} {i : Int} (h0 : 0 ≤ i) (h : i < l.length) : nthI l i ∈ l := by
  unfold nthI
  have : i.toNat < l.length := by omega
  rw [List.getD_eq_getElem?_getD, List.getElem?_eq_getElem this]
  exact List.getElem_mem _
theorem nthI_mod {l : List Int} {e n : Int} (hn : 0 < n) (h : (l.length : Int) = n) : nthI l (e % n) ∈ l := nthI_mem (Int.emod_nonneg _ (by omega)) (by have := Int.emod_lt_of_pos e hn; omega)
theorem idxI {S : Sto} {l : List Int} {i : Int} (h0 : 0 ≤ i) (h : i < l.length) : idxP (.lst (l.map .int)) (.int i) S = .ok (.int (nthI l i)) S := by
  have : i.toNat < l.length := by omega
  refine idx_lst ?_
  rw [atI_get? h0 (by rw [List.length_map]; exact this), List.getElem?_map]
  unfold nthI
  rw [List.getD_eq_getElem?_getD, List.getElem?_eq_getElem this]
  rfl
theorem idxIm {S : Sto} {l : List Int} {e n : Int} (hn : 0 < n) (h : (l.length : Int) = n) : idxP (.lst (l.map .int)) (.int (e % n)) S = .ok (.int (nthI l (e % n))) S := idxI (Int.emod_nonneg _ (by omega)) (by have := Int.emod_lt_of_pos e hn; omega)
section
variable {S : Sto} {e a b c d f g h i : Int}
@[simp] theorem idxI2 : idxP (.lst [.int a, .int b]) (.int (e % 2)) S = .ok (.int (nthI [a, b] (e % 2))) S := idxIm (l := [a, b]) (by decide) rfl
@[simp] theorem idxI3 : idxP (.lst [.int a, .int b, .int c]) (.int (e % 3)) S = .ok (.int (nthI [a, b, c] (e % 3))) S := idxIm (l := [a, b, c]) (by decide) rfl
@[simp] theorem idxI4 : idxP (.lst [.int a, .int b, .int c, .int d]) (.int (e % 4)) S = .ok (.int (nthI [a, b, c, d] (e % 4))) S := idxIm (l := [a, b, c, d]) (by decide) rfl
@[simp] theorem idxI5 : idxP (.lst [.int a, .int b, .int c, .int d, .int f]) (.int (e % 5)) S = .ok (.int (nthI [a, b, c, d, f] (e % 5))) S := idxIm (l := [a, b, c, d, f]) (by decide) rfl
@[simp] theorem idxI6 : idxP (.lst [.int a, .int b, .int c, .int d, .int f, .int g]) (.int (e % 6)) S = .ok (.int (nthI [a, b, c, d, f, g] (e % 6))) S := idxIm (l := [a, b, c, d, f, g]) (by decide) rfl
@[simp] theorem idx0 {x : Wv} {xs : List Wv} : idxP (.tup (x :: xs)) (.int 0) S = .ok x S := idx_tup (by rw [show (0 : Int) = ((0 : Nat) : Int) from rfl, atI_n]; rfl)
@[simp] theorem idx1 {x y : Wv} {xs : List Wv} : idxP (.tup (x :: y :: xs)) (.int 1) S = .ok y S := idx_tup (by rw [show (1 : Int) = ((1 : Nat) : Int) from rfl, atI_n]; rfl)
@[simp] theorem idx2 {x y z : Wv} {xs : List Wv} : idxP (.tup (x :: y :: z :: xs)) (.int 2) S = .ok z S := idx_tup (by rw [show (2 : Int) = ((2 : Nat) : Int) from rfl, atI_n]; rfl)
@[simp] theorem idx3 {x y z u : Wv} {xs : List Wv} : idxP (.tup (x :: y :: z :: u :: xs)) (.int 3) S = .ok u S := idx_tup (by rw [show (3 : Int) = ((3 : Nat) : Int) from rfl, atI_n]; rfl)
end
/-! ### tests chained, all, texts -/
section
variable {S : Sto} {env : Env}
@[simp] theorem fChain_d {p q : Int → Int → Bool} {fa fb fc : FE} : fChain p q fa fb fc env S = (fa env S).bind fun x S1 => (fb env S1).bind fun y S2 => (cmpI p x y S2).bind (chainK (cmpI q) y (fc env)) := (rfl)
@[simp] theorem chainK_d {g2 : Wv → Wv → Sto → Out Wv} {y : Wv} {fc : Sto → Out Wv} {b : Bool} : chainK g2 y fc (.bl b) S = if b = true then (fc S).bind fun w S1 => g2 y w S1 else .ok (.bl false) S := (rfl)
theorem blsOf_m {α : Type} {f : α → Bool} {l : List α} : blsOf (l.map fun x => .bl (f x)) = some (l.map f) := by
  have := blsOf_map (l.map f)
  rwa [List.map_map] at this
theorem allP_m {α : Type} {f : α → Bool} {l : List α} : allP [.lst (l.map fun x => .bl (f x))] S = .ok (.bl (l.all f)) S := by
  simp only [allP, seqOf_lst, blsOf_m, List.all_map]
  rfl
@[simp] theorem isBl_d {a b : Bool} : isBlP (.bl a) (.bl b) S = .ok (.bl (decide (a = b))) S := (rfl)
@[simp] theorem notBl_d {a b : Bool} : notBlP (.bl a) (.bl b) S = .ok (.bl (!decide (a = b))) S := (rfl)
@[simp] theorem isP_tup {t : Ty} {ws : List Wv} : isP t (.tup ws) S = .ok (.bl (isT .tup t)) S := (rfl)
@[simp] theorem isP_lst {t : Ty} {ws : List Wv} : isP t (.lst ws) S = .ok (.bl (isT .lst t)) S := (rfl)
@[simp] theorem isP_int {t : Ty} {i : Int} : isP t (.int i) S = .ok (.bl (isT .int t)) S := (rfl)
@[simp] theorem isP_str {t : Ty} {i : Str} : isP t (.str i) S = .ok (.bl (isT .str t)) S := (rfl)
@[simp] theorem isP_bl {t : Ty} {i : Bool} : isP t (.bl i) S = .ok (.bl (isT .bl t)) S := (rfl)
@[simp] theorem isP_non {t : Ty} : isP t .non S = .ok (.bl (isT .non t)) S := (rfl)
theorem isP_dct {t : Ty} {k : Nat} {d : Ks} (h : S[k]? = some (.dct d)) : isP t (.ref k) S = .ok (.bl (isT .dct t)) S := by simp only [isP, tyOf, h]
theorem isP_ref {t : Ty} {k : Nat} {d : List Wv} (h : S[k]? = some (.lst d)) : isP t (.ref k) S = .ok (.bl (isT .lst t)) S := by simp only [isP, tyOf, h]
@[simp] theorem isT_d {t : Ty} (h : t ≠ .bl) {c : Ty} : isT t c = decide (t = c) := by cases t <;> first | rfl | exact absurd rfl h
@[simp] theorem isT_bi : isT .bl .int = true := rfl
@[simp] theorem isT_bb : isT .bl .bl = true := rfl
@[simp] theorem isT_bt : isT .bl .tup = false := rfl
@[simp] theorem isT_bs : isT .bl .str = false := rfl
@[simp] theorem isT_blst : isT .bl .lst = false := rfl
end

/-! ### == of data, shown once -/
def okW : Nat → Wv → Bool
  | _, .non => true
  | _, .bl _ => true
  | _, .int _ => true
  | _, .str z => PyData.strOk z
  | n + 1, .tup ws => ws.all (okW n)
  | n + 1, .lst ws => ws.all (okW n)
  | _, _ => false
theorem all_D {S : Sto} {n : Nat} (ih : ∀ w, okW n w = true → ∃ d, toD S n w = some d ∧ d.canLay0 = true ∧ d.depth ≤ n) : ∀ ws : List Wv, ws.all (okW n) = true → ∃ ds, optAll (toD S n) ws = some ds ∧ PyData.canLayAll0 ds = true ∧ PyData.depthAll ds ≤ n ∧ ds.length = ws.length
  | [], _ => ⟨[], rfl, rfl, Nat.zero_le _, rfl⟩
  | w :: r, h => by
    rw [List.all_cons, Bool.and_eq_true] at h
    obtain ⟨d, h1, h2, h3⟩ := ih w h.1
    obtain ⟨ds, h4, h5, h6, h7⟩ := all_D ih r h.2
    refine ⟨d :: ds, by simp only [optAll, h1, h4, Option.map_some], ?_, ?_, by rw [List.length_cons, List.length_cons, h7]⟩
    · rw [PyData.canLayAll0, h2, h5]; rfl
    · rw [PyData.depthAll]; omega
theorem toD_okW {S : Sto} : ∀ (n : Nat) (w : Wv), okW n w = true → ∃ d, toD S n w = some d ∧ d.canLay0 = true ∧ d.depth ≤ n
  | n, .non, _ => ⟨.none, by cases n <;> rfl, rfl, Nat.zero_le _⟩
  | n, .bl b, _ => ⟨.bool b, by cases n <;> rfl, rfl, Nat.zero_le _⟩
  | n, .int b, _ => ⟨.int b, by cases n <;> rfl, rfl, Nat.zero_le _⟩
  | n, .str b, h => ⟨.str b, by cases n <;> rfl, by cases n <;> exact h, Nat.zero_le _⟩
  | n + 1, .tup ws, h => by
    obtain ⟨ds, h1, h2, h3, _⟩ := all_D (S := S) (toD_okW n) ws h
    exact ⟨.tuple ds, by simp only [toD, h1, Option.map_some], h2, by rw [PyData.depth]; omega⟩
  | n + 1, .lst ws, h => by
    obtain ⟨ds, h1, h2, h3, _⟩ := all_D (S := S) (toD_okW n) ws h
    exact ⟨.list ds, by simp only [toD, h1, Option.map_some], h2, by rw [PyData.depth]; omega⟩
  | 0, .tup _, h => by cases h
  | 0, .lst _, h => by cases h
  | 0, .scr _, h => by cases h
  | _ + 1, .scr _, h => by cases h
  | 0, .ref _, h => by cases h
  | _ + 1, .ref _, h => by cases h
  | 0, .exn _, h => by cases h
  | _ + 1, .exn _, h => by cases h
theorem shaped_of {d : PyData} {n : Nat} (h1 : d.canLay0 = true) (h2 : d.depth ≤ n) (hn : n ≤ 64) : SeqAt.shaped d = true := by
  unfold SeqAt.shaped
  rw [h1, Bool.true_and]
  exact decide_eq_true (by omega)
theorem eqDeep_of {S : Sto} {x y : Wv} {d e : PyData} (h1 : toD S 9 x = some d) (h2 : d.canLay0 = true) (h3 : d.depth ≤ 9) (k1 : toD S 9 y = some e) (k2 : e.canLay0 = true) (k3 : e.depth ≤ 9) : eqDeep S x y = some (PyData.eqv d e) := by
  simp only [eqDeep, h1, k1, shaped_of h2 h3 (by decide), shaped_of k2 k3 (by decide), and_self, if_true]
section
variable {S : Sto} {ws us : List Wv}
theorem eqP_tup {b : Bool} (h : eqDeep S (.tup ws) (.tup us) = some b) : eqP (.tup ws) (.tup us) S = .ok (.bl b) S := by simp only [eqP, h]
theorem neP_tup {b : Bool} (h : eqDeep S (.tup ws) (.tup us) = some b) : neP (.tup ws) (.tup us) S = .ok (.bl (!b)) S := by simp only [neP, h]
theorem eqP_lst {b : Bool} (h : eqDeep S (.lst ws) (.lst us) = some b) : eqP (.lst ws) (.lst us) S = .ok (.bl b) S := by simp only [eqP, h]
theorem neP_lst {b : Bool} (h : eqDeep S (.lst ws) (.lst us) = some b) : neP (.lst ws) (.lst us) S = .ok (.bl (!b)) S := by simp only [neP, h]
theorem eqP_ref {k : Nat} {b : Bool} (h : eqDeep S (.ref k) (.lst us) = some b) : eqP (.ref k) (.lst us) S = .ok (.bl b) S := by simp only [eqP, h]
theorem neP_ref {k : Nat} {b : Bool} (h : eqDeep S (.ref k) (.lst us) = some b) : neP (.ref k) (.lst us) S = .ok (.bl (!b)) S := by simp only [neP, h]
theorem nil_eqv {ds : List PyData} : PyData.eqvAll ds [] = ds.isEmpty := by cases ds <;> rfl
theorem deep_tup_nil (h : okW 9 (.tup ws) = true) : eqDeep S (.tup ws) (.tup []) = some ws.isEmpty := by
  obtain ⟨ds, h1, h2, h3, h4⟩ := all_D (S := S) (toD_okW 8) ws h
  have e := eqDeep_of (S := S) (x := .tup ws) (y := .tup []) (d := .tuple ds) (e := .tuple []) (by simp only [toD, h1, Option.map_some]) h2 (by rw [PyData.depth]; omega) rfl rfl (by decide)
  rw [e, PyData.eqv, nil_eqv]
  congr 1
  cases ds with
  | nil => cases ws with
    | nil => rfl
    | cons _ _ => cases h4
  | cons _ _ => cases ws with
    | nil => cases h4
    | cons _ _ => rfl
theorem deep_lst_nil (h : okW 9 (.lst ws) = true) : eqDeep S (.lst ws) (.lst []) = some ws.isEmpty := by
  obtain ⟨ds, h1, h2, h3, h4⟩ := all_D (S := S) (toD_okW 8) ws h
  have e := eqDeep_of (S := S) (x := .lst ws) (y := .lst []) (d := .list ds) (e := .list []) (by simp only [toD, h1, Option.map_some]) h2 (by rw [PyData.depth]; omega) rfl rfl (by decide)
  rw [e, PyData.eqv, nil_eqv]
  congr 1
  cases ds with
  | nil => cases ws with
    | nil => rfl
    | cons _ _ => cases h4
  | cons _ _ => cases ws with
    | nil => cases h4
    | cons _ _ => rfl
theorem deep_ref_nil {k : Nat} (hk : S[k]? = some (.lst ws)) (h : okW 9 (.lst ws) = true) : eqDeep S (.ref k) (.lst []) = some ws.isEmpty := by
  rw [← deep_lst_nil (S := S) h]
  simp only [eqDeep, toD, hk]
theorem deep_refl {x : Wv} (h : okW 9 x = true) : eqDeep S x x = some true := by
  obtain ⟨d, h1, h2, h3⟩ := toD_okW (S := S) 9 x h
  rw [eqDeep_of h1 h2 h3 h1 h2 h3, SeqAt.eqv_refl d h2]
theorem ints_eqv : ∀ ns ms : List Int, PyData.eqvAll (ns.map .int) (ms.map .int) = decide (ns = ms)
  | [], [] => rfl
  | [], _ :: _ => rfl
  | _ :: _, [] => rfl
  | n :: r, m :: r' => by
    rw [List.map_cons, List.map_cons, PyData.eqvAll, ints_eqv r r', PyData.eqv]
    by_cases h : n = m
    · subst h; simp
    · simp [h]
theorem ints_D {n : Nat} : ∀ ns : List Int, optAll (toD S n) (ns.map .int) = some (ns.map .int)
  | [] => rfl
  | a :: r => by
    have : toD S n (.int a) = some (.int a) := by cases n <;> rfl
    rw [List.map_cons, optAll, this]
    simp only [ints_D r, Option.map_some, List.map_cons]
theorem ints_lay : ∀ ns : List Int, PyData.canLayAll0 (ns.map .int) = true
  | [] => rfl
  | a :: r => by rw [List.map_cons, PyData.canLayAll0, ints_lay r]; rfl
theorem ints_dep : ∀ ns : List Int, PyData.depthAll (ns.map .int) = 0
  | [] => rfl
  | a :: r => by rw [List.map_cons, PyData.depthAll, ints_dep r]; rfl
theorem deep_ints {ns ms : List Int} : eqDeep S (.lst (ns.map .int)) (.lst (ms.map .int)) = some (decide (ns = ms)) := by
  rw [eqDeep_of (d := .list (ns.map .int)) (e := .list (ms.map .int)) (by simp only [toD, ints_D, Option.map_some]) (ints_lay ns) (by rw [PyData.depth, ints_dep]; decide) (by simp only [toD, ints_D, Option.map_some]) (ints_lay ms) (by rw [PyData.depth, ints_dep]; decide), PyData.eqv, ints_eqv]
@[simp] theorem eqP_ints {ns ms : List Int} : eqP (.lst (ns.map .int)) (.lst (ms.map .int)) S = .ok (.bl (decide (ns = ms))) S := eqP_lst deep_ints
@[simp] theorem neP_ints {ns ms : List Int} : neP (.lst (ns.map .int)) (.lst (ms.map .int)) S = .ok (.bl (!decide (ns = ms))) S := neP_lst deep_ints
end
theorem idx_mem (ws : List Wv) (e n : Int) (hn : 0 < n) (h : (ws.length : Int) = n) : ∃ x, x ∈ ws ∧ ∀ S, idxP (.lst ws) (.int (e % n)) S = .ok x S := by
  have h0 : 0 ≤ e % n := Int.emod_nonneg _ (by omega)
  have h1 := Int.emod_lt_of_pos e hn
  have h2 : (e % n).toNat < ws.length := by omega
  exact ⟨ws[(e % n).toNat], List.getElem_mem _, fun S => idx_lst (atI_ok h0 h2)⟩
theorem cut_drop {α : Type} {xs : List α} {n : Int} (h0 : 0 ≤ n) : cutA xs (some n) none = xs.drop n.toNat := by
  obtain ⟨m, rfl⟩ : ∃ m : Nat, n = m := ⟨n.toNat, by omega⟩
  unfold cutA
  rw [HT.sIx_none, HT.sIx_nat, Int.toNat_natCast]
  apply List.ext_getElem?
  intro i
  simp only [List.getElem?_take, List.getElem?_drop]
  by_cases h2 : m ≤ xs.length
  · rw [Nat.min_eq_left h2]
    split
    · rfl
    · rw [List.getElem?_eq_none (by omega)]
  · rw [Nat.min_eq_right (by omega)]
    split
    · omega
    · rw [List.getElem?_eq_none (by omega)]
@[simp] theorem cut_dropN {α : Type} {xs : List α} {n : Nat} : cutA xs (some (n : Int)) none = xs.drop n := by rw [cut_drop (by omega), Int.toNat_natCast]
@[simp] theorem cut_dropN1 {α : Type} {xs : List α} {n : Nat} : cutA xs (some ((n : Int) + 1)) none = xs.drop (n + 1) := cut_dropN (n := n + 1)
@[simp] theorem cut_takeN {α : Type} {xs : List α} {n : Nat} : cutA xs none (some (n : Int)) = xs.take n := by rw [cut_take (by omega), Int.toNat_natCast]
@[simp] theorem cut_takeN1 {α : Type} {xs : List α} {n : Nat} : cutA xs none (some ((n : Int) + 1)) = xs.take (n + 1) := cut_takeN (n := n + 1)
@[simp] theorem cut_d1 {α : Type} {xs : List α} : cutA xs (some 1) none = xs.drop 1 := cut_dropN (n := 1)
@[simp] theorem cut_d2 {α : Type} {xs : List α} : cutA xs (some 2) none = xs.drop 2 := cut_dropN (n := 2)
@[simp] theorem cut_t1 {α : Type} {xs : List α} : cutA xs none (some 1) = xs.take 1 := cut_takeN (n := 1)
@[simp] theorem cut_t2 {α : Type} {xs : List α} : cutA xs none (some 2) = xs.take 2 := cut_takeN (n := 2)
@[simp] theorem cut_t3 {α : Type} {xs : List α} : cutA xs none (some 3) = xs.take 3 := cut_takeN (n := 3)
section
variable {S : Sto}
@[simp] theorem catT_d {xs ys : List Wv} : catT (.tup xs) (.tup ys) S = if lenOk (xs.length + ys.length) = true then .ok (.tup (xs ++ ys)) S else .bad := by simp only [catT]
@[simp] theorem catL_d {live : Bool} {xs ys : List Wv} : catL live (.lst xs) (.lst ys) S = if lenOk (xs.length + ys.length) = true then mkL live (xs ++ ys) S else .bad := by simp only [catL, lstOf]
end
theorem lc_map {tg : Tg} {elt : FE} {env0 : Env} {S : Sto} (v : Wv → Wv) : ∀ {ws : List Wv}, (∀ w ∈ ws, ∃ env1, tg w env0 S = some env1 ∧ elt env1 S = .ok (v w) S) → lcItems tg fYes elt env0 ws S = .ok (ws.map v) S
  | [], _ => rfl
  | w :: r, h => by
    obtain ⟨env1, h1, h2⟩ := h w (by simp)
    simp only [lcItems, h1, fYes, Out.nox, Out.bind, if_true, h2, lc_map v (ws := r) fun w hw => h w (by simp [hw]), List.map_cons]
@[simp] theorem fDNew_d {env : Env} {S : Sto} : fDNew env S = .ok (.ref S.length) (S ++ [.dct []]) := (rfl)
theorem sIf_t {ft : FT} {f g : FS} {env : Env} {S S1 : Sto} (h : ft env S = .ok true S1) : sIf ft f g env S = f env S1 := by rw [sIf_d, h, thn_ok, if_pos rfl]
theorem sIf_f {ft : FT} {f g : FS} {env : Env} {S S1 : Sto} (h : ft env S = .ok false S1) : sIf ft f g env S = g env S1 := by rw [sIf_d, h, thn_ok, if_neg Bool.false_ne_true]
@[simp] theorem eqP_tn {S : Sto} : eqP (.tup []) (.tup []) S = .ok (.bl true) S := eqP_tup (deep_tup_nil rfl)
def min2 (i j : Int) : Int := if j < i then j else i
theorem min2_c (i j : Int) : (min2 i j = i ∧ i ≤ j) ∨ (min2 i j = j ∧ j < i) := by
  unfold min2
  split
  · exact .inr ⟨rfl, by assumption⟩
  · exact .inl ⟨rfl, by omega⟩
@[simp] theorem minP2 {S : Sto} {i j : Int} : minP [.int i, .int j] S = .ok (.int (min2 i j)) S := (rfl)
@[simp] theorem minP3 {S : Sto} {i j k : Int} : minP [.int i, .int j, .int k] S = .ok (.int (min2 (min2 i j) k)) S := (rfl)
theorem min2_assoc (i j k : Int) : min2 (min2 i j) k = min2 i (min2 j k) := by
  have h1 := min2_c i j
  have h2 := min2_c j k
  have h3 := min2_c (min2 i j) k
  have h4 := min2_c i (min2 j k)
  omega
@[simp] theorem itEnum_d {fr : FA} {env : Env} {S : Sto} : itEnum fr env S = (fr env S).bind enumK := (rfl)
@[simp] theorem enumK_d {ws : List Wv} {S : Sto} : enumK [.tup ws] S = .ok (.items (enumW ws)) S := (rfl)
@[simp] theorem itZip_d {fr : FA} {env : Env} {S : Sto} : itZip fr env S = (fr env S).bind zipK := (rfl)
@[simp] theorem zipK_ll {xs ys : List Wv} {S : Sto} : zipK [.lst xs, .lst ys] S = .ok (.items (zipW xs ys)) S := (rfl)
@[simp] theorem zipK_lt {xs ys : List Wv} {S : Sto} : zipK [.lst xs, .tup ys] S = .ok (.items (zipW xs ys)) S := (rfl)
def seqK (w : Wv) (S1 : Sto) : Out Itr := match w with
  | .lst ws => .ok (.items ws) S1
  | .scr ns => .ok (.items (ns.map .int)) S1
  | .ref k => match S1[k]? with
    | some (.lst ws) => .ok (.live k ws.length) S1
    | _ => .bad
  | _ => .bad
@[simp] theorem itSeq_d {fa : FE} {env : Env} {S : Sto} : itSeq fa env S = (fa env S).bind seqK := (rfl)
@[simp] theorem seqK_l {ws : List Wv} {S : Sto} : seqK (.lst ws) S = .ok (.items ws) S := (rfl)
theorem sFrz_ref {i k : Nat} {ws : List Wv} {env : Env} {S : Sto} (he : env[i]? = some (some (.ref k))) (h : S[k]? = some (.lst ws)) : sFrz i env S = .nx (env.set i (some (.lst ws))) (S.set k .dead) := by simp only [sFrz, he, frzW, h]
theorem len_ty {w : Wv} {S : Sto} {ws : List Wv} (h : seqOf S w = some ws) : lenP [w] S = .ok (.int ws.length) S := by simp only [lenP, h]
theorem isP_ty {t u : Ty} {w : Wv} {S : Sto} (h : tyOf S w = some u) : isP t w S = .ok (.bl (isT u t)) S := by simp only [isP, h]
theorem lc_by {tg : Tg} {elt : FE} {env0 : Env} {S : Sto} : ∀ {ws vs : List Wv}, vs.length = ws.length → (∀ (i : Nat) w v, ws[i]? = some w → vs[i]? = some v → ∃ env1, tg w env0 S = some env1 ∧ elt env1 S = .ok v S) → lcItems tg fYes elt env0 ws S = .ok vs S
  | [], [], _, _ => rfl
  | [], _ :: _, h, _ => by cases h
  | _ :: _, [], h, _ => by cases h
  | w :: r, v :: vs, hl, h => by
    obtain ⟨env1, h1, h2⟩ := h 0 w v rfl rfl
    simp only [lcItems, h1, fYes, Out.nox, Out.bind, if_true, h2, lc_by (ws := r) (vs := vs) (by simpa using hl) fun i w v hw hv => h (i + 1) w v (by simpa using hw) (by simpa using hv)]
@[simp high] theorem cut_dropM {α β : Type} {f : α → β} {xs : List α} {n : Nat} : cutA (xs.map f) (some (n : Int)) none = (xs.drop n).map f := by rw [cut_dropN, List.map_drop]
@[simp high] theorem cut_dropM1 {α β : Type} {f : α → β} {xs : List α} {n : Nat} : cutA (xs.map f) (some ((n : Int) + 1)) none = (xs.drop (n + 1)).map f := cut_dropM (n := n + 1)
theorem map_at {f : Int → Wv} {xs : List Int} {i : Nat} {v : Wv} (h : (xs.map f)[i]? = some v) : ∃ x, xs[i]? = some x ∧ v = f x := by
  rw [List.getElem?_map] at h
  cases q : xs[i]? with
  | none => rw [q] at h; cases h
  | some x => rw [q] at h; exact ⟨x, rfl, (Option.some.inj h).symm⟩
section
variable {S : Sto}
theorem idx_lN {xs : List Wv} {k : Nat} {x : Wv} (h : xs[k]? = some x) : idxP (.lst xs) (.int (k : Int)) S = .ok x S := idx_lst (by rw [atI_n]; exact h)
theorem idx_tN {xs : List Wv} {k : Nat} {x : Wv} (h : xs[k]? = some x) : idxP (.tup xs) (.int (k : Int)) S = .ok x S := idx_tup (by rw [atI_n]; exact h)
@[simp] theorem idxl0 {x : Wv} {xs : List Wv} : idxP (.lst (x :: xs)) (.int 0) S = .ok x S := idx_lN (k := 0) rfl
@[simp] theorem idxl1 {x y : Wv} {xs : List Wv} : idxP (.lst (x :: y :: xs)) (.int 1) S = .ok y S := idx_lN (k := 1) rfl
@[simp] theorem idxl2 {x y z : Wv} {xs : List Wv} : idxP (.lst (x :: y :: z :: xs)) (.int 2) S = .ok z S := idx_lN (k := 2) rfl
@[simp] theorem idxl3 {x y z u : Wv} {xs : List Wv} : idxP (.lst (x :: y :: z :: u :: xs)) (.int 3) S = .ok u S := idx_lN (k := 3) rfl
end
@[simp] theorem thn_bad {α : Type} {env : Env} {g : α → Sto → SOut} : (Out.bad : Out α).thn env g = .bad := (rfl)
@[simp] theorem at_bad {g : FS} : SOut.bad.andThen g = .bad := (rfl)

/-! ### objects -/
def fldK (c i : Nat) (w : Wv) (S1 : Sto) : Out Wv := match w with
  | .ref k => match S1[k]? with
    | some (.ins c' ws) => if c' = c then match ws[i]? with
      | some x => .ok x S1
      | none => .bad
      else .bad
    | _ => .bad
  | _ => .bad
@[simp] theorem fFld_d {c i : Nat} {fo : FE} {env : Env} {S : Sto} : fFld c i fo env S = (fo env S).bind (fldK c i) := (rfl)
theorem fldK_ok {c i k : Nat} {S : Sto} {ws : List Wv} {x : Wv} (h : S[k]? = some (.ins c ws)) (h2 : ws[i]? = some x) : fldK c i (.ref k) S = .ok x S := by simp only [fldK, h, if_true, h2]
def methK (c : Nat) (F : List Wv → Sto → Out Wv) (g : Sto → Out (List Wv)) (w : Wv) (S1 : Sto) : Out Wv := if isInst c S1 w = true then (g S1).bind fun ws S2 => F (w :: ws) S2 else .bad
@[simp] theorem fMeth_d {c : Nat} {F : List Wv → Sto → Out Wv} {fo : FE} {fr : FA} {env : Env} {S : Sto} : fMeth c F fo fr env S = (fo env S).bind (methK c F (fr env)) := (rfl)
theorem methK_ok {c k : Nat} {F : List Wv → Sto → Out Wv} {g : Sto → Out (List Wv)} {S : Sto} {ws : List Wv} (h : S[k]? = some (.ins c ws)) : methK c F g (.ref k) S = (g S).bind fun ws S2 => F (.ref k :: ws) S2 := by
  have : isInst c S (.ref k) = true := by simp [isInst, h]
  simp only [methK, this, if_true]
def sfldK (c i : Nat) (env : Env) (w : Wv) (o : Wv) (S2 : Sto) : SOut := match o with
  | .ref k => match S2[k]? with
    | some (.ins c' ws) => if c' = c then
        if i < ws.length then .nx env (S2.set k (.ins c (ws.set i w)))
        else if i = ws.length then .nx env (S2.set k (.ins c (ws ++ [w]))) else .bad
      else .bad
    | _ => .bad
  | _ => .bad
@[simp] theorem sFld_d {c i : Nat} {fo fe : FE} {env : Env} {S : Sto} : sFld c i fo fe env S = (fe env S).thn env fun w S1 => (fo env S1).thn env (sfldK c i env w) := (rfl)
theorem sfldK_old {c i k : Nat} {env : Env} {w : Wv} {S : Sto} {ws : List Wv} (h : S[k]? = some (.ins c ws)) (hi : i < ws.length) : sfldK c i env w (.ref k) S = .nx env (S.set k (.ins c (ws.set i w))) := by simp only [sfldK, h, if_true, hi]
theorem sfldK_new {c i k : Nat} {env : Env} {w : Wv} {S : Sto} {ws : List Wv} (h : S[k]? = some (.ins c ws)) (hi : i = ws.length) : sfldK c i env w (.ref k) S = .nx env (S.set k (.ins c (ws ++ [w]))) := by
  have h1 : ¬ i < ws.length := by omega
  simp only [sfldK, h, if_true, h1, if_false, hi]
  simp
/-- what stands elsewhere stays -/
def Fr (S S' : Sto) (md : List Nat) : Prop := ∀ (i : Nat) o, S[i]? = some o → i ∉ md → S'[i]? = some o
theorem Fr.refl (S : Sto) (md : List Nat) : Fr S S md := fun _ _ h _ => h
theorem Fr.trans {S S' S'' : Sto} {md : List Nat} (a : Fr S S' md) (b : Fr S' S'' md) : Fr S S'' md := fun i o h n => b i o (a i o h n) n
theorem Fr.weaken {S S' : Sto} {md md' : List Nat} (a : Fr S S' md) (h : ∀ j ∈ md, j < S.length → j ∈ md') : Fr S S' md' := fun i o e n => a i o e fun hm => n (h i hm (List.getElem?_eq_some_iff.mp e).1)
theorem Fr.push {S : Sto} {o : Ob} {md : List Nat} : Fr S (S ++ [o]) md := fun i u h _ => by rw [List.getElem?_append_left (List.getElem?_eq_some_iff.mp h).1]; exact h
theorem Fr.set {S : Sto} {k : Nat} {o : Ob} {md : List Nat} (hk : k ∈ md) : Fr S (S.set k o) md := fun i u h n => by
  have : k ≠ i := fun e => n (e ▸ hk)
  rw [List.getElem?_set_ne this]; exact h
theorem push_new {S : Sto} {o : Ob} : (S ++ [o])[S.length]? = some o := by simp
theorem push_old {S : Sto} {o u : Ob} {k : Nat} (h : S[k]? = some u) : (S ++ [o])[k]? = some u := by rw [List.getElem?_append_left (List.getElem?_eq_some_iff.mp h).1]; exact h
theorem set_other {S : Sto} {o u : Ob} {k j : Nat} (h : S[k]? = some u) (n : j ≠ k) : (S.set j o)[k]? = some u := by rw [List.getElem?_set_ne n]; exact h
/-- a live list walked while nothing is changed -/
theorem lcLoop_live (tg : Tg) (elt : FE) (env0 : Env) (S : Sto) (k : Nat) (all : List Wv) (hk : S[k]? = some (.lst all)) (v : Wv → Wv) : ∀ (rest pre : List Wv), pre ++ rest = all → (∀ w ∈ rest, ∃ env1, tg w env0 S = some env1 ∧ elt env1 S = .ok (v w) S) → lcLoop (.live k all.length) tg fYes elt env0 rest.length pre.length S = .ok (rest.map v) S
  | [], pre, h, _ => by
    have h0 : all[pre.length]? = none := by rw [← h]; simp
    have h1 : ¬ pre.length < all.length := by rw [← h]; simp
    simp only [List.length_nil, lcLoop, Itr.at, hk, h1, if_false, h0, List.map_nil]
  | w :: rest, pre, h, he => by
    have h0 : all[pre.length]? = some w := by rw [← h]; simp
    have h1 : pre.length < all.length := by rw [← h]; simp
    obtain ⟨env1, e1, e2⟩ := he w (by simp)
    have ih := lcLoop_live tg elt env0 S k all hk v rest (pre ++ [w]) (by rw [List.append_assoc]; exact h) fun x hx => he x (by simp [hx])
    rw [List.length_append, List.length_singleton] at ih
    simp only [List.length_cons, lcLoop, Itr.at, hk, h1, if_true, h0, e1, fYes, Out.nox, Out.bind, e2, ih, List.map_cons]
theorem lcK_live {live : Bool} {own : List Nat} {tg : Tg} {elt : FE} {env : Env} {S : Sto} {k : Nat} {all : List Wv} (hk : S[k]? = some (.lst all)) (hl : all.length ≤ 1000000) (v : Wv → Wv) (he : ∀ w ∈ all, ∃ env1, tg w (wipeE env own) S = some env1 ∧ elt env1 S = .ok (v w) S) :
    lcK live own tg fYes elt env (.live k all.length) S = mkL live (all.map v) S := by
  have e := lcLoop_live tg elt (wipeE env own) S k all hk v all [] rfl he
  have hlen : lenOk (Itr.live k all.length).len = true := lenOk_t hl
  unfold lcK
  rw [if_pos hlen]
  show (lcLoop (.live k all.length) tg fYes elt (wipeE env own) all.length 0 S).nox.bind _ = _
  rw [show (0 : Nat) = ([] : List Wv).length from rfl, e]
  rfl
theorem seqK_ref {k : Nat} {ws : List Wv} {S : Sto} (h : S[k]? = some (.lst ws)) : seqK (.ref k) S = .ok (.live k ws.length) S := by simp only [seqK, h]

/-! ### live lists walked while other things change -/
theorem forLoop_live {tg : Tg} {body : FS} {k : Nat} {all : List Wv} (I : Nat → Env → Sto → Prop)
    (hs : ∀ (i : Nat) w env S, all[i]? = some w → S[k]? = some (.lst all) → I i env S → ∃ env1, tg w env S = some env1 ∧ ∃ e S', body env1 S = .nx e S' ∧ S'[k]? = some (.lst all) ∧ I (i + 1) e S') :
    ∀ (n i : Nat) env S, n + i = all.length → S[k]? = some (.lst all) → I i env S → ∃ e S', forLoop (.live k all.length) tg body n i env S = .nx e S' ∧ S'[k]? = some (.lst all) ∧ I all.length e S'
  | 0, i, env, S, h, hk, hi => by
    have h0 : all[i]? = none := List.getElem?_eq_none (by omega)
    have h1 : ¬ i < all.length := by omega
    refine ⟨env, S, ?_, hk, by rw [show all.length = i by omega]; exact hi⟩
    simp only [forLoop, Itr.at, hk, h1, if_false, h0]
  | n + 1, i, env, S, h, hk, hi => by
    have hlt : i < all.length := by omega
    have h0 : all[i]? = some all[i] := List.getElem?_eq_getElem hlt
    obtain ⟨env1, e1, e, S', e2, e3, e4⟩ := hs i all[i] env S h0 hk hi
    obtain ⟨e', S2, g1, g2, g3⟩ := forLoop_live I hs n (i + 1) e S' (by omega) e3 e4
    refine ⟨e', S2, ?_, g2, g3⟩
    simp only [forLoop, Itr.at, hk, hlt, if_true, h0, e1, e2, g1]
theorem sFor_live {fi : FI} {tg : Tg} {body : FS} {env : Env} {S S1 : Sto} {k : Nat} {all : List Wv} (hf : fi env S = .ok (.live k all.length) S1) (I : Nat → Env → Sto → Prop) (hk : S1[k]? = some (.lst all)) (h0 : I 0 env S1)
    (hs : ∀ (i : Nat) w env S, all[i]? = some w → S[k]? = some (.lst all) → I i env S → ∃ env1, tg w env S = some env1 ∧ ∃ e S', body env1 S = .nx e S' ∧ S'[k]? = some (.lst all) ∧ I (i + 1) e S') :
    ∃ e S', sFor fi tg body env S = .nx e S' ∧ S'[k]? = some (.lst all) ∧ I all.length e S' := by
  obtain ⟨e, S', g1, g2, g3⟩ := forLoop_live I hs all.length 0 env S1 (by omega) hk h0
  refine ⟨e, S', ?_, g2, g3⟩
  rw [sFor_d, hf, thn_ok]
  exact g1
theorem lcLoop_liveS {tg : Tg} {elt : FE} {env0 : Env} {k : Nat} {all : List Wv} (v : Nat → Wv) (I : Nat → Sto → Prop)
    (hs : ∀ (i : Nat) w S, all[i]? = some w → S[k]? = some (.lst all) → I i S → ∃ env1, tg w env0 S = some env1 ∧ ∃ S', elt env1 S = .ok (v i) S' ∧ S'[k]? = some (.lst all) ∧ I (i + 1) S') :
    ∀ (n i : Nat) S, n + i = all.length → S[k]? = some (.lst all) → I i S → ∃ S', lcLoop (.live k all.length) tg fYes elt env0 n i S = .ok ((List.range n).map fun j => v (i + j)) S' ∧ S'[k]? = some (.lst all) ∧ I all.length S'
  | 0, i, S, h, hk, hi => by
    have h0 : all[i]? = none := List.getElem?_eq_none (by omega)
    have h1 : ¬ i < all.length := by omega
    refine ⟨S, ?_, hk, by rw [show all.length = i by omega]; exact hi⟩
    simp only [lcLoop, Itr.at, hk, h1, if_false, h0, List.range_zero, List.map_nil]
  | n + 1, i, S, h, hk, hi => by
    have hlt : i < all.length := by omega
    have h0 : all[i]? = some all[i] := List.getElem?_eq_getElem hlt
    obtain ⟨env1, e1, S', e2, e3, e4⟩ := hs i all[i] S h0 hk hi
    obtain ⟨S2, g1, g2, g3⟩ := lcLoop_liveS v I hs n (i + 1) S' (by omega) e3 e4
    refine ⟨S2, ?_, g2, g3⟩
    simp only [lcLoop, Itr.at, hk, hlt, if_true, h0, e1, fYes, Out.nox, Out.bind, e2, g1]
    rw [List.range_succ_eq_map, List.map_cons, List.map_map]
    congr 2
    apply List.map_congr_left
    intro j _
    simp only [Function.comp_apply]
    congr 1
    omega
theorem lcK_liveS {live : Bool} {own : List Nat} {tg : Tg} {elt : FE} {env : Env} {S : Sto} {k : Nat} {all : List Wv} (v : Nat → Wv) (I : Nat → Sto → Prop) (hk : S[k]? = some (.lst all)) (hl : all.length ≤ 1000000) (h0 : I 0 S)
    (hs : ∀ (i : Nat) w S, all[i]? = some w → S[k]? = some (.lst all) → I i S → ∃ env1, tg w (wipeE env own) S = some env1 ∧ ∃ S', elt env1 S = .ok (v i) S' ∧ S'[k]? = some (.lst all) ∧ I (i + 1) S') :
    ∃ S', lcK live own tg fYes elt env (.live k all.length) S = mkL live ((List.range all.length).map v) S' ∧ S'[k]? = some (.lst all) ∧ I all.length S' := by
  obtain ⟨S', g1, g2, g3⟩ := lcLoop_liveS v I hs all.length 0 S (by omega) hk h0
  refine ⟨S', ?_, g2, g3⟩
  have hlen : lenOk (Itr.live k all.length).len = true := lenOk_t hl
  unfold lcK
  rw [if_pos hlen]
  show (lcLoop (.live k all.length) tg fYes elt (wipeE env own) all.length 0 S).nox.bind _ = _
  rw [g1]
  simp only [Nat.zero_add]
  rfl
end CL
/-! sorted(rows, key=lambda x: x[:3]): the lambda is made (its code object goes into the live table), run, the rows are sorted by their first three numbers. -/
namespace CL
open PySem PySem.Spec PyProof.Rows L2
/-- the lambda's own scope: its one name -/
structure LamK (scope : Scope) (x : Str) : Prop where
  kind : scope.kind = .function
  co : scope.isCoroutine = false
  gen : scope.isGenerator = false
  own : ∀ y ∈ scope.names, y.2 = .local
  loc : scope.names.lookup x = some .local
def lamKB (scope : Scope) (x : Str) : Bool := decide (scope.kind = .function) && !scope.isCoroutine && !scope.isGenerator && scope.names.all (fun y => decide (y.2 = .local)) && decide (scope.names.lookup x = some .local)
theorem lamK_by {scope : Scope} {x : Str} (h : lamKB scope x = true) : LamK scope x := by
  simp only [lamKB, Bool.and_eq_true, Bool.not_eq_true', decide_eq_true_eq, List.all_eq_true] at h
  exact ⟨h.1.1.1.1, h.1.1.1.2, h.1.1.2, h.1.2, h.2⟩
/-- the function made of a lambda stands at f -/
def Made (q : Str) (params : Arguments) (body : Expr) (scope : Scope) (cl : List (Str × Addr)) (f : Addr) (s : Shared) : Prop :=
  ∃ (c' : Addr) (pm ctv : Value), s.heap.get? f = some (PySem.W.kla_obj "<lambda>" q params body scope cl pm c' ctv) ∧ s.heap.CodeRec (.ref c') q
section
variable {X : Cx} {pins : List (Addr × Obj)} {σ : L2.St} {H : Hp} {s : Shared} {T : Tab} {G : Hp} {φ : List Addr} {S : Sto}
theorem updSwap {H : Hp} {a b : Addr} {o u : HO} (h : a ≠ b) : upd (upd H a o) b u = upd (upd H b u) a o := by
  funext c
  by_cases h1 : c = a
  · subst h1; rw [upd_ne h, upd_same, upd_same]
  · by_cases h2 : c = b
    · subst h2; rw [upd_same, upd_ne h1, upd_same]
    · rw [upd_ne h2, upd_ne h1, upd_ne h1, upd_ne h2]
theorem lam_cl {c : Addr} {x : Str} {params : Arguments} {body : Expr} {scope : Scope} {lp : Pos} {E Q : Value → Shared → Prop} (I : Inv X pins σ H s) (r : Rel T X.K G φ S H) (h0 : S[0]? = some .tab)
    (TB : LamX.TabB X.base X.mg c T.tb) (hcode : X.env.code = .ref c) (hq : X.env.qual ++ "<lambda>" = qL) (L : LamK scope x) (hdef : defaultsOf params X.env = ([], []))
    (h : ∀ (f : Addr) (G2 H2 : Hp) (s2 : Shared), Inv X pins σ H2 s2 → Rel T X.K G2 φ S H2 → Ext G φ H G2 φ H2 → Made qL params body scope (cloFrom X.env.cells scope.names []) f s2 → Q (.ref f) s2) :
    wpAny (model X.prog X.w) X.A (eval (.Lambda params body scope lp) X.env) Q E s := by
  obtain ⟨a, ha⟩ := r.phi h0
  obtain ⟨rfl, ps, hP, tk⟩ := r.ob 0 a _ ha h0
  have freeN : ∀ y ∈ scope.names, y.2 = .free → ∃ c, X.env.cells.lookup y.1 = some c := fun y hy e => by rw [L.own y hy] at e; cases e
  have atP := I.hok T.tb _ hP
  have atP : s.heap.get? T.tb = some { cls := .none, data := .fields ps } := atP
  refine PySem.W.kla_eval hdef ?_
  rw [hq]
  cases hc : codeAmong lp ps.toList with
  | some cv =>
    obtain ⟨c', rfl, gc⟩ := tk.all lp cv hc
    refine PySem.W.kla_makeFunctionHit (closure_ok freeN) I.ok.glob (I.mod.glob.keeps I.bk) hcode (TB.code.keeps I.bk) atP tk.tri hc (TB.bm.keeps I.bk) fun ctv h1 t1 kp sz => ?_
    have kp2 : ∀ b o, s.heap.get? b = some o → (h1.push (PySem.W.kla_obj "<lambda>" qL params body scope (cloFrom X.env.cells scope.names []) ((X.mg "__name__").getD .none) c' ctv)).get? b = some o := fun b o e => Heap.get?_push_of_some _ (kp b o e)
    obtain ⟨⟨oc, us, tq, z1, z2, z3⟩, _, _⟩ := I.hok c' _ (r.ex _ _ gc)
    exact h _ G H _ (I.kept kp2) r Ext.refl ⟨c', _, ctv, Heap.get?_push_size _ rfl, c', oc, us, tq, rfl, kp2 _ _ z1, z2, z3⟩
  | none =>
    refine PySem.W.kla_makeFunction (closure_ok freeN) I.ok.glob (I.mod.glob.keeps I.bk) hcode (TB.code.keeps I.bk) atP tk.tri hc TB.gP (TB.bm.keeps I.bk) fun c' ctv h1 t1 kp ge lt rec tb => ?_
    obtain ⟨c2, oc, us, tq, e2, z1, z2, z3⟩ := rec
    cases e2
    have hn : H c' = none := I.hok.fresh ge
    have ne : T.tb ≠ c' := ne_of_none hP hn
    have I1 := LamX.inv_table (t' := t1) (q := qL) (more := #[rawInt lp.line, rawInt lp.col, .ref c']) (h' := h1.push (PySem.W.kla_obj "<lambda>" qL params body scope (cloFrom X.env.cells scope.names []) ((X.mg "__name__").getD .none) c' ctv)) I hP
      (fun b o hb e => Heap.get?_push_of_some _ (kp b o hb e)) (Heap.get?_push_of_some _ tb) ge ⟨oc, us, tq, Heap.get?_push_of_some _ z1, z2, z3⟩
    obtain ⟨r1, x1⟩ := r.frozen hn (LamX.CodeO c' qL)
    have tl : (ps ++ #[rawInt lp.line, rawInt lp.col, .ref c']).toList = ps.toList ++ [rawInt lp.line, rawInt lp.col, .ref c'] := by simp
    obtain ⟨r2, x2⟩ := r1.write (o' := .tab) (ho := .tbl (ps ++ #[rawInt lp.line, rawInt lp.col, .ref c'])) ha h0 rfl ⟨rfl, _, upd_same, by rw [tl]; exact PySem.TriplesOk_snoc _ _ _ _ tk.tri, fun p' cv hcv => by
      rw [tl] at hcv
      rcases LamX.among_app _ tk.tri hcv with z | z
      · obtain ⟨c0, e1, e2⟩ := tk.all p' cv z
        exact ⟨c0, e1, x1.same _ _ e2⟩
      · exact ⟨c', z, upd_same⟩⟩
    have eS : S.set 0 .tab = S := by
      apply List.ext_getElem?
      intro i
      by_cases hi : i = 0
      · subst hi
        rw [h0, List.getElem?_set_self (List.getElem?_eq_some_iff.mp h0).1]
      · rw [List.getElem?_set_ne (Ne.symm hi)]
    rw [eS] at r2
    rw [updSwap ne] at I1
    exact h _ _ _ _ I1 r2 (x1.trans x2) ⟨c', _, ctv, Heap.get?_push_size _ rfl, c', oc, us, tq, rfl, Heap.get?_push_of_some _ z1, z2, z3⟩
end

/-! ### the lambda, run -/
section
variable {prog : Program} {w : World} {A : Around} {s : Shared}
theorem lam_run {f t : Addr} {q x : Str} {params : Arguments} {scope : Scope} {cl : List (Str × Addr)} {p1 p2 p3 p4 : Pos} {j3 : Nat} {i j k : Int} {ti tj tk : Tok} {d : Value} {rest : List Value} (hr : A.depth < recursionLimit) (hlim : s.heap.NoLimit)
    (L : LamK scope x) (hx : (x == ("__debug__" : Str)) = false) (hm : Made q params (.Subscript (.Name x p1) (.Slice none (some (.Constant (.int 3) j3 p2)) none p3) p4) scope cl f s)
    (hb : ∀ (pm cv ctv u : Value), bindArgs (PySem.W.kla_fn "<lambda>" q params (.Subscript (.Name x p1) (.Slice none (some (.Constant (.int 3) j3 p2)) none p3) p4) scope cl pm cv ctv) ⟨[u], []⟩ = pure [(x, u)])
    (ht : IsTup s.heap t (.int i ti :: .int j tj :: .int k tk :: d :: rest).toArray) (hz : (.int i ti :: .int j tj :: .int k tk :: d :: rest : List Value).length ≤ sizeLine) :
    wpAny (model prog w) A (call (.ref f) [.ref t]) (PySem.W.KeyPure (.tuple [.int i, .int j, .int k]) s) (fun _ _ => False) s := by
  obtain ⟨c', pm, ctv, ho, hc⟩ := hm
  have rc : codeAny (model prog w) A (.call (.ref f) ⟨[.ref t], []⟩) (fun r s' => ∃ u, r = .ok (.ret u) ∧ PySem.W.KeyPure (.tuple [.int i, .int j, .int k]) s u s') s := by
    refine PySem.W.kla_callFunE hr ho rfl L.co L.gen rfl hc ?_
    rw [hb]
    refine wpAny_pure (wpAny_newFunctionEnv (fun y hy => by rw [L.own y hy]; intro z; cases z) (fun y hy => ?_) (fun h1 hns hsb => ⟨hlim.fresh _ hsb, ?_⟩) L.kind)
    · have : y = (x, .ref t) := by simpa using hy
      rw [this]; exact L.loc
    · have kp : ∀ b o, s.heap.get? b = some o → h1.get? b = some o := fun b o e => hsb.extBut b o (Nat.ne_of_lt (Heap.lt_size e)) (Heap.get?_push_of_some _ e)
      refine PySem.W.kla_codeExpr (wpAny_mono (Q := fun u s' => PySem.W.KeyPure (.tuple [.int i, .int j, .int k]) s u s') (E := fun _ _ => False) ?_ (fun v s' hq => ⟨v, rfl, hq⟩) fun e s' hq => hq.elim)
      refine wpAny_Subscript_Slice PyProof.Rows.slot_tuple_getitem.lookup (wpAny_Name (wpAny_loadName_local L.kind L.loc hns (v := .ref t) (by simp) ?_) hx)
      refine wpAny_Slice (wpAny_pure ?_)
      show wpAny _ _ (eval (.Constant (.int 3) j3 p2) _) _ _ _
      refine wpAny_Constant_int (wpAny_pure ?_)
      have ht1 : IsTup h1 t (.int i ti :: .int j tj :: .int k tk :: d :: rest).toArray := let ⟨o, e, c⟩ := ht; ⟨o, kp _ _ e, c⟩
      have ht2 : ∀ ob, IsTup (h1.push ob) t (.int i ti :: .int j tj :: .int k tk :: d :: rest).toArray := fun ob => let ⟨o, e, c⟩ := ht1; ⟨o, Heap.get?_push_of_some _ e, c⟩
      refine ⟨(ht2 _).typeIs, HT.getItem_tuple_cut (lo := none) (hi := some 3) (ht2 _) (Heap.IsSliceOf.new ..) .none (.int _ _) ?_ ?_ (by simpa using hz)⟩
      · rw [show HT.sIx ((.int i ti :: .int j tj :: .int k tk :: d :: rest : List Value).toArray.size) ((.int i ti :: .int j tj :: .int k tk :: d :: rest : List Value).toArray.size) (some 3) = 3 from by
          show HT.sIx _ _ (some ((3 : Nat) : Int)) = 3
          rw [HT.sIx_nat, List.size_toArray, List.length_cons, List.length_cons, List.length_cons, List.length_cons]; omega]
        rw [List.size_toArray, List.length_cons, List.length_cons, List.length_cons, List.length_cons]
        omega
      · rw [show HT.sIx ((.int i ti :: .int j tj :: .int k tk :: d :: rest : List Value).toArray.size) ((.int i ti :: .int j tj :: .int k tk :: d :: rest : List Value).toArray.size) (some 3) = 3 from by
          show HT.sIx _ _ (some ((3 : Nat) : Int)) = 3
          rw [HT.sIx_nat, List.size_toArray, List.length_cons, List.length_cons, List.length_cons, List.length_cons]; omega]
        refine ⟨_, _, rfl, fun b o e => Heap.get?_push_of_some _ (Heap.get?_push_of_some _ (kp b o e)), ?_⟩
        exact .tuple (Heap.get?_push_size _ rfl) rfl rfl (.cons (.int i ti) (.cons (.int j tj) (.cons (.int k tk) .nil)))
  refine wpAny_call (codeAny_mono rc fun r s' hq => ?_)
  obtain ⟨u, rfl, hq⟩ := hq
  exact hq
end

/-! ### the rows sorted -/
def key3 : Wv → Option (Int × Int × Int)
  | .tup (.int a :: .int b :: .int c :: _ :: _) => some (a, b, c)
  | _ => none
def k3 (w : Wv) : Int × Int × Int := (key3 w).getD (0, 0, 0)
def keyD (w : Wv) : PyData := .tuple [.int (k3 w).1, .int (k3 w).2.1, .int (k3 w).2.2]
def le3 : Wv → Wv → Bool := PySem.W.dataLe false keyD
theorem key3_inv {w : Wv} {a b c : Int} (h : key3 w = some (a, b, c)) : ∃ x r, w = .tup (.int a :: .int b :: .int c :: x :: r) := by
  unfold key3 at h
  split at h
  · cases h; exact ⟨_, _, rfl⟩
  · cases h
def sortKP (live : Bool) : Wv → Sto → Out Wv := fun w S => match S[0]?, lstOf S w with
  | some Ob.tab, some ws => if ws.all (fun w => (key3 w).isSome) = true ∧ lenOk ws.length = true then mkL live (ws.mergeSort le3) S else .bad
  | _, _ => .bad
def fSortedKey (live : Bool) (fa : FE) : FE := f1 (sortKP live) fa
section
variable {T : Tab} {X : Cx} {W : WX} {k : Nat} {N : List Str} {sc : Scope} {vl gl : List Str} {x : Str} {e : Expr} {fa : FE} {pos p kp lp p1 p2 p3 p4 : Pos} {j j3 : Nat}
theorem each_den {K : PySem.W.Frag} {G : Hp} {φ : List Addr} : ∀ {vs : List V} {ws : List Wv} {us : List Value}, Dens K G φ vs ws → Vals vs us → PySem.W.EachIs (fun u w => ∃ v, RelV v u ∧ Den K G φ v w) us ws
  | _, _, _, .nil, .nil => .nil
  | _, _, _, .cons d t, .cons r q => .cons ⟨_, r, d⟩ (each_den t q)
theorem each_back {K : PySem.W.Frag} {G : Hp} {φ : List Addr} {us : List Value} {ws : List Wv} (h : PySem.W.EachIs (fun u w => ∃ v, RelV v u ∧ Den K G φ v w) us ws) : ∃ vs, Vals vs us ∧ Dens K G φ vs ws := by
  induction h with
  | nil => exact ⟨[], .nil, .nil⟩
  | cons h _ ih =>
    obtain ⟨v, r, d⟩ := h
    obtain ⟨vs, r2, d2⟩ := ih
    exact ⟨v :: vs, .cons r r2, .cons d d2⟩
theorem cs_sortedKey (live : Bool) (C : Cok T X W k N sc vl gl) {c : Addr} {params : Arguments} {scope : Scope} (hg : gl[j]? = some ("sorted" : Str)) (hm : X.mg "sorted" = none)
    (TB : LamX.TabB X.base X.mg c T.tb) (hcode : X.env.code = .ref c) (hq : X.env.qual ++ "<lambda>" = qL) (L : lamKB scope x = true) (hx : (x == ("__debug__" : Str)) = false) (hdef : defaultsOf params X.env = ([], []))
    (hb : ∀ (q : Str) (cl : List (Str × Addr)) (pm cv ctv u : Value), bindArgs (PySem.W.kla_fn "<lambda>" q params (.Subscript (.Name x p1) (.Slice none (some (.Constant (.int 3) j3 p2)) none p3) p4) scope cl pm cv ctv) ⟨[u], []⟩ = pure [(x, u)])
    (ha : SE T X W e fa) (hs : starEach [e] X.env = (false, eval e X.env) :: starEach [] X.env) :
    SE T X W (.Call (.Name "sorted" p) [e] [⟨some "key", .Lambda params (.Subscript (.Name x p1) (.Slice none (some (.Constant (.int 3) j3 p2)) none p3) p4) scope lp, kp⟩] pos) (fSortedKey live fa) := by
  have LK := lamK_by L
  obtain ⟨g1, g2, g3⟩ := C.gle hg
  refine ⟨fun pins s σ H Q I ⟨env, G, φ, S, r, er, gd⟩ => ?_⟩
  refine wpAny_Call_Name_kw (ld_blt I g1 hm (u := .builtin "sorted") (by decide +kernel) ?_ g3 g2)
  refine PyProof.Rows.callWith_kw (thn ((pa_cons (te := tI T X.K W fa) ha pa_nil hs).run pos pins s σ H (fun vs H1 => ∃ v w S1 G1 φ1, vs = [v] ∧ Ext G φ H G1 φ1 H1 ∧ Rel T X.K G1 φ1 S1 H1 ∧ Den X.K G1 φ1 v w ∧ GoodR (Den X.K) T X.K W σ H1 G1 φ1 Q (sortKP live w S1)) I ?_) fun us s1 hus => ?_) ?_ ?_ rfl rfl
  · exact ⟨env, G, φ, S, r, er, (GoodR.bind gd).imp fun v H1 ⟨w, S1, G1, φ1, x1, r1, d1, g1⟩ => ⟨v, w, S1, G1, φ1, rfl, x1, r1, d1, g1⟩⟩
  rotate_left
  · rw [hs]; rfl
  · rw [hs]; rfl
  obtain ⟨vs, H1, I1, rv, v, w, S1, G1, φ1, rfl, x1, r1, d1, g1⟩ := hus
  show wpAny _ _ (evalAll ((do let v ← eval (.Lambda params (.Subscript (.Name x p1) (.Slice none (some (.Constant (.int 3) j3 p2)) none p3) p4) scope lp) X.env; standAt pos; pure v) :: [])) _ _ s1
  unfold sortKP at g1
  cases h0 : S1[0]? with
  | none => rw [h0] at g1; exact g1.elim
  | some ob =>
    cases ob with
    | tab =>
      cases hl : lstOf S1 w with
      | none => rw [h0, hl] at g1; exact g1.elim
      | some ws =>
        rw [h0, hl] at g1
        simp only at g1
        by_cases hc : ws.all (fun w => (key3 w).isSome) = true ∧ lenOk ws.length = true
        case neg => rw [if_neg hc] at g1; exact g1.elim
        rw [if_pos hc] at g1
        refine wpAny_evalAll_cons (wpAny_bind (lam_cl I1 r1 h0 TB hcode hq LK hdef fun f G2 H2 s2 I2 r2 x2 md => wpAny_bind (wpAny_standAt (wpAny_pure (wpAny_evalAll_nil ?_)))))
        obtain ⟨a, xs, rfl, hH, dd⟩ := lst_rd r2 (x2.den d1) hl
        obtain rfl := Vals.ref1 rv
        obtain ⟨its, rl, pl, hz⟩ := I2.list (SqL.of hH)
        have len0 : its.length = ws.length := (rl.length.symm.trans dd.len)
        have hlen := lenOk_le hc.2
        have units := C.units
        refine PySem.W.sorted_key_data (b := false) (R := fun u w => ∃ v, RelV v u ∧ Den X.K G2 φ1 v w) keyD pl.isList (each_den dd rl) (PySem.W.AllAlike.of fun _ _ => by simp [PySem.W.alike, PySem.W.alikeAll, keyD]) (PySem.W.Sortable.tuples fun _ => ⟨_, _, rfl⟩) hlen (fun w _ => ?_) (PyProof.Rows.ksk_s1 _ _) (fun _ => PyProof.Rows.ksk_l1 _ _) (fun _ => PyProof.Rows.ksk_t1 _ _)
          (fun u w ⟨v, rvu, dv⟩ hw h tk kp2 => ?_) fun out cc h' tk kp2 fr hD ol eo => ?_
        · have hd : (keyD w).depth = 1 := by simp [keyD, PyData.depth, PyData.depthAll]
          rw [hd]; omega
        · have hk := List.all_eq_true.mp hc.1 w hw
          cases q : key3 w with
          | none => rw [q] at hk; cases hk
          | some t =>
            obtain ⟨i1, i2, i3⟩ := t
            obtain ⟨wx, wr, rfl⟩ := key3_inv q
            cases dv with
            | tup hg2 ds =>
              rename_i ta tvs
              obtain rfl : u = Value.ref ta := rvu
              obtain ⟨tits, trv, tt, tz⟩ := I2.tuple (SqT.of (r2.ex _ _ hg2))
              have e3 : keyD (.tup (.int i1 :: .int i2 :: .int i3 :: wx :: wr)) = .tuple [.int i1, .int i2, .int i3] := by simp [keyD, k3, key3]
              rw [e3]
              cases ds with | cons d1 ds => cases ds with | cons d2 ds => cases ds with | cons d3 ds => cases ds with | cons d4 ds =>
              cases d1; cases d2; cases d3
              cases trv with | cons t1 trv => cases trv with | cons t2 trv => cases trv with | cons t3 trv => cases trv with | @cons _ u4 _ ur t4 trv =>
              obtain ⟨tk1, rfl⟩ := t1
              obtain ⟨tk2, rfl⟩ := t2
              obtain ⟨tk3, rfl⟩ := t3
              refine lam_run (s := { s2 with heap := h, toks := tk }) (A := X.A.in1.in1) (q := qL) (cl := cloFrom X.env.cells scope.names []) (ti := tk1) (tj := tk2) (tk := tk3) (d := u4) (rest := ur) C.room.depth ?_ LK hx ?_ (fun pm cv ctv u => hb _ _ pm cv ctv u) ?_ ?_
              · exact I2.nolimit.keeps kp2
              · obtain ⟨c', pm, ctv, m1, c2, oc, us2, tq, b1, b2, b3, b4⟩ := md
                exact ⟨c', pm, ctv, kp2 _ _ m1, c2, oc, us2, tq, b1, kp2 _ _ b2, b3, b4⟩
              · obtain ⟨o, o1, o2⟩ := tt
                exact ⟨o, kp2 _ _ o1, o2⟩
              · have := trv.length
                have := ds.len
                simp only [List.length_cons] at tz ⊢
                omega
        · obtain ⟨vs3, rv3, d3⟩ := each_back eo
          have hn : H2 (s2.heap.objs.size + 1) = none := I2.hok.fresh (Nat.le_succ _)
          refine ⟨.ref _, upd H2 (s2.heap.objs.size + 1) (.lst vs3), I2.laid (t' := tk) kp2 (Nat.le_succ _) ⟨?_, out, cc, rv3, hD⟩, rfl, ?_⟩
          · rw [rv3.length, ol]; exact hlen
          · exact made_lst live r2 hn d3 (GoodR.ext x2 g1)
    | _ => rw [h0] at g1; exact g1.elim
end
end CL
/-! [.. for x in d.values() if ..]: the dict is locked while the list is made. -/
namespace CL
open PySem PySem.Spec PyProof.Rows L2
def delA (G : Hp) (a : Addr) : Hp := fun b => if b = a then none else G b
theorem delA_ne {G : Hp} {a b : Addr} (h : b ≠ a) : delA G a b = G b := if_neg h
theorem delA_eq {G : Hp} {a : Addr} : delA G a a = none := if_pos rfl
section
variable {T : Tab} {K : PySem.W.Frag} {G : Hp} {φ : List Addr} {a : Addr} {od : Obj} {vs : List (Key × V)}
mutual
theorem Den.del (hF : G a = some (.frz od (.dK vs))) : ∀ {v : V} {w : Wv}, Den K G φ v w → Den K (delA G a) φ v w
  | _, _, .non => .non
  | _, _, .bl b => .bl b
  | _, _, .int i => .int i
  | _, _, .str s => .str s
  | _, _, .tup h d => .tup (by rw [delA_ne (fun e => by rw [e, hF] at h; cases h)]; exact h) (Dens.del hF d)
  | _, _, .lst h d => .lst (by rw [delA_ne (fun e => by rw [e, hF] at h; cases h)]; exact h) (Dens.del hF d)
  | _, _, .scr (a := b) h => .scr (by
      rcases h with (h | ⟨o, h⟩) | h
      · exact .inl (.inl (by rw [delA_ne (fun e => by rw [e, hF] at h; cases h)]; exact h))
      · exact .inl (.inr ⟨o, by rw [delA_ne (fun e => by rw [e, hF] at h; cases h)]; exact h⟩)
      · exact .inr h)
  | _, _, .exn a => .exn a
  | _, _, .ref h => .ref h
theorem Dens.del (hF : G a = some (.frz od (.dK vs))) : ∀ {us : List V} {ws : List Wv}, Dens K G φ us ws → Dens K (delA G a) φ us ws
  | _, _, .nil => .nil
  | _, _, .cons d r => .cons (Den.del hF d) (Dens.del hF r)
end
theorem DKV.del (hF : G a = some (.frz od (.dK vs))) {us : List (Key × V)} {ws : Ks} (h : DKV K G φ us ws) : DKV K (delA G a) φ us ws := by
  induction h with
  | nil => exact .nil
  | cons d _ ih => exact .cons (d.del hF) ih
variable {S : Sto} {H : Hp} {k : Nat} {d : Ks}
theorem Rel.lock (r : Rel T K G φ S H) (ha : φ[k]? = some a) (hk : S[k]? = some (.dct d)) :
    ∃ vs, H a = some (.dK vs) ∧ G a = none ∧ ∀ od, Rel T K (upd G a (.frz od (.dK vs))) φ (S.set k (.lck d)) (upd H a (.frz od (.dK vs))) := by
  obtain ⟨vs, hv, dd⟩ := r.ob k a _ ha hk
  have ga := r.fr k a _ ha hk rfl
  refine ⟨vs, hv, ga, fun od => ?_⟩
  have sm : Same G (upd G a (.frz od (.dK vs))) := fun b u e => by rw [upd_ne (ne_of_none e ga)]; exact e
  have ne : ∀ {j : Nat} {b : Addr}, φ[j]? = some b → j ≠ k → b ≠ a := fun {j b} hj hjk e => hjk (L2.nd_ix r.nd hj (by rw [e]; exact ha))
  refine ⟨fun b u e => ?_, by rw [List.length_set]; exact r.len, r.nd, fun j b u e1 e2 e3 => ?_, fun j b u e1 e2 => ?_, fun b hb => ?_⟩
  · by_cases h : b = a
    · subst h; rw [upd_same] at e ⊢; exact e
    · rw [upd_ne h] at e ⊢; exact r.ex _ _ e
  · by_cases hj : j = k
    · subst hj
      rw [List.getElem?_set_self (List.getElem?_eq_some_iff.mp hk).1] at e2
      cases e2; cases e3
    · rw [List.getElem?_set_ne (Ne.symm hj)] at e2
      rw [upd_ne (ne e1 hj)]
      exact r.fr j b u e1 e2 e3
  · by_cases hj : j = k
    · subst hj
      have : b = a := Option.some.inj (e1.symm.trans ha)
      subst this
      rw [List.getElem?_set_self (List.getElem?_eq_some_iff.mp hk).1] at e2
      cases e2
      have := DKV.mono (ψ := []) sm dd
      rw [List.append_nil] at this
      exact ⟨od, vs, upd_same, this⟩
    · rw [List.getElem?_set_ne (Ne.symm hj)] at e2
      have := ObjR.mono (T := T) (H' := upd H a (.frz od (.dK vs))) (ψ := []) sm (upd_ne (ne e1 hj)) (r.ob j b u e1 e2)
      rwa [List.append_nil] at this
  · by_cases e : b = a
    · subst e; exact ⟨_, upd_same⟩
    · obtain ⟨u, h⟩ := r.thr b hb; exact ⟨u, by rw [upd_ne e]; exact h⟩
theorem ObjR.del (hF : G a = some (.frz od (.dK vs))) {H' : Hp} {b : Addr} {o : Ob} (hb : b ≠ a) (e : H' b = H b) (r : ObjR T K G φ H b o) : ObjR T K (delA G a) φ H' b o := by
  cases o with
  | lst ws => obtain ⟨us, h, d⟩ := r; exact ⟨us, e.trans h, d.del hF⟩
  | dct kvs => obtain ⟨us, h, d⟩ := r; exact ⟨us, e.trans h, d.del hF⟩
  | ins c ws => obtain ⟨dx, us, h, d, l⟩ := r; exact ⟨dx, us, e.trans h, d.del hF, l⟩
  | tab =>
    obtain ⟨h1, ps, h2, t⟩ := r
    refine ⟨h1, ps, e.trans h2, t.tri, fun pos cv hc => ?_⟩
    obtain ⟨c, e1, e2⟩ := t.all pos cv hc
    exact ⟨c, e1, by rw [delA_ne (fun z => by rw [z, hF] at e2; cases e2)]; exact e2⟩
  | lck kvs => obtain ⟨od, us, h, d⟩ := r; exact ⟨od, us, by rw [delA_ne hb]; exact h, d.del hF⟩
  | dead => trivial
theorem Rel.unlock (r : Rel T K G φ S H) (ha : φ[k]? = some a) (hk : S[k]? = some (.lck d)) (hG : G a = some (.frz od (.dK vs))) : Rel T K (delA G a) φ (S.set k (.dct d)) (upd H a (.dK vs)) := by
  obtain ⟨od2, vs2, hv, dd⟩ := r.ob k a _ ha hk
  rw [hG] at hv
  cases hv
  have ne : ∀ {j : Nat} {b : Addr}, φ[j]? = some b → j ≠ k → b ≠ a := fun {j b} hj hjk e => hjk (L2.nd_ix r.nd hj (by rw [e]; exact ha))
  refine ⟨fun b u e => ?_, by rw [List.length_set]; exact r.len, r.nd, fun j b u e1 e2 e3 => ?_, fun j b u e1 e2 => ?_, fun b hb => ?_⟩
  · by_cases h : b = a
    · subst h; rw [delA_eq] at e; cases e
    · rw [delA_ne h] at e; rw [upd_ne h]; exact r.ex _ _ e
  · by_cases hj : j = k
    · subst hj
      have : b = a := Option.some.inj (e1.symm.trans ha)
      subst this; exact delA_eq
    · rw [List.getElem?_set_ne (Ne.symm hj)] at e2
      rw [delA_ne (ne e1 hj)]
      exact r.fr j b u e1 e2 e3
  · by_cases hj : j = k
    · subst hj
      have : b = a := Option.some.inj (e1.symm.trans ha)
      subst this
      rw [List.getElem?_set_self (List.getElem?_eq_some_iff.mp hk).1] at e2
      cases e2
      exact ⟨vs, upd_same, dd.del hG⟩
    · rw [List.getElem?_set_ne (Ne.symm hj)] at e2
      exact ObjR.del hG (ne e1 hj) (upd_ne (ne e1 hj)) (r.ob j b u e1 e2)
  · by_cases e : b = a
    · subst e; exact ⟨_, upd_same⟩
    · obtain ⟨u, h⟩ := r.thr b hb; exact ⟨u, by rw [upd_ne e]; exact h⟩
end
def itVals (i : Nat) : FI := fun env S => match env[i]? with
  | some (some (.ref k)) => match S[k]? with
    | some (.lck d) => .ok (.items (d.map (·.2))) S
    | _ => .bad
  | _ => .bad
theorem DKV.at_ {K : PySem.W.Frag} {G : Hp} {φ : List Addr} {us : List (Key × V)} {ws : Ks} (h : DKV K G φ us ws) : ∀ {i : Nat} {k : Key} {x : V} {w : Wv}, us[i]? = some (k, x) → (ws.map (·.2))[i]? = some w → Den K G φ x w := by
  induction h with
  | nil => intro i k x w e; simp at e
  | cons d _ ih =>
    intro i k x w e1 e2
    cases i with
    | zero => simp at e1 e2; obtain ⟨_, rfl⟩ := e1; subst e2; exact d
    | succ n => exact ih (by simpa using e1) (by simpa using e2)
theorem ok_vals {T : Tab} {K : PySem.W.Frag} {G : Hp} {φ : List Addr} {a : Addr} {od : Obj} {us : List (Key × V)} {d : Ks} (hq : G a = some (.frz od (.dK us))) (dd : DKV K G φ us d) : ItOk T K (Itd a od us) G φ (.items (d.map (·.2))) := ⟨fun i G' φ' S' H' sm pr r => by
  have h1 := r.ex _ _ (sm _ _ hq)
  have ln : us.length = (d.map (·.2)).length := by rw [List.length_map]; exact dd.len
  obtain ⟨ψ, eψ⟩ := pr
  have dd' : DKV K G' φ' us d := by rw [eψ]; exact dd.mono sm
  refine ⟨fun e => ⟨h1, by rw [ln]; exact items_end e⟩, fun w e => ⟨⟨h1, by rw [ln]; exact (List.getElem?_eq_some_iff.mp (items_at e)).1⟩, fun x H2 hy => ?_⟩⟩
  obtain ⟨rfl, kk, hx⟩ := hy
  exact ⟨G', r, Ext.refl, dd'.at_ hx (items_at e)⟩⟩
section
variable {T : Tab} {X : Cx} {W : WX} {k : Nat} {N : List Str} {sc : Scope} {vl gl : List Str} {x : Str} {pos p ap cp : Pos} {j : Nat}
theorem si_vals {tg : Expr} (C : Cok T X W k N sc vl gl) {i : Nat} (hN : N[i]? = some x) (hv : vl[j]? = some x) (hl : (ap.endLine == cp.line) = true) : SI T X W tg (.Call (.Attribute (.Name x p) "values" ap) [] [] cp) (itVals i) :=
  pi_imp (pi_values (cs_var (T := T) (W := W) C hN hv) rfl hl) fun σ H R ⟨env, G, φ, S, r, er, gd⟩ => by
    refine ⟨env, G, φ, S, r, er, ?_⟩
    unfold itVals at gd
    unfold fVar
    cases h : env[i]? with
    | none => rw [h] at gd; exact gd.elim
    | some o =>
      cases o with
      | none => rw [h] at gd; exact gd.elim
      | some w =>
        cases w with
        | ref kk =>
          rw [h] at gd
          simp only at gd
          cases hk : S[kk]? with
          | none => rw [hk] at gd; exact gd.elim
          | some ob =>
            cases ob with
            | lck d =>
              rw [hk] at gd
              simp only at gd ⊢
              intro v H' G' φ' x' r' dv
              cases dv with
              | ref ha =>
                obtain ⟨od, us, h1, h2⟩ := r'.ob kk _ _ ha hk
                exact ⟨_, od, us, rfl, r'.ex _ _ h1, gd _ H' G' φ' x' r' (ok_vals h1 h2)⟩
            | _ => rw [hk] at gd; exact gd.elim
        | _ => rw [h] at gd; exact gd.elim
def fLcV (live : Bool) (i : Nat) (own : List Nat) (tg : Tg) (cond : FT) (elt : FE) : FE := fun env S => match env[i]? with
  | some (some (.ref k)) => match S[k]? with
    | some (.dct d) => (fLc live (itVals i) own tg cond elt env (S.set k (.lck d))).nox.bind fun v S2 => match S2[k]? with
      | some (.lck d2) => .ok v (S2.set k (.dct d2))
      | _ => .bad
    | _ => .bad
  | _ => .bad
theorem cs_lcV (live : Bool) (C : Cok T X W k N sc vl gl) {i : Nat} {elt tg : Expr} {ifs : List Expr} {scope : Scope} (own : List (Str × Nat)) {sl : List Nat} {t : Tg} {cond : FT} {fe : FE} (vl' gl' : List Str)
    (hN : N[i]? = some x) (hv : vl[j]? = some x) (hl : (ap.endLine == cp.line) = true)
    (hb : lcB N sc scope own vl' gl' = true) (hsl : ∀ i ∈ sl, i ∈ own.map (·.2)) (tgl : ∀ w env S env', t w env S = some env' → env'.length = env.length)
    (hg : ∀ s H A cl fp, Bok T (X.blk s H scope (compEnvC scope cl A X.env) fp) k N sc scope own vl' gl' → SG T (X.blk s H scope (compEnvC scope cl A X.env) fp) tg t sl)
    (ht : ∀ s H A cl fp, Bok T (X.blk s H scope (compEnvC scope cl A X.env) fp) k N sc scope own vl' gl' → STs T (X.blk s H scope (compEnvC scope cl A X.env) fp) ifs cond)
    (he : ∀ s H A cl fp, Bok T (X.blk s H scope (compEnvC scope cl A X.env) fp) k N sc scope own vl' gl' → SE T (X.blk s H scope (compEnvC scope cl A X.env) fp) Wno elt fe)
    (hs : ∀ z, foldedSetIterable (.Call (.Attribute (.Name x p) "values" ap) [] [] cp) X.env z = pure z) :
    SE T X W (.ListComp elt [⟨tg, .Call (.Attribute (.Name x p) "values" ap) [] [] cp, ifs, 0⟩] scope pos) (fLcV live i (own.map (·.2)) t cond fe) :=
  pe_imp (pe_lock (cs_lc live C own vl' gl' hb hsl tgl (si_vals C hN hv hl) hg ht he hs)) fun σ H Q ⟨env, G, φ, S, r, er, gd⟩ => by
    unfold fLcV at gd
    cases h : env[i]? with
    | none => rw [h] at gd; exact gd.elim
    | some o =>
      cases o with
      | none => rw [h] at gd; exact gd.elim
      | some w =>
        cases w with
        | ref kk =>
          rw [h] at gd
          simp only at gd
          cases hk : S[kk]? with
          | none => rw [hk] at gd; exact gd.elim
          | some ob =>
            cases ob with
            | dct d =>
              rw [hk] at gd
              simp only at gd
              obtain ⟨a, ha⟩ := r.phi hk
              obtain ⟨vs, hH, gN, lk⟩ := r.lock ha hk
              refine ⟨a, .dK vs, hH, trivial, fun od => ⟨env, upd G a (.frz od (.dK vs)), φ, S.set kk (.lck d), lk od, ?_, ?_⟩⟩
              · have sm : Same G (upd G a (.frz od (.dK vs))) := fun b u e => by rw [upd_ne (ne_of_none e gN)]; exact e
                exact ⟨er.1, fun i w hw => by
                  obtain ⟨v, e, dv⟩ := er.2 i w hw
                  have := dv.mono (ψ := []) sm
                  rw [List.append_nil] at this
                  exact ⟨v, e, this⟩⟩
              · cases q : fLc live (itVals i) (own.map (·.2)) t cond fe env (S.set kk (.lck d)) with
                | bad => rw [q] at gd; exact gd.elim
                | exc c S2 => rw [q] at gd; exact gd.elim
                | ok w S2 =>
                  rw [q] at gd
                  cases q2 : S2[kk]? with
                  | none => simp only [Out.nox, Out.bind, q2] at gd; exact gd.elim
                  | some ob2 =>
                    cases ob2 with
                    | lck d2 =>
                      simp only [Out.nox, Out.bind, q2] at gd
                      intro v H' G' φ' x' r' dv
                      have hG := x'.same a _ upd_same
                      have ha' : φ'[kk]? = some a := by
                        obtain ⟨ψ, e⟩ := x'.pre
                        rw [e]; exact getPre ha
                      refine ⟨r'.ex _ _ hG, gd v _ (delA G' a) φ' ⟨fun b u e => ?_, x'.pre, fun b u e g n => ?_⟩ (r'.unlock ha' q2 hG) (dv.del hG)⟩
                      · have hb : b ≠ a := ne_of_none e gN
                        rw [delA_ne hb]
                        exact x'.same b u (by rw [upd_ne hb]; exact e)
                      · have hb : b ≠ a := fun z => n (by rw [z]; exact Rel.mem ha)
                        obtain ⟨h1, h2, h3⟩ := x'.frame b u (by rw [upd_ne hb]; exact e) (by rw [upd_ne hb]; exact g) n
                        exact ⟨by rw [upd_ne hb]; exact h1, by rw [delA_ne hb]; exact h2, h3⟩
                    | _ => simp only [Out.nox, Out.bind, q2] at gd; exact gd.elim
            | _ => rw [hk] at gd; exact gd.elim
        | _ => rw [h] at gd; exact gd.elim
end
end CL
/-! A def whose lambda's table is live; the end of a law with that table. -/
namespace CL
open PySem PySem.Spec PyProof.Rows L2
section
variable {T : Tab} {P : Program} {w : World} {K : PySem.W.Frag} {mg : Str → Option Value} {base : Heap}
theorem def_okC {x qual : Str} {st : Stmt} {f : Addr} {fd : FuncData} {N ps vl gl : List Str} {k : Nat} {body : FS} {c : Addr} (F : Fun K x qual st f fd) (S : FnScope N ps (defScope st)) (hv : (visB (defScope st) vl && glB (defScope st) gl) = true) (hc : fd.code = .ref c)
    (hb : ∀ X W, X.prog = P → X.w = w → X.K = K → X.mg = mg → X.base = base → X.env.code = .ref c → X.env.qual = qual ++ ".<locals>." → Dok T X W k N (defScope st) vl gl → SSs T X W (defBody st) body) : FnOk P w K mg base (L2.CX P w) (k + 1) f fd ps (spF T K ps.length (runDef N.length body)) := by
  rw [Bool.and_eq_true] at hv
  obtain ⟨oc, od, kV, doc, pm, an, cdv, ct, osl, rfl, lk, hcd⟩ := F.ex
  have hcv : cdv = .ref c := hc
  subst hcv
  refine fn_of lk hcd S (fun vs H Q E h => h.1) (fun A outer s H vs Q E hr h => ?_)
  obtain ⟨hl, G, φ, S0, ws, r, d, g⟩ := h
  refine ⟨tS T K (fun cls d _ H => E cls d H) body, hb (cxOf (L2.CX P w) P w K mg base N qual (defScope st) f (.ref c) A outer s H E) (fun cls d _ H => E cls d H) rfl rfl rfl rfl rfl rfl rfl
    ⟨⟨takes_of rfl rfl rfl rfl, rfl, S.nd, hr, rfl, rfl, hv.1, hv.2⟩, fun _ => rfl, S.nofree, passes_of rfl, rfl, rfl⟩, ?_⟩
  refine ⟨ws.map some ++ List.replicate (N.length - ws.length) none, G, φ, S0, r, ⟨?_, fun i u hu => ?_⟩, ?_⟩
  · unfold L2.start
    simp only [List.length_append, List.length_map, List.length_replicate, d.len]
  · unfold L2.start
    by_cases hi : i < ws.length
    · rw [List.getElem?_append_left (by simpa using hi), List.getElem?_map] at hu
      cases q : ws[i]? with
      | none => rw [q] at hu; cases hu
      | some u' =>
        rw [q] at hu
        have hu : u' = u := by simpa using hu
        subst hu
        obtain ⟨v, hv, dv⟩ := d.get q
        exact ⟨v, by rw [List.getElem?_append_left (by rw [List.length_map, d.len]; exact hi), List.getElem?_map, hv]; rfl, dv⟩
    · rw [List.getElem?_append_right (by simpa using hi)] at hu
      have := List.getElem?_replicate (n := N.length - ws.length) (a := (none : Option Wv)) (i := i - (ws.map some).length)
      rw [this] at hu
      split at hu <;> cases hu
  · unfold runDef at g
    cases q : body (ws.map some ++ List.replicate (N.length - ws.length) none) S0 with
    | nx e S' => rw [q] at g; exact fun σ' H' G' φ' x r' er' => g .non H' G' φ' x r' .non
    | rt u S' => rw [q] at g; exact fun v H' G' φ' x r' d' => g v H' G' φ' x r' d'
    | exc c e S' => rw [q] at g; exact fun σ' H' G' φ' x r' er' => g H' G' φ' x r'
    | bk _ _ => rw [q] at g; exact g.elim
    | ct _ _ => rw [q] at g; exact g.elim
    | bad => rw [q] at g; exact g.elim
end
/-- what the law's own def is asked, the table at P empty -/
def spLawT (K : PySem.W.Frag) (P : Addr) : Sp := fun vs H Q _ => ∃ (a : Addr) (ns : List Int), vs = [.ref a] ∧ SqL K H a (ns.map V.int) ∧ ns.length ≤ 63 ∧ H P = some (.tbl #[]) ∧ ∀ H', Q (.bl true) H'
theorem law_spT {T : Tab} {K : PySem.W.Frag} {F : List Wv → Sto → Out Wv} (h : ∀ ns : List Int, ns.length ≤ 63 → ∃ S', F [.scr ns] [.tab] = .ok (.bl true) S') {vs : List V} {H : Hp} {Q : VK} {E : XK} (q : spLawT K T.tb vs H Q E) : spF T K 1 F vs H Q E := by
  obtain ⟨a, ns, rfl, hs, hl, hP, k⟩ := q
  obtain ⟨S', e⟩ := h ns hl
  have hd : ∀ {b : Addr} {o : HO}, H b = some o → (∀ ps, o ≠ .tbl ps) → delA H T.tb b = some o := fun {b o} hb hn => by
    rw [delA_ne (fun z => by rw [z, hP] at hb; exact hn _ (Option.some.inj hb).symm)]; exact hb
  have hs2 : SqL K (delA H T.tb) a (ns.map V.int) := by
    rcases hs with (h | ⟨o, h⟩) | h
    · exact .inl (.inl (hd h (fun ps z => by cases z)))
    · exact .inl (.inr ⟨o, hd h (fun ps z => by cases z)⟩)
    · exact .inr h
  refine ⟨rfl, delA H T.tb, [T.tb], [.tab], [.scr ns], ⟨fun b o hb => ?_, rfl, by simp, fun k a o e1 e2 e3 => ?_, fun k a o e1 e2 => ?_, fun a ha => ?_⟩, .cons (.scr hs2) .nil, ?_⟩
  · by_cases z : b = T.tb
    · subst z; rw [delA_eq] at hb; cases hb
    · rw [delA_ne z] at hb; exact hb
  · cases k with
    | zero => simp at e1; subst e1; exact delA_eq
    | succ n => simp at e1
  · cases k with
    | zero =>
      simp at e1 e2; subst e1; subst e2
      exact ⟨rfl, #[], hP, True.intro, fun pos cv hc => by
        have z : codeAmong pos [] = some cv := hc
        simp [codeAmong] at z⟩
    | succ n => simp at e1
  · simp at ha; subst ha; exact ⟨_, hP⟩
  · rw [e]
    intro v H' G' φ' x r d
    cases d
    exact k H'
/-- the code object that stands in a def's record -/
theorem fun_code {K : PySem.W.Frag} {mg : Str → Option Value} {h : Heap} {xs qual : Str} {st : Stmt} {f c P : Addr} {fd : FuncData} (KX : K.In h) (G : h.Ns mainGlobals mg) (F : Fun K xs qual st f fd) (hm : mg xs = some (.ref f)) (ht : PySem.W.tabIn K xs = some (c, P)) : fd.code = .ref c := by
  obtain ⟨oc, od, kV, doc, pm, an, cdv, ct, osl, rfl, lk, hcd⟩ := F.ex
  exact PySem.W.law_code KX G ht hm (KX _ _ lk) rfl
theorem tabIn_of {K : PySem.W.Frag} {x : Str} {f c P : Addr} {oc e : Value} {od dd : Option Addr} {fd0 : FuncData} {osl sl : Array (Option Value)} {us : Array Value} (a : PySem.W.nsIn K mainGlobals x = some (some (.ref f))) (l : K.lookup f = some ⟨oc, od, .func fd0, osl⟩) (hc : fd0.code = .ref c)
    (l2 : K.lookup c = some ⟨e, dd, .fields us, sl⟩) (h : (us[11]? : Option Value) = some (.ref P)) : PySem.W.tabIn K x = some (c, P) := by
  unfold PySem.W.tabIn
  simp only [a, l, hc, l2, h]
theorem walkT {l : PySem.W.OpenLaw} {q : Program} {loose : List Str} {XP : (Str → Option Value) → Heap → Prop} {YP : World → Heap → Prop} {d : DefRec} {K : Params → PySem.W.Frag} {k : Nat} {x xs : Str} (hn : l.most = some 63) (hdf : d.params.defaults = []) (hr : Room k callerA)
    (hrec : ((recsOf q).any fun e => e.name == xs) = true)
    (hY : ∀ (w : World) (h : Heap), YP w h → (K w.params).In h)
    (F : ∀ (w : World) (mg : Str → Option Value) (fa : Addr) (h : Heap), (K w.params).In h → h.Ns mainGlobals mg → mg d.name = some (.ref fa) →
      ∃ (fd : FuncData) (c P : Addr), PySem.W.tabIn (K w.params) xs = some (c, P) ∧ (K w.params).lookup P = none ∧ (∀ (s : Shared) (u : Value), BindsTo s fd ⟨[u], []⟩ [(x, u)]) ∧ ∀ base : Heap, (K w.params).In base → base.Ns mainGlobals mg → LamX.TabB base mg c P → FnOk l.prog w (K w.params) mg base (L2.CX l.prog w) k fa fd [x] (spLawT (K w.params) P)) :
    PySem.W.WalkO q loose XP YP l.row.toRowW d [] (fun f vs => PySem.call f vs) := by
  refine Att.attach_callB hn hdf fun w s₀ s₁ mg mb fa o pm cd doc a vs ns G Y ho hd hcd hmg hobj hints hlen hbits hg => ?_
  have KX := hY w _ Y
  obtain ⟨fd, c, P, ht, hP, hb, hF⟩ := F w mg fa _ KX G.T.g hmg
  obtain ⟨dL, hm, hn1⟩ := List.any_eq_true.mp hrec
  have tab : PySem.W.CodeHd s₁.heap c P ∧ s₁.heap.get? P = some (PySem.W.tabObj #[]) := by
    cases hf : (recsOf q).find? (fun e => e.name == xs) with
    | none => rw [List.find?_eq_none] at hf; exact absurd hn1 (hf dL hm)
    | some d2 => exact PySem.W.tab_of G.T KX hf ht
  refine LamX.law_callTs (cs := [(c, P)]) (sp := spLawT (K w.params) P) KX G.T.g G.T.b G.T.builtins G.T.nolimit hg (fun p hp => by simp at hp; subst hp; exact tab.2) (fun p hp => by simp at hp; subst hp; exact hP) (fun p hp => by simp at hp; subst hp; exact tab.1) G.T.bmain hobj hints (Nat.le_trans hlen (by decide)) hr
    (fun base h1 h2 h3 => hF base h1 h2 (h3 (c, P) (by simp))) hb (fun H hH hS => ⟨a, ns, rfl, hS, hlen, hH (c, P) (by simp), fun _ => rfl⟩) fun H e s' z => by
      obtain ⟨_, _, _, _, _, _, _, _, _, _, _, _, q⟩ := z
      exact q
end CL
/-! More rules. -/
namespace CL
open PySem PySem.Spec PyProof.Rows L2
/-! ### the order of the key -/
theorem lt3 (x y z x' y' z' : Int) : PySem.W.dataLt (.tuple [.int x, .int y, .int z]) (.tuple [.int x', .int y', .int z']) = decide (x < x' ∨ (x = x' ∧ (y < y' ∨ (y = y' ∧ z < z')))) := by
  rw [PySem.W.dataLt_tuple, PySem.W.dataLt_cons (by simp [PySem.W.alike]), PySem.W.dataLt_cons (by simp [PySem.W.alike]), PySem.W.dataLt_cons (by simp [PySem.W.alike])]
  have e : PyProof.Rows.lexLt PyProof.Rows.itemOrd (PySem.W.keyToksAll []) (PySem.W.keyToksAll []) = false := PyProof.Rows.lex_irrefl _
  rw [e, PySem.W.dataLt_int, PySem.W.dataLt_int, PySem.W.dataLt_int]
  simp only [PyData.eqv, beq_iff_eq]
  by_cases h1 : x = x' <;> by_cases h2 : y = y' <;> by_cases h3 : z = z' <;> simp [h1, h2, h3]
def le3P (a b : Int × Int × Int) : Prop := a.1 < b.1 ∨ (a.1 = b.1 ∧ (a.2.1 < b.2.1 ∨ (a.2.1 = b.2.1 ∧ a.2.2 ≤ b.2.2)))
theorem le3_iff (w u : Wv) : le3 w u = true ↔ le3P (k3 w) (k3 u) := by
  have h : le3 w u = !PySem.W.dataLt (keyD u) (keyD w) := rfl
  rw [h]
  unfold keyD
  rw [lt3]
  unfold le3P
  simp only [Bool.not_eq_true', decide_eq_false_iff_not]
  omega
theorem le3_trans (a b c : Wv) (h1 : le3 a b = true) (h2 : le3 b c = true) : le3 a c = true := by
  rw [le3_iff] at *
  unfold le3P at *
  omega
theorem le3_total (a b : Wv) : (le3 a b || le3 b a) = true := by
  rw [Bool.or_eq_true, le3_iff, le3_iff]
  unfold le3P
  omega
/-- two lists in order, of the same things, no two with the same key -/
theorem sort3_eq {ws us : List Wv} (hp : us.Perm ws) (hs : us.Pairwise fun a b => le3 a b = true) (ha : ∀ a ∈ us, ∀ b ∈ us, k3 a = k3 b → a = b) : ws.mergeSort le3 = us := by
  have p1 : (ws.mergeSort le3).Perm us := (List.mergeSort_perm ws le3).trans hp.symm
  refine List.Perm.eq_of_pairwise (le := fun a b => le3 a b = true) (fun a b h1 h2 e1 e2 => ?_) (List.pairwise_mergeSort le3_trans le3_total ws) hs p1
  refine ha a (p1.mem_iff.mp h1) b h2 ?_
  rw [le3_iff] at e1 e2
  unfold le3P at e1 e2
  exact Prod.ext (by omega) (Prod.ext (by omega) (by omega))
@[simp] theorem fSortedKey_d {live : Bool} {fa : FE} {env : Env} {S : Sto} : fSortedKey live fa env S = (fa env S).bind (sortKP live) := (rfl)
theorem sortKP_lst {live : Bool} {ws : List Wv} {S : Sto} (h0 : S[0]? = some .tab) (h : ws.all (fun w => (key3 w).isSome) = true) (hl : lenOk ws.length = true) : sortKP live (.lst ws) S = mkL live (ws.mergeSort le3) S := by
  simp only [sortKP, h0, lstOf, h, hl, and_self, if_true]
theorem isP_tab {t : Ty} {S : Sto} : True := trivial
end CL
set_option maxHeartbeats 8000000
/-! sorted(set(list of ints)). -/
namespace CL
open PySem PySem.Spec PyProof.Rows L2 PySem.SeqAt
section
variable {P : Program} {w : World} {A : Around} {E : Value → Shared → Prop} {s : Shared}
abbrev newSet (w : World) : Obj := { cls := .type "set", dict := none, data := .set #[] 0 (.fresh 0 0 (!w.params.followText "set-order")) }
/-- what set(l) leaves, l a list of the ints zs -/
def SetMade (w : World) (s : Shared) (zs : List Int) (s2 : Shared) : Prop := ∃ (g : Heap) (tk m : Nat), s2 = { s with heap := g, toks := tk } ∧ SetR w g s.heap.objs.size (fun q => decide (q ∈ zs)) m ∧ m ≤ zs.length ∧ ∀ b o, s.heap.get? b = some o → g.get? b = some o
theorem setOfList {a : Addr} {xs : Array Value} (zs : List Int) {Q : Value → Shared → Prop} (noexc : A.handled = none) (lst : s.heap.IsList a xs) (are : IntsAre xs.toList zs) (few : zs.length + 1 < scanBound)
    (fin : ∀ s2, SetMade w s zs s2 → Q (.ref s.heap.objs.size) s2) : wpAny (model P w) A (call (.type "set") [.ref a]) Q E s := by
  have size : xs.size = zs.length := by have q := are.length; rwa [Array.length_toList] at q
  obtain ⟨c, tl, hmro⟩ := F.called_set.mro
  have k1 := F.called_set.made
  have k2 := F.called_set.sub
  refine wpAny_call (codeAny_of_tree (show wpAny _ _ (callAny (.type "set") _) _ _ _ from ?_))
  refine wpAny_pure ⟨Code.quiet_builtin _ (by decide +kernel), codeAny_builtin F.entry_type_call ?_⟩
  rw [Around.under_plain (weight_type_call_type "set" [.ref a] []) rfl]
  have k3 := F.called_set.notType
  have k4 := F.called_set.canCreate
  have k5 := F.typeCall_set_1 (.ref a)
  repeat (any_goals (first | assumption | wp_step))
  refine codeAny_mono (code_set_led1 (.ref a) (E := E) (Q₁ := fun ob s1 => ob = .ref s.heap.objs.size ∧ s1 = { s with heap := s.heap.push (newSet w) }) ⟨rfl, rfl⟩) fun r s1 hr => ?_
  cases r with
  | error e => exact hr
  | ok fl =>
    cases fl with
    | ret ob =>
      obtain ⟨rfl, rfl⟩ := hr
      have atS : (s.heap.push (newSet w)).get? s.heap.objs.size = some (newSet w) := Heap.get?_push_size _ rfl
      have tyS : Shared.TypeIs { s with heap := s.heap.push (newSet w) } (.ref s.heap.objs.size) "set" := ⟨_, atS, rfl⟩
      have k6 := F.called_set.init.lookup
      have k7 := F.called_set.init.bind (.ref s.heap.objs.size)
      repeat (any_goals (first | assumption | wp_step))
      refine codeAny_mono (codeAny_call_builtin (R := wants (fun r s2 => r = .none ∧ SetMade w s zs s2) E) F.called_set.init.plain F.entry_set_init (check_set_init_1 tyS ?_)) fun r2 s2 h2 => ?_
      · obtain ⟨lo, atL, lc, ln, ld⟩ := lst
        obtain ⟨lcls, ldict, ldata, lslots⟩ := lo
        simp only at lc ld
        subst lc ld
        have atL2 : (s.heap.push (newSet w)).get? a = some { cls := .type "list", dict := ldict, data := .seq xs ln, slots := lslots } := Heap.get?_push_of_some _ atL
        have e1 := F.sub_list_set
        have e2 := F.sub_list_frozenset
        have e3 : (Value.type "list" == Value.type "dict") = false := by decide
        have lst2 : (s.heap.push (newSet w)).IsList a xs := ⟨_, atL2, rfl, ln, rfl⟩
        unfold Builtin.«set.__init__» noKeywords Builtin.Frozenset.updateFrom
        generalize hit : pyIter = itr
        wp_walk
        subst hit
        refine wpAny_pyIter_list lst2 (wpAny_bind (wpAny_runValue ?_))
        have ltL : a < s.heap.objs.size := Heap.lt_size atL
        have noexc3 : A.in1.in1.in1.handled = none := by simp [noexc]
        have sz1 : (s.heap.push (newSet w)).objs.size = s.heap.objs.size + 1 := Heap.size_push ..
        have ne1 : a ≠ (s.heap.push (newSet w)).objs.size := by rw [sz1]; exact Nat.ne_of_lt (Nat.lt_succ_of_lt ltL)
        have ne2 : s.heap.objs.size ∉ [(s.heap.push (newSet w)).objs.size, a] := by
          rw [sz1]
          simp only [List.mem_cons, List.not_mem_nil, or_false, not_or]
          exact And.intro (Nat.ne_of_lt (Nat.lt_succ_self _)) (Nat.ne_of_gt ltL)
        have vals : ∀ (i : Nat) (v : Value), xs[i]? = some v → ∃ q t, zs[i]? = some q ∧ v = .int q t := fun i v hv => by
          have hi : i < zs.length := by rw [← size]; exact (Array.getElem?_eq_some_iff.mp hv).1
          obtain ⟨t, e⟩ := PyProof.Rows.IntsAre.int_at are i v (by rw [Array.getElem?_toList]; exact hv)
          refine ⟨zs[i], t, List.getElem?_eq_getElem hi, ?_⟩
          rw [e, List.getD_eq_getElem?_getD, List.getElem?_eq_getElem hi]
          rfl
        refine set_update_ints ((Walks.list noexc3 _ a ne1 xs).toS) s.heap.objs.size ne2 zs size few vals (xs.size - 0) 0 _ (by omega) (Nat.zero_le _) ⟨⟨_, Heap.get?_push_size _ rfl, rfl, rfl⟩, (lst2.push _)⟩ ?z1 ?z2
        case z1 =>
          exact ⟨0, Nat.le_refl 0, setR_new_at (Heap.get?_push_of_some _ atS)⟩
        case z2 =>
          intro s3 m3 hm hm2 hR
          obtain ⟨g3, ge, dr, tk, os⟩ := s3
          have q1 : ge = s.gens := hm.gens
          have q2 : dr = s.drawn := hm.drawn
          have q3 : os = s.os := hm.os
          subst q1 q2 q3
          refine (show wpAny _ _ _ _ _ _ from wpAny_pure (show wpAny _ _ (ret Value.none) _ _ _ from ?_))
          rw [size] at hm2
          refine wpAny_pure ⟨rfl, g3, tk, m3, rfl, hR, hm2, fun b o e => ?_⟩
          have hb := Heap.lt_size e
          refine hm.heap b o ?_ (Heap.get?_push_of_some _ (Heap.get?_push_of_some _ e))
          rw [sz1]
          simp only [List.mem_cons, List.not_mem_nil, or_false, not_or]
          exact And.intro (Nat.ne_of_lt hb) (Nat.ne_of_lt (Nat.lt_succ_of_lt hb))
      · cases r2 with
        | error e => exact h2
        | ok fl2 =>
          cases fl2 with
          | ret r =>
            obtain ⟨rfl, hmade⟩ := h2
            repeat (any_goals (first | assumption | wp_step))
            exact fin _ hmade
          | _ => exact h2.elim
    | _ => exact hr.elim
end
def sortI (ns : List Int) : List Int := ns.mergeSort fun a b => decide (a ≤ b)
theorem sortI_perm (ns : List Int) : (sortI ns).Perm ns := List.mergeSort_perm _ _
theorem sortI_le (ns : List Int) : (sortI ns).Pairwise (· ≤ ·) := by
  have h := List.pairwise_mergeSort (le := fun a b : Int => decide (a ≤ b)) (fun a b c h1 h2 => by simp only [decide_eq_true_eq] at *; omega) (fun a b => by simp only [Bool.or_eq_true, decide_eq_true_eq]; omega) ns
  exact h.imp fun h => by simpa using h
theorem sortI_eq {ys ns : List Int} (hp : ys.Perm ns) (hs : ys.Pairwise (· ≤ ·)) : ys = sortI ns :=
  List.Perm.eq_of_pairwise (le := fun a b : Int => a ≤ b) (fun a b _ _ h1 h2 => Int.le_antisymm h1 h2) hs (sortI_le ns) (hp.trans (sortI_perm ns).symm)
/-- without doubles -/
def ddp : List Int → List Int
  | [] => []
  | a :: r => if a ∈ r then ddp r else a :: ddp r
theorem mem_ddp {k : Int} : ∀ {ns : List Int}, k ∈ ddp ns ↔ k ∈ ns
  | [] => Iff.rfl
  | a :: r => by
    unfold ddp
    split
    · rename_i h
      rw [mem_ddp, List.mem_cons]
      exact ⟨.inr, fun q => q.elim (fun e => by rw [e]; exact h) id⟩
    · rw [List.mem_cons, List.mem_cons, mem_ddp]
theorem nodup_ddp : ∀ ns : List Int, (ddp ns).Nodup
  | [] => List.nodup_nil
  | a :: r => by
    unfold ddp
    split
    · exact nodup_ddp r
    · rename_i h
      exact List.nodup_cons.mpr ⟨fun q => h (mem_ddp.mp q), nodup_ddp r⟩
def uniqI (ns : List Int) : List Int := sortI (ddp ns)
theorem uniqI_eq {ys ns : List Int} (hs : ys.Pairwise (· < ·)) (hm : ∀ k, k ∈ ys ↔ k ∈ ns) : ys = uniqI ns := by
  have nd : ys.Nodup := hs.imp fun h e => by omega
  refine sortI_eq ((List.perm_ext_iff_of_nodup nd (nodup_ddp ns)).mpr fun k => ?_) (hs.imp fun h => by omega)
  rw [hm, mem_ddp]
def sortedSetP (live : Bool) : Wv → Sto → Out Wv := fun w S => match lstOf S w with
  | some ws => match intsOf ws with
    | some ns => if ns.length < 64 then mkL live ((uniqI ns).map .int) S else .bad
    | none => .bad
  | none => .bad
section
variable {T : Tab} {X : Cx} {W : WX} {k : Nat} {N : List Str} {sc : Scope} {vl gl : List Str} {e : Expr} {fa : FE} {pos p p2 q2 : Pos} {j j2 : Nat}
theorem cs_sortedSet (live : Bool) (C : Cok T X W k N sc vl gl) (hg : gl[j]? = some ("sorted" : Str)) (hm : X.mg "sorted" = none) (hg2 : gl[j2]? = some ("set" : Str)) (hm2 : X.mg "set" = none)
    (ha : SE T X W e fa) (hs : starEach [e] X.env = (false, eval e X.env) :: starEach [] X.env) :
    SE T X W (.Call (.Name "sorted" p) [.Call (.Name "set" p2) [e] [] q2] [] pos) (f1 (sortedSetP live) fa) := by
  obtain ⟨g1, g2, g3⟩ := C.gle hg
  obtain ⟨g4, g5, g6⟩ := C.gle hg2
  refine ⟨fun pins s σ H Q I ⟨env, G, φ, S, r, er, gd⟩ => ?_⟩
  refine Call_ (ld_blt I g1 hm (u := .builtin "sorted") (by decide +kernel) ?_ g3 g2)
  refine PyProof.Rows.callWith_builtin1 (PyProof.Rows.args_cons ?_ rfl) rfl rfl
  refine Call_ (ld_blt I g4 hm2 PyProof.Rows.boot_set ?_ g6 g5)
  refine PyProof.Rows.callWith_type1 (PyProof.Rows.args_cons (thn (ha.run pins s σ H (fun v H1 => ∃ w S1 G1 φ1, Ext G φ H G1 φ1 H1 ∧ Rel T X.K G1 φ1 S1 H1 ∧ Den X.K G1 φ1 v w ∧ GoodR (Den X.K) T X.K W σ H1 G1 φ1 Q (sortedSetP live w S1)) I
    ⟨env, G, φ, S, r, er, (GoodR.bind gd).imp fun v H1 h => h⟩) fun u s1 ⟨v, H1, I1, rv, w, S1, G1, φ1, x1, r1, d1, g1⟩ => PyProof.Rows.args_nil ?_) hs) hs rfl
  unfold sortedSetP at g1
  cases hl : lstOf S1 w with
  | none => rw [hl] at g1; exact g1.elim
  | some ws =>
    rw [hl] at g1
    simp only at g1
    cases hi : intsOf ws with
    | none => rw [hi] at g1; exact g1.elim
    | some ns =>
      rw [hi] at g1
      simp only at g1
      by_cases hc : ns.length < 64
      case neg => rw [if_neg hc] at g1; exact g1.elim
      rw [if_pos hc] at g1
      obtain ⟨a, xs, rfl, hH, dd⟩ := lst_rd r1 d1 hl
      rw [intsOf_eq hi] at dd
      have ex := dd.toInts
      subst ex
      obtain rfl : u = Value.ref a := rv
      obtain ⟨its, rl, pl, hz⟩ := I1.list (SqL.of hH)
      refine setOfList (w := X.w) ns (I1.ok.hd C.calm) pl.isList (by simpa using ints_of_vals rl) (by unfold scanBound; omega) fun s2 ⟨g, tk, m, e2, R, hm, kp⟩ => PyProof.Rows.args_nil ?_
      subst e2
      have I2 : Inv X pins σ H1 { s1 with heap := g, toks := tk } := I1.kept kp
      refine sorted_set R (I1.ok.hd C.calm) (by omega) fun s' b out c ys k o1 o2 hp hg3 hi3 hs3 hm3 hl3 => ?_
      have hb : s1.heap.objs.size < g.objs.size := R.lt
      have hp1 : s1.heap.objs.size ≤ b := Nat.le_trans (Nat.le_of_lt hb) hp
      have kk : ∀ c u, s1.heap.get? c = some u → s'.heap.get? c = some u := fun c u z => k c u (kp c u z)
      have hn : H1 b = none := I1.hok.fresh hp1
      have hlen : (ys.map V.int).length ≤ sizeLine := by rw [List.length_map, hl3, sizeLine_eq]; omega
      have J : Inv X pins σ (upd H1 b (.lst (ys.map V.int))) { s1 with heap := s'.heap, gens := s'.gens, drawn := s'.drawn, toks := s'.toks } :=
        I1.call (ch := []) (Un.laid kk hp1 hn) (I1.hok.laid kk hp1 ⟨hlen, out.toList, c, vals_of_ints hi3, hg3⟩) (by rw [o1]; exact I1.bare) (fun _ z => nomatch z)
      have e : s' = { s1 with heap := s'.heap, gens := s'.gens, drawn := s'.drawn, toks := s'.toks } := by
        obtain ⟨_, _, _, _, _⟩ := s'
        cases o2; rfl
      rw [e]
      have ey : ys = uniqI ns := uniqI_eq hs3 (fun q => by rw [hm3 q]; simp)
      subst ey
      exact ⟨.ref b, _, J, rfl, made_lst live r1 hn (Dens.ints _) g1⟩
end
/-! sorted(d), d a dict with ints as keys -/
def keysI : Ks → Option (List Int)
  | [] => some []
  | (.inl i, _) :: r => (keysI r).map (i :: ·)
  | _ => none
theorem keysI_eq : ∀ {d : Ks} {ks : List Int}, keysI d = some ks → d.map (·.1) = ks.map Sum.inl
  | [], ks, h => by cases h; rfl
  | (.inl i, w) :: r, ks, h => by
    unfold keysI at h
    cases q : keysI r with
    | none => rw [q] at h; cases h
    | some ls => rw [q] at h; cases h; simp [keysI_eq q]
  | (.inr i, w) :: r, ks, h => by cases h
theorem DKV.keys {K : PySem.W.Frag} {G : Hp} {φ : List Addr} {us : List (Key × V)} {ws : Ks} (h : DKV K G φ us ws) : us.map (·.1) = ws.map (·.1) := by
  induction h with
  | nil => rfl
  | cons d _ ih => simp [ih]
def sortedDP (live : Bool) : List Wv → Sto → Out Wv := fun ws S => match ws with
  | [w] => match dctOf S w with
    | some (_, d) => match keysI d with
      | some ks => if ks.length < 64 then mkL live ((sortI ks).map .int) S else .bad
      | none => .bad
    | none => .bad
  | _ => .bad
theorem g_sortedD (live : Bool) {T : Tab} {K : PySem.W.Frag} {W : WX} : GN T K W (fun xs H Q => ∃ (a : Addr) (kvs : List (Key × V)) (ks : List Int), xs = [.ref a] ∧ Rd H a (.dK kvs) ∧ kvs.map (·.1) = ks.map Sum.inl ∧ ks.length < 64 ∧
    ∀ (ys : List Int) (p : Addr), ys.Perm ks → ys.Pairwise (· ≤ ·) → H p = none → Q (.ref p) (upd H p (.lst (ys.map V.int)))) (sortedDP live) := fun xs ws σ G φ S H Q r d gd => by
  unfold sortedDP at gd
  match ws, d, gd with
  | [w], d, gd =>
    obtain ⟨v, rfl, dv⟩ := one_den d
    simp only at gd
    cases hd : dctOf S w with
    | none => rw [hd] at gd; exact gd.elim
    | some kd =>
      obtain ⟨k, dd⟩ := kd
      rw [hd] at gd
      simp only at gd
      cases hk : keysI dd with
      | none => rw [hk] at gd; exact gd.elim
      | some ks =>
        rw [hk] at gd
        simp only at gd
        by_cases hc : ks.length < 64
        case neg => rw [if_neg hc] at gd; exact gd.elim
        rw [if_pos hc] at gd
        obtain ⟨a, vs, rfl, h1, h2, h3, h4⟩ := dct_rd r dv hd
        refine ⟨a, vs, ks, rfl, .inl h3, by rw [h4.keys, keysI_eq hk], hc, fun ys p hp hs hn => ?_⟩
        have ey := sortI_eq hp hs
        subst ey
        exact made_lst live r hn (Dens.ints _) gd
  | [], _, gd => exact gd.elim
  | _ :: _ :: _, _, gd => exact gd.elim
end CL
/-! More rules. -/
namespace CL
open PySem PySem.Spec PyProof.Rows L2
/-! ### dicts, evaluated -/
section
variable {S : Sto} {k : Nat} {d : Ks} {x z : Wv} {n : Int}
theorem dctOf_ref (h : S[k]? = some (.dct d)) : dctOf S (.ref k) = some (k, d) := by simp only [dctOf, h]
theorem dget_ok (h : S[k]? = some (.dct d)) (g : getW d (.inl n) = some x) : dgetP (.ref k) (.int n) S = .ok x S := by simp only [dgetP, dctOf_ref h, keyOf, g]
theorem din_ok (h : S[k]? = some (.dct d)) : dinP (.int n) (.ref k) S = .ok (.bl (getW d (.inl n)).isSome) S := by simp only [dinP, dctOf_ref h, keyOf]
theorem dnotin_ok (h : S[k]? = some (.dct d)) : dnotinP (.int n) (.ref k) S = .ok (.bl (!(getW d (.inl n)).isSome)) S := by simp only [dnotinP, dctOf_ref h, keyOf]
theorem dput_ok (h : S[k]? = some (.dct d)) (hl : d.length ≤ 1000000) : dputK (.ref k) (.int n) x S = some (S.set k (.dct (putW d (.inl n) x))) := by simp only [dputK, dctOf_ref h, keyOf, lenOk_t hl, if_true]
theorem dget2_ok (h : S[k]? = some (.dct d)) : dget2K (.ref k) (.int n) z S = .ok ((getW d (.inl n)).getD z) S := by simp only [dget2K, dctOf_ref h, keyOf]
theorem dpop_ok (h : S[k]? = some (.dct d)) (g : getW d (.inl n) = some x) : dpopK (.ref k) (.int n) S = .ok x (S.set k (.dct (dropW d (.inl n)))) := by simp only [dpopK, dctOf_ref h, keyOf, g]
def dpopM (g : Sto → Out Wv) (w : Wv) (S1 : Sto) : Out Wv := if (dctOf S1 w).isSome = true then (g S1).bind fun u S2 => dpopK w u S2 else .bad
@[simp] theorem fDPop_d {fo fe : FE} {env : Env} : fDPop fo fe env S = (fo env S).bind (dpopM (fe env)) := (rfl)
theorem dpopM_ref {g : Sto → Out Wv} (h : S[k]? = some (.dct d)) : dpopM g (.ref k) S = (g S).bind fun u S2 => dpopK (.ref k) u S2 := by simp only [dpopM, dctOf_ref h, Option.isSome_some, if_true]
def dget2M (g f : Sto → Out Wv) (w : Wv) (S1 : Sto) : Out Wv := if (dctOf S1 w).isSome = true then (g S1).bind fun u S2 => (f S2).bind fun z S3 => dget2K w u z S3 else .bad
@[simp] theorem fDGet2_d {fo fe ff : FE} {env : Env} : fDGet2 fo fe ff env S = (fo env S).bind (dget2M (fe env) (ff env)) := (rfl)
theorem dget2M_ref {g f : Sto → Out Wv} (h : S[k]? = some (.dct d)) : dget2M g f (.ref k) S = (g S).bind fun u S2 => (f S2).bind fun z S3 => dget2K (.ref k) u z S3 := by simp only [dget2M, dctOf_ref h, Option.isSome_some, if_true]
def dputM (env : Env) (o i v : Wv) (S3 : Sto) : SOut := match dputK o i v S3 with
  | some S4 => .nx env S4
  | none => .bad
@[simp] theorem sDPut_d {fo fi fe : FE} {env : Env} : sDPut fo fi fe env S = (fe env S).thn env fun v S1 => (fo env S1).thn env fun o S2 => (fi env S2).thn env fun i S3 => dputM env o i v S3 := (rfl)
theorem dputM_ref {env : Env} (h : S[k]? = some (.dct d)) (hl : d.length ≤ 1000000) : dputM env (.ref k) (.int n) x S = .nx env (S.set k (.dct (putW d (.inl n) x))) := by simp only [dputM, dput_ok h hl]
end
theorem zipl_at {w u : Wv} {S : Sto} {xs ys : List Wv} (h1 : lstOf S w = some xs) (h2 : lstOf S u = some ys) (i : Nat) : (Itr.zipl w u (zipW xs ys).length).at i S = some (zipW xs ys)[i]? := by
  simp only [Itr.at, h1, h2]
  by_cases c : i < (zipW xs ys).length
  · rw [if_pos c]; rfl
  · rw [if_neg c]
    have : (zipW xs ys)[i]? = none := List.getElem?_eq_none_iff.mpr (by omega)
    have e : (List.zipWith (fun x y => Wv.tup [x, y]) xs ys)[i]? = none := this
    rw [e, this]
theorem lcLoop_zipl (tg : Tg) (elt : FE) (env0 : Env) (S : Sto) {w u : Wv} {xs ys : List Wv} (h1 : lstOf S w = some xs) (h2 : lstOf S u = some ys) (v : Wv → Wv) : ∀ (rest pre : List Wv), pre ++ rest = zipW xs ys → (∀ z ∈ rest, ∃ env1, tg z env0 S = some env1 ∧ elt env1 S = .ok (v z) S) →
    lcLoop (.zipl w u (zipW xs ys).length) tg fYes elt env0 rest.length pre.length S = .ok (rest.map v) S
  | [], pre, hp, _ => by
    have e := zipl_at h1 h2 pre.length
    have : (zipW xs ys)[pre.length]? = none := List.getElem?_eq_none_iff.mpr (by rw [← hp]; simp)
    rw [this] at e
    simp only [List.length_nil, lcLoop, e, List.map_nil]
  | z :: rest, pre, hp, he => by
    have e := zipl_at h1 h2 pre.length
    have h3 : (zipW xs ys)[pre.length]? = some z := by rw [← hp]; simp
    rw [h3] at e
    obtain ⟨env1, g1, g2⟩ := he z (by simp)
    have ih := lcLoop_zipl tg elt env0 S h1 h2 v rest (pre ++ [z]) (by rw [List.append_assoc]; exact hp) fun y hy => he y (by simp [hy])
    rw [List.length_append, List.length_singleton] at ih
    simp only [List.length_cons, lcLoop, e, g1, fYes, Out.nox, Out.bind, if_true, g2, ih, List.map_cons]
theorem lcK_zipl {live : Bool} {own : List Nat} {tg : Tg} {elt : FE} {env : Env} {S : Sto} {w u : Wv} {xs ys : List Wv} (h1 : lstOf S w = some xs) (h2 : lstOf S u = some ys) (hl : (zipW xs ys).length ≤ 1000000) (v : Wv → Wv) (he : ∀ z ∈ zipW xs ys, ∃ env1, tg z (wipeE env own) S = some env1 ∧ elt env1 S = .ok (v z) S) :
    lcK live own tg fYes elt env (.zipl w u (zipW xs ys).length) S = mkL live ((zipW xs ys).map v) S := by
  have h := lcLoop_zipl tg elt (wipeE env own) S h1 h2 v (zipW xs ys) [] rfl he
  simp only [List.length_nil] at h
  unfold lcK
  simp only [Itr.len, lenOk_t hl, if_true, h, Out.nox, Out.bind]
@[simp] theorem zipK_rr {a b : Nat} {S : Sto} {xs ys : List Wv} (h1 : S[a]? = some (.lst xs)) (h2 : S[b]? = some (.lst ys)) : zipK [.ref a, .ref b] S = .ok (.zipl (.ref a) (.ref b) (zipW xs ys).length) S := by
  simp only [zipK, lstOf, h1, h2]
/-- the values of a dict, picked and mapped, nothing else changed -/
theorem lcv_filt {i kd j : Nat} {d : Ks} {cond : FT} {elt : FE} {env : Env} {S : Sto} (q : Wv → Bool) (v : Wv → Wv) (he : env[i]? = some (some (.ref kd))) (hk : S[kd]? = some (.dct d)) (hl : d.length ≤ 1000000)
    (h : ∀ w ∈ d.map (·.2), cond ((wipeE env [j]).set j (some w)) (S.set kd (.lck d)) = .ok (q w) (S.set kd (.lck d)) ∧ (q w = true → elt ((wipeE env [j]).set j (some w)) (S.set kd (.lck d)) = .ok (v w) (S.set kd (.lck d)))) :
    fLcV false i [j] (tgName j) cond elt env S = .ok (.lst (((d.map (·.2)).filter q).map v)) S := by
  have h1 : (S.set kd (.lck d))[kd]? = some (.lck d) := by rw [List.getElem?_set_self (List.getElem?_eq_some_iff.mp hk).1]
  have hi : itVals i env (S.set kd (.lck d)) = .ok (.items (d.map (·.2))) (S.set kd (.lck d)) := by simp only [itVals, he, h1]
  have key : ∀ ws : List Wv, (∀ w ∈ ws, cond ((wipeE env [j]).set j (some w)) (S.set kd (.lck d)) = .ok (q w) (S.set kd (.lck d)) ∧ (q w = true → elt ((wipeE env [j]).set j (some w)) (S.set kd (.lck d)) = .ok (v w) (S.set kd (.lck d)))) →
      lcItems (tgName j) cond elt (wipeE env [j]) ws (S.set kd (.lck d)) = .ok ((ws.filter q).map v) (S.set kd (.lck d)) := by
    intro ws
    induction ws with
    | nil => intro _; rfl
    | cons w r ih =>
      intro hw
      obtain ⟨h2, h3⟩ := hw w (by simp)
      have ih := ih fun w hw' => hw w (by simp [hw'])
      cases hq : q w with
      | true =>
        rw [hq] at h2
        simp only [lcItems, tgName, h2, Out.nox, Out.bind, if_true, h3 hq, ih, List.filter_cons, hq, List.map_cons]
      | false =>
        rw [hq] at h2
        simp only [lcItems, tgName, h2, Out.nox, Out.bind, Bool.false_eq_true, if_false, ih, List.filter_cons, hq]
  have e : fLc false (itVals i) [j] (tgName j) cond elt env (S.set kd (.lck d)) = .ok (.lst (((d.map (·.2)).filter q).map v)) (S.set kd (.lck d)) := by
    rw [fLc_d, hi, bind_ok, lcK_d (lenOk_t (by rw [List.length_map]; exact hl)), key _ h]
    rfl
  simp only [fLcV, he, hk, e, Out.nox, Out.bind, h1]
  congr 1
  apply List.ext_getElem?
  intro m
  by_cases hm : m = kd
  · subst hm
    rw [List.getElem?_set_self (by rw [List.length_set]; exact (List.getElem?_eq_some_iff.mp hk).1), hk]
  · rw [List.getElem?_set_ne (Ne.symm hm), List.getElem?_set_ne (Ne.symm hm)]
end CL
namespace CL
open PySem PySem.Spec PyProof.Rows L2
section
variable {T : Tab} {X : Cx} {W : WX} {k : Nat} {N : List Str} {sc : Scope} {vl gl : List Str} {x : Str} {pos p : Pos} {e : Expr} {fe : FE}
/-- an assignment within an except suite -/
theorem ts_set (C : Sok T X k N sc vl gl) {i : Nat} (hi : N[i]? = some x) (hl : sc.names.lookup x = some .local) (he : SE T X W e fe) (hs : swapsWith e (some (.Name x p)) pos.line X.env = pure false) :
    SS T X W (.Assign [.Name x p] e pos) (sSet i fe) := ps_imp (ps_set (by rw [C.hN]; exact C.nd) (by rw [C.hN]; exact hi) (by rw [C.hsc]; exact .inl hl) he hs (.inr (by rw [C.hsc]; exact hl))) fun D σ H ⟨env, G, φ, S, r, er, gd⟩ =>
  ⟨env, G, φ, S, r, er, (GoodR.stmt (R := Den X.K) er gd).imp fun v H1 ⟨w, S1, G1, φ1, x1, r1, d1, g1⟩ => g1 _ H1 G1 φ1 Ext.refl r1 ((x1.envr er).set d1 i)⟩
end
end CL
namespace CL
open PySem PySem.Spec PyProof.Rows L2
/-! sorted(xs), xs a list of tuples of four whole numbers -/
def tupW (ns : List Int) : Wv := .tup (ns.map .int)
def tupsOf : List Wv → Option (List (List Int))
  | [] => some []
  | .tup ws :: r => match intsOf ws, tupsOf r with
    | some ns, some nss => some (ns :: nss)
    | _, _ => none
  | _ => none
theorem tupsOf_eq : ∀ {ws : List Wv} {nss : List (List Int)}, tupsOf ws = some nss → ws = nss.map tupW
  | [], nss, h => by cases h; rfl
  | .tup ws :: r, nss, h => by
    unfold tupsOf at h
    cases e1 : intsOf ws with
    | none => rw [e1] at h; cases h
    | some ns =>
      cases e2 : tupsOf r with
      | none => rw [e1, e2] at h; cases h
      | some ms => rw [e1, e2] at h; cases h; rw [tupsOf_eq e2, intsOf_eq e1]; rfl
  | .non :: _, _, h => by cases h
  | .bl _ :: _, _, h => by cases h
  | .int _ :: _, _, h => by cases h
  | .str _ :: _, _, h => by cases h
  | .lst _ :: _, _, h => by cases h
  | .scr _ :: _, _, h => by cases h
  | .ref _ :: _, _, h => by cases h
  | .exn _ :: _, _, h => by cases h
theorem tupsOf_map : ∀ nss : List (List Int), tupsOf (nss.map tupW) = some nss
  | [] => rfl
  | ns :: r => by
    rw [List.map_cons]
    show (match intsOf (ns.map Wv.int), tupsOf (r.map tupW) with
      | some ns, some nss => some (ns :: nss)
      | _, _ => none) = _
    rw [intsOf_map, tupsOf_map r]
def bigB : Int := 1000000000000000000
theorem code_inj {B : Int} : ∀ {ns ms : List Int}, ns.length = ms.length → TS.Bd B ns → TS.Bd B ms → TS.code B ns = TS.code B ms → ns = ms
  | [], [], _, _, _, _ => rfl
  | [], _ :: _, h, _, _, _ => by cases h
  | _ :: _, [], h, _, _, _ => by cases h
  | d :: r, e :: q, hl, h1, h2, h => by
    have hl' : r.length = q.length := by simpa using hl
    rcases Int.lt_trichotomy d e with y | y | y
    · have := TS.code_lt hl' h1.tail h2.tail y; omega
    · subst y
      have hc : TS.code B r = TS.code B q := by
        have h : d * B ^ r.length + TS.code B r = d * B ^ q.length + TS.code B q := h
        rw [hl'] at h
        omega
      rw [code_inj hl' h1.tail h2.tail hc]
    · have := TS.code_lt hl'.symm h2.tail h1.tail y; omega
/-- put into its place, by code -/
def insC (B : Int) (n : List Int) : List (List Int) → List (List Int)
  | [] => [n]
  | m :: r => if TS.code B n ≤ TS.code B m then n :: m :: r else m :: insC B n r
def sortC (B : Int) : List (List Int) → List (List Int)
  | [] => []
  | n :: r => insC B n (sortC B r)
theorem insC_perm (B : Int) (n : List Int) : ∀ l, (insC B n l).Perm (n :: l)
  | [] => List.Perm.refl _
  | m :: r => by
    unfold insC
    split
    · exact List.Perm.refl _
    · exact ((insC_perm B n r).cons m).trans (List.Perm.swap n m r)
theorem sortC_perm (B : Int) : ∀ l, (sortC B l).Perm l
  | [] => List.Perm.refl _
  | n :: r => (insC_perm B n _).trans ((sortC_perm B r).cons n)
theorem insC_le (B : Int) (n : List Int) : ∀ l, l.Pairwise (fun a b => TS.code B a ≤ TS.code B b) → (insC B n l).Pairwise (fun a b => TS.code B a ≤ TS.code B b)
  | [], _ => by simp [insC]
  | m :: r, h => by
    unfold insC
    have h' := List.pairwise_cons.mp h
    split
    · rename_i hc
      exact List.pairwise_cons.mpr ⟨fun x hx => by
        rcases List.mem_cons.mp hx with rfl | hx
        · exact hc
        · have := h'.1 x hx; omega, h⟩
    · rename_i hc
      refine List.pairwise_cons.mpr ⟨fun x hx => ?_, insC_le B n r h'.2⟩
      rcases List.mem_cons.mp ((insC_perm B n r).mem_iff.mp hx) with rfl | hx
      · omega
      · exact h'.1 x hx
theorem sortC_le (B : Int) : ∀ l, (sortC B l).Pairwise (fun a b => TS.code B a ≤ TS.code B b)
  | [] => List.Pairwise.nil
  | n :: r => insC_le B n _ (sortC_le B r)
inductive F2 {α β : Type} (R : α → β → Prop) : List α → List β → Prop
  | nil : F2 R [] []
  | cons {a b l m} : R a b → F2 R l m → F2 R (a :: l) (b :: m)
theorem F2.perm {α β : Type} {R : α → β → Prop} {l' l : List α} (p : l'.Perm l) : ∀ {m : List β}, F2 R l m → ∃ m', m'.Perm m ∧ F2 R l' m' := by
  induction p with
  | nil => intro m h; exact ⟨m, List.Perm.refl _, h⟩
  | cons x _ ih =>
    intro m h
    cases h with
    | cons r t =>
      obtain ⟨m', h1, h2⟩ := ih t
      exact ⟨_, h1.cons _, .cons r h2⟩
  | swap x y l =>
    intro m h
    cases h with
    | cons r t => cases t with
      | cons r' t' => exact ⟨_, List.Perm.swap _ _ _, .cons r' (.cons r t')⟩
  | trans _ _ ih1 ih2 =>
    intro m h
    obtain ⟨m1, a1, a2⟩ := ih2 h
    obtain ⟨m2, b1, b2⟩ := ih1 a2
    exact ⟨m2, b1.trans a1, b2⟩
theorem F2.mem {α β : Type} {R : α → β → Prop} {l : List α} {m : List β} (h : F2 R l m) : (∀ x ∈ l, ∃ y ∈ m, R x y) ∧ ∀ y ∈ m, ∃ x ∈ l, R x y := by
  induction h with
  | nil => exact ⟨(fun x hx => by cases hx), (fun x hx => by cases hx)⟩
  | cons r t ih =>
    refine ⟨fun x hx => ?_, fun y hy => ?_⟩
    · rcases List.mem_cons.mp hx with rfl | hx
      · exact ⟨_, List.mem_cons_self, r⟩
      · obtain ⟨y, h1, h2⟩ := ih.1 x hx; exact ⟨y, List.mem_cons_of_mem _ h1, h2⟩
    · rcases List.mem_cons.mp hy with rfl | hy
      · exact ⟨_, List.mem_cons_self, r⟩
      · obtain ⟨x, h1, h2⟩ := ih.2 y hy; exact ⟨x, List.mem_cons_of_mem _ h1, h2⟩
theorem F2.pw {α β : Type} {R : α → β → Prop} {P : α → α → Prop} {P' : β → β → Prop} (hP : ∀ x n y k, R x n → R y k → P x y → P' n k) {l : List α} {m : List β} (h : F2 R l m) : l.Pairwise P → m.Pairwise P' := by
  induction h with
  | nil => intro _; exact List.Pairwise.nil
  | cons r t ih =>
    intro h
    obtain ⟨h1, h2⟩ := List.pairwise_cons.mp h
    exact List.pairwise_cons.mpr ⟨fun k hk => by
      obtain ⟨y, hy, ry⟩ := t.mem.2 k hk
      exact hP _ _ _ _ r ry (h1 y hy), ih h2⟩
section
variable {T : Tab} {K : PySem.W.Frag} {W : WX} {G : Hp} {φ : List Addr}
theorem F2.ofDens : ∀ {xs : List V} {nss : List (List Int)}, Dens K G φ xs (nss.map tupW) → F2 (fun x ns => Den K G φ x (tupW ns)) xs nss
  | _, [], .nil => .nil
  | _, _ :: _, .cons d t => .cons d (F2.ofDens t)
theorem F2.toDens {xs : List V} {nss : List (List Int)} (h : F2 (fun x ns => Den K G φ x (tupW ns)) xs nss) : Dens K G φ xs (nss.map tupW) := by
  induction h with
  | nil => exact .nil
  | cons r _ ih => exact .cons r ih
def okT4 (ns : List Int) : Bool := decide (ns.length = 4) && ns.all fun m => decide (0 ≤ m) && decide (m < bigB)
theorem okT4_b {ns : List Int} (h : okT4 ns = true) : ns.length = 4 ∧ TS.Bd bigB ns := by
  unfold okT4 at h
  rw [Bool.and_eq_true, decide_eq_true_eq, List.all_eq_true] at h
  exact ⟨h.1, fun m hm => by have := h.2 m hm; simpa using this⟩
def sortedTP (live : Bool) : List Wv → Sto → Out Wv := fun ws S => match ws with
  | [w] => match lstOf S w with
    | some us => match tupsOf us with
      | some nss => if nss.length < 64 ∧ nss.all okT4 = true then mkL live ((sortC bigB nss).map tupW) S else .bad
      | none => .bad
    | none => .bad
  | _ => .bad
theorem den_tupI {S : Sto} {H : Hp} (r : Rel T K G φ S H) {x : V} {ns : List Int} (d : Den K G φ x (tupW ns)) : TupI K H x ns := by
  cases d with
  | tup h dd => exact ⟨_, rfl, SqT.of (by rw [← dd.toInts]; exact r.ex _ _ h)⟩
theorem g_sortT (live : Bool) : GN T K W (rSortU K 4 bigB) (sortedTP live) := fun xs ws σ G φ S H Q r d gd => by
  unfold sortedTP at gd
  match ws, d, gd with
  | [w], d, gd =>
    obtain ⟨v, rfl, dv⟩ := one_den d
    simp only at gd
    cases hl : lstOf S w with
    | none => rw [hl] at gd; exact gd.elim
    | some us =>
      rw [hl] at gd
      simp only at gd
      cases ht : tupsOf us with
      | none => rw [ht] at gd; exact gd.elim
      | some nss =>
        rw [ht] at gd
        simp only at gd
        by_cases hc : nss.length < 64 ∧ nss.all okT4 = true
        case neg => rw [if_neg hc] at gd; exact gd.elim
        rw [if_pos hc] at gd
        obtain ⟨a, vs, rfl, hH, dd⟩ := lst_rd r dv hl
        have eu := tupsOf_eq ht
        subst eu
        have hf := F2.ofDens dd
        have hok : ∀ ns ∈ nss, ns.length = 4 ∧ TS.Bd bigB ns := fun ns hn => okT4_b (List.all_eq_true.mp hc.2 ns hn)
        have hlen : vs.length = nss.length := by have := dd.len; simpa using this
        refine ⟨a, vs, rfl, SqL.of hH, by omega, fun x hx => ?_, fun ys p hp hs hn => ?_⟩
        · obtain ⟨ns, h1, h2⟩ := hf.mem.1 x hx
          exact ⟨ns, den_tupI r h2, hok ns h1⟩
        · obtain ⟨nss', p1, f1⟩ := hf.perm hp
          have hs' : nss'.Pairwise (fun a b => TS.code bigB a ≤ TS.code bigB b) := f1.pw (fun x n y k r1 r2 h => h n k (den_tupI r r1) (den_tupI r r2)) hs
          have e : nss' = sortC bigB nss := List.Perm.eq_of_pairwise (le := fun a b => TS.code bigB a ≤ TS.code bigB b) (fun a b ha hb h1 h2 => by
            have ha := hok a (p1.mem_iff.mp ha)
            have hb := hok b ((sortC_perm bigB nss).mem_iff.mp hb)
            exact code_inj (ha.1.trans hb.1.symm) ha.2 hb.2 (by omega)) hs' (sortC_le bigB nss) (p1.trans (sortC_perm bigB nss).symm)
          subst e
          exact made_lst live r hn f1.toDens gd
  | [], _, gd => exact gd.elim
  | _ :: _ :: _, _, gd => exact gd.elim
end
end CL
namespace CL
open PySem PySem.Spec PyProof.Rows L2
def b_is_whole : FS := sRet (fAndV (f1 (isP .int) (fVar 0)) (fAndV (f1 notP (f1 (isP .bl) (fVar 0))) (fChain (fun i j => decide (i ≤ j)) (fun i j => decide (i ≤ j)) (fVar 1) (fVar 0) (fVar 2))))
def F_is_whole : List Wv → Sto → Out Wv := runDef 3 b_is_whole
theorem F_is_whole_eq (a0 a1 a2 : Wv) (S : Sto) : F_is_whole [a0, a1, a2] S = (b_is_whole [some a0, some a1, some a2] S).out := rfl
def b_are_weights_c1 : FE := fN F_is_whole (fCons (fVar 1) (fCons (fC (.int 1)) (fCons (f2 powI (fC (.int 10)) (fC (.int 6))) (fNil))))
def b_are_weights : FS := sSeq (sIf (fTOr (fTNot (fTest (f1 (isP .tup) (fVar 0)))) (fTNot (fTest (fChain (fun i j => decide (i ≤ j)) (fun i j => decide (i ≤ j)) (fC (.int 1)) (fN lenP (fCons (fVar 0) (fNil))) (fC (.int 9)))))) (sRet (fC (.bl false))) (sNil))
  (sRet (fN allP (fCons (fLc false (itTup (fVar 0)) [1] (tgName 1) (fYes) (b_are_weights_c1)) (fNil))))
def F_are_weights : List Wv → Sto → Out Wv := runDef 2 b_are_weights
theorem F_are_weights_eq (a0 : Wv) (S : Sto) : F_are_weights [a0] S = (b_are_weights [some a0, none] S).out := rfl
def b_is_layer : FS := sSeq (sIf (fTOr (fTNot (fTest (f1 (isP .tup) (fVar 0)))) (fTest (f2 neP (fN lenP (fCons (fVar 0) (fNil))) (fC (.int 3))))) (sRet (fC (.bl false))) (sNil))
  (sRet (fAndV (fN F_is_whole (fCons (f2 idxP (fVar 0) (fC (.int 0))) (fCons (fC (.int 1)) (fCons (f2 powI (fC (.int 10)) (fC (.int 15))) (fNil))))) (fAndV (fN F_is_whole (fCons (f2 idxP (fVar 0) (fC (.int 1))) (fCons (fC (.int 1)) (fCons (f2 powI (fC (.int 10)) (fC (.int 18))) (fNil))))) (fN F_are_weights (fCons (f2 idxP (fVar 0) (fC (.int 2))) (fNil))))))
def F_is_layer : List Wv → Sto → Out Wv := runDef 1 b_is_layer
theorem F_is_layer_eq (a0 : Wv) (S : Sto) : F_is_layer [a0] S = (b_is_layer [some a0] S).out := rfl
def b_is_plan_c1 : FE := fN F_is_layer (fCons (fVar 1) (fNil))
def b_is_plan : FS := sSeq (sIf (fTOr (fTNot (fTest (f1 (isP .tup) (fVar 0)))) (fTOr (fTest (f2 neP (fN lenP (fCons (fVar 0) (fNil))) (fC (.int 2)))) (fTNot (fTest (fN F_is_whole (fCons (f2 idxP (fVar 0) (fC (.int 0))) (fCons (fC (.int 0)) (fCons (f2 powI (fC (.int 10)) (fC (.int 15))) (fNil))))))))) (sRet (fC (.bl false))) (sNil))
  (sSeq (sIf (fTOr (fTNot (fTest (f1 (isP .tup) (f2 idxP (fVar 0) (fC (.int 1)))))) (fTest (f2 (cmpI fun i j => decide (j < i)) (fN lenP (fCons (f2 idxP (fVar 0) (fC (.int 1))) (fNil))) (fC (.int 9))))) (sRet (fC (.bl false))) (sNil))
  (sRet (fN allP (fCons (fLc false (itTup (f2 idxP (fVar 0) (fC (.int 1)))) [1] (tgName 1) (fYes) (b_is_plan_c1)) (fNil)))))
def F_is_plan : List Wv → Sto → Out Wv := runDef 2 b_is_plan
theorem F_is_plan_eq (a0 : Wv) (S : Sto) : F_is_plan [a0] S = (b_is_plan [some a0, none] S).out := rfl
def b_split_f1 : FS := sSeq (sSet 3 (f2 addI (fVar 3) (fVar 5)))
  (sSeq (sSet 6 (f2 subI (f2 fdivI (f2 mulI (fVar 0) (fVar 3)) (fN sumP (fCons (fVar 1) (fNil)))) (fVar 4)))
  (sSeq (sExpr (fBM .lst appP (fVar 2) (fCons (fVar 6) (fNil))))
  (sSet 4 (f2 addI (fVar 4) (fVar 6)))))
def b_split : FS := sSeq (sSet 2 (fN (lstP true) (fNil)))
  (sSeq (sSet 3 (fC (.int 0)))
  (sSeq (sSet 4 (fC (.int 0)))
  (sSeq (sFor (itTup (fVar 1)) (tgName 5) (b_split_f1))
  (sRet (fVar 2)))))
def F_split : List Wv → Sto → Out Wv := runDef 7 b_split
theorem F_split_eq (a0 a1 : Wv) (S : Sto) : F_split [a0, a1] S = (b_split [some a0, some a1, none, none, none, none, none] S).out := rfl
def b_is_year : FS := sRet (fN F_is_whole (fCons (fVar 0) (fCons (fC (.int 0)) (fCons (fC (.int 9999)) (fNil)))))
def F_is_year : List Wv → Sto → Out Wv := runDef 1 b_is_year
theorem F_is_year_eq (a0 : Wv) (S : Sto) : F_is_year [a0] S = (b_is_year [some a0] S).out := rfl
def b_is_amount : FS := sRet (fN F_is_whole (fCons (fVar 0) (fCons (fC (.int 0)) (fCons (f2 powI (fC (.int 10)) (fC (.int 15))) (fNil)))))
def F_is_amount : List Wv → Sto → Out Wv := runDef 1 b_is_amount
theorem F_is_amount_eq (a0 : Wv) (S : Sto) : F_is_amount [a0] S = (b_is_amount [some a0] S).out := rfl
def b_is_damage : FS := sSeq (sIf (fTOr (fTNot (fTest (f1 (isP .tup) (fVar 0)))) (fTOr (fTest (f2 neP (fN lenP (fCons (fVar 0) (fNil))) (fC (.int 4)))) (fTNot (fTest (fN F_is_year (fCons (f2 idxP (fVar 0) (fC (.int 0))) (fNil))))))) (sRet (fC (.bl false))) (sNil))
  (sRet (fAndV (fN F_is_whole (fCons (f2 idxP (fVar 0) (fC (.int 1))) (fCons (fC (.int 1)) (fCons (fC (.int 366)) (fNil))))) (fAndV (fN F_is_whole (fCons (f2 idxP (fVar 0) (fC (.int 2))) (fCons (fC (.int 0)) (fCons (f2 powI (fC (.int 10)) (fC (.int 9))) (fNil))))) (fN F_is_amount (fCons (f2 idxP (fVar 0) (fC (.int 3))) (fNil))))))
def F_is_damage : List Wv → Sto → Out Wv := runDef 1 b_is_damage
theorem F_is_damage_eq (a0 : Wv) (S : Sto) : F_is_damage [a0] S = (b_is_damage [some a0] S).out := rfl
def b_ahead_f1 : FS := sIf (fTest (f2 neP (f2 idxP (fVar 0) (fVar 2)) (f2 idxP (fVar 1) (fVar 2)))) (sRet (f2 (cmpI fun i j => decide (i < j)) (f2 idxP (fVar 0) (fVar 2)) (f2 idxP (fVar 1) (fVar 2)))) (sNil)
def b_ahead : FS := sSeq (sFor (itRng1 (fCons (fC (.int 3)) (fNil))) (tgName 2) (b_ahead_f1))
  (sRet (fC (.bl false)))
def F_ahead : List Wv → Sto → Out Wv := runDef 3 b_ahead
theorem F_ahead_eq (a0 a1 : Wv) (S : Sto) : F_ahead [a0, a1] S = (b_ahead [some a0, some a1, none] S).out := rfl
def b_shared_f1 : FS := sSeq (sSet 8 (fN minP (fCons (fVar 4) (fCons (f2 idxP (fVar 7) (fC (.int 0))) (fCons (f2 subI (f2 idxP (fVar 7) (fC (.int 1))) (f2 idxP (fVar 1) (fVar 6))) (fNil))))))
  (sSeq (sExpr (fBM .lst appP (fVar 5) (fCons (fVar 8) (fNil))))
  (sSet 4 (f2 subI (fVar 4) (fVar 8))))
def b_shared : FS := sSeq (sSet 3 (fN minP (fCons (fVar 2) (fCons (f2 idxP (fVar 0) (fC (.int 0))) (fNil)))))
  (sSeq (sSet 4 (f2 subI (fVar 2) (fVar 3)))
  (sSeq (sSet 5 (fN (lstP true) (fNil)))
  (sSeq (sFor (itEnum (fCons (f2 idxP (fVar 0) (fC (.int 1))) (fNil))) (tgTup [6, 7]) (b_shared_f1))
  (sSeq (sFrz 5) (sRet (fN tupP (fCons (fVar 3) (fCons (fVar 5) (fCons (fVar 4) (fNil))))))))))
def F_shared : List Wv → Sto → Out Wv := runDef 9 b_shared
theorem F_shared_eq (a0 a1 a2 : Wv) (S : Sto) : F_shared [a0, a1, a2] S = (b_shared [some a0, some a1, some a2, none, none, none, none, none, none] S).out := rfl
def b_behind_c1 : FE := f2 addI (fVar 2) (fVar 3)
def b_behind : FS := sRet (fLc true (itZip (fCons (fVar 0) (fCons (fVar 1) (fNil)))) [2, 3] (tgTup [2, 3]) (fYes) (b_behind_c1))
def F_behind : List Wv → Sto → Out Wv := runDef 4 b_behind
theorem F_behind_eq (a0 a1 : Wv) (S : Sto) : F_behind [a0, a1] S = (b_behind [some a0, some a1, none, none] S).out := rfl
def b_year_init : FS := sSeq (sFld 0 0 (fVar 0) (fVar 1))
  (sSeq (sFld 0 1 (fVar 0) (fN (lstP true) (fNil)))
  (sFld 0 2 (fVar 0) (fN (lstP true) (fNil))))
def F_year_init : List Wv → Sto → Out Wv := runDef 2 b_year_init
theorem F_year_init_eq (a0 a1 : Wv) (S : Sto) : F_year_init [a0, a1] S = (b_year_init [some a0, some a1] S).out := rfl
def b_year_used_c1 : FE := fC (.int 0)
def b_year_used : FS := sSeq (sIf (fTest (f2 eqP (fFld 0 2 (fVar 0)) (fN (lstP false) (fNil)))) (sRet (fLc true (itTup (f2 idxP (fFld 0 0 (fVar 0)) (fC (.int 1)))) [2] (tgName 2) (fYes) (b_year_used_c1))) (sNil))
  (sSeq (sSet 1 (f2 idxP (fFld 0 2 (fVar 0)) (f1 negI (fC (.int 1)))))
  (sRet (fN F_behind (fCons (f2 idxP (fVar 1) (fC (.int 0))) (fCons (f2 idxP (f2 idxP (fVar 1) (fC (.int 1))) (fC (.int 1))) (fNil))))))
def F_year_used : List Wv → Sto → Out Wv := runDef 3 b_year_used
theorem F_year_used_eq (a0 : Wv) (S : Sto) : F_year_used [a0] S = (b_year_used [some a0, none, none] S).out := rfl
def b_year_go_on_f1 : FS := sSeq (sSet 3 (fMeth 0 F_year_used (fVar 0) fNil))
  (sSeq (sFrz 3) (sExpr (fBM .lst appP (fFld 0 2 (fVar 0)) (fCons (fN tupP (fCons (fVar 3) (fCons (fN F_shared (fCons (fFld 0 0 (fVar 0)) (fCons (fVar 3) (fCons (f2 idxP (fVar 2) (fC (.int 3))) (fNil))))) (fNil)))) (fNil)))))
def b_year_go_on : FS := sSeq (sFld 0 2 (fVar 0) (fSl true (fFld 0 2 (fVar 0)) (fNoPart) (fPart (fVar 1))))
  (sFor (itSeq (fSl false (fFld 0 1 (fVar 0)) (fPart (fVar 1)) (fNoPart))) (tgName 2) (b_year_go_on_f1))
def F_year_go_on : List Wv → Sto → Out Wv := runDef 4 b_year_go_on
theorem F_year_go_on_eq (a0 a1 : Wv) (S : Sto) : F_year_go_on [a0, a1] S = (b_year_go_on [some a0, some a1, none, none] S).out := rfl
def b_year_put_w1 : FS := sSet 2 (f2 addI (fVar 2) (fC (.int 1)))
def b_year_put_t2 : FT := fTAnd (fTest (f2 (cmpI fun i j => decide (i < j)) (fVar 2) (fN lenP (fCons (fFld 0 1 (fVar 0)) (fNil))))) (fTest (fN F_ahead (fCons (f2 idxP (fFld 0 1 (fVar 0)) (fVar 2)) (fCons (fVar 1) (fNil)))))
def b_year_put : FS := sSeq (sSet 2 (fC (.int 0)))
  (sSeq (sWhile 1000 (b_year_put_t2) (b_year_put_w1))
  (sSeq (sExpr (fBM .lst insP (fFld 0 1 (fVar 0)) (fCons (fVar 2) (fCons (fVar 1) (fNil)))))
  (sExpr (fMeth 0 F_year_go_on (fVar 0) (fCons (fVar 2) (fNil))))))
def F_year_put : List Wv → Sto → Out Wv := runDef 3 b_year_put
theorem F_year_put_eq (a0 a1 : Wv) (S : Sto) : F_year_put [a0, a1] S = (b_year_put [some a0, some a1, none] S).out := rfl
def b_year_place_of_c1 : FE := f2 idxP (fVar 2) (fC (.int 2))
def b_year_place_of : FS := sRet (fBM .lst indP (fLc false (itSeq (fFld 0 1 (fVar 0))) [2] (tgName 2) (fYes) (b_year_place_of_c1)) (fCons (fVar 1) (fNil)))
def F_year_place_of : List Wv → Sto → Out Wv := runDef 3 b_year_place_of
theorem F_year_place_of_eq (a0 a1 : Wv) (S : Sto) : F_year_place_of [a0, a1] S = (b_year_place_of [some a0, some a1, none] S).out := rfl
def b_year_drop : FS := sSeq (sSet 2 (fMeth 0 F_year_place_of (fVar 0) (fCons (fVar 1) (fNil))))
  (sSeq (sExpr (fBM .lst popP (fFld 0 1 (fVar 0)) (fCons (fVar 2) (fNil))))
  (sExpr (fMeth 0 F_year_go_on (fVar 0) (fCons (fVar 2) (fNil)))))
def F_year_drop : List Wv → Sto → Out Wv := runDef 3 b_year_drop
theorem F_year_drop_eq (a0 a1 : Wv) (S : Sto) : F_year_drop [a0, a1] S = (b_year_drop [some a0, some a1, none] S).out := rfl
def b_year_damages : FS := sRet (fN (listP true) (fCons (fFld 0 1 (fVar 0)) (fNil)))
def F_year_damages : List Wv → Sto → Out Wv := runDef 1 b_year_damages
theorem F_year_damages_eq (a0 : Wv) (S : Sto) : F_year_damages [a0] S = (b_year_damages [some a0] S).out := rfl
def b_year_share : FS := sSeq (sAsg (tgTup [2, 3, 4]) (f2 idxP (f2 idxP (fFld 0 2 (fVar 0)) (fMeth 0 F_year_place_of (fVar 0) (fCons (fVar 1) (fNil)))) (fC (.int 1))))
  (sRet (fN tupP (fCons (fVar 2) (fCons (fN (listP true) (fCons (fVar 3) (fNil))) (fCons (fVar 4) (fNil))))))
def F_year_share : List Wv → Sto → Out Wv := runDef 5 b_year_share
theorem F_year_share_eq (a0 a1 : Wv) (S : Sto) : F_year_share [a0, a1] S = (b_year_share [some a0, some a1, none, none, none] S).out := rfl
def b_year_trail_c1 : FE := fN tupP (fCons (fVar 4) (fCons (fVar 5) (fCons (f2 addI (fVar 4) (fVar 5)) (fNil))))
def b_year_trail : FS := sSeq (sAsg (tgTup [2, 3]) (f2 idxP (fFld 0 2 (fVar 0)) (fMeth 0 F_year_place_of (fVar 0) (fCons (fVar 1) (fNil)))))
  (sRet (fLc true (itZip (fCons (fVar 2) (fCons (f2 idxP (fVar 3) (fC (.int 1))) (fNil)))) [4, 5] (tgTup [4, 5]) (fYes) (b_year_trail_c1)))
def F_year_trail : List Wv → Sto → Out Wv := runDef 6 b_year_trail
theorem F_year_trail_eq (a0 a1 : Wv) (S : Sto) : F_year_trail [a0, a1] S = (b_year_trail [some a0, some a1, none, none, none, none] S).out := rfl
def b_book_init : FS := sSeq (sIf (fTNot (fTest (fN F_is_plan (fCons (fVar 1) (fNil))))) (sRaise 1) (sNil))
  (sSeq (sFld 1 0 (fVar 0) (fVar 1))
  (sSeq (sFld 1 1 (fVar 0) (fDNew))
  (sSeq (sFld 1 2 (fVar 0) (fDNew))
  (sFld 1 3 (fVar 0) (fN (lstP true) (fNil))))))
def F_book_init : List Wv → Sto → Out Wv := runDef 2 b_book_init
theorem F_book_init_eq (a0 a1 : Wv) (S : Sto) : F_book_init [a0, a1] S = (b_book_init [some a0, some a1] S).out := rfl
def b_book_stands : FS := sRet (fAndV (fN F_is_whole (fCons (fVar 1) (fCons (fC (.int 0)) (fCons (f2 powI (fC (.int 10)) (fC (.int 9))) (fNil))))) (f2 dinP (fVar 1) (fFld 1 1 (fVar 0))))
def F_book_stands : List Wv → Sto → Out Wv := runDef 2 b_book_stands
theorem F_book_stands_eq (a0 a1 : Wv) (S : Sto) : F_book_stands [a0, a1] S = (b_book_stands [some a0, some a1] S).out := rfl
def b_book_damage : FS := sSeq (sIf (fTNot (fTest (fMeth 1 F_book_stands (fVar 0) (fCons (fVar 1) (fNil))))) (sRaise 5) (sNil))
  (sRet (f2 dgetP (fFld 1 1 (fVar 0)) (fVar 1)))
def F_book_damage : List Wv → Sto → Out Wv := runDef 2 b_book_damage
theorem F_book_damage_eq (a0 a1 : Wv) (S : Sto) : F_book_damage [a0, a1] S = (b_book_damage [some a0, some a1] S).out := rfl
def b_book_need_open : FS := sIf (fTest (f2 (inIntP false) (fVar 1) (fFld 1 3 (fVar 0)))) (sRaise 6) (sNil)
def F_book_need_open : List Wv → Sto → Out Wv := runDef 2 b_book_need_open
theorem F_book_need_open_eq (a0 a1 : Wv) (S : Sto) : F_book_need_open [a0, a1] S = (b_book_need_open [some a0, some a1] S).out := rfl
def b_book_need_year : FS := sIf (fTNot (fTest (fN F_is_year (fCons (fVar 1) (fNil))))) (sRaise 3) (sNil)
def F_book_need_year : List Wv → Sto → Out Wv := runDef 2 b_book_need_year
theorem F_book_need_year_eq (a0 a1 : Wv) (S : Sto) : F_book_need_year [a0, a1] S = (b_book_need_year [some a0, some a1] S).out := rfl
def b_book_told : FS := sSeq (sIf (fTNot (fTest (fN F_is_damage (fCons (fVar 1) (fNil))))) (sRaise 2) (sNil))
  (sSeq (sExpr (fMeth 1 F_book_need_open (fVar 0) (fCons (f2 idxP (fVar 1) (fC (.int 0))) (fNil))))
  (sSeq (sIf (fTest (f2 dinP (f2 idxP (fVar 1) (fC (.int 2))) (fFld 1 1 (fVar 0)))) (sRaise 4) (sNil))
  (sSeq (sDPut (fFld 1 1 (fVar 0)) (f2 idxP (fVar 1) (fC (.int 2))) (fVar 1))
  (sSeq (sIf (fTest (f2 dnotinP (f2 idxP (fVar 1) (fC (.int 0))) (fFld 1 2 (fVar 0)))) (sDPut (fFld 1 2 (fVar 0)) (f2 idxP (fVar 1) (fC (.int 0))) (fN (newP 0 F_year_init) (fCons (fFld 1 0 (fVar 0)) (fNil)))) (sNil))
  (sExpr (fMeth 0 F_year_put (f2 dgetP (fFld 1 2 (fVar 0)) (f2 idxP (fVar 1) (fC (.int 0)))) (fCons (fVar 1) (fNil))))))))
def F_book_told : List Wv → Sto → Out Wv := runDef 2 b_book_told
theorem F_book_told_eq (a0 a1 : Wv) (S : Sto) : F_book_told [a0, a1] S = (b_book_told [some a0, some a1] S).out := rfl
def b_book_change : FS := sSeq (sSet 3 (fMeth 1 F_book_damage (fVar 0) (fCons (fVar 1) (fNil))))
  (sSeq (sIf (fTNot (fTest (fN F_is_amount (fCons (fVar 2) (fNil))))) (sRaise 2) (sNil))
  (sSeq (sExpr (fMeth 1 F_book_need_open (fVar 0) (fCons (f2 idxP (fVar 3) (fC (.int 0))) (fNil))))
  (sSeq (sDPut (fFld 1 1 (fVar 0)) (fVar 1) (f2 catT (fSl false (fVar 3) (fNoPart) (fPart (fC (.int 3)))) (fN tupP (fCons (fVar 2) (fNil)))))
  (sSeq (sExpr (fMeth 0 F_year_drop (f2 dgetP (fFld 1 2 (fVar 0)) (f2 idxP (fVar 3) (fC (.int 0)))) (fCons (fVar 1) (fNil))))
  (sExpr (fMeth 0 F_year_put (f2 dgetP (fFld 1 2 (fVar 0)) (f2 idxP (fVar 3) (fC (.int 0)))) (fCons (f2 dgetP (fFld 1 1 (fVar 0)) (fVar 1)) (fNil))))))))
def F_book_change : List Wv → Sto → Out Wv := runDef 4 b_book_change
theorem F_book_change_eq (a0 a1 a2 : Wv) (S : Sto) : F_book_change [a0, a1, a2] S = (b_book_change [some a0, some a1, some a2, none] S).out := rfl
def b_book_back : FS := sSeq (sSet 2 (fMeth 1 F_book_damage (fVar 0) (fCons (fVar 1) (fNil))))
  (sSeq (sExpr (fMeth 1 F_book_need_open (fVar 0) (fCons (f2 idxP (fVar 2) (fC (.int 0))) (fNil))))
  (sSeq (sExpr (fDPop (fFld 1 1 (fVar 0)) (fVar 1)))
  (sSeq (sExpr (fMeth 0 F_year_drop (f2 dgetP (fFld 1 2 (fVar 0)) (f2 idxP (fVar 2) (fC (.int 0)))) (fCons (fVar 1) (fNil))))
  (sIf (fTest (f2 eqP (fMeth 0 F_year_damages (f2 dgetP (fFld 1 2 (fVar 0)) (f2 idxP (fVar 2) (fC (.int 0)))) fNil) (fN (lstP false) (fNil)))) (sExpr (fDPop (fFld 1 2 (fVar 0)) (f2 idxP (fVar 2) (fC (.int 0))))) (sNil)))))
def F_book_back : List Wv → Sto → Out Wv := runDef 3 b_book_back
theorem F_book_back_eq (a0 a1 : Wv) (S : Sto) : F_book_back [a0, a1] S = (b_book_back [some a0, some a1, none] S).out := rfl
def b_book_close : FS := sSeq (sExpr (fMeth 1 F_book_need_year (fVar 0) (fCons (fVar 1) (fNil))))
  (sSeq (sExpr (fMeth 1 F_book_need_open (fVar 0) (fCons (fVar 1) (fNil))))
  (sExpr (fBM .lst appP (fFld 1 3 (fVar 0)) (fCons (fVar 1) (fNil)))))
def F_book_close : List Wv → Sto → Out Wv := runDef 2 b_book_close
theorem F_book_close_eq (a0 a1 : Wv) (S : Sto) : F_book_close [a0, a1] S = (b_book_close [some a0, some a1] S).out := rfl
def b_book_reopen : FS := sSeq (sExpr (fMeth 1 F_book_need_year (fVar 0) (fCons (fVar 1) (fNil))))
  (sSeq (sIf (fTest (f2 (inIntP true) (fVar 1) (fFld 1 3 (fVar 0)))) (sRaise 7) (sNil))
  (sExpr (fBM .lst remP (fFld 1 3 (fVar 0)) (fCons (fVar 1) (fNil)))))
def F_book_reopen : List Wv → Sto → Out Wv := runDef 2 b_book_reopen
theorem F_book_reopen_eq (a0 a1 : Wv) (S : Sto) : F_book_reopen [a0, a1] S = (b_book_reopen [some a0, some a1] S).out := rfl
def b_book_closed : FS := sSeq (sExpr (fMeth 1 F_book_need_year (fVar 0) (fCons (fVar 1) (fNil))))
  (sRet (f2 (inIntP false) (fVar 1) (fFld 1 3 (fVar 0))))
def F_book_closed : List Wv → Sto → Out Wv := runDef 2 b_book_closed
theorem F_book_closed_eq (a0 a1 : Wv) (S : Sto) : F_book_closed [a0, a1] S = (b_book_closed [some a0, some a1] S).out := rfl
def b_book_share : FS := sRet (fMeth 0 F_year_share (f2 dgetP (fFld 1 2 (fVar 0)) (f2 idxP (fMeth 1 F_book_damage (fVar 0) (fCons (fVar 1) (fNil))) (fC (.int 0)))) (fCons (fVar 1) (fNil)))
def F_book_share : List Wv → Sto → Out Wv := runDef 2 b_book_share
theorem F_book_share_eq (a0 a1 : Wv) (S : Sto) : F_book_share [a0, a1] S = (b_book_share [some a0, some a1] S).out := rfl
def b_book_trail : FS := sRet (fMeth 0 F_year_trail (f2 dgetP (fFld 1 2 (fVar 0)) (f2 idxP (fMeth 1 F_book_damage (fVar 0) (fCons (fVar 1) (fNil))) (fC (.int 0)))) (fCons (fVar 1) (fNil)))
def F_book_trail : List Wv → Sto → Out Wv := runDef 2 b_book_trail
theorem F_book_trail_eq (a0 a1 : Wv) (S : Sto) : F_book_trail [a0, a1] S = (b_book_trail [some a0, some a1] S).out := rfl
def b_book_parts_c1 : FE := fN F_split (fCons (fVar 3) (fCons (f2 idxP (fVar 4) (fC (.int 2))) (fNil)))
def b_book_parts : FS := sSeq (sSet 2 (f2 idxP (fMeth 1 F_book_share (fVar 0) (fCons (fVar 1) (fNil))) (fC (.int 1))))
  (sSeq (sFrz 2) (sRet (fLc true (itZip (fCons (fVar 2) (fCons (f2 idxP (fFld 1 0 (fVar 0)) (fC (.int 1))) (fNil)))) [3, 4] (tgTup [3, 4]) (fYes) (b_book_parts_c1))))
def F_book_parts : List Wv → Sto → Out Wv := runDef 5 b_book_parts
theorem F_book_parts_eq (a0 a1 : Wv) (S : Sto) : F_book_parts [a0, a1] S = (b_book_parts [some a0, some a1, none, none, none] S).out := rfl
def b_book_row_of : FS := sSeq (sExpr (fMeth 1 F_book_need_year (fVar 0) (fCons (fVar 1) (fNil))))
  (sRet (fDGet2 (fFld 1 2 (fVar 0)) (fVar 1) (fN (newP 0 F_year_init) (fCons (fFld 1 0 (fVar 0)) (fNil)))))
def F_book_row_of : List Wv → Sto → Out Wv := runDef 2 b_book_row_of
theorem F_book_row_of_eq (a0 a1 : Wv) (S : Sto) : F_book_row_of [a0, a1] S = (b_book_row_of [some a0, some a1] S).out := rfl
def b_book_damages : FS := sRet (fMeth 0 F_year_damages (fMeth 1 F_book_row_of (fVar 0) (fCons (fVar 1) (fNil))) fNil)
def F_book_damages : List Wv → Sto → Out Wv := runDef 2 b_book_damages
theorem F_book_damages_eq (a0 a1 : Wv) (S : Sto) : F_book_damages [a0, a1] S = (b_book_damages [some a0, some a1] S).out := rfl
def b_book_used : FS := sRet (fMeth 0 F_year_used (fMeth 1 F_book_row_of (fVar 0) (fCons (fVar 1) (fNil))) fNil)
def F_book_used : List Wv → Sto → Out Wv := runDef 2 b_book_used
theorem F_book_used_eq (a0 a1 : Wv) (S : Sto) : F_book_used [a0, a1] S = (b_book_used [some a0, some a1] S).out := rfl
def b_book_years : FS := sRet (fN (sortedDP true) (fCons (fFld 1 2 (fVar 0)) (fNil)))
def F_book_years : List Wv → Sto → Out Wv := runDef 1 b_book_years
theorem F_book_years_eq (a0 : Wv) (S : Sto) : F_book_years [a0] S = (b_book_years [some a0] S).out := rfl
def b_book_dues_c1 : FE := fC (.int 0)
def b_book_dues_c2 : FE := fLc true (itTup (f2 idxP (fVar 5) (fC (.int 2)))) [6] (tgName 6) (fYes) (b_book_dues_c1)
def b_book_dues_c3 : FE := f2 addI (fVar 9) (fVar 10)
def b_book_dues_c4 : FE := fLc true (itZip (fCons (fVar 7) (fCons (fVar 8) (fNil)))) [9, 10] (tgTup [9, 10]) (fYes) (b_book_dues_c3)
def b_book_dues_f5 : FS := sSeq (sSet 4 (fMeth 1 F_book_parts (fVar 0) (fCons (f2 idxP (fVar 3) (fC (.int 2))) (fNil))))
  (sSeq (sFrz 4) (sSet 2 (fLc false (itZip (fCons (fVar 2) (fCons (fVar 4) (fNil)))) [7, 8] (tgTup [7, 8]) (fYes) (b_book_dues_c4))))
def b_book_dues : FS := sSeq (sSet 2 (fLc false (itTup (f2 idxP (fFld 1 0 (fVar 0)) (fC (.int 1)))) [5] (tgName 5) (fYes) (b_book_dues_c2)))
  (sSeq (sFor (itSeq (fMeth 1 F_book_damages (fVar 0) (fCons (fVar 1) (fNil)))) (tgName 3) (b_book_dues_f5))
  (sRet (fVar 2)))
def F_book_dues : List Wv → Sto → Out Wv := runDef 11 b_book_dues
theorem F_book_dues_eq (a0 a1 : Wv) (S : Sto) : F_book_dues [a0, a1] S = (b_book_dues [some a0, some a1, none, none, none, none, none, none, none, none, none] S).out := rfl
def b_l_whole : FS := sRet (fAndV (f1 (isP .int) (fVar 0)) (f1 notP (f1 (isP .bl) (fVar 0))))
def F_l_whole : List Wv → Sto → Out Wv := runDef 1 b_l_whole
theorem F_l_whole_eq (a0 : Wv) (S : Sto) : F_l_whole [a0] S = (b_l_whole [some a0] S).out := rfl
def b_l_cell_at : FS := sSeq (sIf (fTest (f2 (cmpI fun i j => decide (i < j)) (fVar 1) (fN lenP (fCons (fVar 0) (fNil))))) (sRet (f2 idxP (fVar 0) (fVar 1))) (sNil))
  (sRet (fC (.int 0)))
def F_l_cell_at : List Wv → Sto → Out Wv := runDef 2 b_l_cell_at
theorem F_l_cell_at_eq (a0 a1 : Wv) (S : Sto) : F_l_cell_at [a0, a1] S = (b_l_cell_at [some a0, some a1] S).out := rfl
def b_l_mixed : FS := sSeq (sSet 2 (f2 modI (f2 mulI (f2 addI (fVar 0) (f2 mulI (fC (.int 7919)) (fVar 1))) (fC (.int 48271))) (fC (.int 2147483647))))
  (sRet (f2 modI (f2 mulI (fVar 2) (f2 addI (f2 addI (f2 modI (fVar 2) (fC (.int 65537))) (fVar 1)) (fC (.int 1)))) (fC (.int 2147483647))))
def F_l_mixed : List Wv → Sto → Out Wv := runDef 3 b_l_mixed
theorem F_l_mixed_eq (a0 a1 : Wv) (S : Sto) : F_l_mixed [a0, a1] S = (b_l_mixed [some a0, some a1, none] S).out := rfl
def b_l_weights_c1 : FE := f2 addI (fC (.int 1)) (f2 modI (fN F_l_mixed (fCons (fVar 0) (fCons (fVar 2) (fNil)))) (f2 idxP (fN (lstP false) (fCons (fC (.int 3)) (fCons (f2 powI (fC (.int 10)) (fC (.int 6))) (fNil)))) (f2 modI (f2 fdivI (fVar 0) (fC (.int 54))) (fC (.int 2)))))
def b_l_weights : FS := sSeq (sSet 1 (f2 addI (fC (.int 1)) (f2 modI (f2 fdivI (fVar 0) (fC (.int 2))) (f2 idxP (fN (lstP false) (fCons (fC (.int 3)) (fCons (fC (.int 9)) (fNil)))) (f2 modI (fVar 0) (fC (.int 2)))))))
  (sRet (fN tupleP (fCons (fLc false (itRng1 (fCons (fVar 1) (fNil))) [2] (tgName 2) (fYes) (b_l_weights_c1)) (fNil))))
def F_l_weights : List Wv → Sto → Out Wv := runDef 3 b_l_weights
theorem F_l_weights_eq (a0 : Wv) (S : Sto) : F_l_weights [a0] S = (b_l_weights [some a0, none, none] S).out := rfl
def b_l_plan_f1 : FS := sSeq (sSet 6 (fN F_l_mixed (fCons (fN F_l_cell_at (fCons (fVar 0) (fCons (f2 addI (fVar 1) (fC (.int 1))) (fNil)))) (fCons (fVar 5) (fNil)))))
  (sSeq (sSet 7 (f2 mulI (fVar 3) (f2 addI (fC (.int 1)) (f2 modI (fVar 6) (fC (.int 20))))))
  (sSeq (sSet 8 (f2 mulI (fVar 3) (f2 addI (fC (.int 1)) (f2 modI (f2 fdivI (fVar 6) (fC (.int 20))) (fC (.int 60))))))
  (sSeq (sIf (fTest (f2 eqP (f2 modI (f2 fdivI (fVar 6) (fC (.int 1200))) (fC (.int 6))) (fC (.int 0)))) (sSet 8 (f2 addI (fC (.int 1)) (f2 modI (f2 mulI (f2 addI (fVar 2) (fVar 6)) (f2 addI (fVar 5) (fC (.int 1)))) (f2 powI (fC (.int 10)) (fC (.int 18)))))) (sNil))
  (sSeq (sIf (fTest (f2 eqP (f2 modI (f2 fdivI (fVar 6) (fC (.int 1200))) (fC (.int 6))) (fC (.int 1)))) (sSet 7 (f2 addI (fC (.int 1)) (f2 modI (f2 addI (fVar 2) (fVar 6)) (f2 powI (fC (.int 10)) (fC (.int 15)))))) (sNil))
  (sExpr (fBM .lst appP (fVar 4) (fCons (fN tupP (fCons (fVar 7) (fCons (fVar 8) (fCons (fN F_l_weights (fCons (f2 fdivI (fVar 6) (fC (.int 7200))) (fNil))) (fNil))))) (fNil))))))))
def b_l_plan : FS := sSeq (sSet 2 (fN F_l_cell_at (fCons (fVar 0) (fCons (fVar 1) (fNil)))))
  (sSeq (sSet 3 (f2 idxP (fN (lstP false) (fCons (fC (.int 1)) (fCons (fC (.int 7)) (fCons (f2 addI (f2 powI (fC (.int 10)) (fC (.int 6))) (fC (.int 3))) (fCons (f2 powI (fC (.int 10)) (fC (.int 13))) (fNil)))))) (f2 modI (fVar 2) (fC (.int 4)))))
  (sSeq (sSet 4 (fN (lstP true) (fNil)))
  (sSeq (sFor (itRng1 (fCons (f2 idxP (fN (lstP false) (fCons (fC (.int 2)) (fCons (fC (.int 3)) (fCons (fC (.int 1)) (fCons (f2 modI (f2 fdivI (fVar 2) (fC (.int 24))) (fC (.int 10))) (fCons (fC (.int 4)) (fCons (fC (.int 0)) (fNil)))))))) (f2 modI (f2 fdivI (fVar 2) (fC (.int 4))) (fC (.int 6)))) (fNil))) (tgName 5) (b_l_plan_f1))
  (sSeq (sSet 9 (f2 mulI (fVar 3) (f2 modI (f2 fdivI (fVar 2) (fC (.int 24))) (fC (.int 11)))))
  (sSeq (sIf (fTest (f2 eqP (f2 modI (f2 fdivI (fVar 2) (fC (.int 264))) (fC (.int 6))) (fC (.int 1)))) (sSet 9 (f2 modI (fVar 2) (f2 addI (f2 powI (fC (.int 10)) (fC (.int 15))) (fC (.int 1))))) (sNil))
  (sRet (fN tupP (fCons (fVar 9) (fCons (fN tupleP (fCons (fVar 4) (fNil))) (fNil))))))))))
def F_l_plan : List Wv → Sto → Out Wv := runDef 10 b_l_plan
theorem F_l_plan_eq (a0 a1 : Wv) (S : Sto) : F_l_plan [a0, a1] S = (b_l_plan [some a0, some a1, none, none, none, none, none, none, none, none] S).out := rfl
def b_l_amount : FS := sSeq (sIf (fTest (f2 eqP (f2 modI (fVar 1) (fC (.int 8))) (fC (.int 1)))) (sRet (f2 modI (fVar 0) (f2 addI (f2 powI (fC (.int 10)) (fC (.int 15))) (fC (.int 1))))) (sNil))
  (sRet (f2 addI (f2 mulI (f2 idxP (fN (lstP false) (fCons (fC (.int 1)) (fCons (fC (.int 7)) (fCons (f2 addI (f2 powI (fC (.int 10)) (fC (.int 6))) (fC (.int 3))) (fCons (f2 powI (fC (.int 10)) (fC (.int 13))) (fNil)))))) (f2 modI (fVar 2) (fC (.int 4)))) (f2 modI (f2 fdivI (fVar 1) (fC (.int 8))) (fC (.int 60)))) (f2 modI (f2 fdivI (fVar 1) (fC (.int 480))) (fC (.int 5)))))
def F_l_amount : List Wv → Sto → Out Wv := runDef 3 b_l_amount
theorem F_l_amount_eq (a0 a1 a2 : Wv) (S : Sto) : F_l_amount [a0, a1, a2] S = (b_l_amount [some a0, some a1, some a2] S).out := rfl
def b_l_name : FS := sSeq (sIf (fTest (f2 eqP (f2 modI (fVar 1) (fC (.int 3))) (fC (.int 1)))) (sRet (f2 subI (f2 powI (fC (.int 10)) (fC (.int 9))) (fVar 0))) (sNil))
  (sSeq (sIf (fTest (f2 eqP (f2 modI (fVar 1) (fC (.int 3))) (fC (.int 2)))) (sRet (f2 modI (f2 addI (f2 fdivI (fVar 1) (fC (.int 3))) (f2 mulI (fVar 0) (f2 idxP (fN (lstP false) (fCons (fC (.int 1)) (fCons (fC (.int 10)) (fCons (fC (.int 1000)) (fCons (f2 powI (fC (.int 10)) (fC (.int 5))) (fCons (f2 powI (fC (.int 10)) (fC (.int 7))) (fNil))))))) (f2 modI (f2 fdivI (fVar 1) (fC (.int 3))) (fC (.int 5)))))) (f2 addI (f2 powI (fC (.int 10)) (fC (.int 9))) (fC (.int 1))))) (sNil))
  (sRet (fVar 0)))
def F_l_name : List Wv → Sto → Out Wv := runDef 2 b_l_name
theorem F_l_name_eq (a0 a1 : Wv) (S : Sto) : F_l_name [a0, a1] S = (b_l_name [some a0, some a1] S).out := rfl
def b_l_damage : FS := sSeq (sSet 4 (fN F_l_mixed (fCons (fVar 1) (fCons (fVar 2) (fNil)))))
  (sSeq (sSet 5 (fN F_l_cell_at (fCons (fVar 0) (fCons (fC (.int 0)) (fNil)))))
  (sSeq (sSet 6 (f2 modI (fN F_l_cell_at (fCons (fVar 0) (fCons (fC (.int 2)) (fNil)))) (fC (.int 9997))))
  (sSeq (sSet 7 (f2 idxP (fN (lstP false) (fCons (fVar 6) (fCons (fVar 6) (fCons (f2 addI (fVar 6) (fC (.int 1))) (fCons (f2 subI (fC (.int 9999)) (fVar 6)) (fCons (f2 modI (f2 addI (fVar 6) (f2 mulI (fC (.int 100)) (f2 modI (f2 fdivI (fVar 4) (fC (.int 5))) (fC (.int 99))))) (fC (.int 10000))) (fNil))))))) (f2 modI (fVar 4) (fC (.int 5)))))
  (sSeq (sSet 8 (f2 addI (fC (.int 1)) (f2 modI (f2 fdivI (fVar 4) (fC (.int 5))) (f2 idxP (fN (lstP false) (fCons (fC (.int 3)) (fCons (fC (.int 366)) (fNil)))) (f2 modI (f2 fdivI (fVar 4) (fC (.int 1830))) (fC (.int 2)))))))
  (sSeq (sSet 9 (fN F_l_name (fCons (f2 modI (f2 fdivI (fVar 4) (fC (.int 3660))) (fVar 3)) (fCons (fN F_l_cell_at (fCons (fVar 0) (fCons (fC (.int 3)) (fNil)))) (fNil)))))
  (sRet (fN tupP (fCons (fVar 7) (fCons (fVar 8) (fCons (fVar 9) (fCons (fN F_l_amount (fCons (fVar 1) (fCons (fN F_l_mixed (fCons (fVar 1) (fCons (f2 addI (fVar 2) (fC (.int 100))) (fNil)))) (fCons (fVar 5) (fNil))))) (fNil))))))))))))
def F_l_damage : List Wv → Sto → Out Wv := runDef 10 b_l_damage
theorem F_l_damage_eq (a0 a1 a2 a3 : Wv) (S : Sto) : F_l_damage [a0, a1, a2, a3] S = (b_l_damage [some a0, some a1, some a2, some a3, none, none, none, none, none, none] S).out := rfl
def b_l_deeds_c1 : FE := f2 idxP (fVar 0) (fVar 5)
def b_l_deeds : FS := sSeq (sSet 4 (fVar 2))
  (sSeq (sIf (fTest (f2 (cmpI fun i j => decide (j < i)) (fN lenP (fCons (fVar 0) (fNil))) (fC (.int 63)))) (sSet 4 (fVar 3)) (sNil))
  (sRet (fLc false (itRng2 (fCons (fVar 1) (fCons (fN minP (fCons (fN lenP (fCons (fVar 0) (fNil))) (fCons (f2 addI (fVar 1) (fVar 4)) (fNil)))) (fNil)))) [5] (tgName 5) (fYes) (b_l_deeds_c1))))
def F_l_deeds : List Wv → Sto → Out Wv := runDef 6 b_l_deeds
theorem F_l_deeds_eq (a0 a1 a2 a3 : Wv) (S : Sto) : F_l_deeds [a0, a1, a2, a3] S = (b_l_deeds [some a0, some a1, some a2, some a3, none, none] S).out := rfl
def b_l_all_f1 : FS := sExpr (fBM .lst appP (fVar 2) (fCons (fN (lstP false) (fCons (fMeth 1 F_book_damages (fVar 0) (fCons (fVar 3) (fNil))) (fCons (fMeth 1 F_book_used (fVar 0) (fCons (fVar 3) (fNil))) (fCons (fMeth 1 F_book_dues (fVar 0) (fCons (fVar 3) (fNil))) (fNil))))) (fNil)))
def b_l_all_f2 : FS := sExpr (fBM .lst appP (fVar 2) (fCons (fN (lstP false) (fCons (fMeth 1 F_book_damage (fVar 0) (fCons (fVar 4) (fNil))) (fCons (fMeth 1 F_book_share (fVar 0) (fCons (fVar 4) (fNil))) (fCons (fMeth 1 F_book_trail (fVar 0) (fCons (fVar 4) (fNil))) (fCons (fMeth 1 F_book_parts (fVar 0) (fCons (fVar 4) (fNil))) (fNil)))))) (fNil)))
def b_l_all : FS := sSeq (sSet 2 (fN (lstP true) (fCons (fMeth 1 F_book_years (fVar 0) fNil) (fNil))))
  (sSeq (sFor (itSeq (f2 idxP (fVar 2) (fC (.int 0)))) (tgName 3) (b_l_all_f1))
  (sSeq (sFor (itSeq (fVar 1)) (tgName 4) (b_l_all_f2))
  (sRet (fVar 2))))
def F_l_all : List Wv → Sto → Out Wv := runDef 5 b_l_all
theorem F_l_all_eq (a0 a1 : Wv) (S : Sto) : F_l_all [a0, a1] S = (b_l_all [some a0, some a1, none, none, none] S).out := rfl
def b_l_refused_y1 : FS := sExpr (fMeth 1 F_book_told (fVar 0) (fCons (fVar 1) (fNil)))
def b_l_refused_h2 : FS := sRet (fC (.bl true))
def b_l_refused : FS := sSeq (sTry (hitOf 4) (b_l_refused_y1) (b_l_refused_h2))
  (sRet (fC (.bl false)))
def F_l_refused : List Wv → Sto → Out Wv := runDef 2 b_l_refused
theorem F_l_refused_eq (a0 a1 : Wv) (S : Sto) : F_l_refused [a0, a1] S = (b_l_refused [some a0, some a1] S).out := rfl
def b_l_closed_y1 : FS := sExpr (fMeth 1 F_book_told (fVar 0) (fCons (fVar 1) (fNil)))
def b_l_closed_h2 : FS := sRet (fC (.bl true))
def b_l_closed : FS := sSeq (sTry (hitOf 6) (b_l_closed_y1) (b_l_closed_h2))
  (sRet (fC (.bl false)))
def F_l_closed : List Wv → Sto → Out Wv := runDef 2 b_l_closed
theorem F_l_closed_eq (a0 a1 : Wv) (S : Sto) : F_l_closed [a0, a1] S = (b_l_closed [some a0, some a1] S).out := rfl
def b_l_told : FS := sSeq (sIf (fTAnd (fTest (f2 (cmpI fun i j => decide (i < j)) (f2 modI (fVar 2) (fC (.int 6))) (fC (.int 5)))) (fTest (f2 eqP (f2 modI (fVar 2) (fC (.int 5))) (fC (.int 1))))) (sSeq (sExpr (fMeth 1 F_book_told (fVar 0) (fCons (f2 catT (fSl false (fVar 1) (fNoPart) (fPart (fC (.int 3)))) (fN tupP (fCons (f2 modI (f2 addI (f2 idxP (fVar 1) (fC (.int 3))) (fVar 2)) (f2 addI (f2 powI (fC (.int 10)) (fC (.int 15))) (fC (.int 1)))) (fNil)))) (fNil))))
  (sSeq (sExpr (fMeth 1 F_book_change (fVar 0) (fCons (f2 idxP (fVar 1) (fC (.int 2))) (fCons (f2 idxP (fVar 1) (fC (.int 3))) (fNil)))))
  (sRet (fC (.bl true))))) (sNil))
  (sSeq (sIf (fTest (f2 eqP (f2 modI (fVar 2) (fC (.int 6))) (fC (.int 5)))) (sSeq (sExpr (fMeth 1 F_book_close (fVar 0) (fCons (f2 idxP (fVar 1) (fC (.int 0))) (fNil))))
  (sSeq (sIf (fTNot (fTest (fN F_l_closed (fCons (fVar 0) (fCons (fVar 1) (fNil)))))) (sRet (fC (.bl false))) (sNil))
  (sSeq (sExpr (fMeth 1 F_book_reopen (fVar 0) (fCons (f2 idxP (fVar 1) (fC (.int 0))) (fNil))))
  (sSeq (sExpr (fMeth 1 F_book_told (fVar 0) (fCons (fVar 1) (fNil))))
  (sRet (fC (.bl true))))))) (sNil))
  (sSeq (sIf (fTest (f2 eqP (f2 modI (fVar 2) (fC (.int 5))) (fC (.int 2)))) (sSeq (sExpr (fMeth 1 F_book_told (fVar 0) (fCons (f2 catT (fN tupP (fCons (f2 idxP (fN (lstP false) (fCons (f2 idxP (fVar 1) (fC (.int 0))) (fCons (f2 modI (f2 addI (f2 idxP (fVar 1) (fC (.int 0))) (fC (.int 1))) (fC (.int 10000))) (fNil)))) (f2 modI (f2 fdivI (fVar 2) (fC (.int 5))) (fC (.int 2)))) (fCons (f2 addI (fC (.int 1)) (f2 modI (f2 addI (f2 idxP (fVar 1) (fC (.int 1))) (fVar 2)) (fC (.int 366)))) (fNil)))) (fSl false (fVar 1) (fPart (fC (.int 2))) (fNoPart))) (fNil))))
  (sExpr (fMeth 1 F_book_back (fVar 0) (fCons (f2 idxP (fVar 1) (fC (.int 2))) (fNil))))) (sNil))
  (sSeq (sExpr (fMeth 1 F_book_told (fVar 0) (fCons (fVar 1) (fNil))))
  (sSeq (sIf (fTest (f2 eqP (f2 modI (fVar 2) (fC (.int 5))) (fC (.int 3)))) (sSeq (sExpr (fMeth 1 F_book_close (fVar 0) (fCons (f2 idxP (fVar 1) (fC (.int 0))) (fNil))))
  (sExpr (fMeth 1 F_book_reopen (fVar 0) (fCons (f2 idxP (fVar 1) (fC (.int 0))) (fNil))))) (sNil))
  (sRet (fOrV (f2 neP (f2 modI (fVar 2) (fC (.int 5))) (fC (.int 4))) (fN F_l_refused (fCons (fVar 0) (fCons (f2 catT (fSl false (fVar 1) (fNoPart) (fPart (fC (.int 3)))) (fN tupP (fCons (fC (.int 5)) (fNil)))) (fNil))))))))))
def F_l_told : List Wv → Sto → Out Wv := runDef 3 b_l_told
theorem F_l_told_eq (a0 a1 a2 : Wv) (S : Sto) : F_l_told [a0, a1, a2] S = (b_l_told [some a0, some a1, some a2] S).out := rfl
def b_l_damages_f1 : FS := sSeq (sSet 4 (fN F_l_damage (fCons (fVar 0) (fCons (f2 idxP (fVar 2) (fVar 3)) (fCons (fVar 3) (fCons (fC (.int 30)) (fNil)))))))
  (sExpr (fBM .lst appP (fVar 1) (fCons (f2 catT (fSl false (fVar 4) (fNoPart) (fPart (fC (.int 2)))) (fN tupP (fCons (fN F_l_name (fCons (fVar 3) (fCons (fN F_l_cell_at (fCons (fVar 0) (fCons (fC (.int 3)) (fNil)))) (fNil)))) (fCons (f2 idxP (fVar 4) (fC (.int 3))) (fNil))))) (fNil))))
def b_l_damages : FS := sSeq (sSet 1 (fN (lstP true) (fNil)))
  (sSeq (sSet 2 (fN F_l_deeds (fCons (fVar 0) (fCons (fC (.int 4)) (fCons (fC (.int 16)) (fCons (fC (.int 40)) (fNil)))))))
  (sSeq (sFor (itRng1 (fCons (fN lenP (fCons (fVar 2) (fNil))) (fNil))) (tgName 3) (b_l_damages_f1))
  (sSeq (sFrz 1) (sRet (fVar 1)))))
def F_l_damages : List Wv → Sto → Out Wv := runDef 5 b_l_damages
theorem F_l_damages_eq (a0 : Wv) (S : Sto) : F_l_damages [a0] S = (b_l_damages [some a0, none, none, none, none] S).out := rfl
def b_law_c1 : FE := f2 idxP (fVar 4) (fC (.int 2))
def b_law_f2 : FS := sExpr (fMeth 1 F_book_told (fVar 5) (fCons (fVar 4) (fNil)))
def b_law_c3 : FE := f2 idxP (fVar 4) (fC (.int 0))
def b_law_c4 : FE := fMeth 1 F_book_damage (fVar 5) (fCons (fVar 11) (fNil))
def b_law_w5 : FS := sSeq (sSet 10 (fN F_l_mixed (fCons (f2 addI (f2 idxP (f2 idxP (fVar 8) (fC (.int 0))) (fC (.int 3))) (f2 idxP (f2 idxP (fVar 8) (fC (.int 0))) (fC (.int 1)))) (fCons (fVar 9) (fNil)))))
  (sSeq (sSet 4 (fBM .lst popP (fVar 8) (fCons (f2 modI (f2 fdivI (fVar 10) (fC (.int 100))) (fN lenP (fCons (fVar 8) (fNil)))) (fNil))))
  (sSeq (sIf (fTNot (fTest (fN F_l_told (fCons (fVar 7) (fCons (fVar 4) (fCons (fVar 10) (fNil))))))) (sRet (fC (.bl false))) (sNil))
  (sSeq (sIf (fTest (f2 eqP (f2 modI (f2 fdivI (fVar 10) (fC (.int 5))) (fC (.int 7))) (fC (.int 0)))) (sExpr (fN F_l_all (fCons (fVar 7) (fCons (fN (lstP false) (fCons (f2 idxP (fVar 4) (fC (.int 2))) (fNil))) (fNil))))) (sNil))
  (sSet 9 (f2 addI (fVar 9) (fC (.int 1)))))))
def b_law_t6 : FT := fTest (f2 neP (fVar 8) (fN (lstP false) (fNil)))
def b_law : FS := sSeq (sSet 1 (fN F_l_plan (fCons (fVar 0) (fCons (fC (.int 0)) (fNil)))))
  (sSeq (sSet 2 (fN F_l_damages (fCons (fVar 0) (fNil))))
  (sSeq (sSet 3 (fLc false (itSeq (fVar 2)) [4] (tgName 4) (fYes) (b_law_c1)))
  (sSeq (sSet 5 (fN (newP 1 F_book_init) (fCons (fVar 1) (fNil))))
  (sSeq (sFor (itSeq (fN (sortedTP false) (fCons (fVar 2) (fNil)))) (tgName 4) (b_law_f2))
  (sSeq (sSet 6 (fN F_l_all (fCons (fVar 5) (fCons (fVar 3) (fNil)))))
  (sSeq (sIf (fTOr (fTest (f2 neP (f2 idxP (fVar 6) (fC (.int 0))) (f1 (sortedSetP false) (fLc false (itSeq (fVar 2)) [4] (tgName 4) (fYes) (b_law_c3))))) (fTest (f2 neP (fLc false (itSeq (fVar 3)) [11] (tgName 11) (fYes) (b_law_c4)) (fVar 2)))) (sRet (fC (.bl false))) (sNil))
  (sSeq (sSet 7 (fN (newP 1 F_book_init) (fCons (fVar 1) (fNil))))
  (sSeq (sSet 8 (fN (listP true) (fCons (fVar 2) (fNil))))
  (sSeq (sSet 9 (fC (.int 0)))
  (sSeq (sWhile 1000 (b_law_t6) (b_law_w5))
  (sRet (fAndV (f2 eqP (fN F_l_all (fCons (fVar 7) (fCons (fVar 3) (fNil)))) (fVar 6)) (f2 eqP (fN F_l_all (fCons (fVar 5) (fCons (fVar 3) (fNil)))) (fVar 6))))))))))))))
def F_law : List Wv → Sto → Out Wv := runDef 12 b_law
theorem F_law_eq (a0 : Wv) (S : Sto) : F_law [a0] S = (b_law [some a0, none, none, none, none, none, none, none, none, none, none, none] S).out := rfl
end CL
namespace W_k11_whole_any_order
open PySem PySem.Spec PyProof.Rows L2 CL
def top (i : Nat) : Stmt := PySem.Challenge.pw_claimlayers_k11_whole_any_order.main.body.getD i (.Pass ⟨0, 0, 0, 0⟩)
abbrev s_is_whole : Stmt := top 12
abbrev s_are_weights : Stmt := top 13
abbrev s_is_layer : Stmt := top 14
abbrev s_is_plan : Stmt := top 15
abbrev s_split : Stmt := top 16
abbrev s_is_year : Stmt := top 18
abbrev s_is_amount : Stmt := top 19
abbrev s_is_damage : Stmt := top 20
abbrev s_ahead : Stmt := top 21
abbrev s_shared : Stmt := top 23
abbrev s_behind : Stmt := top 24
abbrev s_year_init : Stmt := inClass (top 26) 0
abbrev s_year_used : Stmt := inClass (top 26) 1
abbrev s_year_go_on : Stmt := inClass (top 26) 2
abbrev s_year_put : Stmt := inClass (top 26) 3
abbrev s_year_place_of : Stmt := inClass (top 26) 4
abbrev s_year_drop : Stmt := inClass (top 26) 5
abbrev s_year_damages : Stmt := inClass (top 26) 6
abbrev s_year_share : Stmt := inClass (top 26) 7
abbrev s_year_trail : Stmt := inClass (top 26) 8
abbrev s_book_init : Stmt := inClass (top 28) 0
abbrev s_book_stands : Stmt := inClass (top 28) 1
abbrev s_book_damage : Stmt := inClass (top 28) 2
abbrev s_book_need_open : Stmt := inClass (top 28) 3
abbrev s_book_need_year : Stmt := inClass (top 28) 4
abbrev s_book_told : Stmt := inClass (top 28) 5
abbrev s_book_change : Stmt := inClass (top 28) 6
abbrev s_book_back : Stmt := inClass (top 28) 7
abbrev s_book_close : Stmt := inClass (top 28) 8
abbrev s_book_reopen : Stmt := inClass (top 28) 9
abbrev s_book_closed : Stmt := inClass (top 28) 10
abbrev s_book_share : Stmt := inClass (top 28) 11
abbrev s_book_trail : Stmt := inClass (top 28) 12
abbrev s_book_parts : Stmt := inClass (top 28) 13
abbrev s_book_row_of : Stmt := inClass (top 28) 14
abbrev s_book_damages : Stmt := inClass (top 28) 15
abbrev s_book_used : Stmt := inClass (top 28) 16
abbrev s_book_years : Stmt := inClass (top 28) 17
abbrev s_book_dues : Stmt := inClass (top 28) 18
abbrev s_l_whole : Stmt := top 30
abbrev s_l_cell_at : Stmt := top 31
abbrev s_l_mixed : Stmt := top 32
abbrev s_l_weights : Stmt := top 33
abbrev s_l_plan : Stmt := top 34
abbrev s_l_amount : Stmt := top 35
abbrev s_l_name : Stmt := top 36
abbrev s_l_damage : Stmt := top 37
abbrev s_l_deeds : Stmt := top 38
abbrev s_l_all : Stmt := top 39
abbrev s_l_refused : Stmt := top 40
abbrev s_l_closed : Stmt := top 41
abbrev s_l_told : Stmt := top 42
abbrev s_l_damages : Stmt := top 43
abbrev s_law : Stmt := top 44
def cnm : Nat → List Str
  | 0 => ["plan", "row", "steps"]
  | 1 => ["plan", "known", "rows", "shut"]
  | _ => []
theorem no_year_init : ("__init__" : Str) ∉ cnm 0 := by decide +kernel
theorem no_year_used : ("used" : Str) ∉ cnm 0 := by decide +kernel
theorem no_year_go_on : ("go_on" : Str) ∉ cnm 0 := by decide +kernel
theorem no_year_put : ("put" : Str) ∉ cnm 0 := by decide +kernel
theorem no_year_place_of : ("place_of" : Str) ∉ cnm 0 := by decide +kernel
theorem no_year_drop : ("drop" : Str) ∉ cnm 0 := by decide +kernel
theorem no_year_damages : ("damages" : Str) ∉ cnm 0 := by decide +kernel
theorem no_year_share : ("share" : Str) ∉ cnm 0 := by decide +kernel
theorem no_year_trail : ("trail" : Str) ∉ cnm 0 := by decide +kernel
theorem no_book_init : ("__init__" : Str) ∉ cnm 1 := by decide +kernel
theorem no_book_stands : ("stands" : Str) ∉ cnm 1 := by decide +kernel
theorem no_book_damage : ("damage" : Str) ∉ cnm 1 := by decide +kernel
theorem no_book_need_open : ("need_open" : Str) ∉ cnm 1 := by decide +kernel
theorem no_book_need_year : ("need_year" : Str) ∉ cnm 1 := by decide +kernel
theorem no_book_told : ("told" : Str) ∉ cnm 1 := by decide +kernel
theorem no_book_change : ("change" : Str) ∉ cnm 1 := by decide +kernel
theorem no_book_back : ("back" : Str) ∉ cnm 1 := by decide +kernel
theorem no_book_close : ("close" : Str) ∉ cnm 1 := by decide +kernel
theorem no_book_reopen : ("reopen" : Str) ∉ cnm 1 := by decide +kernel
theorem no_book_closed : ("closed" : Str) ∉ cnm 1 := by decide +kernel
theorem no_book_share : ("share" : Str) ∉ cnm 1 := by decide +kernel
theorem no_book_trail : ("trail" : Str) ∉ cnm 1 := by decide +kernel
theorem no_book_parts : ("parts" : Str) ∉ cnm 1 := by decide +kernel
theorem no_book_row_of : ("row_of" : Str) ∉ cnm 1 := by decide +kernel
theorem no_book_damages : ("damages" : Str) ∉ cnm 1 := by decide +kernel
theorem no_book_used : ("used" : Str) ∉ cnm 1 := by decide +kernel
theorem no_book_years : ("years" : Str) ∉ cnm 1 := by decide +kernel
theorem no_book_dues : ("dues" : Str) ∉ cnm 1 := by decide +kernel
structure Bf (T : Tab) (K : PySem.W.Frag) (mg : Str → Option Value) : Prop where
  triv : True
  n_all : mg "all" = none
  n_bool : mg "bool" = none
  n_enumerate : mg "enumerate" = none
  n_int : mg "int" = none
  n_isinstance : mg "isinstance" = none
  n_len : mg "len" = none
  n_list : mg "list" = none
  n_min : mg "min" = none
  n_range : mg "range" = none
  n_set : mg "set" = none
  n_sorted : mg "sorted" = none
  n_sum : mg "sum" = none
  n_tuple : mg "tuple" = none
  n_zip : mg "zip" = none
  cla0 : Cla T K 0
  cla1 : Cla T K 1
  x0 : ExF T K mg 0 "ClaimError"
  x1 : ExF T K mg 1 "NoPlan"
  x2 : ExF T K mg 2 "NoDamage"
  x3 : ExF T K mg 3 "NoYear"
  x4 : ExF T K mg 4 "Known"
  x5 : ExF T K mg 5 "Unknown"
  x6 : ExF T K mg 6 "Closed"
  x7 : ExF T K mg 7 "NotClosed"
  exs : ExAll T K
  c_MOST_COVERS : ConF mg "MOST_COVERS" (.int 9)
  c_MOST_LAYERS : ConF mg "MOST_LAYERS" (.int 9)
section
variable {P : Program} {w : World} {K : PySem.W.Frag} {mg : Str → Option Value} {base : Heap} {cad ead : Nat → Addr} {tb : Addr}
theorem sc_is_whole : FnScope ["thing", "least", "most"] ["thing", "least", "most"] (defScope s_is_whole) := ⟨rfl, rfl, rfl, by decide +kernel, rfl, by decide +kernel, by decide +kernel⟩
theorem ok_is_whole {f : Addr} {fd : FuncData} (F : Fun K "is_whole" "is_whole" s_is_whole f fd) (B : Bf ⟨cad, cnm, ead, tb⟩ K mg)  : FnOk P w K mg base (L2.CX P w) 1 f fd ["thing", "least", "most"] (spF ⟨cad, cnm, ead, tb⟩ K 3 F_is_whole) :=
  def_ok (vl := ["thing", "least", "most"]) (gl := ["isinstance", "int", "bool"]) F sc_is_whole (by decide +kernel) fun X W e1 e2 e3 e4 e5 D => by
  subst e1 e2 e3 e4 e5
  have C := D.toCok
  exact (ss_one (cs_ret (se_and (cs_isi .int C (j := 0) (j2 := 1) rfl B.n_isinstance rfl B.n_int (by decide +kernel) (cs_var C (j := 0) (i := 0) rfl rfl) rfl) (se_and (se_not (cs_isi .bl C (j := 0) (j2 := 2) rfl B.n_isinstance rfl B.n_bool (by decide +kernel) (cs_var C (j := 0) (i := 0) rfl rfl) rfl)) (se_one (cs_chain op_le op_le (cs_var C (j := 1) (i := 1) rfl rfl) (cs_var C (j := 0) (i := 0) rfl rfl) (cs_var C (j := 2) (i := 2) rfl rfl) (by with_unfolding_all rfl)))))))
theorem sc_are_weights : FnScope ["thing", "weight"] ["thing"] (defScope s_are_weights) := ⟨rfl, rfl, rfl, by decide +kernel, rfl, by decide +kernel, by decide +kernel⟩
theorem ok_are_weights {f : Addr} {fd : FuncData} (F : Fun K "are_weights" "are_weights" s_are_weights f fd) (B : Bf ⟨cad, cnm, ead, tb⟩ K mg) (h_is_whole : Cal ⟨cad, cnm, ead, tb⟩ P w K mg base "is_whole" 1 3 F_is_whole) : FnOk P w K mg base (L2.CX P w) 2 f fd ["thing"] (spF ⟨cad, cnm, ead, tb⟩ K 1 F_are_weights) :=
  def_ok (vl := ["thing"]) (gl := ["isinstance", "tuple", "len", "MOST_COVERS", "all"]) F sc_are_weights (by decide +kernel) fun X W e1 e2 e3 e4 e5 D => by
  subst e1 e2 e3 e4 e5
  have C := D.toCok
  exact (ss_cons (cs_if (st_w (sw_or (st_not (st_val (cs_isi .tup C (j := 0) (j2 := 1) rfl B.n_isinstance rfl B.n_tuple (by decide +kernel) (cs_var C (j := 0) (i := 0) rfl rfl) rfl) (fun _ => rfl))) (sw_or1 (st_not (ct_chain op_le op_le se_int (cs_bi C (j := 2) rfl B.n_len call_len g_len PySem.boot_len (sa_cons (cs_var C (j := 0) (i := 0) rfl rfl) sa_nil rfl) rfl) (cs_const_int C (j := 3) rfl B.c_MOST_COVERS) (by with_unfolding_all rfl)))))) (ss_one (cs_ret se_bl)) ss_nil)
    (ss_one (cs_ret (cs_bi C (j := 4) rfl B.n_all (cr_all C.calm) g_all (by decide +kernel) (sa_cons (cs_lc false C [("weight", 1)] ["weight"] ["is_whole"] (by decide +kernel) (by decide) tgName_len (si_tup (cs_var C (j := 0) (i := 0) rfl rfl)) (fun _ _ _ _ _ B1 => sg_own B1 (j := 0) rfl) (fun _ _ _ _ _ _ => sts_nil) (fun _ _ _ _ _ B1 => (cs_call B1.toCok (j := 0) rfl h_is_whole (by decide) (sa_cons (cs_var B1.toCok (j := 0) (i := 1) rfl rfl) (sa_cons se_int (sa_cons (se_op op_pow g_pow se_int se_int) sa_nil rfl) rfl) rfl) rfl rfl)) (fun _ => rfl)) sa_nil rfl) rfl))))
theorem sc_is_layer : FnScope ["thing"] ["thing"] (defScope s_is_layer) := ⟨rfl, rfl, rfl, by decide +kernel, rfl, by decide +kernel, by decide +kernel⟩
theorem ok_is_layer {f : Addr} {fd : FuncData} (F : Fun K "is_layer" "is_layer" s_is_layer f fd) (B : Bf ⟨cad, cnm, ead, tb⟩ K mg) (h_are_weights : Cal ⟨cad, cnm, ead, tb⟩ P w K mg base "are_weights" 2 1 F_are_weights) (h_is_whole : Cal ⟨cad, cnm, ead, tb⟩ P w K mg base "is_whole" 1 3 F_is_whole) : FnOk P w K mg base (L2.CX P w) 3 f fd ["thing"] (spF ⟨cad, cnm, ead, tb⟩ K 1 F_is_layer) :=
  def_ok (vl := ["thing"]) (gl := ["isinstance", "tuple", "len", "is_whole", "are_weights"]) F sc_is_layer (by decide +kernel) fun X W e1 e2 e3 e4 e5 D => by
  subst e1 e2 e3 e4 e5
  have C := D.toCok
  exact (ss_cons (cs_if (st_w (sw_or (st_not (st_val (cs_isi .tup C (j := 0) (j2 := 1) rfl B.n_isinstance rfl B.n_tuple (by decide +kernel) (cs_var C (j := 0) (i := 0) rfl rfl) rfl) (fun _ => rfl))) (sw_or1 (st_cmp (nw_op C.units) g_ne (cs_bi C (j := 2) rfl B.n_len call_len g_len PySem.boot_len (sa_cons (cs_var C (j := 0) (i := 0) rfl rfl) sa_nil rfl) rfl) se_int (nomark _))))) (ss_one (cs_ret se_bl)) ss_nil)
    (ss_one (cs_ret (se_and (cs_call C (j := 3) rfl h_is_whole (by decide) (sa_cons (se_idx (cs_var C (j := 0) (i := 0) rfl rfl) se_int (fun _ _ => rfl)) (sa_cons se_int (sa_cons (se_op op_pow g_pow se_int se_int) sa_nil rfl) rfl) rfl) rfl rfl) (se_and (cs_call C (j := 3) rfl h_is_whole (by decide) (sa_cons (se_idx (cs_var C (j := 0) (i := 0) rfl rfl) se_int (fun _ _ => rfl)) (sa_cons se_int (sa_cons (se_op op_pow g_pow se_int se_int) sa_nil rfl) rfl) rfl) rfl rfl) (se_one (cs_call C (j := 4) rfl h_are_weights (by decide) (sa_cons (se_idx (cs_var C (j := 0) (i := 0) rfl rfl) se_int (fun _ _ => rfl)) sa_nil rfl) rfl rfl)))))))
theorem sc_is_plan : FnScope ["thing", "layer"] ["thing"] (defScope s_is_plan) := ⟨rfl, rfl, rfl, by decide +kernel, rfl, by decide +kernel, by decide +kernel⟩
theorem ok_is_plan {f : Addr} {fd : FuncData} (F : Fun K "is_plan" "is_plan" s_is_plan f fd) (B : Bf ⟨cad, cnm, ead, tb⟩ K mg) (h_is_layer : Cal ⟨cad, cnm, ead, tb⟩ P w K mg base "is_layer" 3 1 F_is_layer) (h_is_whole : Cal ⟨cad, cnm, ead, tb⟩ P w K mg base "is_whole" 1 3 F_is_whole) : FnOk P w K mg base (L2.CX P w) 4 f fd ["thing"] (spF ⟨cad, cnm, ead, tb⟩ K 1 F_is_plan) :=
  def_ok (vl := ["thing"]) (gl := ["isinstance", "tuple", "len", "is_whole", "MOST_LAYERS", "all"]) F sc_is_plan (by decide +kernel) fun X W e1 e2 e3 e4 e5 D => by
  subst e1 e2 e3 e4 e5
  have C := D.toCok
  exact (ss_cons (cs_if (st_w (sw_or (st_not (st_val (cs_isi .tup C (j := 0) (j2 := 1) rfl B.n_isinstance rfl B.n_tuple (by decide +kernel) (cs_var C (j := 0) (i := 0) rfl rfl) rfl) (fun _ => rfl))) (sw_or (st_cmp (nw_op C.units) g_ne (cs_bi C (j := 2) rfl B.n_len call_len g_len PySem.boot_len (sa_cons (cs_var C (j := 0) (i := 0) rfl rfl) sa_nil rfl) rfl) se_int (nomark _)) (sw_or1 (st_not (st_val (cs_call C (j := 3) rfl h_is_whole (by decide) (sa_cons (se_idx (cs_var C (j := 0) (i := 0) rfl rfl) se_int (fun _ _ => rfl)) (sa_cons se_int (sa_cons (se_op op_pow g_pow se_int se_int) sa_nil rfl) rfl) rfl) rfl rfl) (fun _ => rfl))))))) (ss_one (cs_ret se_bl)) ss_nil)
    (ss_cons (cs_if (st_w (sw_or (st_not (st_val (cs_isi .tup C (j := 0) (j2 := 1) rfl B.n_isinstance rfl B.n_tuple (by decide +kernel) (se_idx (cs_var C (j := 0) (i := 0) rfl rfl) se_int (fun _ _ => rfl)) rfl) (fun _ => rfl))) (sw_or1 (st_cmp op_gt (g_cmpI fun i j => decide (j < i)) (cs_bi C (j := 2) rfl B.n_len call_len g_len PySem.boot_len (sa_cons (se_idx (cs_var C (j := 0) (i := 0) rfl rfl) se_int (fun _ _ => rfl)) sa_nil rfl) rfl) (cs_const_int C (j := 4) rfl B.c_MOST_LAYERS) (nomark _))))) (ss_one (cs_ret se_bl)) ss_nil)
    (ss_one (cs_ret (cs_bi C (j := 5) rfl B.n_all (cr_all C.calm) g_all (by decide +kernel) (sa_cons (cs_lc false C [("layer", 1)] ["layer"] ["is_layer"] (by decide +kernel) (by decide) tgName_len (si_tup (se_idx (cs_var C (j := 0) (i := 0) rfl rfl) se_int (fun _ _ => rfl))) (fun _ _ _ _ _ B1 => sg_own B1 (j := 0) rfl) (fun _ _ _ _ _ _ => sts_nil) (fun _ _ _ _ _ B1 => (cs_call B1.toCok (j := 0) rfl h_is_layer (by decide) (sa_cons (cs_var B1.toCok (j := 0) (i := 1) rfl rfl) sa_nil rfl) rfl rfl)) (fun _ => rfl)) sa_nil rfl) rfl)))))
theorem sc_split : FnScope ["paid", "weights", "parts", "ahead", "told", "weight", "part"] ["paid", "weights"] (defScope s_split) := ⟨rfl, rfl, rfl, by decide +kernel, rfl, by decide +kernel, by decide +kernel⟩
theorem ok_split {f : Addr} {fd : FuncData} (F : Fun K "split" "split" s_split f fd) (B : Bf ⟨cad, cnm, ead, tb⟩ K mg)  : FnOk P w K mg base (L2.CX P w) 1 f fd ["paid", "weights"] (spF ⟨cad, cnm, ead, tb⟩ K 2 F_split) :=
  def_ok (vl := ["paid", "weights", "parts", "ahead", "told", "weight", "part"]) (gl := ["sum"]) F sc_split (by decide +kernel) fun X W e1 e2 e3 e4 e5 D => by
  subst e1 e2 e3 e4 e5
  have C := D.toCok
  exact (ss_cons (ds_set D (j := 2) (i := 2) rfl rfl (se_lst true sa_nil) rfl)
    (ss_cons (ds_set D (j := 3) (i := 3) rfl rfl se_int rfl)
    (ss_cons (ds_set D (j := 4) (i := 4) rfl rfl se_int rfl)
    (ss_cons (cs_for C D.pass (si_tup (cs_var C (j := 1) (i := 1) rfl rfl)) (dg_name D (j := 5) (i := 5) rfl rfl)
    (ss_cons (ds_set D (j := 3) (i := 3) rfl rfl (se_op op_add g_add (cs_var C (j := 3) (i := 3) rfl rfl) (cs_var C (j := 5) (i := 5) rfl rfl)) rfl)
    (ss_cons (ds_set D (j := 6) (i := 6) rfl rfl (se_op op_sub g_sub (se_op op_fdiv g_fdiv (se_op op_mul g_mul (cs_var C (j := 0) (i := 0) rfl rfl) (cs_var C (j := 3) (i := 3) rfl rfl)) (cs_bi C (j := 0) rfl B.n_sum (cr_sum2 C.calm) g_sum (by decide +kernel) (sa_cons (cs_var C (j := 1) (i := 1) rfl rfl) sa_nil rfl) rfl)) (cs_var C (j := 4) (i := 4) rfl rfl)) rfl)
    (ss_cons (cs_expr (cs_bm .lst rfl PySem.F.plainAttrs_list PySem.F.slot_list_append PySem.F.type_list_append mt_append g_app (cs_var C (j := 2) (i := 2) rfl rfl) (sa_cons (cs_var C (j := 6) (i := 6) rfl rfl) sa_nil rfl) rfl rfl rfl rfl) rfl)
    (ss_one (ds_set D (j := 4) (i := 4) rfl rfl (se_op op_add g_add (cs_var C (j := 4) (i := 4) rfl rfl) (cs_var C (j := 6) (i := 6) rfl rfl)) rfl))))) (fun _ => rfl))
    (ss_one (cs_ret (cs_var C (j := 2) (i := 2) rfl rfl)))))))
theorem sc_is_year : FnScope ["thing"] ["thing"] (defScope s_is_year) := ⟨rfl, rfl, rfl, by decide +kernel, rfl, by decide +kernel, by decide +kernel⟩
theorem ok_is_year {f : Addr} {fd : FuncData} (F : Fun K "is_year" "is_year" s_is_year f fd) (B : Bf ⟨cad, cnm, ead, tb⟩ K mg) (h_is_whole : Cal ⟨cad, cnm, ead, tb⟩ P w K mg base "is_whole" 1 3 F_is_whole) : FnOk P w K mg base (L2.CX P w) 2 f fd ["thing"] (spF ⟨cad, cnm, ead, tb⟩ K 1 F_is_year) :=
  def_ok (vl := ["thing"]) (gl := ["is_whole"]) F sc_is_year (by decide +kernel) fun X W e1 e2 e3 e4 e5 D => by
  subst e1 e2 e3 e4 e5
  have C := D.toCok
  exact (ss_one (cs_ret (cs_call C (j := 0) rfl h_is_whole (by decide) (sa_cons (cs_var C (j := 0) (i := 0) rfl rfl) (sa_cons se_int (sa_cons se_int sa_nil rfl) rfl) rfl) rfl rfl)))
theorem sc_is_amount : FnScope ["thing"] ["thing"] (defScope s_is_amount) := ⟨rfl, rfl, rfl, by decide +kernel, rfl, by decide +kernel, by decide +kernel⟩
theorem ok_is_amount {f : Addr} {fd : FuncData} (F : Fun K "is_amount" "is_amount" s_is_amount f fd) (B : Bf ⟨cad, cnm, ead, tb⟩ K mg) (h_is_whole : Cal ⟨cad, cnm, ead, tb⟩ P w K mg base "is_whole" 1 3 F_is_whole) : FnOk P w K mg base (L2.CX P w) 2 f fd ["thing"] (spF ⟨cad, cnm, ead, tb⟩ K 1 F_is_amount) :=
  def_ok (vl := ["thing"]) (gl := ["is_whole"]) F sc_is_amount (by decide +kernel) fun X W e1 e2 e3 e4 e5 D => by
  subst e1 e2 e3 e4 e5
  have C := D.toCok
  exact (ss_one (cs_ret (cs_call C (j := 0) rfl h_is_whole (by decide) (sa_cons (cs_var C (j := 0) (i := 0) rfl rfl) (sa_cons se_int (sa_cons (se_op op_pow g_pow se_int se_int) sa_nil rfl) rfl) rfl) rfl rfl)))
theorem sc_is_damage : FnScope ["thing"] ["thing"] (defScope s_is_damage) := ⟨rfl, rfl, rfl, by decide +kernel, rfl, by decide +kernel, by decide +kernel⟩
theorem ok_is_damage {f : Addr} {fd : FuncData} (F : Fun K "is_damage" "is_damage" s_is_damage f fd) (B : Bf ⟨cad, cnm, ead, tb⟩ K mg) (h_is_amount : Cal ⟨cad, cnm, ead, tb⟩ P w K mg base "is_amount" 2 1 F_is_amount) (h_is_whole : Cal ⟨cad, cnm, ead, tb⟩ P w K mg base "is_whole" 1 3 F_is_whole) (h_is_year : Cal ⟨cad, cnm, ead, tb⟩ P w K mg base "is_year" 2 1 F_is_year) : FnOk P w K mg base (L2.CX P w) 3 f fd ["thing"] (spF ⟨cad, cnm, ead, tb⟩ K 1 F_is_damage) :=
  def_ok (vl := ["thing"]) (gl := ["isinstance", "tuple", "len", "is_year", "is_whole", "is_amount"]) F sc_is_damage (by decide +kernel) fun X W e1 e2 e3 e4 e5 D => by
  subst e1 e2 e3 e4 e5
  have C := D.toCok
  exact (ss_cons (cs_if (st_w (sw_or (st_not (st_val (cs_isi .tup C (j := 0) (j2 := 1) rfl B.n_isinstance rfl B.n_tuple (by decide +kernel) (cs_var C (j := 0) (i := 0) rfl rfl) rfl) (fun _ => rfl))) (sw_or (st_cmp (nw_op C.units) g_ne (cs_bi C (j := 2) rfl B.n_len call_len g_len PySem.boot_len (sa_cons (cs_var C (j := 0) (i := 0) rfl rfl) sa_nil rfl) rfl) se_int (nomark _)) (sw_or1 (st_not (st_val (cs_call C (j := 3) rfl h_is_year (by decide) (sa_cons (se_idx (cs_var C (j := 0) (i := 0) rfl rfl) se_int (fun _ _ => rfl)) sa_nil rfl) rfl rfl) (fun _ => rfl))))))) (ss_one (cs_ret se_bl)) ss_nil)
    (ss_one (cs_ret (se_and (cs_call C (j := 4) rfl h_is_whole (by decide) (sa_cons (se_idx (cs_var C (j := 0) (i := 0) rfl rfl) se_int (fun _ _ => rfl)) (sa_cons se_int (sa_cons se_int sa_nil rfl) rfl) rfl) rfl rfl) (se_and (cs_call C (j := 4) rfl h_is_whole (by decide) (sa_cons (se_idx (cs_var C (j := 0) (i := 0) rfl rfl) se_int (fun _ _ => rfl)) (sa_cons se_int (sa_cons (se_op op_pow g_pow se_int se_int) sa_nil rfl) rfl) rfl) rfl rfl) (se_one (cs_call C (j := 5) rfl h_is_amount (by decide) (sa_cons (se_idx (cs_var C (j := 0) (i := 0) rfl rfl) se_int (fun _ _ => rfl)) sa_nil rfl) rfl rfl)))))))
theorem sc_ahead : FnScope ["one", "other", "place"] ["one", "other"] (defScope s_ahead) := ⟨rfl, rfl, rfl, by decide +kernel, rfl, by decide +kernel, by decide +kernel⟩
theorem ok_ahead {f : Addr} {fd : FuncData} (F : Fun K "ahead" "ahead" s_ahead f fd) (B : Bf ⟨cad, cnm, ead, tb⟩ K mg)  : FnOk P w K mg base (L2.CX P w) 1 f fd ["one", "other"] (spF ⟨cad, cnm, ead, tb⟩ K 2 F_ahead) :=
  def_ok (vl := ["one", "other", "place"]) (gl := ["range"]) F sc_ahead (by decide +kernel) fun X W e1 e2 e3 e4 e5 D => by
  subst e1 e2 e3 e4 e5
  have C := D.toCok
  exact (ss_cons (cs_for C D.pass (si_rng1 C (j := 0) rfl B.n_range (sa_cons se_int sa_nil rfl) rfl) (dg_name D (j := 2) (i := 2) rfl rfl)
    (ss_one (cs_if (st_cmp (nw_op C.units) g_ne (se_idx (cs_var C (j := 0) (i := 0) rfl rfl) (cs_var C (j := 2) (i := 2) rfl rfl) (fun _ _ => rfl)) (se_idx (cs_var C (j := 1) (i := 1) rfl rfl) (cs_var C (j := 2) (i := 2) rfl rfl) (fun _ _ => rfl)) (nomark _)) (ss_one (cs_ret (se_cmp op_lt (g_cmpI fun i j => decide (i < j)) (se_idx (cs_var C (j := 0) (i := 0) rfl rfl) (cs_var C (j := 2) (i := 2) rfl rfl) (fun _ _ => rfl)) (se_idx (cs_var C (j := 1) (i := 1) rfl rfl) (cs_var C (j := 2) (i := 2) rfl rfl) (fun _ _ => rfl)) (nomark _)))) ss_nil)) (fun _ => rfl))
    (ss_one (cs_ret se_bl)))
theorem sc_shared : FnScope ["plan", "used", "amount", "own", "left", "paid", "place", "layer", "part"] ["plan", "used", "amount"] (defScope s_shared) := ⟨rfl, rfl, rfl, by decide +kernel, rfl, by decide +kernel, by decide +kernel⟩
theorem ok_shared {f : Addr} {fd : FuncData} (F : Fun K "shared" "shared" s_shared f fd) (B : Bf ⟨cad, cnm, ead, tb⟩ K mg)  : FnOk P w K mg base (L2.CX P w) 1 f fd ["plan", "used", "amount"] (spF ⟨cad, cnm, ead, tb⟩ K 3 F_shared) :=
  def_ok (vl := ["plan", "used", "amount", "own", "left", "paid", "place", "layer", "part"]) (gl := ["min", "enumerate"]) F sc_shared (by decide +kernel) fun X W e1 e2 e3 e4 e5 D => by
  subst e1 e2 e3 e4 e5
  have C := D.toCok
  exact (ss_cons (ds_set D (j := 3) (i := 3) rfl rfl (cs_bi C (j := 0) rfl B.n_min (cr_min23 C.calm) g_min (by decide +kernel) (sa_cons (cs_var C (j := 2) (i := 2) rfl rfl) (sa_cons (se_idx (cs_var C (j := 0) (i := 0) rfl rfl) se_int (fun _ _ => rfl)) sa_nil rfl) rfl) rfl) rfl)
    (ss_cons (ds_set D (j := 4) (i := 4) rfl rfl (se_op op_sub g_sub (cs_var C (j := 2) (i := 2) rfl rfl) (cs_var C (j := 3) (i := 3) rfl rfl)) rfl)
    (ss_cons (ds_set D (j := 5) (i := 5) rfl rfl (se_lst true sa_nil) rfl)
    (ss_cons (cs_for C D.pass (si_enum C (j := 1) rfl B.n_enumerate (sa_cons (se_idx (cs_var C (j := 0) (i := 0) rfl rfl) se_int (fun _ _ => rfl)) sa_nil rfl) rfl) (sg_tup C (sgs_cons (dg_name D (j := 6) (i := 6) rfl rfl) (sgs_cons (dg_name D (j := 7) (i := 7) rfl rfl) sgs_nil rfl) rfl) rfl rfl)
    (ss_cons (ds_set D (j := 8) (i := 8) rfl rfl (cs_bi C (j := 0) rfl B.n_min (cr_min23 C.calm) g_min (by decide +kernel) (sa_cons (cs_var C (j := 4) (i := 4) rfl rfl) (sa_cons (se_idx (cs_var C (j := 7) (i := 7) rfl rfl) se_int (fun _ _ => rfl)) (sa_cons (se_op op_sub g_sub (se_idx (cs_var C (j := 7) (i := 7) rfl rfl) se_int (fun _ _ => rfl)) (se_idx (cs_var C (j := 1) (i := 1) rfl rfl) (cs_var C (j := 6) (i := 6) rfl rfl) (fun _ _ => rfl))) sa_nil rfl) rfl) rfl) rfl) rfl)
    (ss_cons (cs_expr (cs_bm .lst rfl PySem.F.plainAttrs_list PySem.F.slot_list_append PySem.F.type_list_append mt_append g_app (cs_var C (j := 5) (i := 5) rfl rfl) (sa_cons (cs_var C (j := 8) (i := 8) rfl rfl) sa_nil rfl) rfl rfl rfl rfl) rfl)
    (ss_one (ds_set D (j := 4) (i := 4) rfl rfl (se_op op_sub g_sub (cs_var C (j := 4) (i := 4) rfl rfl) (cs_var C (j := 8) (i := 8) rfl rfl)) rfl)))) (fun _ => rfl))
    (ss_frz 5 (ss_one (cs_ret (se_tup (sa_cons (cs_var C (j := 3) (i := 3) rfl rfl) (sa_cons (cs_var C (j := 5) (i := 5) rfl rfl) (sa_cons (cs_var C (j := 4) (i := 4) rfl rfl) sa_nil rfl) rfl) rfl)))))))))
theorem sc_behind : FnScope ["used", "paid", "one", "other"] ["used", "paid"] (defScope s_behind) := ⟨rfl, rfl, rfl, by decide +kernel, rfl, by decide +kernel, by decide +kernel⟩
theorem ok_behind {f : Addr} {fd : FuncData} (F : Fun K "behind" "behind" s_behind f fd) (B : Bf ⟨cad, cnm, ead, tb⟩ K mg)  : FnOk P w K mg base (L2.CX P w) 1 f fd ["used", "paid"] (spF ⟨cad, cnm, ead, tb⟩ K 2 F_behind) :=
  def_ok (vl := ["used", "paid"]) (gl := ["zip"]) F sc_behind (by decide +kernel) fun X W e1 e2 e3 e4 e5 D => by
  subst e1 e2 e3 e4 e5
  have C := D.toCok
  exact (ss_one (cs_ret (cs_lc true C [("one", 2), ("other", 3)] ["one", "other"] [] (by decide +kernel) (by decide) tgTup_len (si_zip C (j := 0) rfl B.n_zip (sa_cons (cs_var C (j := 0) (i := 0) rfl rfl) (sa_cons (cs_var C (j := 1) (i := 1) rfl rfl) sa_nil rfl) rfl) rfl) (fun _ _ _ _ _ B1 => sg_tup B1.toCok (sgs_cons (sg_own B1 (j := 0) rfl) (sgs_cons (sg_own B1 (j := 1) rfl) sgs_nil rfl) rfl) rfl rfl) (fun _ _ _ _ _ _ => sts_nil) (fun _ _ _ _ _ B1 => (se_op op_add g_add (cs_var B1.toCok (j := 0) (i := 2) rfl rfl) (cs_var B1.toCok (j := 1) (i := 3) rfl rfl))) (fun _ => rfl))))
theorem sc_year_init : FnScope ["self", "plan"] ["self", "plan"] (defScope s_year_init) := ⟨rfl, rfl, rfl, by decide +kernel, rfl, by decide +kernel, by decide +kernel⟩
theorem ok_year_init {f : Addr} {fd : FuncData} (F : Fun K "__init__" "Year.__init__" s_year_init f fd) (B : Bf ⟨cad, cnm, ead, tb⟩ K mg)  : FnOk P w K mg base (L2.CX P w) 1 f fd ["self", "plan"] (spF ⟨cad, cnm, ead, tb⟩ K 2 F_year_init) :=
  def_ok (vl := ["self", "plan"]) (gl := []) F sc_year_init (by decide +kernel) fun X W e1 e2 e3 e4 e5 D => by
  subst e1 e2 e3 e4 e5
  have C := D.toCok
  exact (ss_cons (cs_sfld 0 0 B.cla0 rfl (cs_var C (j := 0) (i := 0) rfl rfl) (cs_var C (j := 1) (i := 1) rfl rfl) rfl)
    (ss_cons (cs_sfld 0 1 B.cla0 rfl (cs_var C (j := 0) (i := 0) rfl rfl) (se_lst true sa_nil) rfl)
    (ss_one (cs_sfld 0 2 B.cla0 rfl (cs_var C (j := 0) (i := 0) rfl rfl) (se_lst true sa_nil) rfl))))
theorem sc_year_used : FnScope ["self", "last", "layer"] ["self"] (defScope s_year_used) := ⟨rfl, rfl, rfl, by decide +kernel, rfl, by decide +kernel, by decide +kernel⟩
theorem ok_year_used {f : Addr} {fd : FuncData} (F : Fun K "used" "Year.used" s_year_used f fd) (B : Bf ⟨cad, cnm, ead, tb⟩ K mg) (h_behind : Cal ⟨cad, cnm, ead, tb⟩ P w K mg base "behind" 1 2 F_behind) : FnOk P w K mg base (L2.CX P w) 2 f fd ["self"] (spF ⟨cad, cnm, ead, tb⟩ K 1 F_year_used) :=
  def_ok (vl := ["self", "last"]) (gl := ["behind"]) F sc_year_used (by decide +kernel) fun X W e1 e2 e3 e4 e5 D => by
  subst e1 e2 e3 e4 e5
  have C := D.toCok
  exact (ss_cons (cs_if (st_cmp (ew_op C.units) g_eq (cs_fld 0 2 B.cla0 rfl (cs_var C (j := 0) (i := 0) rfl rfl) rfl) (se_lst false sa_nil) (nomark _)) (ss_one (cs_ret (cs_lc true C [("layer", 2)] ["layer"] [] (by decide +kernel) (by decide) tgName_len (si_tup (se_idx (cs_fld 0 0 B.cla0 rfl (cs_var C (j := 0) (i := 0) rfl rfl) rfl) se_int (fun _ _ => rfl))) (fun _ _ _ _ _ B1 => sg_own B1 (j := 0) rfl) (fun _ _ _ _ _ _ => sts_nil) (fun _ _ _ _ _ B1 => se_int) (fun _ => rfl)))) ss_nil)
    (ss_cons (ds_set D (j := 1) (i := 1) rfl rfl (se_idx (cs_fld 0 2 B.cla0 rfl (cs_var C (j := 0) (i := 0) rfl rfl) rfl) (se_un un_neg g_neg se_int) (fun _ _ => rfl)) rfl)
    (ss_one (cs_ret (cs_call C (j := 0) rfl h_behind (by decide) (sa_cons (se_idx (cs_var C (j := 1) (i := 1) rfl rfl) se_int (fun _ _ => rfl)) (sa_cons (se_idx (se_idx (cs_var C (j := 1) (i := 1) rfl rfl) se_int (fun _ _ => rfl)) se_int (fun _ _ => rfl)) sa_nil rfl) rfl) rfl rfl)))))
theorem sc_year_go_on : FnScope ["self", "place", "damage", "used"] ["self", "place"] (defScope s_year_go_on) := ⟨rfl, rfl, rfl, by decide +kernel, rfl, by decide +kernel, by decide +kernel⟩
theorem ok_year_go_on {f : Addr} {fd : FuncData} (F : Fun K "go_on" "Year.go_on" s_year_go_on f fd) (B : Bf ⟨cad, cnm, ead, tb⟩ K mg) (m_year_used : Mal ⟨cad, cnm, ead, tb⟩ P w K mg base 0 "used" 2 1 F_year_used) (h_shared : Cal ⟨cad, cnm, ead, tb⟩ P w K mg base "shared" 1 3 F_shared) : FnOk P w K mg base (L2.CX P w) 3 f fd ["self", "place"] (spF ⟨cad, cnm, ead, tb⟩ K 2 F_year_go_on) :=
  def_ok (vl := ["self", "place", "damage", "used"]) (gl := ["shared"]) F sc_year_go_on (by decide +kernel) fun X W e1 e2 e3 e4 e5 D => by
  subst e1 e2 e3 e4 e5
  have C := D.toCok
  exact (ss_cons (cs_sfld 0 2 B.cla0 rfl (cs_var C (j := 0) (i := 0) rfl rfl) (se_slice true (cs_fld 0 2 B.cla0 rfl (cs_var C (j := 0) (i := 0) rfl rfl) rfl) so_none (so_some (cs_var C (j := 1) (i := 1) rfl rfl))) rfl)
    (ss_one (cs_for C D.pass (si_seq (se_slice false (cs_fld 0 1 B.cla0 rfl (cs_var C (j := 0) (i := 0) rfl rfl) rfl) (so_some (cs_var C (j := 1) (i := 1) rfl rfl)) so_none)) (dg_name D (j := 2) (i := 2) rfl rfl)
    (ss_cons (ds_set D (j := 3) (i := 3) rfl rfl (cs_meth0 0 C B.cla0 m_year_used (by decide) no_year_used (cs_var C (j := 0) (i := 0) rfl rfl) rfl) rfl)
    (ss_frz 3 (ss_one (cs_expr (cs_bm .lst rfl PySem.F.plainAttrs_list PySem.F.slot_list_append PySem.F.type_list_append mt_append g_app (cs_fld 0 2 B.cla0 rfl (cs_var C (j := 0) (i := 0) rfl rfl) rfl) (sa_cons (se_tup (sa_cons (cs_var C (j := 3) (i := 3) rfl rfl) (sa_cons (cs_call C (j := 0) rfl h_shared (by decide) (sa_cons (cs_fld 0 0 B.cla0 rfl (cs_var C (j := 0) (i := 0) rfl rfl) rfl) (sa_cons (cs_var C (j := 3) (i := 3) rfl rfl) (sa_cons (se_idx (cs_var C (j := 2) (i := 2) rfl rfl) se_int (fun _ _ => rfl)) sa_nil rfl) rfl) rfl) rfl rfl) sa_nil rfl) rfl)) sa_nil rfl) rfl rfl rfl rfl) rfl)))) (fun _ => rfl))))
theorem sc_year_put : FnScope ["self", "damage", "place"] ["self", "damage"] (defScope s_year_put) := ⟨rfl, rfl, rfl, by decide +kernel, rfl, by decide +kernel, by decide +kernel⟩
theorem ok_year_put {f : Addr} {fd : FuncData} (F : Fun K "put" "Year.put" s_year_put f fd) (B : Bf ⟨cad, cnm, ead, tb⟩ K mg) (m_year_go_on : Mal ⟨cad, cnm, ead, tb⟩ P w K mg base 0 "go_on" 3 2 F_year_go_on) (h_ahead : Cal ⟨cad, cnm, ead, tb⟩ P w K mg base "ahead" 1 2 F_ahead) : FnOk P w K mg base (L2.CX P w) 4 f fd ["self", "damage"] (spF ⟨cad, cnm, ead, tb⟩ K 2 F_year_put) :=
  def_ok (vl := ["self", "damage", "place"]) (gl := ["len", "ahead"]) F sc_year_put (by decide +kernel) fun X W e1 e2 e3 e4 e5 D => by
  subst e1 e2 e3 e4 e5
  have C := D.toCok
  exact (ss_cons (ds_set D (j := 2) (i := 2) rfl rfl se_int rfl)
    (ss_cons (cs_while 1000 D.pass (st_w (sw_and (st_cmp op_lt (g_cmpI fun i j => decide (i < j)) (cs_var C (j := 2) (i := 2) rfl rfl) (cs_bi C (j := 0) rfl B.n_len call_len g_len PySem.boot_len (sa_cons (cs_fld 0 1 B.cla0 rfl (cs_var C (j := 0) (i := 0) rfl rfl) rfl) sa_nil rfl) rfl) (nomark _)) (sw_and1 (st_val (cs_call C (j := 1) rfl h_ahead (by decide) (sa_cons (se_idx (cs_fld 0 1 B.cla0 rfl (cs_var C (j := 0) (i := 0) rfl rfl) rfl) (cs_var C (j := 2) (i := 2) rfl rfl) (fun _ _ => rfl)) (sa_cons (cs_var C (j := 1) (i := 1) rfl rfl) sa_nil rfl) rfl) rfl rfl) (fun _ => rfl))))) (ss_one (ds_set D (j := 2) (i := 2) rfl rfl (se_op op_add g_add (cs_var C (j := 2) (i := 2) rfl rfl) se_int) rfl)))
    (ss_cons (cs_expr (cs_bm .lst rfl PySem.F.plainAttrs_list PySem.F.slot_list_insert PySem.F.type_list_insert mt_insert g_ins (cs_fld 0 1 B.cla0 rfl (cs_var C (j := 0) (i := 0) rfl rfl) rfl) (sa_cons (cs_var C (j := 2) (i := 2) rfl rfl) (sa_cons (cs_var C (j := 1) (i := 1) rfl rfl) sa_nil rfl) rfl) rfl rfl rfl rfl) rfl)
    (ss_one (cs_expr (cs_meth 0 C B.cla0 m_year_go_on (by decide) no_year_go_on (cs_var C (j := 0) (i := 0) rfl rfl) (sa_cons (cs_var C (j := 2) (i := 2) rfl rfl) sa_nil rfl) rfl rfl rfl) rfl)))))
theorem sc_year_place_of : FnScope ["self", "number", "damage"] ["self", "number"] (defScope s_year_place_of) := ⟨rfl, rfl, rfl, by decide +kernel, rfl, by decide +kernel, by decide +kernel⟩
theorem ok_year_place_of {f : Addr} {fd : FuncData} (F : Fun K "place_of" "Year.place_of" s_year_place_of f fd) (B : Bf ⟨cad, cnm, ead, tb⟩ K mg)  : FnOk P w K mg base (L2.CX P w) 1 f fd ["self", "number"] (spF ⟨cad, cnm, ead, tb⟩ K 2 F_year_place_of) :=
  def_ok (vl := ["self", "number"]) (gl := []) F sc_year_place_of (by decide +kernel) fun X W e1 e2 e3 e4 e5 D => by
  subst e1 e2 e3 e4 e5
  have C := D.toCok
  exact (ss_one (cs_ret (cs_bm .lst rfl PySem.F.plainAttrs_list PySem.F.slot_list_index PySem.F.type_list_index mt_index g_ind (cs_lc false C [("damage", 2)] ["damage"] [] (by decide +kernel) (by decide) tgName_len (si_seq (cs_fld 0 1 B.cla0 rfl (cs_var C (j := 0) (i := 0) rfl rfl) rfl)) (fun _ _ _ _ _ B1 => sg_own B1 (j := 0) rfl) (fun _ _ _ _ _ _ => sts_nil) (fun _ _ _ _ _ B1 => (se_idx (cs_var B1.toCok (j := 0) (i := 2) rfl rfl) se_int (fun _ _ => rfl))) (fun _ => rfl)) (sa_cons (cs_var C (j := 1) (i := 1) rfl rfl) sa_nil rfl) rfl rfl rfl rfl)))
theorem sc_year_drop : FnScope ["self", "number", "place"] ["self", "number"] (defScope s_year_drop) := ⟨rfl, rfl, rfl, by decide +kernel, rfl, by decide +kernel, by decide +kernel⟩
theorem ok_year_drop {f : Addr} {fd : FuncData} (F : Fun K "drop" "Year.drop" s_year_drop f fd) (B : Bf ⟨cad, cnm, ead, tb⟩ K mg) (m_year_go_on : Mal ⟨cad, cnm, ead, tb⟩ P w K mg base 0 "go_on" 3 2 F_year_go_on) (m_year_place_of : Mal ⟨cad, cnm, ead, tb⟩ P w K mg base 0 "place_of" 1 2 F_year_place_of) : FnOk P w K mg base (L2.CX P w) 4 f fd ["self", "number"] (spF ⟨cad, cnm, ead, tb⟩ K 2 F_year_drop) :=
  def_ok (vl := ["self", "number", "place"]) (gl := []) F sc_year_drop (by decide +kernel) fun X W e1 e2 e3 e4 e5 D => by
  subst e1 e2 e3 e4 e5
  have C := D.toCok
  exact (ss_cons (ds_set D (j := 2) (i := 2) rfl rfl (cs_meth 0 C B.cla0 m_year_place_of (by decide) no_year_place_of (cs_var C (j := 0) (i := 0) rfl rfl) (sa_cons (cs_var C (j := 1) (i := 1) rfl rfl) sa_nil rfl) rfl rfl rfl) rfl)
    (ss_cons (cs_expr (cs_bm .lst rfl PySem.F.plainAttrs_list PySem.F.slot_list_pop PySem.F.type_list_pop mt_popAt g_pop (cs_fld 0 1 B.cla0 rfl (cs_var C (j := 0) (i := 0) rfl rfl) rfl) (sa_cons (cs_var C (j := 2) (i := 2) rfl rfl) sa_nil rfl) rfl rfl rfl rfl) rfl)
    (ss_one (cs_expr (cs_meth 0 C B.cla0 m_year_go_on (by decide) no_year_go_on (cs_var C (j := 0) (i := 0) rfl rfl) (sa_cons (cs_var C (j := 2) (i := 2) rfl rfl) sa_nil rfl) rfl rfl rfl) rfl))))
theorem sc_year_damages : FnScope ["self"] ["self"] (defScope s_year_damages) := ⟨rfl, rfl, rfl, by decide +kernel, rfl, by decide +kernel, by decide +kernel⟩
theorem ok_year_damages {f : Addr} {fd : FuncData} (F : Fun K "damages" "Year.damages" s_year_damages f fd) (B : Bf ⟨cad, cnm, ead, tb⟩ K mg)  : FnOk P w K mg base (L2.CX P w) 1 f fd ["self"] (spF ⟨cad, cnm, ead, tb⟩ K 1 F_year_damages) :=
  def_ok (vl := ["self"]) (gl := ["list"]) F sc_year_damages (by decide +kernel) fun X W e1 e2 e3 e4 e5 D => by
  subst e1 e2 e3 e4 e5
  have C := D.toCok
  exact (ss_one (cs_ret (cs_ty C (j := 0) rfl B.n_list call_list_of (g_list true) (by decide +kernel) (sa_cons (cs_fld 0 1 B.cla0 rfl (cs_var C (j := 0) (i := 0) rfl rfl) rfl) sa_nil rfl) rfl)))
theorem sc_year_share : FnScope ["self", "number", "own", "paid", "left"] ["self", "number"] (defScope s_year_share) := ⟨rfl, rfl, rfl, by decide +kernel, rfl, by decide +kernel, by decide +kernel⟩
theorem ok_year_share {f : Addr} {fd : FuncData} (F : Fun K "share" "Year.share" s_year_share f fd) (B : Bf ⟨cad, cnm, ead, tb⟩ K mg) (m_year_place_of : Mal ⟨cad, cnm, ead, tb⟩ P w K mg base 0 "place_of" 1 2 F_year_place_of) : FnOk P w K mg base (L2.CX P w) 2 f fd ["self", "number"] (spF ⟨cad, cnm, ead, tb⟩ K 2 F_year_share) :=
  def_ok (vl := ["self", "number", "own", "paid", "left"]) (gl := ["list"]) F sc_year_share (by decide +kernel) fun X W e1 e2 e3 e4 e5 D => by
  subst e1 e2 e3 e4 e5
  have C := D.toCok
  exact (ss_cons (cs_asg (sg_tup C (sgs_cons (dg_name D (j := 2) (i := 2) rfl rfl) (sgs_cons (dg_name D (j := 3) (i := 3) rfl rfl) (sgs_cons (dg_name D (j := 4) (i := 4) rfl rfl) sgs_nil rfl) rfl) rfl) rfl rfl) (se_idx (se_idx (cs_fld 0 2 B.cla0 rfl (cs_var C (j := 0) (i := 0) rfl rfl) rfl) (cs_meth 0 C B.cla0 m_year_place_of (by decide) no_year_place_of (cs_var C (j := 0) (i := 0) rfl rfl) (sa_cons (cs_var C (j := 1) (i := 1) rfl rfl) sa_nil rfl) rfl rfl rfl) (fun _ _ => rfl)) se_int (fun _ _ => rfl)) rfl rfl rfl)
    (ss_one (cs_ret (se_tup (sa_cons (cs_var C (j := 2) (i := 2) rfl rfl) (sa_cons (cs_ty C (j := 0) rfl B.n_list call_list_of (g_list true) (by decide +kernel) (sa_cons (cs_var C (j := 3) (i := 3) rfl rfl) sa_nil rfl) rfl) (sa_cons (cs_var C (j := 4) (i := 4) rfl rfl) sa_nil rfl) rfl) rfl)))))
theorem sc_year_trail : FnScope ["self", "number", "used", "share", "one", "part"] ["self", "number"] (defScope s_year_trail) := ⟨rfl, rfl, rfl, by decide +kernel, rfl, by decide +kernel, by decide +kernel⟩
theorem ok_year_trail {f : Addr} {fd : FuncData} (F : Fun K "trail" "Year.trail" s_year_trail f fd) (B : Bf ⟨cad, cnm, ead, tb⟩ K mg) (m_year_place_of : Mal ⟨cad, cnm, ead, tb⟩ P w K mg base 0 "place_of" 1 2 F_year_place_of) : FnOk P w K mg base (L2.CX P w) 2 f fd ["self", "number"] (spF ⟨cad, cnm, ead, tb⟩ K 2 F_year_trail) :=
  def_ok (vl := ["self", "number", "used", "share"]) (gl := ["zip"]) F sc_year_trail (by decide +kernel) fun X W e1 e2 e3 e4 e5 D => by
  subst e1 e2 e3 e4 e5
  have C := D.toCok
  exact (ss_cons (cs_asg (sg_tup C (sgs_cons (dg_name D (j := 2) (i := 2) rfl rfl) (sgs_cons (dg_name D (j := 3) (i := 3) rfl rfl) sgs_nil rfl) rfl) rfl rfl) (se_idx (cs_fld 0 2 B.cla0 rfl (cs_var C (j := 0) (i := 0) rfl rfl) rfl) (cs_meth 0 C B.cla0 m_year_place_of (by decide) no_year_place_of (cs_var C (j := 0) (i := 0) rfl rfl) (sa_cons (cs_var C (j := 1) (i := 1) rfl rfl) sa_nil rfl) rfl rfl rfl) (fun _ _ => rfl)) rfl rfl rfl)
    (ss_one (cs_ret (cs_lc true C [("one", 4), ("part", 5)] ["one", "part"] [] (by decide +kernel) (by decide) tgTup_len (si_zip C (j := 0) rfl B.n_zip (sa_cons (cs_var C (j := 2) (i := 2) rfl rfl) (sa_cons (se_idx (cs_var C (j := 3) (i := 3) rfl rfl) se_int (fun _ _ => rfl)) sa_nil rfl) rfl) rfl) (fun _ _ _ _ _ B1 => sg_tup B1.toCok (sgs_cons (sg_own B1 (j := 0) rfl) (sgs_cons (sg_own B1 (j := 1) rfl) sgs_nil rfl) rfl) rfl rfl) (fun _ _ _ _ _ _ => sts_nil) (fun _ _ _ _ _ B1 => (se_tup (sa_cons (cs_var B1.toCok (j := 0) (i := 4) rfl rfl) (sa_cons (cs_var B1.toCok (j := 1) (i := 5) rfl rfl) (sa_cons (se_op op_add g_add (cs_var B1.toCok (j := 0) (i := 4) rfl rfl) (cs_var B1.toCok (j := 1) (i := 5) rfl rfl)) sa_nil rfl) rfl) rfl))) (fun _ => rfl)))))
theorem sc_book_init : FnScope ["self", "plan"] ["self", "plan"] (defScope s_book_init) := ⟨rfl, rfl, rfl, by decide +kernel, rfl, by decide +kernel, by decide +kernel⟩
theorem ok_book_init {f : Addr} {fd : FuncData} (F : Fun K "__init__" "Book.__init__" s_book_init f fd) (B : Bf ⟨cad, cnm, ead, tb⟩ K mg) (h_is_plan : Cal ⟨cad, cnm, ead, tb⟩ P w K mg base "is_plan" 4 1 F_is_plan) : FnOk P w K mg base (L2.CX P w) 5 f fd ["self", "plan"] (spF ⟨cad, cnm, ead, tb⟩ K 2 F_book_init) :=
  def_ok (vl := ["self", "plan"]) (gl := ["is_plan", "NoPlan"]) F sc_book_init (by decide +kernel) fun X W e1 e2 e3 e4 e5 D => by
  subst e1 e2 e3 e4 e5
  have C := D.toCok
  exact (ss_cons (cs_if (st_not (st_val (cs_call C (j := 0) rfl h_is_plan (by decide) (sa_cons (cs_var C (j := 1) (i := 1) rfl rfl) sa_nil rfl) rfl rfl) (fun _ => rfl))) (ss_one (cs_raise 1 C (j := 1) rfl PySem.F.excBase_ValueError B.x1.q B.x1.g B.x1.k B.x1.r)) ss_nil)
    (ss_cons (cs_sfld 1 0 B.cla1 rfl (cs_var C (j := 0) (i := 0) rfl rfl) (cs_var C (j := 1) (i := 1) rfl rfl) rfl)
    (ss_cons (cs_sfld 1 1 B.cla1 rfl (cs_var C (j := 0) (i := 0) rfl rfl) (cs_dnew) rfl)
    (ss_cons (cs_sfld 1 2 B.cla1 rfl (cs_var C (j := 0) (i := 0) rfl rfl) (cs_dnew) rfl)
    (ss_one (cs_sfld 1 3 B.cla1 rfl (cs_var C (j := 0) (i := 0) rfl rfl) (se_lst true sa_nil) rfl))))))
theorem sc_book_stands : FnScope ["self", "number"] ["self", "number"] (defScope s_book_stands) := ⟨rfl, rfl, rfl, by decide +kernel, rfl, by decide +kernel, by decide +kernel⟩
theorem ok_book_stands {f : Addr} {fd : FuncData} (F : Fun K "stands" "Book.stands" s_book_stands f fd) (B : Bf ⟨cad, cnm, ead, tb⟩ K mg) (h_is_whole : Cal ⟨cad, cnm, ead, tb⟩ P w K mg base "is_whole" 1 3 F_is_whole) : FnOk P w K mg base (L2.CX P w) 2 f fd ["self", "number"] (spF ⟨cad, cnm, ead, tb⟩ K 2 F_book_stands) :=
  def_ok (vl := ["self", "number"]) (gl := ["is_whole"]) F sc_book_stands (by decide +kernel) fun X W e1 e2 e3 e4 e5 D => by
  subst e1 e2 e3 e4 e5
  have C := D.toCok
  exact (ss_one (cs_ret (se_and (cs_call C (j := 0) rfl h_is_whole (by decide) (sa_cons (cs_var C (j := 1) (i := 1) rfl rfl) (sa_cons se_int (sa_cons (se_op op_pow g_pow se_int se_int) sa_nil rfl) rfl) rfl) rfl rfl) (se_one (cs_din C (cs_var C (j := 1) (i := 1) rfl rfl) (cs_fld 1 1 B.cla1 rfl (cs_var C (j := 0) (i := 0) rfl rfl) rfl) rfl)))))
theorem sc_book_damage : FnScope ["self", "number"] ["self", "number"] (defScope s_book_damage) := ⟨rfl, rfl, rfl, by decide +kernel, rfl, by decide +kernel, by decide +kernel⟩
theorem ok_book_damage {f : Addr} {fd : FuncData} (F : Fun K "damage" "Book.damage" s_book_damage f fd) (B : Bf ⟨cad, cnm, ead, tb⟩ K mg) (m_book_stands : Mal ⟨cad, cnm, ead, tb⟩ P w K mg base 1 "stands" 2 2 F_book_stands) : FnOk P w K mg base (L2.CX P w) 3 f fd ["self", "number"] (spF ⟨cad, cnm, ead, tb⟩ K 2 F_book_damage) :=
  def_ok (vl := ["self", "number"]) (gl := ["Unknown"]) F sc_book_damage (by decide +kernel) fun X W e1 e2 e3 e4 e5 D => by
  subst e1 e2 e3 e4 e5
  have C := D.toCok
  exact (ss_cons (cs_if (st_not (st_val (cs_meth 1 C B.cla1 m_book_stands (by decide) no_book_stands (cs_var C (j := 0) (i := 0) rfl rfl) (sa_cons (cs_var C (j := 1) (i := 1) rfl rfl) sa_nil rfl) rfl rfl rfl) (fun _ => rfl))) (ss_one (cs_raise 5 C (j := 0) rfl PySem.F.excBase_ValueError B.x5.q B.x5.g B.x5.k B.x5.r)) ss_nil)
    (ss_one (cs_ret (cs_dget C (cs_fld 1 1 B.cla1 rfl (cs_var C (j := 0) (i := 0) rfl rfl) rfl) (cs_var C (j := 1) (i := 1) rfl rfl) (fun _ _ => rfl)))))
theorem sc_book_need_open : FnScope ["self", "year"] ["self", "year"] (defScope s_book_need_open) := ⟨rfl, rfl, rfl, by decide +kernel, rfl, by decide +kernel, by decide +kernel⟩
theorem ok_book_need_open {f : Addr} {fd : FuncData} (F : Fun K "need_open" "Book.need_open" s_book_need_open f fd) (B : Bf ⟨cad, cnm, ead, tb⟩ K mg)  : FnOk P w K mg base (L2.CX P w) 1 f fd ["self", "year"] (spF ⟨cad, cnm, ead, tb⟩ K 2 F_book_need_open) :=
  def_ok (vl := ["self", "year"]) (gl := ["Closed"]) F sc_book_need_open (by decide +kernel) fun X W e1 e2 e3 e4 e5 D => by
  subst e1 e2 e3 e4 e5
  have C := D.toCok
  exact (ss_one (cs_if (st_cmp op_in_seq (g_inInt false) (cs_var C (j := 1) (i := 1) rfl rfl) (cs_fld 1 3 B.cla1 rfl (cs_var C (j := 0) (i := 0) rfl rfl) rfl) rfl) (ss_one (cs_raise 6 C (j := 0) rfl PySem.F.excBase_ValueError B.x6.q B.x6.g B.x6.k B.x6.r)) ss_nil))
theorem sc_book_need_year : FnScope ["self", "year"] ["self", "year"] (defScope s_book_need_year) := ⟨rfl, rfl, rfl, by decide +kernel, rfl, by decide +kernel, by decide +kernel⟩
theorem ok_book_need_year {f : Addr} {fd : FuncData} (F : Fun K "need_year" "Book.need_year" s_book_need_year f fd) (B : Bf ⟨cad, cnm, ead, tb⟩ K mg) (h_is_year : Cal ⟨cad, cnm, ead, tb⟩ P w K mg base "is_year" 2 1 F_is_year) : FnOk P w K mg base (L2.CX P w) 3 f fd ["self", "year"] (spF ⟨cad, cnm, ead, tb⟩ K 2 F_book_need_year) :=
  def_ok (vl := ["self", "year"]) (gl := ["is_year", "NoYear"]) F sc_book_need_year (by decide +kernel) fun X W e1 e2 e3 e4 e5 D => by
  subst e1 e2 e3 e4 e5
  have C := D.toCok
  exact (ss_one (cs_if (st_not (st_val (cs_call C (j := 0) rfl h_is_year (by decide) (sa_cons (cs_var C (j := 1) (i := 1) rfl rfl) sa_nil rfl) rfl rfl) (fun _ => rfl))) (ss_one (cs_raise 3 C (j := 1) rfl PySem.F.excBase_ValueError B.x3.q B.x3.g B.x3.k B.x3.r)) ss_nil))
theorem sc_book_told : FnScope ["self", "damage"] ["self", "damage"] (defScope s_book_told) := ⟨rfl, rfl, rfl, by decide +kernel, rfl, by decide +kernel, by decide +kernel⟩
theorem ok_book_told {f : Addr} {fd : FuncData} (F : Fun K "told" "Book.told" s_book_told f fd) (B : Bf ⟨cad, cnm, ead, tb⟩ K mg) (m_book_need_open : Mal ⟨cad, cnm, ead, tb⟩ P w K mg base 1 "need_open" 1 2 F_book_need_open) (k_year : Kal ⟨cad, cnm, ead, tb⟩ P w K mg base 0 "Year" 1 2 F_year_init) (m_year_put : Mal ⟨cad, cnm, ead, tb⟩ P w K mg base 0 "put" 4 2 F_year_put) (h_is_damage : Cal ⟨cad, cnm, ead, tb⟩ P w K mg base "is_damage" 3 1 F_is_damage) : FnOk P w K mg base (L2.CX P w) 5 f fd ["self", "damage"] (spF ⟨cad, cnm, ead, tb⟩ K 2 F_book_told) :=
  def_ok (vl := ["self", "damage"]) (gl := ["is_damage", "NoDamage", "Known", "Year"]) F sc_book_told (by decide +kernel) fun X W e1 e2 e3 e4 e5 D => by
  subst e1 e2 e3 e4 e5
  have C := D.toCok
  exact (ss_cons (cs_if (st_not (st_val (cs_call C (j := 0) rfl h_is_damage (by decide) (sa_cons (cs_var C (j := 1) (i := 1) rfl rfl) sa_nil rfl) rfl rfl) (fun _ => rfl))) (ss_one (cs_raise 2 C (j := 1) rfl PySem.F.excBase_ValueError B.x2.q B.x2.g B.x2.k B.x2.r)) ss_nil)
    (ss_cons (cs_expr (cs_meth 1 C B.cla1 m_book_need_open (by decide) no_book_need_open (cs_var C (j := 0) (i := 0) rfl rfl) (sa_cons (se_idx (cs_var C (j := 1) (i := 1) rfl rfl) se_int (fun _ _ => rfl)) sa_nil rfl) rfl rfl rfl) rfl)
    (ss_cons (cs_if (ct_din C (se_idx (cs_var C (j := 1) (i := 1) rfl rfl) se_int (fun _ _ => rfl)) (cs_fld 1 1 B.cla1 rfl (cs_var C (j := 0) (i := 0) rfl rfl) rfl) rfl) (ss_one (cs_raise 4 C (j := 2) rfl PySem.F.excBase_ValueError B.x4.q B.x4.g B.x4.k B.x4.r)) ss_nil)
    (ss_cons (cs_dput C (cs_fld 1 1 B.cla1 rfl (cs_var C (j := 0) (i := 0) rfl rfl) rfl) (se_idx (cs_var C (j := 1) (i := 1) rfl rfl) se_int (fun _ _ => rfl)) (cs_var C (j := 1) (i := 1) rfl rfl) rfl)
    (ss_cons (cs_if (ct_dnotin C (se_idx (cs_var C (j := 1) (i := 1) rfl rfl) se_int (fun _ _ => rfl)) (cs_fld 1 2 B.cla1 rfl (cs_var C (j := 0) (i := 0) rfl rfl) rfl) rfl) (ss_one (cs_dput C (cs_fld 1 2 B.cla1 rfl (cs_var C (j := 0) (i := 0) rfl rfl) rfl) (se_idx (cs_var C (j := 1) (i := 1) rfl rfl) se_int (fun _ _ => rfl)) (cs_new 0 C (j := 3) rfl k_year (by decide) (sa_cons (cs_fld 1 0 B.cla1 rfl (cs_var C (j := 0) (i := 0) rfl rfl) rfl) sa_nil rfl) rfl rfl) rfl)) ss_nil)
    (ss_one (cs_expr (cs_meth 0 C B.cla0 m_year_put (by decide) no_year_put (cs_dget C (cs_fld 1 2 B.cla1 rfl (cs_var C (j := 0) (i := 0) rfl rfl) rfl) (se_idx (cs_var C (j := 1) (i := 1) rfl rfl) se_int (fun _ _ => rfl)) (fun _ _ => rfl)) (sa_cons (cs_var C (j := 1) (i := 1) rfl rfl) sa_nil rfl) rfl rfl rfl) rfl)))))))
theorem sc_book_change : FnScope ["self", "number", "amount", "damage"] ["self", "number", "amount"] (defScope s_book_change) := ⟨rfl, rfl, rfl, by decide +kernel, rfl, by decide +kernel, by decide +kernel⟩
theorem ok_book_change {f : Addr} {fd : FuncData} (F : Fun K "change" "Book.change" s_book_change f fd) (B : Bf ⟨cad, cnm, ead, tb⟩ K mg) (m_book_damage : Mal ⟨cad, cnm, ead, tb⟩ P w K mg base 1 "damage" 3 2 F_book_damage) (m_book_need_open : Mal ⟨cad, cnm, ead, tb⟩ P w K mg base 1 "need_open" 1 2 F_book_need_open) (m_year_drop : Mal ⟨cad, cnm, ead, tb⟩ P w K mg base 0 "drop" 4 2 F_year_drop) (m_year_put : Mal ⟨cad, cnm, ead, tb⟩ P w K mg base 0 "put" 4 2 F_year_put) (h_is_amount : Cal ⟨cad, cnm, ead, tb⟩ P w K mg base "is_amount" 2 1 F_is_amount) : FnOk P w K mg base (L2.CX P w) 5 f fd ["self", "number", "amount"] (spF ⟨cad, cnm, ead, tb⟩ K 3 F_book_change) :=
  def_ok (vl := ["self", "number", "amount", "damage"]) (gl := ["is_amount", "NoDamage"]) F sc_book_change (by decide +kernel) fun X W e1 e2 e3 e4 e5 D => by
  subst e1 e2 e3 e4 e5
  have C := D.toCok
  exact (ss_cons (ds_set D (j := 3) (i := 3) rfl rfl (cs_meth 1 C B.cla1 m_book_damage (by decide) no_book_damage (cs_var C (j := 0) (i := 0) rfl rfl) (sa_cons (cs_var C (j := 1) (i := 1) rfl rfl) sa_nil rfl) rfl rfl rfl) rfl)
    (ss_cons (cs_if (st_not (st_val (cs_call C (j := 0) rfl h_is_amount (by decide) (sa_cons (cs_var C (j := 2) (i := 2) rfl rfl) sa_nil rfl) rfl rfl) (fun _ => rfl))) (ss_one (cs_raise 2 C (j := 1) rfl PySem.F.excBase_ValueError B.x2.q B.x2.g B.x2.k B.x2.r)) ss_nil)
    (ss_cons (cs_expr (cs_meth 1 C B.cla1 m_book_need_open (by decide) no_book_need_open (cs_var C (j := 0) (i := 0) rfl rfl) (sa_cons (se_idx (cs_var C (j := 3) (i := 3) rfl rfl) se_int (fun _ _ => rfl)) sa_nil rfl) rfl rfl rfl) rfl)
    (ss_cons (cs_dput C (cs_fld 1 1 B.cla1 rfl (cs_var C (j := 0) (i := 0) rfl rfl) rfl) (cs_var C (j := 1) (i := 1) rfl rfl) (se_op op_catA g_catT (se_slice false (cs_var C (j := 3) (i := 3) rfl rfl) so_none (so_some se_int)) (se_tup (sa_cons (cs_var C (j := 2) (i := 2) rfl rfl) sa_nil rfl))) rfl)
    (ss_cons (cs_expr (cs_meth 0 C B.cla0 m_year_drop (by decide) no_year_drop (cs_dget C (cs_fld 1 2 B.cla1 rfl (cs_var C (j := 0) (i := 0) rfl rfl) rfl) (se_idx (cs_var C (j := 3) (i := 3) rfl rfl) se_int (fun _ _ => rfl)) (fun _ _ => rfl)) (sa_cons (cs_var C (j := 1) (i := 1) rfl rfl) sa_nil rfl) rfl rfl rfl) rfl)
    (ss_one (cs_expr (cs_meth 0 C B.cla0 m_year_put (by decide) no_year_put (cs_dget C (cs_fld 1 2 B.cla1 rfl (cs_var C (j := 0) (i := 0) rfl rfl) rfl) (se_idx (cs_var C (j := 3) (i := 3) rfl rfl) se_int (fun _ _ => rfl)) (fun _ _ => rfl)) (sa_cons (cs_dget C (cs_fld 1 1 B.cla1 rfl (cs_var C (j := 0) (i := 0) rfl rfl) rfl) (cs_var C (j := 1) (i := 1) rfl rfl) (fun _ _ => rfl)) sa_nil rfl) rfl rfl rfl) rfl)))))))
theorem sc_book_back : FnScope ["self", "number", "damage"] ["self", "number"] (defScope s_book_back) := ⟨rfl, rfl, rfl, by decide +kernel, rfl, by decide +kernel, by decide +kernel⟩
theorem ok_book_back {f : Addr} {fd : FuncData} (F : Fun K "back" "Book.back" s_book_back f fd) (B : Bf ⟨cad, cnm, ead, tb⟩ K mg) (m_book_damage : Mal ⟨cad, cnm, ead, tb⟩ P w K mg base 1 "damage" 3 2 F_book_damage) (m_book_need_open : Mal ⟨cad, cnm, ead, tb⟩ P w K mg base 1 "need_open" 1 2 F_book_need_open) (m_year_damages : Mal ⟨cad, cnm, ead, tb⟩ P w K mg base 0 "damages" 1 1 F_year_damages) (m_year_drop : Mal ⟨cad, cnm, ead, tb⟩ P w K mg base 0 "drop" 4 2 F_year_drop) : FnOk P w K mg base (L2.CX P w) 5 f fd ["self", "number"] (spF ⟨cad, cnm, ead, tb⟩ K 2 F_book_back) :=
  def_ok (vl := ["self", "number", "damage"]) (gl := []) F sc_book_back (by decide +kernel) fun X W e1 e2 e3 e4 e5 D => by
  subst e1 e2 e3 e4 e5
  have C := D.toCok
  exact (ss_cons (ds_set D (j := 2) (i := 2) rfl rfl (cs_meth 1 C B.cla1 m_book_damage (by decide) no_book_damage (cs_var C (j := 0) (i := 0) rfl rfl) (sa_cons (cs_var C (j := 1) (i := 1) rfl rfl) sa_nil rfl) rfl rfl rfl) rfl)
    (ss_cons (cs_expr (cs_meth 1 C B.cla1 m_book_need_open (by decide) no_book_need_open (cs_var C (j := 0) (i := 0) rfl rfl) (sa_cons (se_idx (cs_var C (j := 2) (i := 2) rfl rfl) se_int (fun _ _ => rfl)) sa_nil rfl) rfl rfl rfl) rfl)
    (ss_cons (cs_expr (cs_dpop (cs_fld 1 1 B.cla1 rfl (cs_var C (j := 0) (i := 0) rfl rfl) rfl) (cs_var C (j := 1) (i := 1) rfl rfl) ⟨rfl, rfl, rfl, rfl⟩) rfl)
    (ss_cons (cs_expr (cs_meth 0 C B.cla0 m_year_drop (by decide) no_year_drop (cs_dget C (cs_fld 1 2 B.cla1 rfl (cs_var C (j := 0) (i := 0) rfl rfl) rfl) (se_idx (cs_var C (j := 2) (i := 2) rfl rfl) se_int (fun _ _ => rfl)) (fun _ _ => rfl)) (sa_cons (cs_var C (j := 1) (i := 1) rfl rfl) sa_nil rfl) rfl rfl rfl) rfl)
    (ss_one (cs_if (st_cmp (ew_op C.units) g_eq (cs_meth0 0 C B.cla0 m_year_damages (by decide) no_year_damages (cs_dget C (cs_fld 1 2 B.cla1 rfl (cs_var C (j := 0) (i := 0) rfl rfl) rfl) (se_idx (cs_var C (j := 2) (i := 2) rfl rfl) se_int (fun _ _ => rfl)) (fun _ _ => rfl)) rfl) (se_lst false sa_nil) (nomark _)) (ss_one (cs_expr (cs_dpop (cs_fld 1 2 B.cla1 rfl (cs_var C (j := 0) (i := 0) rfl rfl) rfl) (se_idx (cs_var C (j := 2) (i := 2) rfl rfl) se_int (fun _ _ => rfl)) ⟨rfl, rfl, rfl, rfl⟩) rfl)) ss_nil))))))
theorem sc_book_close : FnScope ["self", "year"] ["self", "year"] (defScope s_book_close) := ⟨rfl, rfl, rfl, by decide +kernel, rfl, by decide +kernel, by decide +kernel⟩
theorem ok_book_close {f : Addr} {fd : FuncData} (F : Fun K "close" "Book.close" s_book_close f fd) (B : Bf ⟨cad, cnm, ead, tb⟩ K mg) (m_book_need_open : Mal ⟨cad, cnm, ead, tb⟩ P w K mg base 1 "need_open" 1 2 F_book_need_open) (m_book_need_year : Mal ⟨cad, cnm, ead, tb⟩ P w K mg base 1 "need_year" 3 2 F_book_need_year) : FnOk P w K mg base (L2.CX P w) 4 f fd ["self", "year"] (spF ⟨cad, cnm, ead, tb⟩ K 2 F_book_close) :=
  def_ok (vl := ["self", "year"]) (gl := []) F sc_book_close (by decide +kernel) fun X W e1 e2 e3 e4 e5 D => by
  subst e1 e2 e3 e4 e5
  have C := D.toCok
  exact (ss_cons (cs_expr (cs_meth 1 C B.cla1 m_book_need_year (by decide) no_book_need_year (cs_var C (j := 0) (i := 0) rfl rfl) (sa_cons (cs_var C (j := 1) (i := 1) rfl rfl) sa_nil rfl) rfl rfl rfl) rfl)
    (ss_cons (cs_expr (cs_meth 1 C B.cla1 m_book_need_open (by decide) no_book_need_open (cs_var C (j := 0) (i := 0) rfl rfl) (sa_cons (cs_var C (j := 1) (i := 1) rfl rfl) sa_nil rfl) rfl rfl rfl) rfl)
    (ss_one (cs_expr (cs_bm .lst rfl PySem.F.plainAttrs_list PySem.F.slot_list_append PySem.F.type_list_append mt_append g_app (cs_fld 1 3 B.cla1 rfl (cs_var C (j := 0) (i := 0) rfl rfl) rfl) (sa_cons (cs_var C (j := 1) (i := 1) rfl rfl) sa_nil rfl) rfl rfl rfl rfl) rfl))))
theorem sc_book_reopen : FnScope ["self", "year"] ["self", "year"] (defScope s_book_reopen) := ⟨rfl, rfl, rfl, by decide +kernel, rfl, by decide +kernel, by decide +kernel⟩
theorem ok_book_reopen {f : Addr} {fd : FuncData} (F : Fun K "reopen" "Book.reopen" s_book_reopen f fd) (B : Bf ⟨cad, cnm, ead, tb⟩ K mg) (m_book_need_year : Mal ⟨cad, cnm, ead, tb⟩ P w K mg base 1 "need_year" 3 2 F_book_need_year) : FnOk P w K mg base (L2.CX P w) 4 f fd ["self", "year"] (spF ⟨cad, cnm, ead, tb⟩ K 2 F_book_reopen) :=
  def_ok (vl := ["self", "year"]) (gl := ["NotClosed"]) F sc_book_reopen (by decide +kernel) fun X W e1 e2 e3 e4 e5 D => by
  subst e1 e2 e3 e4 e5
  have C := D.toCok
  exact (ss_cons (cs_expr (cs_meth 1 C B.cla1 m_book_need_year (by decide) no_book_need_year (cs_var C (j := 0) (i := 0) rfl rfl) (sa_cons (cs_var C (j := 1) (i := 1) rfl rfl) sa_nil rfl) rfl rfl rfl) rfl)
    (ss_cons (cs_if (st_cmp op_notIn_seq (g_inInt true) (cs_var C (j := 1) (i := 1) rfl rfl) (cs_fld 1 3 B.cla1 rfl (cs_var C (j := 0) (i := 0) rfl rfl) rfl) rfl) (ss_one (cs_raise 7 C (j := 0) rfl PySem.F.excBase_ValueError B.x7.q B.x7.g B.x7.k B.x7.r)) ss_nil)
    (ss_one (cs_expr (cs_bm .lst rfl PySem.F.plainAttrs_list PySem.F.slot_list_remove PySem.F.type_list_remove mt_remove g_rem (cs_fld 1 3 B.cla1 rfl (cs_var C (j := 0) (i := 0) rfl rfl) rfl) (sa_cons (cs_var C (j := 1) (i := 1) rfl rfl) sa_nil rfl) rfl rfl rfl rfl) rfl))))
theorem sc_book_closed : FnScope ["self", "year"] ["self", "year"] (defScope s_book_closed) := ⟨rfl, rfl, rfl, by decide +kernel, rfl, by decide +kernel, by decide +kernel⟩
theorem ok_book_closed {f : Addr} {fd : FuncData} (F : Fun K "closed" "Book.closed" s_book_closed f fd) (B : Bf ⟨cad, cnm, ead, tb⟩ K mg) (m_book_need_year : Mal ⟨cad, cnm, ead, tb⟩ P w K mg base 1 "need_year" 3 2 F_book_need_year) : FnOk P w K mg base (L2.CX P w) 4 f fd ["self", "year"] (spF ⟨cad, cnm, ead, tb⟩ K 2 F_book_closed) :=
  def_ok (vl := ["self", "year"]) (gl := []) F sc_book_closed (by decide +kernel) fun X W e1 e2 e3 e4 e5 D => by
  subst e1 e2 e3 e4 e5
  have C := D.toCok
  exact (ss_cons (cs_expr (cs_meth 1 C B.cla1 m_book_need_year (by decide) no_book_need_year (cs_var C (j := 0) (i := 0) rfl rfl) (sa_cons (cs_var C (j := 1) (i := 1) rfl rfl) sa_nil rfl) rfl rfl rfl) rfl)
    (ss_one (cs_ret (se_cmp op_in_seq (g_inInt false) (cs_var C (j := 1) (i := 1) rfl rfl) (cs_fld 1 3 B.cla1 rfl (cs_var C (j := 0) (i := 0) rfl rfl) rfl) rfl))))
theorem sc_book_share : FnScope ["self", "number"] ["self", "number"] (defScope s_book_share) := ⟨rfl, rfl, rfl, by decide +kernel, rfl, by decide +kernel, by decide +kernel⟩
theorem ok_book_share {f : Addr} {fd : FuncData} (F : Fun K "share" "Book.share" s_book_share f fd) (B : Bf ⟨cad, cnm, ead, tb⟩ K mg) (m_book_damage : Mal ⟨cad, cnm, ead, tb⟩ P w K mg base 1 "damage" 3 2 F_book_damage) (m_year_share : Mal ⟨cad, cnm, ead, tb⟩ P w K mg base 0 "share" 2 2 F_year_share) : FnOk P w K mg base (L2.CX P w) 4 f fd ["self", "number"] (spF ⟨cad, cnm, ead, tb⟩ K 2 F_book_share) :=
  def_ok (vl := ["self", "number"]) (gl := []) F sc_book_share (by decide +kernel) fun X W e1 e2 e3 e4 e5 D => by
  subst e1 e2 e3 e4 e5
  have C := D.toCok
  exact (ss_one (cs_ret (cs_meth 0 C B.cla0 m_year_share (by decide) no_year_share (cs_dget C (cs_fld 1 2 B.cla1 rfl (cs_var C (j := 0) (i := 0) rfl rfl) rfl) (se_idx (cs_meth 1 C B.cla1 m_book_damage (by decide) no_book_damage (cs_var C (j := 0) (i := 0) rfl rfl) (sa_cons (cs_var C (j := 1) (i := 1) rfl rfl) sa_nil rfl) rfl rfl rfl) se_int (fun _ _ => rfl)) (fun _ _ => rfl)) (sa_cons (cs_var C (j := 1) (i := 1) rfl rfl) sa_nil rfl) rfl rfl rfl)))
theorem sc_book_trail : FnScope ["self", "number"] ["self", "number"] (defScope s_book_trail) := ⟨rfl, rfl, rfl, by decide +kernel, rfl, by decide +kernel, by decide +kernel⟩
theorem ok_book_trail {f : Addr} {fd : FuncData} (F : Fun K "trail" "Book.trail" s_book_trail f fd) (B : Bf ⟨cad, cnm, ead, tb⟩ K mg) (m_book_damage : Mal ⟨cad, cnm, ead, tb⟩ P w K mg base 1 "damage" 3 2 F_book_damage) (m_year_trail : Mal ⟨cad, cnm, ead, tb⟩ P w K mg base 0 "trail" 2 2 F_year_trail) : FnOk P w K mg base (L2.CX P w) 4 f fd ["self", "number"] (spF ⟨cad, cnm, ead, tb⟩ K 2 F_book_trail) :=
  def_ok (vl := ["self", "number"]) (gl := []) F sc_book_trail (by decide +kernel) fun X W e1 e2 e3 e4 e5 D => by
  subst e1 e2 e3 e4 e5
  have C := D.toCok
  exact (ss_one (cs_ret (cs_meth 0 C B.cla0 m_year_trail (by decide) no_year_trail (cs_dget C (cs_fld 1 2 B.cla1 rfl (cs_var C (j := 0) (i := 0) rfl rfl) rfl) (se_idx (cs_meth 1 C B.cla1 m_book_damage (by decide) no_book_damage (cs_var C (j := 0) (i := 0) rfl rfl) (sa_cons (cs_var C (j := 1) (i := 1) rfl rfl) sa_nil rfl) rfl rfl rfl) se_int (fun _ _ => rfl)) (fun _ _ => rfl)) (sa_cons (cs_var C (j := 1) (i := 1) rfl rfl) sa_nil rfl) rfl rfl rfl)))
theorem sc_book_parts : FnScope ["self", "number", "paid", "part", "layer"] ["self", "number"] (defScope s_book_parts) := ⟨rfl, rfl, rfl, by decide +kernel, rfl, by decide +kernel, by decide +kernel⟩
theorem ok_book_parts {f : Addr} {fd : FuncData} (F : Fun K "parts" "Book.parts" s_book_parts f fd) (B : Bf ⟨cad, cnm, ead, tb⟩ K mg) (m_book_share : Mal ⟨cad, cnm, ead, tb⟩ P w K mg base 1 "share" 4 2 F_book_share) (h_split : Cal ⟨cad, cnm, ead, tb⟩ P w K mg base "split" 1 2 F_split) : FnOk P w K mg base (L2.CX P w) 5 f fd ["self", "number"] (spF ⟨cad, cnm, ead, tb⟩ K 2 F_book_parts) :=
  def_ok (vl := ["self", "number", "paid"]) (gl := ["zip"]) F sc_book_parts (by decide +kernel) fun X W e1 e2 e3 e4 e5 D => by
  subst e1 e2 e3 e4 e5
  have C := D.toCok
  exact (ss_cons (ds_set D (j := 2) (i := 2) rfl rfl (se_idx (cs_meth 1 C B.cla1 m_book_share (by decide) no_book_share (cs_var C (j := 0) (i := 0) rfl rfl) (sa_cons (cs_var C (j := 1) (i := 1) rfl rfl) sa_nil rfl) rfl rfl rfl) se_int (fun _ _ => rfl)) rfl)
    (ss_frz 2 (ss_one (cs_ret (cs_lc true C [("part", 3), ("layer", 4)] ["part", "layer"] ["split"] (by decide +kernel) (by decide) tgTup_len (si_zip C (j := 0) rfl B.n_zip (sa_cons (cs_var C (j := 2) (i := 2) rfl rfl) (sa_cons (se_idx (cs_fld 1 0 B.cla1 rfl (cs_var C (j := 0) (i := 0) rfl rfl) rfl) se_int (fun _ _ => rfl)) sa_nil rfl) rfl) rfl) (fun _ _ _ _ _ B1 => sg_tup B1.toCok (sgs_cons (sg_own B1 (j := 0) rfl) (sgs_cons (sg_own B1 (j := 1) rfl) sgs_nil rfl) rfl) rfl rfl) (fun _ _ _ _ _ _ => sts_nil) (fun _ _ _ _ _ B1 => (cs_call B1.toCok (j := 0) rfl h_split (by decide) (sa_cons (cs_var B1.toCok (j := 0) (i := 3) rfl rfl) (sa_cons (se_idx (cs_var B1.toCok (j := 1) (i := 4) rfl rfl) se_int (fun _ _ => rfl)) sa_nil rfl) rfl) rfl rfl)) (fun _ => rfl))))))
theorem sc_book_row_of : FnScope ["self", "year"] ["self", "year"] (defScope s_book_row_of) := ⟨rfl, rfl, rfl, by decide +kernel, rfl, by decide +kernel, by decide +kernel⟩
theorem ok_book_row_of {f : Addr} {fd : FuncData} (F : Fun K "row_of" "Book.row_of" s_book_row_of f fd) (B : Bf ⟨cad, cnm, ead, tb⟩ K mg) (m_book_need_year : Mal ⟨cad, cnm, ead, tb⟩ P w K mg base 1 "need_year" 3 2 F_book_need_year) (k_year : Kal ⟨cad, cnm, ead, tb⟩ P w K mg base 0 "Year" 1 2 F_year_init) : FnOk P w K mg base (L2.CX P w) 4 f fd ["self", "year"] (spF ⟨cad, cnm, ead, tb⟩ K 2 F_book_row_of) :=
  def_ok (vl := ["self", "year"]) (gl := ["Year"]) F sc_book_row_of (by decide +kernel) fun X W e1 e2 e3 e4 e5 D => by
  subst e1 e2 e3 e4 e5
  have C := D.toCok
  exact (ss_cons (cs_expr (cs_meth 1 C B.cla1 m_book_need_year (by decide) no_book_need_year (cs_var C (j := 0) (i := 0) rfl rfl) (sa_cons (cs_var C (j := 1) (i := 1) rfl rfl) sa_nil rfl) rfl rfl rfl) rfl)
    (ss_one (cs_ret (cs_dget2 C (cs_fld 1 2 B.cla1 rfl (cs_var C (j := 0) (i := 0) rfl rfl) rfl) (cs_var C (j := 1) (i := 1) rfl rfl) (cs_new 0 C (j := 0) rfl k_year (by decide) (sa_cons (cs_fld 1 0 B.cla1 rfl (cs_var C (j := 0) (i := 0) rfl rfl) rfl) sa_nil rfl) rfl rfl) ⟨rfl, rfl, rfl, rfl⟩))))
theorem sc_book_damages : FnScope ["self", "year"] ["self", "year"] (defScope s_book_damages) := ⟨rfl, rfl, rfl, by decide +kernel, rfl, by decide +kernel, by decide +kernel⟩
theorem ok_book_damages {f : Addr} {fd : FuncData} (F : Fun K "damages" "Book.damages" s_book_damages f fd) (B : Bf ⟨cad, cnm, ead, tb⟩ K mg) (m_book_row_of : Mal ⟨cad, cnm, ead, tb⟩ P w K mg base 1 "row_of" 4 2 F_book_row_of) (m_year_damages : Mal ⟨cad, cnm, ead, tb⟩ P w K mg base 0 "damages" 1 1 F_year_damages) : FnOk P w K mg base (L2.CX P w) 5 f fd ["self", "year"] (spF ⟨cad, cnm, ead, tb⟩ K 2 F_book_damages) :=
  def_ok (vl := ["self", "year"]) (gl := []) F sc_book_damages (by decide +kernel) fun X W e1 e2 e3 e4 e5 D => by
  subst e1 e2 e3 e4 e5
  have C := D.toCok
  exact (ss_one (cs_ret (cs_meth0 0 C B.cla0 m_year_damages (by decide) no_year_damages (cs_meth 1 C B.cla1 m_book_row_of (by decide) no_book_row_of (cs_var C (j := 0) (i := 0) rfl rfl) (sa_cons (cs_var C (j := 1) (i := 1) rfl rfl) sa_nil rfl) rfl rfl rfl) rfl)))
theorem sc_book_used : FnScope ["self", "year"] ["self", "year"] (defScope s_book_used) := ⟨rfl, rfl, rfl, by decide +kernel, rfl, by decide +kernel, by decide +kernel⟩
theorem ok_book_used {f : Addr} {fd : FuncData} (F : Fun K "used" "Book.used" s_book_used f fd) (B : Bf ⟨cad, cnm, ead, tb⟩ K mg) (m_book_row_of : Mal ⟨cad, cnm, ead, tb⟩ P w K mg base 1 "row_of" 4 2 F_book_row_of) (m_year_used : Mal ⟨cad, cnm, ead, tb⟩ P w K mg base 0 "used" 2 1 F_year_used) : FnOk P w K mg base (L2.CX P w) 5 f fd ["self", "year"] (spF ⟨cad, cnm, ead, tb⟩ K 2 F_book_used) :=
  def_ok (vl := ["self", "year"]) (gl := []) F sc_book_used (by decide +kernel) fun X W e1 e2 e3 e4 e5 D => by
  subst e1 e2 e3 e4 e5
  have C := D.toCok
  exact (ss_one (cs_ret (cs_meth0 0 C B.cla0 m_year_used (by decide) no_year_used (cs_meth 1 C B.cla1 m_book_row_of (by decide) no_book_row_of (cs_var C (j := 0) (i := 0) rfl rfl) (sa_cons (cs_var C (j := 1) (i := 1) rfl rfl) sa_nil rfl) rfl rfl rfl) rfl)))
theorem sc_book_years : FnScope ["self"] ["self"] (defScope s_book_years) := ⟨rfl, rfl, rfl, by decide +kernel, rfl, by decide +kernel, by decide +kernel⟩
theorem ok_book_years {f : Addr} {fd : FuncData} (F : Fun K "years" "Book.years" s_book_years f fd) (B : Bf ⟨cad, cnm, ead, tb⟩ K mg)  : FnOk P w K mg base (L2.CX P w) 1 f fd ["self"] (spF ⟨cad, cnm, ead, tb⟩ K 1 F_book_years) :=
  def_ok (vl := ["self"]) (gl := ["sorted"]) F sc_book_years (by decide +kernel) fun X W e1 e2 e3 e4 e5 D => by
  subst e1 e2 e3 e4 e5
  have C := D.toCok
  exact (ss_one (cs_ret (cs_bi C (j := 0) rfl B.n_sorted (call_sortedDI C.calm) (g_sortedD true) (by decide +kernel) (sa_cons (cs_fld 1 2 B.cla1 rfl (cs_var C (j := 0) (i := 0) rfl rfl) rfl) sa_nil rfl) rfl)))
theorem sc_book_dues : FnScope ["self", "year", "found", "damage", "parts", "layer", "weight", "row", "more", "one", "other"] ["self", "year"] (defScope s_book_dues) := ⟨rfl, rfl, rfl, by decide +kernel, rfl, by decide +kernel, by decide +kernel⟩
theorem ok_book_dues {f : Addr} {fd : FuncData} (F : Fun K "dues" "Book.dues" s_book_dues f fd) (B : Bf ⟨cad, cnm, ead, tb⟩ K mg) (m_book_damages : Mal ⟨cad, cnm, ead, tb⟩ P w K mg base 1 "damages" 5 2 F_book_damages) (m_book_parts : Mal ⟨cad, cnm, ead, tb⟩ P w K mg base 1 "parts" 5 2 F_book_parts) : FnOk P w K mg base (L2.CX P w) 6 f fd ["self", "year"] (spF ⟨cad, cnm, ead, tb⟩ K 2 F_book_dues) :=
  def_ok (vl := ["self", "year", "found", "damage", "parts"]) (gl := ["zip"]) F sc_book_dues (by decide +kernel) fun X W e1 e2 e3 e4 e5 D => by
  subst e1 e2 e3 e4 e5
  have C := D.toCok
  exact (ss_cons (cs_setLc false C (i := 2) [("layer", 5)] ["layer"] [] rfl rfl (sw_trueC C rfl rfl rfl (by decide +kernel)) (by decide +kernel) (by decide) tgName_len (si_tup (se_idx (cs_fld 1 0 B.cla1 rfl (cs_var C (j := 0) (i := 0) rfl rfl) rfl) se_int (fun _ _ => rfl))) (fun _ _ _ _ _ B1 => sg_own B1 (j := 0) rfl) (fun _ _ _ _ _ _ => sts_nil) (fun _ _ _ _ _ B1 => (cs_lc true B1.toCok [("weight", 6)] ["weight"] [] (by decide +kernel) (by decide) tgName_len (si_tup (se_idx (cs_var B1.toCok (j := 0) (i := 5) rfl rfl) se_int (fun _ _ => rfl))) (fun _ _ _ _ _ B2 => sg_own B2 (j := 0) rfl) (fun _ _ _ _ _ _ => sts_nil) (fun _ _ _ _ _ B2 => se_int) (fun _ => rfl))) (fun _ => rfl))
    (ss_cons (cs_for C D.pass (si_seq (cs_meth 1 C B.cla1 m_book_damages (by decide) no_book_damages (cs_var C (j := 0) (i := 0) rfl rfl) (sa_cons (cs_var C (j := 1) (i := 1) rfl rfl) sa_nil rfl) rfl rfl rfl)) (dg_name D (j := 3) (i := 3) rfl rfl)
    (ss_cons (ds_set D (j := 4) (i := 4) rfl rfl (cs_meth 1 C B.cla1 m_book_parts (by decide) no_book_parts (cs_var C (j := 0) (i := 0) rfl rfl) (sa_cons (se_idx (cs_var C (j := 3) (i := 3) rfl rfl) se_int (fun _ _ => rfl)) sa_nil rfl) rfl rfl rfl) rfl)
    (ss_frz 4 (ss_one (cs_setLc false C (i := 2) [("row", 7), ("more", 8)] ["row", "more"] ["zip"] rfl rfl (sw_trueC C rfl rfl rfl (by decide +kernel)) (by decide +kernel) (by decide) tgTup_len (si_zip C (j := 0) rfl B.n_zip (sa_cons (cs_var C (j := 2) (i := 2) rfl rfl) (sa_cons (cs_var C (j := 4) (i := 4) rfl rfl) sa_nil rfl) rfl) rfl) (fun _ _ _ _ _ B1 => sg_tup B1.toCok (sgs_cons (sg_own B1 (j := 0) rfl) (sgs_cons (sg_own B1 (j := 1) rfl) sgs_nil rfl) rfl) rfl rfl) (fun _ _ _ _ _ _ => sts_nil) (fun _ _ _ _ _ B1 => (cs_lc true B1.toCok [("one", 9), ("other", 10)] ["one", "other"] [] (by decide +kernel) (by decide) tgTup_len (si_zip B1.toCok (j := 0) rfl B.n_zip (sa_cons (cs_var B1.toCok (j := 0) (i := 7) rfl rfl) (sa_cons (cs_var B1.toCok (j := 1) (i := 8) rfl rfl) sa_nil rfl) rfl) rfl) (fun _ _ _ _ _ B2 => sg_tup B2.toCok (sgs_cons (sg_own B2 (j := 0) rfl) (sgs_cons (sg_own B2 (j := 1) rfl) sgs_nil rfl) rfl) rfl rfl) (fun _ _ _ _ _ _ => sts_nil) (fun _ _ _ _ _ B2 => (se_op op_add g_add (cs_var B2.toCok (j := 0) (i := 9) rfl rfl) (cs_var B2.toCok (j := 1) (i := 10) rfl rfl))) (fun _ => rfl))) (fun _ => rfl))))) (fun _ => rfl))
    (ss_one (cs_ret (cs_var C (j := 2) (i := 2) rfl rfl)))))
theorem sc_l_whole : FnScope ["_law_found"] ["_law_found"] (defScope s_l_whole) := ⟨rfl, rfl, rfl, by decide +kernel, rfl, by decide +kernel, by decide +kernel⟩
theorem ok_l_whole {f : Addr} {fd : FuncData} (F : Fun K "_law_whole" "_law_whole" s_l_whole f fd) (B : Bf ⟨cad, cnm, ead, tb⟩ K mg)  : FnOk P w K mg base (L2.CX P w) 1 f fd ["_law_found"] (spF ⟨cad, cnm, ead, tb⟩ K 1 F_l_whole) :=
  def_ok (vl := ["_law_found"]) (gl := ["isinstance", "int", "bool"]) F sc_l_whole (by decide +kernel) fun X W e1 e2 e3 e4 e5 D => by
  subst e1 e2 e3 e4 e5
  have C := D.toCok
  exact (ss_one (cs_ret (se_and (cs_isi .int C (j := 0) (j2 := 1) rfl B.n_isinstance rfl B.n_int (by decide +kernel) (cs_var C (j := 0) (i := 0) rfl rfl) rfl) (se_one (se_not (cs_isi .bl C (j := 0) (j2 := 2) rfl B.n_isinstance rfl B.n_bool (by decide +kernel) (cs_var C (j := 0) (i := 0) rfl rfl) rfl))))))
theorem sc_l_cell_at : FnScope ["_law_script", "_law_k"] ["_law_script", "_law_k"] (defScope s_l_cell_at) := ⟨rfl, rfl, rfl, by decide +kernel, rfl, by decide +kernel, by decide +kernel⟩
theorem ok_l_cell_at {f : Addr} {fd : FuncData} (F : Fun K "_law_cell_at" "_law_cell_at" s_l_cell_at f fd) (B : Bf ⟨cad, cnm, ead, tb⟩ K mg)  : FnOk P w K mg base (L2.CX P w) 1 f fd ["_law_script", "_law_k"] (spF ⟨cad, cnm, ead, tb⟩ K 2 F_l_cell_at) :=
  def_ok (vl := ["_law_script", "_law_k"]) (gl := ["len"]) F sc_l_cell_at (by decide +kernel) fun X W e1 e2 e3 e4 e5 D => by
  subst e1 e2 e3 e4 e5
  have C := D.toCok
  exact (ss_cons (cs_if (st_cmp op_lt (g_cmpI fun i j => decide (i < j)) (cs_var C (j := 1) (i := 1) rfl rfl) (cs_bi C (j := 0) rfl B.n_len call_len g_len PySem.boot_len (sa_cons (cs_var C (j := 0) (i := 0) rfl rfl) sa_nil rfl) rfl) (nomark _)) (ss_one (cs_ret (se_idx (cs_var C (j := 0) (i := 0) rfl rfl) (cs_var C (j := 1) (i := 1) rfl rfl) (fun _ _ => rfl)))) ss_nil)
    (ss_one (cs_ret se_int)))
theorem sc_l_mixed : FnScope ["_law_cell", "_law_k", "_law_mixed_here"] ["_law_cell", "_law_k"] (defScope s_l_mixed) := ⟨rfl, rfl, rfl, by decide +kernel, rfl, by decide +kernel, by decide +kernel⟩
theorem ok_l_mixed {f : Addr} {fd : FuncData} (F : Fun K "_law_mixed" "_law_mixed" s_l_mixed f fd) (B : Bf ⟨cad, cnm, ead, tb⟩ K mg)  : FnOk P w K mg base (L2.CX P w) 1 f fd ["_law_cell", "_law_k"] (spF ⟨cad, cnm, ead, tb⟩ K 2 F_l_mixed) :=
  def_ok (vl := ["_law_cell", "_law_k", "_law_mixed_here"]) (gl := []) F sc_l_mixed (by decide +kernel) fun X W e1 e2 e3 e4 e5 D => by
  subst e1 e2 e3 e4 e5
  have C := D.toCok
  exact (ss_cons (ds_set D (j := 2) (i := 2) rfl rfl (se_op op_mod g_mod (se_op op_mul g_mul (se_op op_add g_add (cs_var C (j := 0) (i := 0) rfl rfl) (se_op op_mul g_mul se_int (cs_var C (j := 1) (i := 1) rfl rfl))) se_int) se_int) rfl)
    (ss_one (cs_ret (se_op op_mod g_mod (se_op op_mul g_mul (cs_var C (j := 2) (i := 2) rfl rfl) (se_op op_add g_add (se_op op_add g_add (se_op op_mod g_mod (cs_var C (j := 2) (i := 2) rfl rfl) se_int) (cs_var C (j := 1) (i := 1) rfl rfl)) se_int)) se_int))))
theorem sc_l_weights : FnScope ["_law_pick", "_law_many", "_law_k"] ["_law_pick"] (defScope s_l_weights) := ⟨rfl, rfl, rfl, by decide +kernel, rfl, by decide +kernel, by decide +kernel⟩
theorem ok_l_weights {f : Addr} {fd : FuncData} (F : Fun K "_law_weights" "_law_weights" s_l_weights f fd) (B : Bf ⟨cad, cnm, ead, tb⟩ K mg) (h_l_mixed : Cal ⟨cad, cnm, ead, tb⟩ P w K mg base "_law_mixed" 1 2 F_l_mixed) : FnOk P w K mg base (L2.CX P w) 2 f fd ["_law_pick"] (spF ⟨cad, cnm, ead, tb⟩ K 1 F_l_weights) :=
  def_ok (vl := ["_law_pick", "_law_many"]) (gl := ["tuple", "range"]) F sc_l_weights (by decide +kernel) fun X W e1 e2 e3 e4 e5 D => by
  subst e1 e2 e3 e4 e5
  have C := D.toCok
  exact (ss_cons (ds_set D (j := 1) (i := 1) rfl rfl (se_op op_add g_add se_int (se_op op_mod g_mod (se_op op_fdiv g_fdiv (cs_var C (j := 0) (i := 0) rfl rfl) se_int) (se_idx (se_lst false (sa_cons se_int (sa_cons se_int sa_nil rfl) rfl)) (se_op op_mod g_mod (cs_var C (j := 0) (i := 0) rfl rfl) se_int) (fun _ _ => rfl)))) rfl)
    (ss_one (cs_ret (cs_ty C (j := 0) rfl B.n_tuple call_tuple_of g_tuple (by decide +kernel) (sa_cons (cs_lc false C [("_law_k", 2)] ["_law_k", "_law_pick"] ["_law_mixed"] (by decide +kernel) (by decide) tgName_len (si_rng1 C (j := 1) rfl B.n_range (sa_cons (cs_var C (j := 1) (i := 1) rfl rfl) sa_nil rfl) rfl) (fun _ _ _ _ _ B1 => sg_own B1 (j := 0) rfl) (fun _ _ _ _ _ _ => sts_nil) (fun _ _ _ _ _ B1 => (se_op op_add g_add se_int (se_op op_mod g_mod (cs_call B1.toCok (j := 0) rfl h_l_mixed (by decide) (sa_cons (cs_var B1.toCok (j := 1) (i := 0) rfl rfl) (sa_cons (cs_var B1.toCok (j := 0) (i := 2) rfl rfl) sa_nil rfl) rfl) rfl rfl) (se_idx (se_lst false (sa_cons se_int (sa_cons (se_op op_pow g_pow se_int se_int) sa_nil rfl) rfl)) (se_op op_mod g_mod (se_op op_fdiv g_fdiv (cs_var B1.toCok (j := 1) (i := 0) rfl rfl) se_int) se_int) (fun _ _ => rfl))))) (fun _ => rfl)) sa_nil rfl) rfl))))
theorem sc_l_plan : FnScope ["_law_script", "_law_at", "_law_cell", "_law_unit", "_law_layers", "_law_k", "_law_pick", "_law_most", "_law_year", "_law_own"] ["_law_script", "_law_at"] (defScope s_l_plan) := ⟨rfl, rfl, rfl, by decide +kernel, rfl, by decide +kernel, by decide +kernel⟩
theorem ok_l_plan {f : Addr} {fd : FuncData} (F : Fun K "_law_plan" "_law_plan" s_l_plan f fd) (B : Bf ⟨cad, cnm, ead, tb⟩ K mg) (h_l_cell_at : Cal ⟨cad, cnm, ead, tb⟩ P w K mg base "_law_cell_at" 1 2 F_l_cell_at) (h_l_mixed : Cal ⟨cad, cnm, ead, tb⟩ P w K mg base "_law_mixed" 1 2 F_l_mixed) (h_l_weights : Cal ⟨cad, cnm, ead, tb⟩ P w K mg base "_law_weights" 2 1 F_l_weights) : FnOk P w K mg base (L2.CX P w) 3 f fd ["_law_script", "_law_at"] (spF ⟨cad, cnm, ead, tb⟩ K 2 F_l_plan) :=
  def_ok (vl := ["_law_script", "_law_at", "_law_cell", "_law_unit", "_law_layers", "_law_k", "_law_pick", "_law_most", "_law_year", "_law_own"]) (gl := ["_law_cell_at", "range", "_law_mixed", "_law_weights", "tuple"]) F sc_l_plan (by decide +kernel) fun X W e1 e2 e3 e4 e5 D => by
  subst e1 e2 e3 e4 e5
  have C := D.toCok
  exact (ss_cons (ds_set D (j := 2) (i := 2) rfl rfl (cs_call C (j := 0) rfl h_l_cell_at (by decide) (sa_cons (cs_var C (j := 0) (i := 0) rfl rfl) (sa_cons (cs_var C (j := 1) (i := 1) rfl rfl) sa_nil rfl) rfl) rfl rfl) rfl)
    (ss_cons (ds_set D (j := 3) (i := 3) rfl rfl (se_idx (se_lst false (sa_cons se_int (sa_cons se_int (sa_cons (se_op op_add g_add (se_op op_pow g_pow se_int se_int) se_int) (sa_cons (se_op op_pow g_pow se_int se_int) sa_nil rfl) rfl) rfl) rfl)) (se_op op_mod g_mod (cs_var C (j := 2) (i := 2) rfl rfl) se_int) (fun _ _ => rfl)) rfl)
    (ss_cons (ds_set D (j := 4) (i := 4) rfl rfl (se_lst true sa_nil) rfl)
    (ss_cons (cs_for C D.pass (si_rng1 C (j := 1) rfl B.n_range (sa_cons (se_idx (se_lst false (sa_cons se_int (sa_cons se_int (sa_cons se_int (sa_cons (se_op op_mod g_mod (se_op op_fdiv g_fdiv (cs_var C (j := 2) (i := 2) rfl rfl) se_int) se_int) (sa_cons se_int (sa_cons se_int sa_nil rfl) rfl) rfl) rfl) rfl) rfl)) (se_op op_mod g_mod (se_op op_fdiv g_fdiv (cs_var C (j := 2) (i := 2) rfl rfl) se_int) se_int) (fun _ _ => rfl)) sa_nil rfl) rfl) (dg_name D (j := 5) (i := 5) rfl rfl)
    (ss_cons (ds_set D (j := 6) (i := 6) rfl rfl (cs_call C (j := 2) rfl h_l_mixed (by decide) (sa_cons (cs_call C (j := 0) rfl h_l_cell_at (by decide) (sa_cons (cs_var C (j := 0) (i := 0) rfl rfl) (sa_cons (se_op op_add g_add (cs_var C (j := 1) (i := 1) rfl rfl) se_int) sa_nil rfl) rfl) rfl rfl) (sa_cons (cs_var C (j := 5) (i := 5) rfl rfl) sa_nil rfl) rfl) rfl rfl) rfl)
    (ss_cons (ds_set D (j := 7) (i := 7) rfl rfl (se_op op_mul g_mul (cs_var C (j := 3) (i := 3) rfl rfl) (se_op op_add g_add se_int (se_op op_mod g_mod (cs_var C (j := 6) (i := 6) rfl rfl) se_int))) rfl)
    (ss_cons (ds_set D (j := 8) (i := 8) rfl rfl (se_op op_mul g_mul (cs_var C (j := 3) (i := 3) rfl rfl) (se_op op_add g_add se_int (se_op op_mod g_mod (se_op op_fdiv g_fdiv (cs_var C (j := 6) (i := 6) rfl rfl) se_int) se_int))) rfl)
    (ss_cons (cs_if (st_cmp (ew_op C.units) g_eq (se_op op_mod g_mod (se_op op_fdiv g_fdiv (cs_var C (j := 6) (i := 6) rfl rfl) se_int) se_int) se_int (nomark _)) (ss_one (ds_set D (j := 8) (i := 8) rfl rfl (se_op op_add g_add se_int (se_op op_mod g_mod (se_op op_mul g_mul (se_op op_add g_add (cs_var C (j := 2) (i := 2) rfl rfl) (cs_var C (j := 6) (i := 6) rfl rfl)) (se_op op_add g_add (cs_var C (j := 5) (i := 5) rfl rfl) se_int)) (se_op op_pow g_pow se_int se_int))) rfl)) ss_nil)
    (ss_cons (cs_if (st_cmp (ew_op C.units) g_eq (se_op op_mod g_mod (se_op op_fdiv g_fdiv (cs_var C (j := 6) (i := 6) rfl rfl) se_int) se_int) se_int (nomark _)) (ss_one (ds_set D (j := 7) (i := 7) rfl rfl (se_op op_add g_add se_int (se_op op_mod g_mod (se_op op_add g_add (cs_var C (j := 2) (i := 2) rfl rfl) (cs_var C (j := 6) (i := 6) rfl rfl)) (se_op op_pow g_pow se_int se_int))) rfl)) ss_nil)
    (ss_one (cs_expr (cs_bm .lst rfl PySem.F.plainAttrs_list PySem.F.slot_list_append PySem.F.type_list_append mt_append g_app (cs_var C (j := 4) (i := 4) rfl rfl) (sa_cons (se_tup (sa_cons (cs_var C (j := 7) (i := 7) rfl rfl) (sa_cons (cs_var C (j := 8) (i := 8) rfl rfl) (sa_cons (cs_call C (j := 3) rfl h_l_weights (by decide) (sa_cons (se_op op_fdiv g_fdiv (cs_var C (j := 6) (i := 6) rfl rfl) se_int) sa_nil rfl) rfl rfl) sa_nil rfl) rfl) rfl)) sa_nil rfl) rfl rfl rfl rfl) rfl))))))) (fun _ => rfl))
    (ss_cons (ds_set D (j := 9) (i := 9) rfl rfl (se_op op_mul g_mul (cs_var C (j := 3) (i := 3) rfl rfl) (se_op op_mod g_mod (se_op op_fdiv g_fdiv (cs_var C (j := 2) (i := 2) rfl rfl) se_int) se_int)) rfl)
    (ss_cons (cs_if (st_cmp (ew_op C.units) g_eq (se_op op_mod g_mod (se_op op_fdiv g_fdiv (cs_var C (j := 2) (i := 2) rfl rfl) se_int) se_int) se_int (nomark _)) (ss_one (ds_set D (j := 9) (i := 9) rfl rfl (se_op op_mod g_mod (cs_var C (j := 2) (i := 2) rfl rfl) (se_op op_add g_add (se_op op_pow g_pow se_int se_int) se_int)) rfl)) ss_nil)
    (ss_one (cs_ret (se_tup (sa_cons (cs_var C (j := 9) (i := 9) rfl rfl) (sa_cons (cs_ty C (j := 4) rfl B.n_tuple call_tuple_of g_tuple (by decide +kernel) (sa_cons (cs_var C (j := 4) (i := 4) rfl rfl) sa_nil rfl) rfl) sa_nil rfl) rfl))))))))))
theorem sc_l_amount : FnScope ["_law_cell", "_law_pick", "_law_first"] ["_law_cell", "_law_pick", "_law_first"] (defScope s_l_amount) := ⟨rfl, rfl, rfl, by decide +kernel, rfl, by decide +kernel, by decide +kernel⟩
theorem ok_l_amount {f : Addr} {fd : FuncData} (F : Fun K "_law_amount" "_law_amount" s_l_amount f fd) (B : Bf ⟨cad, cnm, ead, tb⟩ K mg)  : FnOk P w K mg base (L2.CX P w) 1 f fd ["_law_cell", "_law_pick", "_law_first"] (spF ⟨cad, cnm, ead, tb⟩ K 3 F_l_amount) :=
  def_ok (vl := ["_law_cell", "_law_pick", "_law_first"]) (gl := []) F sc_l_amount (by decide +kernel) fun X W e1 e2 e3 e4 e5 D => by
  subst e1 e2 e3 e4 e5
  have C := D.toCok
  exact (ss_cons (cs_if (st_cmp (ew_op C.units) g_eq (se_op op_mod g_mod (cs_var C (j := 1) (i := 1) rfl rfl) se_int) se_int (nomark _)) (ss_one (cs_ret (se_op op_mod g_mod (cs_var C (j := 0) (i := 0) rfl rfl) (se_op op_add g_add (se_op op_pow g_pow se_int se_int) se_int)))) ss_nil)
    (ss_one (cs_ret (se_op op_add g_add (se_op op_mul g_mul (se_idx (se_lst false (sa_cons se_int (sa_cons se_int (sa_cons (se_op op_add g_add (se_op op_pow g_pow se_int se_int) se_int) (sa_cons (se_op op_pow g_pow se_int se_int) sa_nil rfl) rfl) rfl) rfl)) (se_op op_mod g_mod (cs_var C (j := 2) (i := 2) rfl rfl) se_int) (fun _ _ => rfl)) (se_op op_mod g_mod (se_op op_fdiv g_fdiv (cs_var C (j := 1) (i := 1) rfl rfl) se_int) se_int)) (se_op op_mod g_mod (se_op op_fdiv g_fdiv (cs_var C (j := 1) (i := 1) rfl rfl) se_int) se_int)))))
theorem sc_l_name : FnScope ["_law_k", "_law_cell"] ["_law_k", "_law_cell"] (defScope s_l_name) := ⟨rfl, rfl, rfl, by decide +kernel, rfl, by decide +kernel, by decide +kernel⟩
theorem ok_l_name {f : Addr} {fd : FuncData} (F : Fun K "_law_name" "_law_name" s_l_name f fd) (B : Bf ⟨cad, cnm, ead, tb⟩ K mg)  : FnOk P w K mg base (L2.CX P w) 1 f fd ["_law_k", "_law_cell"] (spF ⟨cad, cnm, ead, tb⟩ K 2 F_l_name) :=
  def_ok (vl := ["_law_k", "_law_cell"]) (gl := []) F sc_l_name (by decide +kernel) fun X W e1 e2 e3 e4 e5 D => by
  subst e1 e2 e3 e4 e5
  have C := D.toCok
  exact (ss_cons (cs_if (st_cmp (ew_op C.units) g_eq (se_op op_mod g_mod (cs_var C (j := 1) (i := 1) rfl rfl) se_int) se_int (nomark _)) (ss_one (cs_ret (se_op op_sub g_sub (se_op op_pow g_pow se_int se_int) (cs_var C (j := 0) (i := 0) rfl rfl)))) ss_nil)
    (ss_cons (cs_if (st_cmp (ew_op C.units) g_eq (se_op op_mod g_mod (cs_var C (j := 1) (i := 1) rfl rfl) se_int) se_int (nomark _)) (ss_one (cs_ret (se_op op_mod g_mod (se_op op_add g_add (se_op op_fdiv g_fdiv (cs_var C (j := 1) (i := 1) rfl rfl) se_int) (se_op op_mul g_mul (cs_var C (j := 0) (i := 0) rfl rfl) (se_idx (se_lst false (sa_cons se_int (sa_cons se_int (sa_cons se_int (sa_cons (se_op op_pow g_pow se_int se_int) (sa_cons (se_op op_pow g_pow se_int se_int) sa_nil rfl) rfl) rfl) rfl) rfl)) (se_op op_mod g_mod (se_op op_fdiv g_fdiv (cs_var C (j := 1) (i := 1) rfl rfl) se_int) se_int) (fun _ _ => rfl)))) (se_op op_add g_add (se_op op_pow g_pow se_int se_int) se_int)))) ss_nil)
    (ss_one (cs_ret (cs_var C (j := 0) (i := 0) rfl rfl)))))
theorem sc_l_damage : FnScope ["_law_script", "_law_cell", "_law_k", "_law_many", "_law_pick", "_law_first", "_law_base", "_law_year", "_law_day", "_law_number"] ["_law_script", "_law_cell", "_law_k", "_law_many"] (defScope s_l_damage) := ⟨rfl, rfl, rfl, by decide +kernel, rfl, by decide +kernel, by decide +kernel⟩
theorem ok_l_damage {f : Addr} {fd : FuncData} (F : Fun K "_law_damage" "_law_damage" s_l_damage f fd) (B : Bf ⟨cad, cnm, ead, tb⟩ K mg) (h_l_amount : Cal ⟨cad, cnm, ead, tb⟩ P w K mg base "_law_amount" 1 3 F_l_amount) (h_l_cell_at : Cal ⟨cad, cnm, ead, tb⟩ P w K mg base "_law_cell_at" 1 2 F_l_cell_at) (h_l_mixed : Cal ⟨cad, cnm, ead, tb⟩ P w K mg base "_law_mixed" 1 2 F_l_mixed) (h_l_name : Cal ⟨cad, cnm, ead, tb⟩ P w K mg base "_law_name" 1 2 F_l_name) : FnOk P w K mg base (L2.CX P w) 2 f fd ["_law_script", "_law_cell", "_law_k", "_law_many"] (spF ⟨cad, cnm, ead, tb⟩ K 4 F_l_damage) :=
  def_ok (vl := ["_law_script", "_law_cell", "_law_k", "_law_many", "_law_pick", "_law_first", "_law_base", "_law_year", "_law_day", "_law_number"]) (gl := ["_law_mixed", "_law_cell_at", "_law_name", "_law_amount"]) F sc_l_damage (by decide +kernel) fun X W e1 e2 e3 e4 e5 D => by
  subst e1 e2 e3 e4 e5
  have C := D.toCok
  exact (ss_cons (ds_set D (j := 4) (i := 4) rfl rfl (cs_call C (j := 0) rfl h_l_mixed (by decide) (sa_cons (cs_var C (j := 1) (i := 1) rfl rfl) (sa_cons (cs_var C (j := 2) (i := 2) rfl rfl) sa_nil rfl) rfl) rfl rfl) rfl)
    (ss_cons (ds_set D (j := 5) (i := 5) rfl rfl (cs_call C (j := 1) rfl h_l_cell_at (by decide) (sa_cons (cs_var C (j := 0) (i := 0) rfl rfl) (sa_cons se_int sa_nil rfl) rfl) rfl rfl) rfl)
    (ss_cons (ds_set D (j := 6) (i := 6) rfl rfl (se_op op_mod g_mod (cs_call C (j := 1) rfl h_l_cell_at (by decide) (sa_cons (cs_var C (j := 0) (i := 0) rfl rfl) (sa_cons se_int sa_nil rfl) rfl) rfl rfl) se_int) rfl)
    (ss_cons (ds_set D (j := 7) (i := 7) rfl rfl (se_idx (se_lst false (sa_cons (cs_var C (j := 6) (i := 6) rfl rfl) (sa_cons (cs_var C (j := 6) (i := 6) rfl rfl) (sa_cons (se_op op_add g_add (cs_var C (j := 6) (i := 6) rfl rfl) se_int) (sa_cons (se_op op_sub g_sub se_int (cs_var C (j := 6) (i := 6) rfl rfl)) (sa_cons (se_op op_mod g_mod (se_op op_add g_add (cs_var C (j := 6) (i := 6) rfl rfl) (se_op op_mul g_mul se_int (se_op op_mod g_mod (se_op op_fdiv g_fdiv (cs_var C (j := 4) (i := 4) rfl rfl) se_int) se_int))) se_int) sa_nil rfl) rfl) rfl) rfl) rfl)) (se_op op_mod g_mod (cs_var C (j := 4) (i := 4) rfl rfl) se_int) (fun _ _ => rfl)) rfl)
    (ss_cons (ds_set D (j := 8) (i := 8) rfl rfl (se_op op_add g_add se_int (se_op op_mod g_mod (se_op op_fdiv g_fdiv (cs_var C (j := 4) (i := 4) rfl rfl) se_int) (se_idx (se_lst false (sa_cons se_int (sa_cons se_int sa_nil rfl) rfl)) (se_op op_mod g_mod (se_op op_fdiv g_fdiv (cs_var C (j := 4) (i := 4) rfl rfl) se_int) se_int) (fun _ _ => rfl)))) rfl)
    (ss_cons (ds_set D (j := 9) (i := 9) rfl rfl (cs_call C (j := 2) rfl h_l_name (by decide) (sa_cons (se_op op_mod g_mod (se_op op_fdiv g_fdiv (cs_var C (j := 4) (i := 4) rfl rfl) se_int) (cs_var C (j := 3) (i := 3) rfl rfl)) (sa_cons (cs_call C (j := 1) rfl h_l_cell_at (by decide) (sa_cons (cs_var C (j := 0) (i := 0) rfl rfl) (sa_cons se_int sa_nil rfl) rfl) rfl rfl) sa_nil rfl) rfl) rfl rfl) rfl)
    (ss_one (cs_ret (se_tup (sa_cons (cs_var C (j := 7) (i := 7) rfl rfl) (sa_cons (cs_var C (j := 8) (i := 8) rfl rfl) (sa_cons (cs_var C (j := 9) (i := 9) rfl rfl) (sa_cons (cs_call C (j := 3) rfl h_l_amount (by decide) (sa_cons (cs_var C (j := 1) (i := 1) rfl rfl) (sa_cons (cs_call C (j := 0) rfl h_l_mixed (by decide) (sa_cons (cs_var C (j := 1) (i := 1) rfl rfl) (sa_cons (se_op op_add g_add (cs_var C (j := 2) (i := 2) rfl rfl) se_int) sa_nil rfl) rfl) rfl rfl) (sa_cons (cs_var C (j := 5) (i := 5) rfl rfl) sa_nil rfl) rfl) rfl) rfl rfl) sa_nil rfl) rfl) rfl) rfl))))))))))
theorem sc_l_deeds : FnScope ["_law_script", "_law_first", "_law_few", "_law_many", "_law_count", "_law_k"] ["_law_script", "_law_first", "_law_few", "_law_many"] (defScope s_l_deeds) := ⟨rfl, rfl, rfl, by decide +kernel, rfl, by decide +kernel, by decide +kernel⟩
theorem ok_l_deeds {f : Addr} {fd : FuncData} (F : Fun K "_law_deeds" "_law_deeds" s_l_deeds f fd) (B : Bf ⟨cad, cnm, ead, tb⟩ K mg)  : FnOk P w K mg base (L2.CX P w) 1 f fd ["_law_script", "_law_first", "_law_few", "_law_many"] (spF ⟨cad, cnm, ead, tb⟩ K 4 F_l_deeds) :=
  def_ok (vl := ["_law_script", "_law_first", "_law_few", "_law_many", "_law_count"]) (gl := ["len", "range", "min"]) F sc_l_deeds (by decide +kernel) fun X W e1 e2 e3 e4 e5 D => by
  subst e1 e2 e3 e4 e5
  have C := D.toCok
  exact (ss_cons (ds_set D (j := 4) (i := 4) rfl rfl (cs_var C (j := 2) (i := 2) rfl rfl) rfl)
    (ss_cons (cs_if (st_cmp op_gt (g_cmpI fun i j => decide (j < i)) (cs_bi C (j := 0) rfl B.n_len call_len g_len PySem.boot_len (sa_cons (cs_var C (j := 0) (i := 0) rfl rfl) sa_nil rfl) rfl) se_int (nomark _)) (ss_one (ds_set D (j := 4) (i := 4) rfl rfl (cs_var C (j := 3) (i := 3) rfl rfl) rfl)) ss_nil)
    (ss_one (cs_ret (cs_lc false C [("_law_k", 5)] ["_law_k", "_law_script"] [] (by decide +kernel) (by decide) tgName_len (si_rng2 C (j := 1) rfl B.n_range (sa_cons (cs_var C (j := 1) (i := 1) rfl rfl) (sa_cons (cs_bi C (j := 2) rfl B.n_min (cr_min23 C.calm) g_min (by decide +kernel) (sa_cons (cs_bi C (j := 0) rfl B.n_len call_len g_len PySem.boot_len (sa_cons (cs_var C (j := 0) (i := 0) rfl rfl) sa_nil rfl) rfl) (sa_cons (se_op op_add g_add (cs_var C (j := 1) (i := 1) rfl rfl) (cs_var C (j := 4) (i := 4) rfl rfl)) sa_nil rfl) rfl) rfl) sa_nil rfl) rfl) rfl rfl) (fun _ _ _ _ _ B1 => sg_own B1 (j := 0) rfl) (fun _ _ _ _ _ _ => sts_nil) (fun _ _ _ _ _ B1 => (se_idx (cs_var B1.toCok (j := 1) (i := 0) rfl rfl) (cs_var B1.toCok (j := 0) (i := 5) rfl rfl) (fun _ _ => rfl))) (fun _ => rfl))))))
theorem sc_l_all : FnScope ["_law_book", "_law_numbers", "_law_found", "_law_year", "_law_number"] ["_law_book", "_law_numbers"] (defScope s_l_all) := ⟨rfl, rfl, rfl, by decide +kernel, rfl, by decide +kernel, by decide +kernel⟩
theorem ok_l_all {f : Addr} {fd : FuncData} (F : Fun K "_law_all" "_law_all" s_l_all f fd) (B : Bf ⟨cad, cnm, ead, tb⟩ K mg) (m_book_damage : Mal ⟨cad, cnm, ead, tb⟩ P w K mg base 1 "damage" 3 2 F_book_damage) (m_book_damages : Mal ⟨cad, cnm, ead, tb⟩ P w K mg base 1 "damages" 5 2 F_book_damages) (m_book_dues : Mal ⟨cad, cnm, ead, tb⟩ P w K mg base 1 "dues" 6 2 F_book_dues) (m_book_parts : Mal ⟨cad, cnm, ead, tb⟩ P w K mg base 1 "parts" 5 2 F_book_parts) (m_book_share : Mal ⟨cad, cnm, ead, tb⟩ P w K mg base 1 "share" 4 2 F_book_share) (m_book_trail : Mal ⟨cad, cnm, ead, tb⟩ P w K mg base 1 "trail" 4 2 F_book_trail) (m_book_used : Mal ⟨cad, cnm, ead, tb⟩ P w K mg base 1 "used" 5 2 F_book_used) (m_book_years : Mal ⟨cad, cnm, ead, tb⟩ P w K mg base 1 "years" 1 1 F_book_years) : FnOk P w K mg base (L2.CX P w) 7 f fd ["_law_book", "_law_numbers"] (spF ⟨cad, cnm, ead, tb⟩ K 2 F_l_all) :=
  def_ok (vl := ["_law_book", "_law_numbers", "_law_found", "_law_year", "_law_number"]) (gl := []) F sc_l_all (by decide +kernel) fun X W e1 e2 e3 e4 e5 D => by
  subst e1 e2 e3 e4 e5
  have C := D.toCok
  exact (ss_cons (ds_set D (j := 2) (i := 2) rfl rfl (se_lst true (sa_cons (cs_meth0 1 C B.cla1 m_book_years (by decide) no_book_years (cs_var C (j := 0) (i := 0) rfl rfl) rfl) sa_nil rfl)) rfl)
    (ss_cons (cs_for C D.pass (si_seq (se_idx (cs_var C (j := 2) (i := 2) rfl rfl) se_int (fun _ _ => rfl))) (dg_name D (j := 3) (i := 3) rfl rfl)
    (ss_one (cs_expr (cs_bm .lst rfl PySem.F.plainAttrs_list PySem.F.slot_list_append PySem.F.type_list_append mt_append g_app (cs_var C (j := 2) (i := 2) rfl rfl) (sa_cons (se_lst false (sa_cons (cs_meth 1 C B.cla1 m_book_damages (by decide) no_book_damages (cs_var C (j := 0) (i := 0) rfl rfl) (sa_cons (cs_var C (j := 3) (i := 3) rfl rfl) sa_nil rfl) rfl rfl rfl) (sa_cons (cs_meth 1 C B.cla1 m_book_used (by decide) no_book_used (cs_var C (j := 0) (i := 0) rfl rfl) (sa_cons (cs_var C (j := 3) (i := 3) rfl rfl) sa_nil rfl) rfl rfl rfl) (sa_cons (cs_meth 1 C B.cla1 m_book_dues (by decide) no_book_dues (cs_var C (j := 0) (i := 0) rfl rfl) (sa_cons (cs_var C (j := 3) (i := 3) rfl rfl) sa_nil rfl) rfl rfl rfl) sa_nil rfl) rfl) rfl)) sa_nil rfl) rfl rfl rfl rfl) rfl)) (fun _ => rfl))
    (ss_cons (cs_for C D.pass (si_seq (cs_var C (j := 1) (i := 1) rfl rfl)) (dg_name D (j := 4) (i := 4) rfl rfl)
    (ss_one (cs_expr (cs_bm .lst rfl PySem.F.plainAttrs_list PySem.F.slot_list_append PySem.F.type_list_append mt_append g_app (cs_var C (j := 2) (i := 2) rfl rfl) (sa_cons (se_lst false (sa_cons (cs_meth 1 C B.cla1 m_book_damage (by decide) no_book_damage (cs_var C (j := 0) (i := 0) rfl rfl) (sa_cons (cs_var C (j := 4) (i := 4) rfl rfl) sa_nil rfl) rfl rfl rfl) (sa_cons (cs_meth 1 C B.cla1 m_book_share (by decide) no_book_share (cs_var C (j := 0) (i := 0) rfl rfl) (sa_cons (cs_var C (j := 4) (i := 4) rfl rfl) sa_nil rfl) rfl rfl rfl) (sa_cons (cs_meth 1 C B.cla1 m_book_trail (by decide) no_book_trail (cs_var C (j := 0) (i := 0) rfl rfl) (sa_cons (cs_var C (j := 4) (i := 4) rfl rfl) sa_nil rfl) rfl rfl rfl) (sa_cons (cs_meth 1 C B.cla1 m_book_parts (by decide) no_book_parts (cs_var C (j := 0) (i := 0) rfl rfl) (sa_cons (cs_var C (j := 4) (i := 4) rfl rfl) sa_nil rfl) rfl rfl rfl) sa_nil rfl) rfl) rfl) rfl)) sa_nil rfl) rfl rfl rfl rfl) rfl)) (fun _ => rfl))
    (ss_one (cs_ret (cs_var C (j := 2) (i := 2) rfl rfl))))))
theorem sc_l_refused : FnScope ["_law_book", "_law_one"] ["_law_book", "_law_one"] (defScope s_l_refused) := ⟨rfl, rfl, rfl, by decide +kernel, rfl, by decide +kernel, by decide +kernel⟩
theorem ok_l_refused {f : Addr} {fd : FuncData} (F : Fun K "_law_refused" "_law_refused" s_l_refused f fd) (B : Bf ⟨cad, cnm, ead, tb⟩ K mg) (m_book_told : Mal ⟨cad, cnm, ead, tb⟩ P w K mg base 1 "told" 5 2 F_book_told) : FnOk P w K mg base (L2.CX P w) 6 f fd ["_law_book", "_law_one"] (spF ⟨cad, cnm, ead, tb⟩ K 2 F_l_refused) :=
  def_ok (vl := ["_law_book", "_law_one"]) (gl := ["Known"]) F sc_l_refused (by decide +kernel) fun X W e1 e2 e3 e4 e5 D => by
  subst e1 e2 e3 e4 e5
  have C := D.toCok
  exact (ss_cons (cs_try D (j := 0) rfl B.x4.g (B.exs.hit (m := 4) (by decide)) (fun _ _ _ D => (ss_one (cs_expr (cs_meth 1 D.toCok B.cla1 m_book_told (by decide) no_book_told (cs_var D.toCok (j := 0) (i := 0) rfl rfl) (sa_cons (cs_var D.toCok (j := 1) (i := 1) rfl rfl) sa_nil rfl) rfl rfl rfl) rfl))) (fun _ _ Tk => (ss_one (cs_ret se_bl))))
    (ss_one (cs_ret se_bl)))
theorem sc_l_closed : FnScope ["_law_book", "_law_one"] ["_law_book", "_law_one"] (defScope s_l_closed) := ⟨rfl, rfl, rfl, by decide +kernel, rfl, by decide +kernel, by decide +kernel⟩
theorem ok_l_closed {f : Addr} {fd : FuncData} (F : Fun K "_law_closed" "_law_closed" s_l_closed f fd) (B : Bf ⟨cad, cnm, ead, tb⟩ K mg) (m_book_told : Mal ⟨cad, cnm, ead, tb⟩ P w K mg base 1 "told" 5 2 F_book_told) : FnOk P w K mg base (L2.CX P w) 6 f fd ["_law_book", "_law_one"] (spF ⟨cad, cnm, ead, tb⟩ K 2 F_l_closed) :=
  def_ok (vl := ["_law_book", "_law_one"]) (gl := ["Closed"]) F sc_l_closed (by decide +kernel) fun X W e1 e2 e3 e4 e5 D => by
  subst e1 e2 e3 e4 e5
  have C := D.toCok
  exact (ss_cons (cs_try D (j := 0) rfl B.x6.g (B.exs.hit (m := 6) (by decide)) (fun _ _ _ D => (ss_one (cs_expr (cs_meth 1 D.toCok B.cla1 m_book_told (by decide) no_book_told (cs_var D.toCok (j := 0) (i := 0) rfl rfl) (sa_cons (cs_var D.toCok (j := 1) (i := 1) rfl rfl) sa_nil rfl) rfl rfl rfl) rfl))) (fun _ _ Tk => (ss_one (cs_ret se_bl))))
    (ss_one (cs_ret se_bl)))
theorem sc_l_told : FnScope ["_law_book", "_law_one", "_law_pick"] ["_law_book", "_law_one", "_law_pick"] (defScope s_l_told) := ⟨rfl, rfl, rfl, by decide +kernel, rfl, by decide +kernel, by decide +kernel⟩
theorem ok_l_told {f : Addr} {fd : FuncData} (F : Fun K "_law_told" "_law_told" s_l_told f fd) (B : Bf ⟨cad, cnm, ead, tb⟩ K mg) (m_book_back : Mal ⟨cad, cnm, ead, tb⟩ P w K mg base 1 "back" 5 2 F_book_back) (m_book_change : Mal ⟨cad, cnm, ead, tb⟩ P w K mg base 1 "change" 5 3 F_book_change) (m_book_close : Mal ⟨cad, cnm, ead, tb⟩ P w K mg base 1 "close" 4 2 F_book_close) (m_book_reopen : Mal ⟨cad, cnm, ead, tb⟩ P w K mg base 1 "reopen" 4 2 F_book_reopen) (m_book_told : Mal ⟨cad, cnm, ead, tb⟩ P w K mg base 1 "told" 5 2 F_book_told) (h_l_closed : Cal ⟨cad, cnm, ead, tb⟩ P w K mg base "_law_closed" 6 2 F_l_closed) (h_l_refused : Cal ⟨cad, cnm, ead, tb⟩ P w K mg base "_law_refused" 6 2 F_l_refused) : FnOk P w K mg base (L2.CX P w) 7 f fd ["_law_book", "_law_one", "_law_pick"] (spF ⟨cad, cnm, ead, tb⟩ K 3 F_l_told) :=
  def_ok (vl := ["_law_book", "_law_one", "_law_pick"]) (gl := ["_law_closed", "_law_refused"]) F sc_l_told (by decide +kernel) fun X W e1 e2 e3 e4 e5 D => by
  subst e1 e2 e3 e4 e5
  have C := D.toCok
  exact (ss_cons (cs_if (st_w (sw_and (st_cmp op_lt (g_cmpI fun i j => decide (i < j)) (se_op op_mod g_mod (cs_var C (j := 2) (i := 2) rfl rfl) se_int) se_int (nomark _)) (sw_and1 (st_cmp (ew_op C.units) g_eq (se_op op_mod g_mod (cs_var C (j := 2) (i := 2) rfl rfl) se_int) se_int (nomark _))))) (ss_cons (cs_expr (cs_meth 1 C B.cla1 m_book_told (by decide) no_book_told (cs_var C (j := 0) (i := 0) rfl rfl) (sa_cons (se_op op_catA g_catT (se_slice false (cs_var C (j := 1) (i := 1) rfl rfl) so_none (so_some se_int)) (se_tup (sa_cons (se_op op_mod g_mod (se_op op_add g_add (se_idx (cs_var C (j := 1) (i := 1) rfl rfl) se_int (fun _ _ => rfl)) (cs_var C (j := 2) (i := 2) rfl rfl)) (se_op op_add g_add (se_op op_pow g_pow se_int se_int) se_int)) sa_nil rfl))) sa_nil rfl) rfl rfl rfl) rfl)
    (ss_cons (cs_expr (cs_meth 1 C B.cla1 m_book_change (by decide) no_book_change (cs_var C (j := 0) (i := 0) rfl rfl) (sa_cons (se_idx (cs_var C (j := 1) (i := 1) rfl rfl) se_int (fun _ _ => rfl)) (sa_cons (se_idx (cs_var C (j := 1) (i := 1) rfl rfl) se_int (fun _ _ => rfl)) sa_nil rfl) rfl) rfl rfl rfl) rfl)
    (ss_one (cs_ret se_bl)))) ss_nil)
    (ss_cons (cs_if (st_cmp (ew_op C.units) g_eq (se_op op_mod g_mod (cs_var C (j := 2) (i := 2) rfl rfl) se_int) se_int (nomark _)) (ss_cons (cs_expr (cs_meth 1 C B.cla1 m_book_close (by decide) no_book_close (cs_var C (j := 0) (i := 0) rfl rfl) (sa_cons (se_idx (cs_var C (j := 1) (i := 1) rfl rfl) se_int (fun _ _ => rfl)) sa_nil rfl) rfl rfl rfl) rfl)
    (ss_cons (cs_if (st_not (st_val (cs_call C (j := 0) rfl h_l_closed (by decide) (sa_cons (cs_var C (j := 0) (i := 0) rfl rfl) (sa_cons (cs_var C (j := 1) (i := 1) rfl rfl) sa_nil rfl) rfl) rfl rfl) (fun _ => rfl))) (ss_one (cs_ret se_bl)) ss_nil)
    (ss_cons (cs_expr (cs_meth 1 C B.cla1 m_book_reopen (by decide) no_book_reopen (cs_var C (j := 0) (i := 0) rfl rfl) (sa_cons (se_idx (cs_var C (j := 1) (i := 1) rfl rfl) se_int (fun _ _ => rfl)) sa_nil rfl) rfl rfl rfl) rfl)
    (ss_cons (cs_expr (cs_meth 1 C B.cla1 m_book_told (by decide) no_book_told (cs_var C (j := 0) (i := 0) rfl rfl) (sa_cons (cs_var C (j := 1) (i := 1) rfl rfl) sa_nil rfl) rfl rfl rfl) rfl)
    (ss_one (cs_ret se_bl)))))) ss_nil)
    (ss_cons (cs_if (st_cmp (ew_op C.units) g_eq (se_op op_mod g_mod (cs_var C (j := 2) (i := 2) rfl rfl) se_int) se_int (nomark _)) (ss_cons (cs_expr (cs_meth 1 C B.cla1 m_book_told (by decide) no_book_told (cs_var C (j := 0) (i := 0) rfl rfl) (sa_cons (se_op op_catA g_catT (se_tup (sa_cons (se_idx (se_lst false (sa_cons (se_idx (cs_var C (j := 1) (i := 1) rfl rfl) se_int (fun _ _ => rfl)) (sa_cons (se_op op_mod g_mod (se_op op_add g_add (se_idx (cs_var C (j := 1) (i := 1) rfl rfl) se_int (fun _ _ => rfl)) se_int) se_int) sa_nil rfl) rfl)) (se_op op_mod g_mod (se_op op_fdiv g_fdiv (cs_var C (j := 2) (i := 2) rfl rfl) se_int) se_int) (fun _ _ => rfl)) (sa_cons (se_op op_add g_add se_int (se_op op_mod g_mod (se_op op_add g_add (se_idx (cs_var C (j := 1) (i := 1) rfl rfl) se_int (fun _ _ => rfl)) (cs_var C (j := 2) (i := 2) rfl rfl)) se_int)) sa_nil rfl) rfl)) (se_slice false (cs_var C (j := 1) (i := 1) rfl rfl) (so_some se_int) so_none)) sa_nil rfl) rfl rfl rfl) rfl)
    (ss_one (cs_expr (cs_meth 1 C B.cla1 m_book_back (by decide) no_book_back (cs_var C (j := 0) (i := 0) rfl rfl) (sa_cons (se_idx (cs_var C (j := 1) (i := 1) rfl rfl) se_int (fun _ _ => rfl)) sa_nil rfl) rfl rfl rfl) rfl))) ss_nil)
    (ss_cons (cs_expr (cs_meth 1 C B.cla1 m_book_told (by decide) no_book_told (cs_var C (j := 0) (i := 0) rfl rfl) (sa_cons (cs_var C (j := 1) (i := 1) rfl rfl) sa_nil rfl) rfl rfl rfl) rfl)
    (ss_cons (cs_if (st_cmp (ew_op C.units) g_eq (se_op op_mod g_mod (cs_var C (j := 2) (i := 2) rfl rfl) se_int) se_int (nomark _)) (ss_cons (cs_expr (cs_meth 1 C B.cla1 m_book_close (by decide) no_book_close (cs_var C (j := 0) (i := 0) rfl rfl) (sa_cons (se_idx (cs_var C (j := 1) (i := 1) rfl rfl) se_int (fun _ _ => rfl)) sa_nil rfl) rfl rfl rfl) rfl)
    (ss_one (cs_expr (cs_meth 1 C B.cla1 m_book_reopen (by decide) no_book_reopen (cs_var C (j := 0) (i := 0) rfl rfl) (sa_cons (se_idx (cs_var C (j := 1) (i := 1) rfl rfl) se_int (fun _ _ => rfl)) sa_nil rfl) rfl rfl rfl) rfl))) ss_nil)
    (ss_one (cs_ret (se_or (se_cmp (nw_op C.units) g_ne (se_op op_mod g_mod (cs_var C (j := 2) (i := 2) rfl rfl) se_int) se_int (nomark _)) (se_one (cs_call C (j := 1) rfl h_l_refused (by decide) (sa_cons (cs_var C (j := 0) (i := 0) rfl rfl) (sa_cons (se_op op_catA g_catT (se_slice false (cs_var C (j := 1) (i := 1) rfl rfl) so_none (so_some se_int)) (se_tup (sa_cons se_int sa_nil rfl))) sa_nil rfl) rfl) rfl rfl))))))))))
theorem sc_l_damages : FnScope ["_law_script", "_law_found", "_law_deeds_here", "_law_k", "_law_one"] ["_law_script"] (defScope s_l_damages) := ⟨rfl, rfl, rfl, by decide +kernel, rfl, by decide +kernel, by decide +kernel⟩
theorem ok_l_damages {f : Addr} {fd : FuncData} (F : Fun K "_law_damages" "_law_damages" s_l_damages f fd) (B : Bf ⟨cad, cnm, ead, tb⟩ K mg) (h_l_cell_at : Cal ⟨cad, cnm, ead, tb⟩ P w K mg base "_law_cell_at" 1 2 F_l_cell_at) (h_l_damage : Cal ⟨cad, cnm, ead, tb⟩ P w K mg base "_law_damage" 2 4 F_l_damage) (h_l_deeds : Cal ⟨cad, cnm, ead, tb⟩ P w K mg base "_law_deeds" 1 4 F_l_deeds) (h_l_name : Cal ⟨cad, cnm, ead, tb⟩ P w K mg base "_law_name" 1 2 F_l_name) : FnOk P w K mg base (L2.CX P w) 3 f fd ["_law_script"] (spF ⟨cad, cnm, ead, tb⟩ K 1 F_l_damages) :=
  def_ok (vl := ["_law_script", "_law_found", "_law_deeds_here", "_law_k", "_law_one"]) (gl := ["_law_deeds", "range", "len", "_law_damage", "_law_name", "_law_cell_at"]) F sc_l_damages (by decide +kernel) fun X W e1 e2 e3 e4 e5 D => by
  subst e1 e2 e3 e4 e5
  have C := D.toCok
  exact (ss_cons (ds_set D (j := 1) (i := 1) rfl rfl (se_lst true sa_nil) rfl)
    (ss_cons (ds_set D (j := 2) (i := 2) rfl rfl (cs_call C (j := 0) rfl h_l_deeds (by decide) (sa_cons (cs_var C (j := 0) (i := 0) rfl rfl) (sa_cons se_int (sa_cons se_int (sa_cons se_int sa_nil rfl) rfl) rfl) rfl) rfl rfl) rfl)
    (ss_cons (cs_for C D.pass (si_rng1 C (j := 1) rfl B.n_range (sa_cons (cs_bi C (j := 2) rfl B.n_len call_len g_len PySem.boot_len (sa_cons (cs_var C (j := 2) (i := 2) rfl rfl) sa_nil rfl) rfl) sa_nil rfl) rfl) (dg_name D (j := 3) (i := 3) rfl rfl)
    (ss_cons (ds_set D (j := 4) (i := 4) rfl rfl (cs_call C (j := 3) rfl h_l_damage (by decide) (sa_cons (cs_var C (j := 0) (i := 0) rfl rfl) (sa_cons (se_idx (cs_var C (j := 2) (i := 2) rfl rfl) (cs_var C (j := 3) (i := 3) rfl rfl) (fun _ _ => rfl)) (sa_cons (cs_var C (j := 3) (i := 3) rfl rfl) (sa_cons se_int sa_nil rfl) rfl) rfl) rfl) rfl rfl) rfl)
    (ss_one (cs_expr (cs_bm .lst rfl PySem.F.plainAttrs_list PySem.F.slot_list_append PySem.F.type_list_append mt_append g_app (cs_var C (j := 1) (i := 1) rfl rfl) (sa_cons (se_op op_catA g_catT (se_slice false (cs_var C (j := 4) (i := 4) rfl rfl) so_none (so_some se_int)) (se_tup (sa_cons (cs_call C (j := 4) rfl h_l_name (by decide) (sa_cons (cs_var C (j := 3) (i := 3) rfl rfl) (sa_cons (cs_call C (j := 5) rfl h_l_cell_at (by decide) (sa_cons (cs_var C (j := 0) (i := 0) rfl rfl) (sa_cons se_int sa_nil rfl) rfl) rfl rfl) sa_nil rfl) rfl) rfl rfl) (sa_cons (se_idx (cs_var C (j := 4) (i := 4) rfl rfl) se_int (fun _ _ => rfl)) sa_nil rfl) rfl))) sa_nil rfl) rfl rfl rfl rfl) rfl))) (fun _ => rfl))
    (ss_frz 1 (ss_one (cs_ret (cs_var C (j := 1) (i := 1) rfl rfl)))))))
theorem sc_law : FnScope ["_law_script", "_law_plan_here", "_law_damages_here", "_law_numbers", "_law_one", "_law_first", "_law_due", "_law_second", "_law_left", "_law_count", "_law_pick", "_law_number"] ["_law_script"] (defScope s_law) := ⟨rfl, rfl, rfl, by decide +kernel, rfl, by decide +kernel, by decide +kernel⟩
theorem ok_law {f : Addr} {fd : FuncData} (F : Fun K "law" "law" s_law f fd) (B : Bf ⟨cad, cnm, ead, tb⟩ K mg) (k_book : Kal ⟨cad, cnm, ead, tb⟩ P w K mg base 1 "Book" 5 2 F_book_init) (m_book_damage : Mal ⟨cad, cnm, ead, tb⟩ P w K mg base 1 "damage" 3 2 F_book_damage) (m_book_told : Mal ⟨cad, cnm, ead, tb⟩ P w K mg base 1 "told" 5 2 F_book_told) (h_l_all : Cal ⟨cad, cnm, ead, tb⟩ P w K mg base "_law_all" 7 2 F_l_all) (h_l_damages : Cal ⟨cad, cnm, ead, tb⟩ P w K mg base "_law_damages" 3 1 F_l_damages) (h_l_mixed : Cal ⟨cad, cnm, ead, tb⟩ P w K mg base "_law_mixed" 1 2 F_l_mixed) (h_l_plan : Cal ⟨cad, cnm, ead, tb⟩ P w K mg base "_law_plan" 3 2 F_l_plan) (h_l_told : Cal ⟨cad, cnm, ead, tb⟩ P w K mg base "_law_told" 7 3 F_l_told) : FnOk P w K mg base (L2.CX P w) 8 f fd ["_law_script"] (spF ⟨cad, cnm, ead, tb⟩ K 1 F_law) :=
  def_ok (vl := ["_law_script", "_law_plan_here", "_law_damages_here", "_law_numbers", "_law_one", "_law_first", "_law_due", "_law_second", "_law_left", "_law_count", "_law_pick"]) (gl := ["_law_plan", "_law_damages", "Book", "sorted", "_law_all", "set", "list", "_law_mixed", "len", "_law_told"]) F sc_law (by decide +kernel) fun X W e1 e2 e3 e4 e5 D => by
  subst e1 e2 e3 e4 e5
  have C := D.toCok
  exact (ss_cons (ds_set D (j := 1) (i := 1) rfl rfl (cs_call C (j := 0) rfl h_l_plan (by decide) (sa_cons (cs_var C (j := 0) (i := 0) rfl rfl) (sa_cons se_int sa_nil rfl) rfl) rfl rfl) rfl)
    (ss_cons (ds_set D (j := 2) (i := 2) rfl rfl (cs_call C (j := 1) rfl h_l_damages (by decide) (sa_cons (cs_var C (j := 0) (i := 0) rfl rfl) sa_nil rfl) rfl rfl) rfl)
    (ss_cons (cs_setLc false C (i := 3) [("_law_one", 4)] ["_law_one"] [] rfl rfl (sw_trueC C rfl rfl rfl (by decide +kernel)) (by decide +kernel) (by decide) tgName_len (si_seq (cs_var C (j := 2) (i := 2) rfl rfl)) (fun _ _ _ _ _ B1 => sg_own B1 (j := 0) rfl) (fun _ _ _ _ _ _ => sts_nil) (fun _ _ _ _ _ B1 => (se_idx (cs_var B1.toCok (j := 0) (i := 4) rfl rfl) se_int (fun _ _ => rfl))) (fun _ => rfl))
    (ss_cons (ds_set D (j := 5) (i := 5) rfl rfl (cs_new 1 C (j := 2) rfl k_book (by decide) (sa_cons (cs_var C (j := 1) (i := 1) rfl rfl) sa_nil rfl) rfl rfl) rfl)
    (ss_cons (cs_for C D.pass (si_seq (cs_bi C (j := 3) rfl B.n_sorted (cr_sortT (d := 4) (B := bigB) (by decide)) (g_sortT false) (by decide +kernel) (sa_cons (cs_var C (j := 2) (i := 2) rfl rfl) sa_nil rfl) rfl)) (dg_name D (j := 4) (i := 4) rfl rfl)
    (ss_one (cs_expr (cs_meth 1 C B.cla1 m_book_told (by decide) no_book_told (cs_var C (j := 5) (i := 5) rfl rfl) (sa_cons (cs_var C (j := 4) (i := 4) rfl rfl) sa_nil rfl) rfl rfl rfl) rfl)) (fun _ => rfl))
    (ss_cons (ds_set D (j := 6) (i := 6) rfl rfl (cs_call C (j := 4) rfl h_l_all (by decide) (sa_cons (cs_var C (j := 5) (i := 5) rfl rfl) (sa_cons (cs_var C (j := 3) (i := 3) rfl rfl) sa_nil rfl) rfl) rfl rfl) rfl)
    (ss_cons (cs_if (st_w (sw_or (st_cmp (nw_op C.units) g_ne (se_idx (cs_var C (j := 6) (i := 6) rfl rfl) se_int (fun _ _ => rfl)) (cs_sortedSet false C (j := 3) rfl B.n_sorted (j2 := 5) rfl B.n_set (cs_lc false C [("_law_one", 4)] ["_law_one"] [] (by decide +kernel) (by decide) tgName_len (si_seq (cs_var C (j := 2) (i := 2) rfl rfl)) (fun _ _ _ _ _ B1 => sg_own B1 (j := 0) rfl) (fun _ _ _ _ _ _ => sts_nil) (fun _ _ _ _ _ B1 => (se_idx (cs_var B1.toCok (j := 0) (i := 4) rfl rfl) se_int (fun _ _ => rfl))) (fun _ => rfl)) rfl) (nomark _)) (sw_or1 (st_cmp (nw_op C.units) g_ne (cs_lc false C [("_law_number", 11)] ["_law_number", "_law_first"] [] (by decide +kernel) (by decide) tgName_len (si_seq (cs_var C (j := 3) (i := 3) rfl rfl)) (fun _ _ _ _ _ B1 => sg_own B1 (j := 0) rfl) (fun _ _ _ _ _ _ => sts_nil) (fun _ _ _ _ _ B1 => (cs_meth 1 B1.toCok B.cla1 m_book_damage (by decide) no_book_damage (cs_var B1.toCok (j := 1) (i := 5) rfl rfl) (sa_cons (cs_var B1.toCok (j := 0) (i := 11) rfl rfl) sa_nil rfl) rfl rfl rfl)) (fun _ => rfl)) (cs_var C (j := 2) (i := 2) rfl rfl) (nomark _))))) (ss_one (cs_ret se_bl)) ss_nil)
    (ss_cons (ds_set D (j := 7) (i := 7) rfl rfl (cs_new 1 C (j := 2) rfl k_book (by decide) (sa_cons (cs_var C (j := 1) (i := 1) rfl rfl) sa_nil rfl) rfl rfl) rfl)
    (ss_cons (ds_set D (j := 8) (i := 8) rfl rfl (cs_ty C (j := 6) rfl B.n_list call_list_of (g_list true) (by decide +kernel) (sa_cons (cs_var C (j := 2) (i := 2) rfl rfl) sa_nil rfl) rfl) rfl)
    (ss_cons (ds_set D (j := 9) (i := 9) rfl rfl se_int rfl)
    (ss_cons (cs_while 1000 D.pass (st_cmp (nw_op C.units) g_ne (cs_var C (j := 8) (i := 8) rfl rfl) (se_lst false sa_nil) (nomark _)) (ss_cons (ds_set D (j := 10) (i := 10) rfl rfl (cs_call C (j := 7) rfl h_l_mixed (by decide) (sa_cons (se_op op_add g_add (se_idx (se_idx (cs_var C (j := 8) (i := 8) rfl rfl) se_int (fun _ _ => rfl)) se_int (fun _ _ => rfl)) (se_idx (se_idx (cs_var C (j := 8) (i := 8) rfl rfl) se_int (fun _ _ => rfl)) se_int (fun _ _ => rfl))) (sa_cons (cs_var C (j := 9) (i := 9) rfl rfl) sa_nil rfl) rfl) rfl rfl) rfl)
    (ss_cons (ds_set D (j := 4) (i := 4) rfl rfl (cs_bm .lst rfl PySem.F.plainAttrs_list PySem.F.slot_list_pop PySem.F.type_list_pop mt_popAt g_pop (cs_var C (j := 8) (i := 8) rfl rfl) (sa_cons (se_op op_mod g_mod (se_op op_fdiv g_fdiv (cs_var C (j := 10) (i := 10) rfl rfl) se_int) (cs_bi C (j := 8) rfl B.n_len call_len g_len PySem.boot_len (sa_cons (cs_var C (j := 8) (i := 8) rfl rfl) sa_nil rfl) rfl)) sa_nil rfl) rfl rfl rfl rfl) rfl)
    (ss_cons (cs_if (st_not (st_val (cs_call C (j := 9) rfl h_l_told (by decide) (sa_cons (cs_var C (j := 7) (i := 7) rfl rfl) (sa_cons (cs_var C (j := 4) (i := 4) rfl rfl) (sa_cons (cs_var C (j := 10) (i := 10) rfl rfl) sa_nil rfl) rfl) rfl) rfl rfl) (fun _ => rfl))) (ss_one (cs_ret se_bl)) ss_nil)
    (ss_cons (cs_if (st_cmp (ew_op C.units) g_eq (se_op op_mod g_mod (se_op op_fdiv g_fdiv (cs_var C (j := 10) (i := 10) rfl rfl) se_int) se_int) se_int (nomark _)) (ss_one (cs_expr (cs_call C (j := 4) rfl h_l_all (by decide) (sa_cons (cs_var C (j := 7) (i := 7) rfl rfl) (sa_cons (se_lst false (sa_cons (se_idx (cs_var C (j := 4) (i := 4) rfl rfl) se_int (fun _ _ => rfl)) sa_nil rfl)) sa_nil rfl) rfl) rfl rfl) rfl)) ss_nil)
    (ss_one (ds_set D (j := 9) (i := 9) rfl rfl (se_op op_add g_add (cs_var C (j := 9) (i := 9) rfl rfl) se_int) rfl)))))))
    (ss_one (cs_ret (se_and (se_cmp (ew_op C.units) g_eq (cs_call C (j := 4) rfl h_l_all (by decide) (sa_cons (cs_var C (j := 7) (i := 7) rfl rfl) (sa_cons (cs_var C (j := 3) (i := 3) rfl rfl) sa_nil rfl) rfl) rfl rfl) (cs_var C (j := 6) (i := 6) rfl rfl) (nomark _)) (se_one (se_cmp (ew_op C.units) g_eq (cs_call C (j := 4) rfl h_l_all (by decide) (sa_cons (cs_var C (j := 5) (i := 5) rfl rfl) (sa_cons (cs_var C (j := 3) (i := 3) rfl rfl) sa_nil rfl) rfl) rfl rfl) (cs_var C (j := 6) (i := 6) rfl rfl) (nomark _)))))))))))))))))
end
end W_k11_whole_any_order
namespace CL
open PySem PySem.Spec PyProof.Rows L2
theorem l_cell_at (ns : List Int) (k : Nat) (S : Sto) : F_l_cell_at [.scr ns, .int k] S = .ok (.int (cellAt ns k)) S := by
  rw [F_l_cell_at_eq, b_l_cell_at]
  by_cases h : k < ns.length
  · simp [h, idx_seq (w := .scr ns) (S := S) (i := k) (x := .int (cellAt ns k)) rfl (by rw [atI_n]; simp [h, cellAt])]
  · simp [h, cellAt]
def mixI (c k : Int) : Int := (c + 7919 * k) * 48271 % 2147483647 * ((c + 7919 * k) * 48271 % 2147483647 % 65537 + k + 1) % 2147483647
theorem mixI_b (c k : Int) : 0 ≤ mixI c k ∧ mixI c k < 2147483647 := by
  unfold mixI
  exact ⟨Int.emod_nonneg _ (by decide), Int.emod_lt_of_pos _ (by decide)⟩
theorem l_mixed (c k : Int) (S : Sto) : F_l_mixed [.int c, .int k] S = .ok (.int (mixI c k)) S := by
  rw [F_l_mixed_eq, b_l_mixed]
  have h : -(2 ^ 64) < (c + 7919 * k) * 48271 % 2147483647 ∧ (c + 7919 * k) * 48271 % 2147483647 < 2 ^ 64 := by omega
  rw [seq_nx (e := [some (.int c), some (.int k), some (.int ((c + 7919 * k) * 48271 % 2147483647))]) (S' := S) (by simp [mulI_d])]
  simp [mulI_d (.inl h), mixI]
def wtsN (p : Int) : Nat := (1 + p / 2 % nthI [3, 9] (p % 2)).toNat
def wtsI (p : Int) : List Int := (List.range (wtsN p)).map fun (k : Nat) => 1 + mixI p k % nthI [3, 1000000] (p / 54 % 2)
theorem wtsN_b (p : Int) : 1 ≤ wtsN p ∧ wtsN p ≤ 9 ∧ ((wtsN p : Nat) : Int) = 1 + p / 2 % nthI [3, 9] (p % 2) := by
  have h : nthI [3, 9] (p % 2) ∈ [3, 9] := nthI_mod (by decide) rfl
  unfold wtsN
  simp only [List.mem_cons, List.not_mem_nil, or_false] at h
  generalize nthI [3, 9] (p % 2) = m at h
  rcases h with rfl | rfl <;> omega
theorem wtsI_b (p : Int) : (wtsI p).length = wtsN p ∧ ∀ w ∈ wtsI p, 1 ≤ w ∧ w ≤ 1000000 := by
  refine ⟨by simp [wtsI], fun w hw => ?_⟩
  simp only [wtsI, List.mem_map] at hw
  obtain ⟨k, _, rfl⟩ := hw
  have h : nthI [3, 1000000] (p / 54 % 2) ∈ [3, 1000000] := nthI_mod (by decide) rfl
  simp only [List.mem_cons, List.not_mem_nil, or_false] at h
  generalize nthI [3, 1000000] (p / 54 % 2) = m at h
  rcases h with rfl | rfl <;> omega
theorem l_weights (p : Int) (S : Sto) : F_l_weights [.int p] S = .ok (.tup ((wtsI p).map .int)) S := by
  rw [F_l_weights_eq, b_l_weights]
  have h : nthI [3, 9] (p % 2) ∈ [3, 9] := nthI_mod (by decide) rfl
  have h2 : nthI [3, 1000000] (p / 54 % 2) ∈ [3, 1000000] := nthI_mod (by decide) rfl
  simp only [List.mem_cons, List.not_mem_nil, or_false] at h h2
  have e := wtsN_b p
  rw [seq_nx (e := [some (.int p), some (.int (wtsN p)), none]) (S' := S) (by
    have : 0 < nthI [3, 9] (p % 2) := by omega
    simp [lenOk_t, modI_d this, e.2.2])]
  have e1 : lcItems (tgName 2) fYes b_l_weights_c1 (wipeE [some (.int p), some (.int (wtsN p)), none] [2]) (rangeW 0 (wtsN p)) S = .ok ((wtsI p).map .int) S := by
    rw [lc_pure (fun k => .int (1 + mixI p k % nthI [3, 1000000] (p / 54 % 2))) (fun i w hw => by
      obtain ⟨hi, rfl⟩ := rangeW_at hw
      have : 0 < nthI [3, 1000000] (p / 54 % 2) := by omega
      refine ⟨_, rfl, ?_⟩
      simp [b_l_weights_c1, wipeE, l_mixed, lenOk_t, modI_d this])]
    simp [wtsI, rangeW_len]
  simp [rng1K_d (n := (wtsN p : Int)) (by omega), lcK_d (lenOk_t (n := (rangeW 0 (wtsN p)).length) (by rw [rangeW_len]; omega)), e1]
abbrev Lay := Int × Int × List Int
abbrev Pl := Int × List Lay
def layW (l : Lay) : Wv := .tup [.int l.1, .int l.2.1, .tup (l.2.2.map .int)]
def planW (p : Pl) : Wv := .tup [.int p.1, .tup (p.2.map layW)]
@[simp] theorem idx_lay0 {l : Lay} {S : Sto} : idxP (layW l) (.int 0) S = .ok (.int l.1) S := by simp [layW]
@[simp] theorem idx_lay1 {l : Lay} {S : Sto} : idxP (layW l) (.int 1) S = .ok (.int l.2.1) S := by simp [layW]
@[simp] theorem idx_lay2 {l : Lay} {S : Sto} : idxP (layW l) (.int 2) S = .ok (.tup (l.2.2.map .int)) S := by simp [layW]
@[simp] theorem idx_plan0 {p : Pl} {S : Sto} : idxP (planW p) (.int 0) S = .ok (.int p.1) S := by simp [planW]
@[simp] theorem idx_plan1 {p : Pl} {S : Sto} : idxP (planW p) (.int 1) S = .ok (.tup (p.2.map layW)) S := by simp [planW]
structure OkLay (l : Lay) : Prop where
  most : 1 ≤ l.1 ∧ l.1 ≤ 1000000000000000
  year : 1 ≤ l.2.1 ∧ l.2.1 ≤ 1000000000000000000
  len : 1 ≤ l.2.2.length ∧ l.2.2.length ≤ 9
  wts : ∀ w ∈ l.2.2, 1 ≤ w ∧ w ≤ 1000000
structure OkPlan (p : Pl) : Prop where
  own : 0 ≤ p.1 ∧ p.1 ≤ 1000000000000000
  len : p.2.length ≤ 9
  lay : ∀ l ∈ p.2, OkLay l
def unitI (c : Int) : Int := nthI [1, 7, 1000003, 10000000000000] (c % 4)
theorem unitI_b (c : Int) : 1 ≤ unitI c ∧ unitI c ≤ 10000000000000 := by
  have h : unitI c ∈ [1, 7, 1000003, 10000000000000] := nthI_mod (by decide) rfl
  simp only [List.mem_cons, List.not_mem_nil, or_false] at h
  omega
def manyI (c : Int) : Int := nthI [2, 3, 1, c / 24 % 10, 4, 0] (c / 4 % 6)
theorem manyI_b (c : Int) : 0 ≤ manyI c ∧ manyI c ≤ 9 := by
  have h : manyI c ∈ [2, 3, 1, c / 24 % 10, 4, 0] := nthI_mod (by decide) rfl
  simp only [List.mem_cons, List.not_mem_nil, or_false] at h
  omega
def layI (c d : Int) (k : Nat) : Lay :=
  let p := mixI d k
  (if p / 1200 % 6 = 1 then 1 + (c + p) % 1000000000000000 else unitI c * (1 + p % 20),
   if p / 1200 % 6 = 0 then 1 + (c + p) * ((k : Int) + 1) % 1000000000000000000 else unitI c * (1 + p / 20 % 60), wtsI (p / 7200))
def planI (c d : Int) : Pl := (if c / 264 % 6 = 1 then c % 1000000000000001 else unitI c * (c / 24 % 11), (List.range (manyI c).toNat).map (layI c d))
theorem mul_b {u x U X : Int} (h1 : 1 ≤ u ∧ u ≤ U) (h2 : 1 ≤ x ∧ x ≤ X) : 1 ≤ u * x ∧ u * x ≤ U * X := by
  constructor
  · have := Int.mul_le_mul h1.1 h2.1 (by omega) (by omega)
    omega
  · exact Int.mul_le_mul h1.2 h2.2 (by omega) (by omega)
theorem layI_ok (c d : Int) (k : Nat) : OkLay (layI c d k) := by
  have hu := unitI_b c
  have hw := wtsI_b (mixI d k / 7200)
  have hn := wtsN_b (mixI d k / 7200)
  refine ⟨?_, ?_, by rw [layI]; simp only; omega, hw.2⟩
  · simp only [layI]
    split
    · omega
    · have := mul_b hu (x := 1 + mixI d k % 20) (X := 20) (by omega)
      omega
  · simp only [layI]
    split
    · have := Int.emod_nonneg ((c + mixI d k) * ((k : Int) + 1)) (b := 1000000000000000000) (by decide)
      have := Int.emod_lt_of_pos ((c + mixI d k) * ((k : Int) + 1)) (b := 1000000000000000000) (by decide)
      omega
    · have := mul_b hu (x := 1 + mixI d k / 20 % 60) (X := 60) (by omega)
      omega
theorem planI_ok (c d : Int) : OkPlan (planI c d) := by
  have hu := unitI_b c
  have hm := manyI_b c
  refine ⟨?_, by simp only [planI, List.length_map, List.length_range]; omega, fun l hl => ?_⟩
  · simp only [planI]
    split
    · omega
    · have h0 : 0 ≤ c / 24 % 11 ∧ c / 24 % 11 ≤ 10 := by omega
      have h1 : 0 ≤ unitI c * (c / 24 % 11) := Int.mul_nonneg (by omega) h0.1
      have h2 : unitI c * (c / 24 % 11) ≤ 10000000000000 * 10 := Int.mul_le_mul hu.2 h0.2 h0.1 (by decide)
      omega
  · simp only [planI, List.mem_map] at hl
    obtain ⟨k, _, rfl⟩ := hl
    exact layI_ok c d k
theorem layW_layI (c d : Int) (k : Nat) : layW (layI c d k) = .tup [.int (if mixI d k / 1200 % 6 = 1 then 1 + (c + mixI d k) % 1000000000000000 else unitI c * (1 + mixI d k % 20)), .int (if mixI d k / 1200 % 6 = 0 then 1 + (c + mixI d k) * ((k : Int) + 1) % 1000000000000000000 else unitI c * (1 + mixI d k / 20 % 60)), .tup ((wtsI (mixI d k / 7200)).map .int)] := rfl
theorem plan_turn (ns : List Int) (at_ : Nat) (k : Nat) (hk : k ≤ 9) (j : Nat) (x6 x7 x8 x9 : Option Wv) (S : Sto) (ws : List Wv) (hS : S[j]? = some (.lst ws)) (hl : ws.length ≤ 9) :
    b_l_plan_f1 [some (.scr ns), some (.int at_), some (.int (cellAt ns at_)), some (.int (unitI (cellAt ns at_))), some (.ref j), some (.int k), x6, x7, x8, x9] S =
      .nx [some (.scr ns), some (.int at_), some (.int (cellAt ns at_)), some (.int (unitI (cellAt ns at_))), some (.ref j), some (.int k), some (.int (mixI (cellAt ns (at_ + 1)) k)), some (.int (layI (cellAt ns at_) (cellAt ns (at_ + 1)) k).1), some (.int (layI (cellAt ns at_) (cellAt ns (at_ + 1)) k).2.1), x9] (S.set j (.lst (ws ++ [layW (layI (cellAt ns at_) (cellAt ns (at_ + 1)) k)]))) := by
  have hc := l_cell_at ns (at_ + 1) S
  generalize cellAt ns at_ = c
  generalize cellAt ns (at_ + 1) = d at hc
  have hu := unitI_b c
  have hu2 : (-(2 ^ 64) < unitI c ∧ unitI c < 2 ^ 64) := by omega
  have hk2 : (-(2 ^ 64) < (k : Int) + 1 ∧ (k : Int) + 1 < 2 ^ 64) := by omega
  rw [show ((at_ + 1 : Nat) : Int) = (at_ : Int) + 1 from rfl] at hc
  rw [layW_layI]
  simp only [layI]
  generalize hm : mixI d k = m
  generalize unitI c = u at hu hu2
  rw [b_l_plan_f1, seq_nx (e := [some (.scr ns), some (.int at_), some (.int c), some (.int u), some (.ref j), some (.int k), some (.int m), x7, x8, x9]) (S' := S) (by simp [hc, l_mixed, hm]),
    seq_nx (e := [some (.scr ns), some (.int at_), some (.int c), some (.int u), some (.ref j), some (.int k), some (.int m), some (.int (u * (1 + m % 20))), x8, x9]) (S' := S) (by simp [mulI_d (.inl hu2)]),
    seq_nx (e := [some (.scr ns), some (.int at_), some (.int c), some (.int u), some (.ref j), some (.int k), some (.int m), some (.int (u * (1 + m % 20))), some (.int (u * (1 + m / 20 % 60))), x9]) (S' := S) (by simp [mulI_d (.inl hu2)]),
    seq_nx (e := [some (.scr ns), some (.int at_), some (.int c), some (.int u), some (.ref j), some (.int k), some (.int m), some (.int (u * (1 + m % 20))), some (.int (if m / 1200 % 6 = 0 then 1 + (c + m) * ((k : Int) + 1) % 1000000000000000000 else u * (1 + m / 20 % 60))), x9]) (S' := S) (by
      by_cases h : m / 1200 % 6 = 0 <;> simp [h, mulI_d (.inr hk2)]),
    seq_nx (e := [some (.scr ns), some (.int at_), some (.int c), some (.int u), some (.ref j), some (.int k), some (.int m), some (.int (if m / 1200 % 6 = 1 then 1 + (c + m) % 1000000000000000 else u * (1 + m % 20))), some (.int (if m / 1200 % 6 = 0 then 1 + (c + m) * ((k : Int) + 1) % 1000000000000000000 else u * (1 + m / 20 % 60))), x9]) (S' := S) (by
      by_cases h : m / 1200 % 6 = 1 <;> simp [h])]
  simp [tyOf_ref hS, l_weights, lenOk_t, tupP_d, app_ref hS (lenOk_t (by omega))]
theorem l_plan (ns : List Int) (at_ : Nat) (S : Sto) : F_l_plan [.scr ns, .int at_] S = .ok (planW (planI (cellAt ns at_) (cellAt ns (at_ + 1)))) (S ++ [.lst ((planI (cellAt ns at_) (cellAt ns (at_ + 1))).2.map layW)]) := by
  rw [F_l_plan_eq, b_l_plan]
  have hc := l_cell_at ns at_ S
  have hm := manyI_b (cellAt ns at_)
  have hu := unitI_b (cellAt ns at_)
  rw [seq_nx (e := [some (.scr ns), some (.int at_), some (.int (cellAt ns at_)), none, none, none, none, none, none, none]) (S' := S) (by simp [hc]),
    seq_nx (e := [some (.scr ns), some (.int at_), some (.int (cellAt ns at_)), some (.int (unitI (cellAt ns at_))), none, none, none, none, none, none]) (S' := S) (by simp [lenOk_t, lstP_d, unitI]),
    seq_nx (e := [some (.scr ns), some (.int at_), some (.int (cellAt ns at_)), some (.int (unitI (cellAt ns at_))), some (.ref S.length), none, none, none, none, none]) (S' := S ++ [.lst []]) (by simp [lenOk_t, lstP_d])]
  obtain ⟨e, S', h, h1, x5, x6, x7, x8, h2⟩ := for_ix (tg := tgName 5) (body := b_l_plan_f1) (ws := rangeW 0 (manyI (cellAt ns at_)).toNat) (env := [some (.scr ns), some (.int at_), some (.int (cellAt ns at_)), some (.int (unitI (cellAt ns at_))), some (.ref S.length), none, none, none, none, none]) (S := S ++ [.lst []])
    (fun i e S' => S' = S ++ [.lst ((List.range i).map fun k => layW (layI (cellAt ns at_) (cellAt ns (at_ + 1)) k))] ∧ ∃ x5 x6 x7 x8, e = [some (.scr ns), some (.int at_), some (.int (cellAt ns at_)), some (.int (unitI (cellAt ns at_))), some (.ref S.length), x5, x6, x7, x8, none])
    ⟨rfl, none, none, none, none, rfl⟩ (by
      rintro i w env S2 hw ⟨rfl, x5, x6, x7, x8, rfl⟩
      obtain ⟨hi, rfl⟩ := rangeW_at hw
      refine ⟨_, rfl, ?_⟩
      have := plan_turn ns at_ i (by omega) S.length x6 x7 x8 none (S ++ [.lst ((List.range i).map fun k => layW (layI (cellAt ns at_) (cellAt ns (at_ + 1)) k))]) ((List.range i).map fun k => layW (layI (cellAt ns at_) (cellAt ns (at_ + 1)) k)) (by simp) (by simp; omega)
      refine ⟨_, _, (by simpa using this), ?_, _, _, _, _, rfl⟩
      simp [List.range_succ])
  subst h1 h2
  have hr : itRng1 (fCons (f2 idxP (fN (lstP false) (fCons (fC (.int 2)) (fCons (fC (.int 3)) (fCons (fC (.int 1)) (fCons (f2 modI (f2 fdivI (fVar 2) (fC (.int 24))) (fC (.int 10))) (fCons (fC (.int 4)) (fCons (fC (.int 0)) (fNil)))))))) (f2 modI (f2 fdivI (fVar 2) (fC (.int 4))) (fC (.int 6)))) (fNil)) [some (.scr ns), some (.int at_), some (.int (cellAt ns at_)), some (.int (unitI (cellAt ns at_))), some (.ref S.length), none, none, none, none, none] (S ++ [.lst []]) = .ok (.items (rangeW 0 (manyI (cellAt ns at_)).toNat)) (S ++ [.lst []]) := by
    have hm' : -(2 ^ 62) ≤ manyI (cellAt ns at_) ∧ manyI (cellAt ns at_) < 2 ^ 62 := by omega
    simp [lstP_d, lenOk_t]
    exact rng1K_d hm'
  have hu2 : (-(2 ^ 64) < unitI (cellAt ns at_) ∧ unitI (cellAt ns at_) < 2 ^ 64) := by omega
  rw [rangeW_len] at h
  rw [seq_nx (by rw [sFor_items hr]; exact h)]
  generalize hS2 : S ++ [Ob.lst ((List.range (manyI (cellAt ns at_)).toNat).map fun k => layW (layI (cellAt ns at_) (cellAt ns (at_ + 1)) k))] = S2
  have hS : S2[S.length]? = some (.lst ((List.range (manyI (cellAt ns at_)).toNat).map fun k => layW (layI (cellAt ns at_) (cellAt ns (at_ + 1)) k))) := by rw [← hS2]; simp
  rw [seq_nx (e := [some (.scr ns), some (.int at_), some (.int (cellAt ns at_)), some (.int (unitI (cellAt ns at_))), some (.ref S.length), x5, x6, x7, x8, some (.int (unitI (cellAt ns at_) * (cellAt ns at_ / 24 % 11)))]) (S' := S2) (by simp [mulI_d (.inl hu2)]),
    seq_nx (e := [some (.scr ns), some (.int at_), some (.int (cellAt ns at_)), some (.int (unitI (cellAt ns at_))), some (.ref S.length), x5, x6, x7, x8, some (.int (planI (cellAt ns at_) (cellAt ns (at_ + 1))).1)]) (S' := S2) (by
      simp only [planI]
      by_cases h : cellAt ns at_ / 264 % 6 = 1 <;> simp [h])]
  have ht : tupleP [.ref S.length] S2 = .ok (.tup ((List.range (manyI (cellAt ns at_)).toNat).map fun k => layW (layI (cellAt ns at_) (cellAt ns (at_ + 1)) k))) S2 := by simp only [tupleP, seqTup_ref hS]
  simp [ht, tupP_d, lenOk_t]
  simp [planW, planI, ← hS2, Function.comp_def]
/-- a value of the law's own making: no script, no live object -/
def tyd : Wv → Bool
  | .scr _ => false
  | .ref _ => false
  | .exn _ => false
  | _ => true
theorem tyd_isP {w : Wv} (h : tyd w = true) (S : Sto) (t : Ty) : ∃ u, tyOf S w = some u ∧ isP t w S = .ok (.bl (isT u t)) S := by
  cases w with
  | scr _ => cases h
  | ref _ => cases h
  | exn _ => cases h
  | _ => exact ⟨_, rfl, rfl⟩
def wholeB (w : Wv) (lo hi : Int) : Bool := match w with
  | .int i => decide (lo ≤ i) && decide (i ≤ hi)
  | _ => false
theorem l_is_whole (w : Wv) (lo hi : Int) (S : Sto) (h : tyd w = true) : F_is_whole [w, .int lo, .int hi] S = .ok (.bl (wholeB w lo hi)) S := by
  rw [F_is_whole_eq, b_is_whole]
  cases w with
  | scr _ => cases h
  | ref _ => cases h
  | exn _ => cases h
  | int i =>
    by_cases h1 : lo ≤ i
    · simp [wholeB, h1]
    · simp [wholeB, h1]
  | _ => simp [wholeB]
theorem ite_out {α : Type} {c : Prop} [Decidable c] {a b : α} {S : Sto} : (if c then Out.ok a S else Out.ok b S) = Out.ok (if c then a else b) S := by split <;> rfl
def wtsB (w : Wv) : Bool := match w with
  | .tup ws => decide (1 ≤ ws.length) && decide (ws.length ≤ 9) && ws.all fun x => wholeB x 1 1000000
  | _ => false
theorem l_are_weights (w : Wv) (S : Sto) (h : tyd w = true) (h2 : ∀ ws, w = .tup ws → ∀ x ∈ ws, tyd x = true) : F_are_weights [w] S = .ok (.bl (wtsB w)) S := by
  rw [F_are_weights_eq, b_are_weights]
  cases w with
  | scr _ => cases h
  | ref _ => cases h
  | exn _ => cases h
  | tup ws =>
    by_cases h1 : 1 ≤ ws.length ∧ ws.length ≤ 9
    · have e : lcItems (tgName 1) fYes b_are_weights_c1 (wipeE [some (.tup ws), none] [1]) ws S = .ok (ws.map fun x => .bl (wholeB x 1 1000000)) S := by
        exact lc_map (fun x => .bl (wholeB x 1 1000000)) fun x hx => ⟨_, rfl, by simp [b_are_weights_c1, wipeE, l_is_whole x 1 1000000 S (h2 ws rfl x hx)]⟩
      have h3 : (1 : Int) ≤ ws.length ∧ (ws.length : Int) ≤ 9 := by omega
      simp [h3, lcK_d (lenOk_t (show ws.length ≤ 1000000 by omega)), e, allP_m, wtsB, h1]
    · have h3 : ¬ ((1 : Int) ≤ ws.length) ∨ ¬ ((ws.length : Int) ≤ 9) := by omega
      have e : wtsB (.tup ws) = false := by
        simp only [wtsB]
        rcases Decidable.not_and_iff_or_not.mp h1 with q | q <;> simp [q]
      rw [e]
      by_cases h4 : (1 : Int) ≤ ws.length
      · have h5 : ¬ ((ws.length : Int) ≤ 9) := by omega
        simp [h4, h5]
      · simp [h4]
  | _ => simp [wtsB]
def layB (w : Wv) : Bool := match w with
  | .tup [a, b, c] => wholeB a 1 1000000000000000 && (wholeB b 1 1000000000000000000 && wtsB c)
  | _ => false
/-- items typed, and those of an item at 2 -/
structure TyL (w : Wv) : Prop where
  t1 : tyd w = true
  t2 : ∀ ws, w = .tup ws → ∀ x ∈ ws, tyd x = true
  t3 : ∀ a b c ws, w = .tup [a, b, c] → c = .tup ws → ∀ x ∈ ws, tyd x = true
theorem layB_len {ws : List Wv} (h : ws.length ≠ 3) : layB (.tup ws) = false := by
  match ws, h with
  | [], _ => rfl
  | [_], _ => rfl
  | [_, _], _ => rfl
  | [_, _, _], h => exact absurd rfl h
  | _ :: _ :: _ :: _ :: _, _ => rfl
theorem l_is_layer (w : Wv) (S : Sto) (h : TyL w) : F_is_layer [w] S = .ok (.bl (layB w)) S := by
  rw [F_is_layer_eq, b_is_layer]
  cases w with
  | scr _ => cases h.t1
  | ref _ => cases h.t1
  | exn _ => cases h.t1
  | tup ws =>
    by_cases h1 : ws.length = 3
    · match ws, h1 with
      | [a, b, c], _ =>
        have ha := l_is_whole a 1 1000000000000000 S (h.t2 _ rfl a (by simp))
        have hb := l_is_whole b 1 1000000000000000000 S (h.t2 _ rfl b (by simp))
        have hc := l_are_weights c S (h.t2 _ rfl c (by simp)) (fun ws e => h.t3 a b c ws rfl e)
        cases h2 : wholeB a 1 1000000000000000 <;> cases h3 : wholeB b 1 1000000000000000000 <;> simp [ha, hb, hc, h2, h3, layB]
    · have h3 : ¬ ((ws.length : Int) = 3) := by omega
      rw [layB_len h1]
      simp [h3]
  | _ => simp [layB]
def planB (w : Wv) : Bool := match w with
  | .tup [a, .tup ls] => wholeB a 0 1000000000000000 && (decide (ls.length ≤ 9) && ls.all layB)
  | _ => false
theorem planB_len {ws : List Wv} (h : ws.length ≠ 2) : planB (.tup ws) = false := by
  match ws, h with
  | [], _ => rfl
  | [_], _ => rfl
  | [_, _], h => exact absurd rfl h
  | _ :: b :: _ :: _, _ => cases b <;> rfl
theorem l_is_plan (w : Wv) (S : Sto) (h1 : tyd w = true) (h2 : ∀ ws, w = .tup ws → ∀ x ∈ ws, tyd x = true) (h3 : ∀ a ls, w = .tup [a, .tup ls] → ls.length ≤ 9 → ∀ x ∈ ls, TyL x) : F_is_plan [w] S = .ok (.bl (planB w)) S := by
  rw [F_is_plan_eq, b_is_plan]
  cases w with
  | scr _ => cases h1
  | ref _ => cases h1
  | exn _ => cases h1
  | tup ws =>
    by_cases hl : ws.length = 2
    · match ws, hl with
      | [a, b], _ =>
        have ha := l_is_whole a 0 1000000000000000 S (h2 _ rfl a (by simp))
        have hb := h2 _ rfl b (by simp)
        cases hw : wholeB a 0 1000000000000000 with
        | false =>
          rw [hw] at ha
          have : planB (.tup [a, b]) = false := by cases b <;> simp [planB, hw]
          simp [ha, this]
        | true =>
          rw [hw] at ha
          rw [seq_nx (e := [some (.tup [a, b]), none]) (S' := S) (by simp [ha])]
          cases b with
          | scr _ => cases hb
          | ref _ => cases hb
          | exn _ => cases hb
          | tup ls =>
            by_cases h9 : ls.length ≤ 9
            · have e : lcItems (tgName 1) fYes b_is_plan_c1 (wipeE [some (.tup [a, .tup ls]), none] [1]) ls S = .ok (ls.map fun x => .bl (layB x)) S := by
                exact lc_map (fun x => .bl (layB x)) fun x hx => ⟨_, rfl, by simp [b_is_plan_c1, wipeE, l_is_layer x S (h3 a ls rfl h9 x hx)]⟩
              have h10 : ¬ ((9 : Int) < ls.length) := by omega
              simp [h10, lcK_d (lenOk_t (show ls.length ≤ 1000000 by omega)), e, allP_m, planB, hw, h9]
            · have h10 : (9 : Int) < ls.length := by omega
              simp [h10, planB, h9]
          | _ => simp [planB]
    · have h4 : ¬ ((ws.length : Int) = 2) := by omega
      rw [planB_len hl]
      simp [h4]
  | _ => simp [planB]
theorem ok_tyL {l : Lay} : TyL (layW l) := ⟨rfl, fun ws e x hx => by
    injection e with e
    subst e
    simp only [List.mem_cons, List.not_mem_nil, or_false] at hx
    rcases hx with rfl | rfl | rfl <;> rfl, fun a b c ws e1 e2 x hx => by
    injection e1 with e1
    injection e1 with _ e1
    injection e1 with _ e1
    injection e1 with e1 _
    rw [← e1] at e2
    injection e2 with e2
    rw [← e2] at hx
    obtain ⟨n, _, rfl⟩ := List.mem_map.mp hx
    rfl⟩
theorem ok_layB {l : Lay} (h : OkLay l) : layB (layW l) = true := by
  have h1 := h.most
  have h2 := h.year
  have h3 := h.len
  simp only [layB, layW, wholeB, wtsB, List.length_map, List.all_map]
  simp [h1, h2, h3]
  exact fun x hx => h.wts x hx
theorem ok_planB {p : Pl} (h : OkPlan p) : planB (planW p) = true := by
  have h1 := h.own
  have h2 := h.len
  simp only [planB, planW, wholeB, List.length_map, List.all_map]
  simp [h1, h2]
  exact fun a b c hx => ok_layB (h.lay _ hx)
theorem l_is_plan_ok {p : Pl} (h : OkPlan p) (S : Sto) : F_is_plan [planW p] S = .ok (.bl true) S := by
  rw [l_is_plan (planW p) S rfl (fun ws e x hx => by
    injection e with e
    subst e
    simp only [List.mem_cons, List.not_mem_nil, or_false] at hx
    rcases hx with rfl | rfl <;> rfl) (fun a ls e _ x hx => by
    injection e with e
    injection e with _ e
    injection e with e _
    injection e with e
    subst e
    obtain ⟨l, _, rfl⟩ := List.mem_map.mp hx
    exact ok_tyL), ok_planB h]
/-- what `split` tells of the weights left: a gone ahead, t told -/
def partsF (p tot : Int) : List Int → Int → Int → List Int
  | [], _, _ => []
  | w :: r, a, t => (p * (a + w) / tot - t) :: partsF p tot r (a + w) (t + (p * (a + w) / tot - t))
def parts (p : Int) (ws : List Int) : List Int := partsF p ws.sum ws 0 0
theorem partsF_len (p tot : Int) : ∀ (ws : List Int) (a t : Int), (partsF p tot ws a t).length = ws.length
  | [], _, _ => rfl
  | w :: r, a, t => by simp [partsF, partsF_len p tot r]
theorem split_loop (p tot : Int) (W : Wv) (k : Nat) (ws : List Int) (hW : W = .tup (ws.map .int)) (ht : ws.sum = tot) (h0 : 0 < tot) (h1 : tot < 1073741824) (hp : -(2 ^ 64) < p ∧ p < 2 ^ 64) : ∀ (rest : List Int) (xs : List Wv) (a t : Int) (x5 x6 : Option Wv) (S : Sto), S[k]? = some (.lst xs) → xs.length + rest.length ≤ 1000000 →
    ∃ e, forItems (tgName 5) b_split_f1 (rest.map .int) [some (.int p), some W, some (.ref k), some (.int a), some (.int t), x5, x6] S = .nx e (S.set k (.lst (xs ++ (partsF p tot rest a t).map .int))) ∧ e[2]? = some (some (.ref k))
  | [], xs, a, t, x5, x6, S, hk, hl => ⟨_, by
      rw [List.map_nil, forItems_nil]
      simp only [partsF, List.map_nil, List.append_nil]
      rw [set_self hk], rfl⟩
  | w :: r, xs, a, t, x5, x6, S, hk, hl => by
    rw [List.length_cons] at hl
    obtain ⟨e, h, h2⟩ := split_loop p tot W k ws hW ht h0 h1 hp r (xs ++ [.int (p * (a + w) / tot - t)]) (a + w) (t + (p * (a + w) / tot - t)) (some (.int w)) (some (.int (p * (a + w) / tot - t))) (S.set k (.lst (xs ++ [.int (p * (a + w) / tot - t)]))) (by simp [set_get hk]) (by simp; omega)
    refine ⟨e, ?_, h2⟩
    rw [List.map_cons, forItems_cons (env1 := [some (.int p), some W, some (.ref k), some (.int a), some (.int t), some (.int w), x6]) (env2 := [some (.int p), some W, some (.ref k), some (.int (a + w)), some (.int (t + (p * (a + w) / tot - t))), some (.int w), some (.int (p * (a + w) / tot - t))]) (S1 := S.set k (.lst (xs ++ [.int (p * (a + w) / tot - t)]))) rfl, h]
    · simp [partsF]
    · subst hW
      rw [b_split_f1]
      simp [mulI_d (.inl hp), ht, fdivI_d (And.intro h0 h1), tyOf_ref hk, app_ref hk (lenOk_t (by omega))]
theorem l_split (p : Int) (ws : List Int) (S : Sto) (h0 : 0 < ws.sum) (h1 : ws.sum < 1073741824) (hp : -(2 ^ 64) < p ∧ p < 2 ^ 64) (hl : ws.length ≤ 1000000) :
    F_split [.int p, .tup (ws.map .int)] S = .ok (.ref S.length) (S ++ [.lst ((parts p ws).map .int)]) := by
  obtain ⟨e, h, h2⟩ := split_loop p ws.sum (.tup (ws.map .int)) S.length ws rfl rfl h0 h1 hp ws [] 0 0 none none (S ++ [.lst []]) (by simp) (by simpa using hl)
  rw [F_split_eq, b_split]
  simp [lenOk_t, h, fVar_get h2]
  rfl
/-- each room filled as far as what is left goes -/
def gr : List Int → Int → List Int
  | [], _ => []
  | r :: rs, a => min2 a r :: gr rs (a - min2 a r)
theorem gr_len : ∀ (rs : List Int) (a : Int), (gr rs a).length = rs.length
  | [], _ => rfl
  | r :: rs, a => by simp [gr, gr_len rs]
theorem gr_at : ∀ (rs : List Int) (a : Int) (i : Nat) (h : i < rs.length), (gr rs a)[i]? = some (min2 (a - ((gr rs a).take i).sum) rs[i])
  | r :: rs, a, 0, _ => by simp [gr]
  | r :: rs, a, i + 1, h => by
    have := gr_at rs (a - min2 a r) i (by simpa using h)
    simp only [gr, List.getElem?_cons_succ, this, List.take_succ_cons, List.sum_cons, List.getElem_cons_succ]
    rw [Int.sub_sub]
theorem gr_nn : ∀ (rs : List Int) (a : Int), 0 ≤ a → (∀ r ∈ rs, 0 ≤ r) → (∀ x ∈ gr rs a, 0 ≤ x) ∧ (gr rs a).sum ≤ a
  | [], a, h, _ => ⟨fun x hx => (by cases hx), by simpa [gr] using h⟩
  | r :: rs, a, h, hr => by
    have h1 := hr r (by simp)
    have hc := min2_c a r
    have := gr_nn rs (a - min2 a r) (by omega) fun x hx => hr x (by simp [hx])
    refine ⟨fun x hx => ?_, by simp only [gr, List.sum_cons]; omega⟩
    simp only [gr, List.mem_cons] at hx
    rcases hx with rfl | hx
    · omega
    · exact this.1 x hx
theorem sum_split (xs : List Int) (i : Nat) : (xs.take i).sum + (xs.drop i).sum = xs.sum := by
  rw [← List.sum_append, List.take_append_drop]
theorem take_succ_sum {xs : List Int} {i : Nat} {x : Int} (h : xs[i]? = some x) : (xs.take (i + 1)).sum = (xs.take i).sum + x := by
  rw [List.take_add_one, h, List.sum_append]
  simp
/-- what is left at a place -/
theorem gr_left (rs : List Int) (a : Int) (h : 0 ≤ a) (hr : ∀ r ∈ rs, 0 ≤ r) (i : Nat) : ((gr rs a).take i).sum ≤ a := by
  have h1 := gr_nn rs a h hr
  have h2 := sum_split (gr rs a) i
  have h3 : 0 ≤ ((gr rs a).drop i).sum := by
    have : ∀ xs : List Int, (∀ x ∈ xs, 0 ≤ x) → 0 ≤ xs.sum := by
      intro xs
      induction xs with
      | nil => intro _; simp
      | cons x xs ih =>
        intro hx
        have := ih fun y hy => hx y (by simp [hy])
        have := hx x (by simp)
        rw [List.sum_cons]; omega
    exact this _ fun x hx => h1.1 x (List.mem_of_mem_drop hx)
  omega
abbrev roomI (l : Lay) (u : Int) : Int := min2 l.1 (l.2.1 - u)
def roomsI (ls : List Lay) (us : List Int) : List Int := List.zipWith roomI ls us
theorem roomsI_len {ls : List Lay} {us : List Int} (h : us.length = ls.length) : (roomsI ls us).length = ls.length := by simp [roomsI, h]
theorem roomsI_at {ls : List Lay} {us : List Int} {i : Nat} {l : Lay} {u : Int} (h1 : ls[i]? = some l) (h2 : us[i]? = some u) : (roomsI ls us)[i]? = some (roomI l u) := by
  simp [roomsI, List.getElem?_zipWith, h1, h2]
structure OkUsed (ls : List Lay) (us : List Int) : Prop where
  len : us.length = ls.length
  b : ∀ (i : Nat) l u, ls[i]? = some l → us[i]? = some u → 0 ≤ u ∧ u ≤ l.2.1
theorem rooms_nn {ls : List Lay} {us : List Int} (h : ∀ l ∈ ls, OkLay l) (hu : OkUsed ls us) : ∀ r ∈ roomsI ls us, 0 ≤ r := by
  intro r hr
  obtain ⟨i, hi, rfl⟩ := List.getElem_of_mem hr
  rw [roomsI_len hu.len] at hi
  have h1 : ls[i]? = some ls[i] := List.getElem?_eq_getElem hi
  have h2 : us[i]? = some (us[i]'(by rw [hu.len]; exact hi)) := List.getElem?_eq_getElem _
  have h3 := roomsI_at h1 h2
  rw [List.getElem?_eq_getElem (by rw [roomsI_len hu.len]; exact hi)] at h3
  rw [Option.some.inj h3]
  have h4 := hu.b i _ _ h1 h2
  have h5 := h ls[i] (List.getElem_mem hi)
  have h6 := h5.most
  have := min2_c ls[i].1 (ls[i].2.1 - us[i]'(by rw [hu.len]; exact hi))
  simp only [roomI]
  omega
abbrev ownI (p : Pl) (a : Int) : Int := min2 a p.1
def payI (p : Pl) (us : List Int) (a : Int) : List Int := gr (roomsI p.2 us) (a - ownI p a)
def leftI (p : Pl) (us : List Int) (a : Int) : Int := a - ownI p a - (payI p us a).sum
def shareW (own : Int) (pay : List Int) (left : Int) : Wv := .tup [.int own, .lst (pay.map .int), .int left]
@[simp] theorem idx_sh0 {o l : Int} {ps : List Int} {S : Sto} : idxP (shareW o ps l) (.int 0) S = .ok (.int o) S := by simp [shareW]
@[simp] theorem idx_sh1 {o l : Int} {ps : List Int} {S : Sto} : idxP (shareW o ps l) (.int 1) S = .ok (.lst (ps.map .int)) S := by simp [shareW]
@[simp] theorem idx_sh2 {o l : Int} {ps : List Int} {S : Sto} : idxP (shareW o ps l) (.int 2) S = .ok (.int l) S := by simp [shareW]
theorem payI_len {p : Pl} {us : List Int} {a : Int} (h : us.length = p.2.length) : (payI p us a).length = p.2.length := by rw [payI, gr_len, roomsI_len h]
theorem atI_map {f : Int → Wv} {xs : List Int} {i : Nat} {x : Int} (h : xs[i]? = some x) : atI (xs.map f) (i : Int) = some (f x) := by rw [atI_n, List.getElem?_map, h]; rfl
theorem l_shared (p : Pl) (us : List Int) (a : Int) (S : Sto) (hl : us.length = p.2.length) (h9 : p.2.length ≤ 9) :
    F_shared [planW p, .lst (us.map .int), .int a] S = .ok (shareW (ownI p a) (payI p us a) (leftI p us a)) (S ++ [.dead]) := by
  rw [F_shared_eq, b_shared]
  obtain ⟨o, ls⟩ := p
  simp only at hl h9
  have hpl := payI_len (p := (o, ls)) (us := us) (a := a) hl
  simp only at hpl
  rw [seq_nx (e := [some (planW (o, ls)), some (.lst (us.map .int)), some (.int a), some (.int (min2 a o)), none, none, none, none, none]) (S' := S) (by simp [planW]),
    seq_nx (e := [some (planW (o, ls)), some (.lst (us.map .int)), some (.int a), some (.int (min2 a o)), some (.int (a - min2 a o)), none, none, none, none]) (S' := S) (by simp),
    seq_nx (e := [some (planW (o, ls)), some (.lst (us.map .int)), some (.int a), some (.int (min2 a o)), some (.int (a - min2 a o)), some (.ref S.length), none, none, none]) (S' := S ++ [.lst []]) (by simp [lstP_d, lenOk_t])]
  obtain ⟨e, S', h, h1, x6, x7, x8, h2⟩ := for_ix (tg := tgTup [6, 7]) (body := b_shared_f1) (ws := enumW (ls.map layW)) (env := [some (planW (o, ls)), some (.lst (us.map .int)), some (.int a), some (.int (min2 a o)), some (.int (a - min2 a o)), some (.ref S.length), none, none, none]) (S := S ++ [.lst []])
    (fun i e S' => S' = S ++ [.lst (((payI (o, ls) us a).take i).map .int)] ∧ ∃ x6 x7 x8, e = [some (planW (o, ls)), some (.lst (us.map .int)), some (.int a), some (.int (min2 a o)), some (.int (a - min2 a o - ((payI (o, ls) us a).take i).sum)), some (.ref S.length), x6, x7, x8])
    ⟨by simp, none, none, none, by simp⟩ (by
      rintro i w env S2 hw ⟨rfl, x6, x7, x8, rfl⟩
      obtain ⟨x, hx, rfl⟩ := enumW_at hw
      rw [List.getElem?_map] at hx
      cases hq : ls[i]? with
      | none => rw [hq] at hx; cases hx
      | some l =>
        rw [hq] at hx
        have hx : layW l = x := Option.some.inj hx
        subst hx
        have hi := (List.getElem?_eq_some_iff.mp hq).1
        have hu : us[i]? = some (us[i]'(by omega)) := List.getElem?_eq_getElem _
        generalize (us[i]'(by omega)) = u at hu
        have hr := roomsI_at hq hu
        have hg := gr_at (roomsI ls us) (a - min2 a o) i (by rw [roomsI_len hl]; exact hi)
        have hr2 : (roomsI ls us)[i]'(by rw [roomsI_len hl]; exact hi) = roomI l u := by
          have := List.getElem?_eq_getElem (l := roomsI ls us) (i := i) (by rw [roomsI_len hl]; exact hi)
          rw [hr] at this
          exact (Option.some.inj this).symm
        rw [hr2] at hg
        have hp : (payI (o, ls) us a)[i]? = some (min2 (min2 (a - min2 a o - ((payI (o, ls) us a).take i).sum) l.1) (l.2.1 - u)) := by
          rw [min2_assoc]
          exact hg
        generalize hP : payI (o, ls) us a = P at hp hpl
        generalize hpart : min2 (min2 (a - min2 a o - (P.take i).sum) l.1) (l.2.1 - u) = part at hp
        have htk := take_succ_sum hp
        have hix : ∀ S, idxP (.lst (us.map .int)) (.int (i : Int)) S = .ok (.int u) S := fun S => idx_lst (atI_map hu)
        have hS : (S ++ [Ob.lst ((P.take i).map .int)])[S.length]? = some (.lst ((P.take i).map .int)) := by simp
        refine ⟨_, rfl, [some (planW (o, ls)), some (.lst (us.map .int)), some (.int a), some (.int (min2 a o)), some (.int (a - min2 a o - (P.take i).sum - part)), some (.ref S.length), some (.int i), some (layW l), some (.int part)], _, ?_, rfl, _, _, _, by rw [htk, Int.sub_sub _ (P.take i).sum]⟩
        rw [b_shared_f1, seq_nx (e := [some (planW (o, ls)), some (.lst (us.map .int)), some (.int a), some (.int (min2 a o)), some (.int (a - min2 a o - (P.take i).sum)), some (.ref S.length), some (.int i), some (layW l), some (.int part)]) (S' := S ++ [.lst ((P.take i).map .int)]) (by simp [layW, hix, hpart])]
        have hl2 : lenOk ((P.take i).map Wv.int).length = true := lenOk_t (by simp; omega)
        simp [tyOf_ref hS, app_ref hS hl2, -List.map_take]
        rw [List.take_add_one, hp, List.map_append]
        rfl)
  subst h1 h2
  rw [enumW_len, List.length_map] at h
  rw [seq_nx (by rw [sFor_items (S1 := S ++ [.lst []]) (ws := enumW (ls.map layW)) (by simp [planW])]; exact h)]
  rw [List.take_of_length_le (by omega)]
  have hS : (S ++ [Ob.lst ((payI (o, ls) us a).map .int)])[S.length]? = some (.lst ((payI (o, ls) us a).map .int)) := by simp
  rw [seq_nx (sFrz_ref (k := S.length) rfl hS)]
  simp [tupP_d, lenOk_t, shareW, leftI]
theorem l_behind (us ps : List Int) (S : Sto) (h : us.length ≤ 1000) : F_behind [.lst (us.map .int), .lst (ps.map .int)] S = .ok (.ref S.length) (S ++ [.lst ((List.zipWith (· + ·) us ps).map .int)]) := by
  rw [F_behind_eq, b_behind]
  have hz : zipW (us.map .int) (ps.map .int) = (us.zip ps).map fun q => .tup [.int q.1, .int q.2] := by
    unfold zipW
    rw [List.zipWith_map, List.zip, List.map_zipWith]
  have e : lcItems (tgTup [2, 3]) fYes b_behind_c1 (wipeE [some (.lst (us.map .int)), some (.lst (ps.map .int)), none, none] [2, 3]) (zipW (us.map .int) (ps.map .int)) S = .ok ((List.zipWith (· + ·) us ps).map .int) S := by
    rw [hz, lc_map (fun w => match w with
      | .tup [.int i, .int j] => .int (i + j)
      | _ => .non) (fun w hw => by
      obtain ⟨q, _, rfl⟩ := List.mem_map.mp hw
      exact ⟨_, rfl, by simp [b_behind_c1, wipeE]⟩), List.map_map, List.zip, List.map_zipWith, List.map_zipWith]
    rfl
  have hl : lenOk (zipW (us.map .int) (ps.map .int)).length = true := lenOk_t (by rw [zipW_len]; simp; omega)
  simp [lcK_d hl, e]
abbrev Dm := Int × Int × Int × Int
def dmW (d : Dm) : Wv := .tup [.int d.1, .int d.2.1, .int d.2.2.1, .int d.2.2.2]
structure OkDm (d : Dm) : Prop where
  yr : 0 ≤ d.1 ∧ d.1 ≤ 9999
  dy : 1 ≤ d.2.1 ∧ d.2.1 ≤ 366
  nm : 0 ≤ d.2.2.1 ∧ d.2.2.1 ≤ 1000000000
  am : 0 ≤ d.2.2.2 ∧ d.2.2.2 ≤ 1000000000000000
@[simp] theorem idx_dm0 {d : Dm} {S : Sto} : idxP (dmW d) (.int 0) S = .ok (.int d.1) S := by simp [dmW]
@[simp] theorem idx_dm1 {d : Dm} {S : Sto} : idxP (dmW d) (.int 1) S = .ok (.int d.2.1) S := by simp [dmW]
@[simp] theorem idx_dm2 {d : Dm} {S : Sto} : idxP (dmW d) (.int 2) S = .ok (.int d.2.2.1) S := by simp [dmW]
@[simp] theorem idx_dm3 {d : Dm} {S : Sto} : idxP (dmW d) (.int 3) S = .ok (.int d.2.2.2) S := by simp [dmW]
theorem l_is_year (w : Wv) (S : Sto) (h : tyd w = true) : F_is_year [w] S = .ok (.bl (wholeB w 0 9999)) S := by
  rw [F_is_year_eq, b_is_year]
  simp [l_is_whole w 0 9999 S h]
theorem l_is_amount (w : Wv) (S : Sto) (h : tyd w = true) : F_is_amount [w] S = .ok (.bl (wholeB w 0 1000000000000000)) S := by
  rw [F_is_amount_eq, b_is_amount]
  simp [l_is_whole w 0 1000000000000000 S h]
def damB (w : Wv) : Bool := match w with
  | .tup [a, b, c, d] => wholeB a 0 9999 && (wholeB b 1 366 && (wholeB c 0 1000000000 && wholeB d 0 1000000000000000))
  | _ => false
theorem damB_len {ws : List Wv} (h : ws.length ≠ 4) : damB (.tup ws) = false := by
  match ws, h with
  | [], _ => rfl
  | [_], _ => rfl
  | [_, _], _ => rfl
  | [_, _, _], _ => rfl
  | [_, _, _, _], h => exact absurd rfl h
  | _ :: _ :: _ :: _ :: _ :: _, _ => rfl
theorem l_is_damage (w : Wv) (S : Sto) (h1 : tyd w = true) (h2 : ∀ ws, w = .tup ws → ∀ x ∈ ws, tyd x = true) : F_is_damage [w] S = .ok (.bl (damB w)) S := by
  rw [F_is_damage_eq, b_is_damage]
  cases w with
  | scr _ => cases h1
  | ref _ => cases h1
  | exn _ => cases h1
  | tup ws =>
    by_cases hl : ws.length = 4
    · match ws, hl with
      | [a, b, c, d], _ =>
        have ha := l_is_year a S (h2 _ rfl a (by simp))
        have hb := l_is_whole b 1 366 S (h2 _ rfl b (by simp))
        have hc := l_is_whole c 0 1000000000 S (h2 _ rfl c (by simp))
        have hd := l_is_amount d S (h2 _ rfl d (by simp))
        cases h3 : wholeB a 0 9999 with
        | false => rw [h3] at ha; simp [ha, damB, h3]
        | true =>
          rw [h3] at ha
          cases h4 : wholeB b 1 366 <;> cases h5 : wholeB c 0 1000000000 <;> simp [ha, hb, hc, hd, damB, h3, h4, h5]
    · have h3 : ¬ ((ws.length : Int) = 4) := by omega
      rw [damB_len hl]
      simp [h3]
  | _ => simp [damB]
theorem ok_damB {d : Dm} (h : OkDm d) : damB (dmW d) = true := by
  simp [damB, dmW, wholeB, h.yr, h.dy, h.nm, h.am]
theorem l_is_damage_ok {d : Dm} (h : OkDm d) (S : Sto) : F_is_damage [dmW d] S = .ok (.bl true) S := by
  rw [l_is_damage (dmW d) S rfl (fun ws e x hx => by
    injection e with e
    subst e
    simp only [List.mem_cons, List.not_mem_nil, or_false] at hx
    rcases hx with rfl | rfl | rfl | rfl <;> rfl), ok_damB h]
def lexB (d e : Dm) : Bool := if d.1 ≠ e.1 then decide (d.1 < e.1) else if d.2.1 ≠ e.2.1 then decide (d.2.1 < e.2.1) else if d.2.2.1 ≠ e.2.2.1 then decide (d.2.2.1 < e.2.2.1) else false
theorem range3 : rangeW 0 3 = [.int 0, .int 1, .int 2] := rfl
theorem l_ahead (d e : Dm) (S : Sto) : F_ahead [dmW d, dmW e] S = .ok (.bl (lexB d e)) S := by
  rw [F_ahead_eq, b_ahead, sSeq_d, sFor_items (S1 := S) (ws := rangeW 0 3) (by simp [rng1K_d]), range3]
  by_cases h1 : d.1 = e.1
  · by_cases h2 : d.2.1 = e.2.1
    · by_cases h3 : d.2.2.1 = e.2.2.1
      · simp [forItems, b_ahead_f1, h1, h2, h3, lexB]
      · simp [forItems, b_ahead_f1, h1, h2, h3, lexB]
    · simp [forItems, b_ahead_f1, h1, h2, lexB]
  · simp [forItems, b_ahead_f1, h1, lexB]
def nameI (k c : Int) : Int := if c % 3 = 1 then 1000000000 - k else if c % 3 = 2 then (c / 3 + k * nthI [1, 10, 1000, 100000, 10000000] (c / 3 % 5)) % 1000000001 else k
theorem nameI_b (k c : Int) (hk : 0 ≤ k ∧ k ≤ 1000) : 0 ≤ nameI k c ∧ nameI k c ≤ 1000000000 := by
  unfold nameI
  split
  · omega
  · split
    · have := Int.emod_nonneg (c / 3 + k * nthI [1, 10, 1000, 100000, 10000000] (c / 3 % 5)) (b := 1000000001) (by decide)
      have := Int.emod_lt_of_pos (c / 3 + k * nthI [1, 10, 1000, 100000, 10000000] (c / 3 % 5)) (b := 1000000001) (by decide)
      omega
    · omega
theorem l_name (k c : Int) (S : Sto) (hk : 0 ≤ k ∧ k ≤ 1000) : F_l_name [.int k, .int c] S = .ok (.int (nameI k c)) S := by
  rw [F_l_name_eq, b_l_name]
  have hk2 : (-(2 ^ 64) < k ∧ k < 2 ^ 64) := by omega
  by_cases h1 : c % 3 = 1
  · simp [h1, nameI]
  · by_cases h2 : c % 3 = 2
    · simp [h2, nameI, lstP_d, lenOk_t, mulI_d (.inl hk2)]
    · simp [h1, h2, nameI]
def deedsI (ns : List Int) (few : Nat) : List Int := (ns.drop 4).take few
theorem rng2_d {fr : FA} {env : Env} {S S1 : Sto} {m n : Int} (h : fr env S = .ok [.int m, .int n] S1) (c : -(2 ^ 62) ≤ m ∧ m < 2 ^ 62 ∧ -(2 ^ 62) ≤ n ∧ n < 2 ^ 62) : itRng2 fr env S = .ok (.items (rangeW m (n - m).toNat)) S1 := by
  show (fr env S).bind _ = _
  rw [h]
  exact if_pos c
theorem l_deeds (ns : List Int) (few many : Nat) (S : Sto) (hl : ns.length ≤ 63) (hf : few ≤ 1000) : F_l_deeds [.scr ns, .int 4, .int few, .int many] S = .ok (.lst ((deedsI ns few).map .int)) S := by
  rw [F_l_deeds_eq, b_l_deeds]
  have h63 : ¬ (63 : Int) < ns.length := by omega
  have hc := min2_c (ns.length : Int) (4 + few)
  rw [seq_nx (e := [some (.scr ns), some (.int 4), some (.int few), some (.int many), some (.int few), none]) (S' := S) (by simp),
    seq_nx (e := [some (.scr ns), some (.int 4), some (.int few), some (.int many), some (.int few), none]) (S' := S) (by simp [h63])]
  have hr : itRng2 (fCons (fVar 1) (fCons (fN minP (fCons (fN lenP (fCons (fVar 0) (fNil))) (fCons (f2 addI (fVar 1) (fVar 4)) (fNil)))) (fNil))) [some (.scr ns), some (.int 4), some (.int few), some (.int many), some (.int few), none] S = .ok (.items (rangeW 4 (min2 ns.length (4 + few) - 4).toNat)) S := rng2_d (by simp) (by omega)
  have hdl : (deedsI ns few).length = (min2 (ns.length : Int) (4 + few) - 4).toNat := by
    simp [deedsI]
    omega
  have e : lcItems (tgName 5) fYes b_l_deeds_c1 (wipeE [some (.scr ns), some (.int 4), some (.int few), some (.int many), some (.int few), none] [5]) (rangeW 4 (min2 ns.length (4 + few) - 4).toNat) S = .ok ((deedsI ns few).map .int) S := by
    refine lc_by (by rw [List.length_map, rangeW_len, hdl]) fun i w v hw hv => ?_
    obtain ⟨hi, rfl⟩ := rangeW_at hw
    obtain ⟨x, hx, rfl⟩ := map_at hv
    have hx2 : ns[4 + i]? = some x := by
      simp only [deedsI, List.getElem?_take, List.getElem?_drop] at hx
      split at hx
      · exact hx
      · cases hx
    have hix : idxP (.scr ns) (.int (4 + (i : Int))) S = .ok (.int x) S := idx_seq (xs := ns.map .int) rfl (by rw [show (4 : Int) + (i : Int) = ((4 + i : Nat) : Int) by omega, atI_n, List.getElem?_map, hx2]; rfl)
    exact ⟨_, rfl, by simp [b_l_deeds_c1, wipeE, hix]⟩
  have hlen : lenOk (rangeW 4 (min2 ns.length (4 + few) - 4).toNat).length = true := lenOk_t (by rw [rangeW_len]; omega)
  rw [sRet_d, fLc_d, hr, bind_ok, lcK_d hlen, e]
  rfl
def amtI (c p f : Int) : Int := if p % 8 = 1 then c % 1000000000000001 else unitI f * (p / 8 % 60) + p / 480 % 5
theorem amtI_b (c p f : Int) : 0 ≤ amtI c p f ∧ amtI c p f ≤ 1000000000000000 := by
  unfold amtI
  split
  · omega
  · have hu := unitI_b f
    have h0 : 0 ≤ p / 8 % 60 ∧ p / 8 % 60 ≤ 59 := by omega
    have h1 : 0 ≤ unitI f * (p / 8 % 60) := Int.mul_nonneg (by omega) h0.1
    have h2 : unitI f * (p / 8 % 60) ≤ 10000000000000 * 59 := Int.mul_le_mul hu.2 h0.2 h0.1 (by decide)
    omega
theorem l_amount (c p f : Int) (S : Sto) : F_l_amount [.int c, .int p, .int f] S = .ok (.int (amtI c p f)) S := by
  rw [F_l_amount_eq, b_l_amount]
  have hu := unitI_b f
  have hu2 : (-(2 ^ 64) < unitI f ∧ unitI f < 2 ^ 64) := by omega
  unfold unitI at hu2
  by_cases h : p % 8 = 1
  · simp [h, amtI]
  · simp [h, amtI, lstP_d, lenOk_t, mulI_d (.inl hu2), unitI]
/-- one step of a year: what was used ahead, the amount -/
abbrev St2 := List Int × Int
def nextU (p : Pl) (us : List Int) (a : Int) : List Int := List.zipWith (· + ·) us (payI p us a)
def stepW (p : Pl) (s : St2) : Wv := .tup [.lst (s.1.map .int), shareW (ownI p s.2) (payI p s.1 s.2) (leftI p s.1 s.2)]
def stepsF (p : Pl) : List Int → List Dm → List St2
  | _, [] => []
  | us, d :: ds => (us, d.2.2.2) :: stepsF p (nextU p us d.2.2.2) ds
def usedF (p : Pl) : List Int → List Dm → List Int
  | us, [] => us
  | us, d :: ds => usedF p (nextU p us d.2.2.2) ds
def u0 (p : Pl) : List Int := List.replicate p.2.length 0
theorem nextU_len {p : Pl} {us : List Int} {a : Int} (h : us.length = p.2.length) : (nextU p us a).length = p.2.length := by
  have := payI_len (p := p) (us := us) (a := a) h
  simp [nextU, this, h]
theorem usedF_len {p : Pl} : ∀ (ds : List Dm) (us : List Int), us.length = p.2.length → (usedF p us ds).length = p.2.length
  | [], _, h => h
  | d :: ds, us, h => usedF_len ds _ (nextU_len h)
theorem stepsF_len {p : Pl} : ∀ (ds : List Dm) (us : List Int), (stepsF p us ds).length = ds.length
  | [], _ => rfl
  | d :: ds, us => by simp [stepsF, stepsF_len ds]
theorem stepsF_take {p : Pl} : ∀ (ds : List Dm) (us : List Int) (n : Nat), (stepsF p us ds).take n = stepsF p us (ds.take n)
  | [], _, n => by simp [stepsF]
  | d :: ds, us, 0 => by simp [stepsF]
  | d :: ds, us, n + 1 => by simp [stepsF, stepsF_take ds]
theorem stepsF_app {p : Pl} : ∀ (ds es : List Dm) (us : List Int), stepsF p us (ds ++ es) = stepsF p us ds ++ stepsF p (usedF p us ds) es
  | [], es, us => rfl
  | d :: ds, es, us => by simp [stepsF, usedF, stepsF_app ds]
theorem usedF_app {p : Pl} : ∀ (ds es : List Dm) (us : List Int), usedF p us (ds ++ es) = usedF p (usedF p us ds) es
  | [], _, _ => rfl
  | d :: ds, es, us => by simp [usedF, usedF_app ds]
/-- the step at a place -/
theorem stepsF_at {p : Pl} : ∀ (ds : List Dm) (us : List Int) (i : Nat) (d : Dm), ds[i]? = some d → (stepsF p us ds)[i]? = some (usedF p us (ds.take i), d.2.2.2)
  | d :: ds, us, 0, e, h => by
    have h : d = e := by simpa using h
    subst h
    simp [stepsF, usedF]
  | d :: ds, us, i + 1, e, h => by
    simp only [stepsF, List.getElem?_cons_succ, List.take_succ_cons, usedF]
    exact stepsF_at ds _ i e (by simpa using h)
theorem stepsF_last {p : Pl} : ∀ (ds : List Dm) (us : List Int), ds ≠ [] → ∃ s, (stepsF p us ds).getLast? = some s ∧ nextU p s.1 s.2 = usedF p us ds
  | [], _, h => absurd rfl h
  | [d], us, _ => ⟨_, rfl, rfl⟩
  | d :: e :: r, us, _ => by
    obtain ⟨s, h1, h2⟩ := stepsF_last (e :: r) (nextU p us d.2.2.2) (by simp)
    exact ⟨s, by simpa [stepsF] using h1, h2⟩
/-- the year y: its row at r, its steps at s -/
structure YAt (S : Sto) (y r s : Nat) (p : Pl) (row : List Dm) (st : List St2) : Prop where
  ho : S[y]? = some (.ins 0 [planW p, .ref r, .ref s])
  hr : S[r]? = some (.lst (row.map dmW))
  hs : S[s]? = some (.lst (st.map (stepW p)))
  hne : r ≠ s
theorem YAt.fr {S S' : Sto} {y r s : Nat} {p : Pl} {row : List Dm} {st : List St2} {md : List Nat} (h : YAt S y r s p row st) (f : Fr S S' md) (h1 : y ∉ md) (h2 : r ∉ md) (h3 : s ∉ md) : YAt S' y r s p row st := ⟨f _ _ h.ho h1, f _ _ h.hr h2, f _ _ h.hs h3, h.hne⟩
theorem YAt.yr {S : Sto} {y r s : Nat} {p : Pl} {row : List Dm} {st : List St2} (h : YAt S y r s p row st) : y ≠ r := fun e => by
  have h1 := h.ho
  rw [e, h.hr] at h1
  cases h1
theorem YAt.ys {S : Sto} {y r s : Nat} {p : Pl} {row : List Dm} {st : List St2} (h : YAt S y r s p row st) : y ≠ s := fun e => by
  have h1 := h.ho
  rw [e, h.hs] at h1
  cases h1
theorem step_ok {p : Pl} {st : List St2} : okW 9 (.lst (st.map (stepW p))) = true := by
  simp [okW, stepW, shareW]
theorem atI_last {α : Type} {xs : List α} {x : α} (h : xs.getLast? = some x) : atI xs (-1) = some x := by
  have hne : xs ≠ [] := fun e => by rw [e] at h; cases h
  have hl := List.length_pos_iff.mpr hne
  unfold atI ixN
  rw [List.getLast?_eq_getElem?] at h
  rw [if_neg (by decide), if_pos (by omega)]
  show xs[((-1 : Int) + (xs.length : Int)).toNat]? = some x
  rw [show ((-1 : Int) + (xs.length : Int)).toNat = xs.length - 1 by omega]
  exact h
theorem l_year_used {S : Sto} {y r s : Nat} {p : Pl} {row ds : List Dm} (h : YAt S y r s p row (stepsF p (u0 p) ds)) (hp : p.2.length ≤ 9) : F_year_used [.ref y] S = .ok (.ref S.length) (S ++ [.lst ((usedF p (u0 p) ds).map .int)]) := by
  rw [F_year_used_eq, b_year_used]
  have q0 : fldK 0 0 (.ref y) S = .ok (planW p) S := fldK_ok h.ho rfl
  have q2 : fldK 0 2 (.ref y) S = .ok (.ref s) S := fldK_ok h.ho rfl
  have he := eqP_ref (us := []) (deep_ref_nil h.hs step_ok)
  by_cases hd : ds = []
  · subst hd
    have e : lcItems (tgName 2) fYes b_year_used_c1 (wipeE [some (.ref y), none, none] [2]) (p.2.map layW) S = .ok ((u0 p).map .int) S := by
      refine (lc_map (fun _ => .int 0) fun w _ => ⟨_, rfl, rfl⟩).trans ?_
      congr 1
      rw [List.map_map]
      apply List.ext_getElem
      · simp [u0]
      · intro i h1 h2
        simp [u0]
    have hl : lenOk (p.2.map layW).length = true := lenOk_t (by simp; omega)
    rw [sSeq_d, sIf_t (S1 := S) (by simp [q2, lstP_d, lenOk_t, he, stepsF])]
    simp [q0, lcK_d hl, e, usedF]
  · obtain ⟨x, h1, h2⟩ := stepsF_last (p := p) ds (u0 p) hd
    have hne : (stepsF p (u0 p) ds).map (stepW p) ≠ [] := by
      intro q
      have := congrArg List.length q
      simp [stepsF_len] at this
      exact hd this
    have hix : idxP (.ref s) (.int (-1)) S = .ok (stepW p x) S := idx_ref h.hs (atI_last (by rw [List.getLast?_map, h1]; rfl))
    have hlen : x.1.length = p.2.length := by
      have hm := List.mem_of_getLast? h1
      clear h1 h2 hix
      have key : ∀ (ds : List Dm) (us : List Int), us.length = p.2.length → ∀ s ∈ stepsF p us ds, s.1.length = p.2.length := by
        intro ds
        induction ds with
        | nil => intro us _ s hs; cases hs
        | cons d ds ih =>
          intro us hu s hs
          rcases List.mem_cons.mp hs with rfl | hs
          · exact hu
          · exact ih _ (nextU_len hu) s hs
      exact key ds (u0 p) (by simp [u0]) x hm
    have hb := l_behind x.1 (payI p x.1 x.2) S (by omega)
    rw [seq_nx (e := [some (.ref y), none, none]) (S' := S) (by
        have : ((stepsF p (u0 p) ds).map (stepW p)).isEmpty = false := by
          cases q : (stepsF p (u0 p) ds).map (stepW p) with
          | nil => exact absurd q hne
          | cons _ _ => rfl
        rw [this] at he
        simp [q2, lstP_d, lenOk_t, he]),
      seq_nx (e := [some (.ref y), some (stepW p x), none]) (S' := S) (by simp [q2, hix])]
    have hr : (sRet (fN F_behind (fCons (f2 idxP (fVar 1) (fC (.int 0))) (fCons (f2 idxP (f2 idxP (fVar 1) (fC (.int 1))) (fC (.int 1))) (fNil))))) [some (.ref y), some (stepW p x), none] S = .rt (.ref S.length) (S ++ [.lst ((usedF p (u0 p) ds).map .int)]) := by
      rw [← h2]
      have i0 : idxP (stepW p x) (.int 0) S = .ok (.lst (x.1.map .int)) S := idx0
      have i1 : idxP (stepW p x) (.int 1) S = .ok (shareW (ownI p x.2) (payI p x.1 x.2) (leftI p x.1 x.2)) S := idx1
      have hb' : F_behind [.lst (x.1.map .int), .lst ((payI p x.1 x.2).map .int)] S = .ok (.ref S.length) (S ++ [.lst ((nextU p x.1 x.2).map .int)]) := hb
      simp [i0, i1, hb']
    rw [hr]
    rfl
/-- a new year -/
theorem l_year_new (p : Pl) (S : Sto) : newP 0 F_year_init [planW p] S = .ok (.ref S.length) (S ++ [.ins 0 [planW p, .ref (S.length + 1), .ref (S.length + 2)], .lst [], .lst []]) := by
  have hi : F_year_init [.ref S.length, planW p] (S ++ [.ins 0 []]) = .ok .non (S ++ [.ins 0 [planW p, .ref (S.length + 1), .ref (S.length + 2)], .lst [], .lst []]) := by
    rw [F_year_init_eq, b_year_init]
    have h0 : (S ++ [Ob.ins 0 []])[S.length]? = some (.ins 0 []) := push_new
    have e1 : (S ++ [Ob.ins 0 []]).set S.length (.ins 0 [planW p]) = S ++ [.ins 0 [planW p]] := by simp
    have h1 : (S ++ [Ob.ins 0 [planW p]] ++ [Ob.lst []])[S.length]? = some (.ins 0 [planW p]) := push_old push_new
    have e2 : (S ++ [Ob.ins 0 [planW p]] ++ [Ob.lst []]).set S.length (.ins 0 [planW p, .ref (S.length + 1)]) = S ++ [.ins 0 [planW p, .ref (S.length + 1)]] ++ [.lst []] := by simp
    have h2 : (S ++ [Ob.ins 0 [planW p, .ref (S.length + 1)]] ++ [Ob.lst []] ++ [Ob.lst []])[S.length]? = some (.ins 0 [planW p, .ref (S.length + 1)]) := push_old (push_old push_new)
    rw [seq_nx (e := [some (.ref S.length), some (planW p)]) (S' := S ++ [.ins 0 [planW p]]) (by
        simp only [sFld_d, fVar_s, fVar_z, thn_ok]
        rw [sfldK_new (i := 0) h0 rfl, List.nil_append, e1]),
      seq_nx (e := [some (.ref S.length), some (planW p)]) (S' := S ++ [.ins 0 [planW p, .ref (S.length + 1)]] ++ [.lst []]) (by
        simp only [sFld_d, fVar_s, fVar_z, thn_ok, fN_d, fNil_d, bind_ok]
        rw [lstP_d (lenOk_t (by simp)), mkL_t, thn_ok, sfldK_new (i := 1) h1 rfl]
        rw [show ([planW p] ++ [Wv.ref (S ++ [Ob.ins 0 [planW p]]).length]) = [planW p, .ref (S.length + 1)] by simp, e2])]
    simp only [sFld_d, fVar_s, fVar_z, thn_ok, fN_d, fNil_d, bind_ok]
    rw [lstP_d (lenOk_t (by simp)), mkL_t, thn_ok, sfldK_new (i := 2) h2 rfl]
    simp
  show (F_year_init [.ref S.length, planW p] (S ++ [.ins 0 []])).bind _ = _
  rw [hi]
  rfl
theorem yat_new (p : Pl) (S : Sto) : YAt (S ++ [.ins 0 [planW p, .ref (S.length + 1), .ref (S.length + 2)], .lst [], .lst []]) S.length (S.length + 1) (S.length + 2) p [] (stepsF p (u0 p) []) := ⟨by simp, by simp, by simp [stepsF], by omega⟩
/-- go_on: from a place on -/
theorem goon_loop {y r : Nat} {p : Pl} (hp : p.2.length ≤ 9) (pl : Wv) : ∀ (rest done_ : List Dm) (s : Nat) (S : Sto) (x2 x3 : Option Wv), YAt S y r s p (done_ ++ rest) (stepsF p (u0 p) done_) → (done_ ++ rest).length ≤ 1000 →
    ∃ e S', forItems (tgName 2) b_year_go_on_f1 (rest.map dmW) [some (.ref y), some pl, x2, x3] S = .nx e S' ∧ YAt S' y r s p (done_ ++ rest) (stepsF p (u0 p) (done_ ++ rest)) ∧ Fr S S' [s] ∧ S.length ≤ S'.length
  | [], done_, s, S, x2, x3, h, _ => ⟨_, S, rfl, by simpa using h, Fr.refl _ _, Nat.le_refl _⟩
  | d :: rest, done_, s, S, x2, x3, h, hl => by
    have hus := l_year_used h hp
    let us := usedF p (u0 p) done_
    have husl : us.length = p.2.length := usedF_len done_ _ (by simp [u0])
    let S1 : Sto := S ++ [.lst (us.map .int)]
    have hS1 : S1[S.length]? = some (.lst (us.map .int)) := push_new
    let S2 : Sto := S1.set S.length .dead
    have hS2len : S2.length = S.length + 1 := by simp [S2, S1]
    have fr2 : Fr S S2 [] := fun i o hi _ => by
      have hlt := (List.getElem?_eq_some_iff.mp hi).1
      exact set_other (push_old hi) (by omega)
    have h2 : YAt S2 y r s p (done_ ++ d :: rest) (stepsF p (u0 p) done_) := h.fr fr2 (by simp) (by simp) (by simp)
    have hsh := l_shared p us d.2.2.2 S2 husl hp
    let S3 : Sto := S2 ++ [.dead]
    have fr3 : Fr S2 S3 [] := Fr.push
    have h3 : YAt S3 y r s p (done_ ++ d :: rest) (stepsF p (u0 p) done_) := h2.fr fr3 (by simp) (by simp) (by simp)
    let S4 : Sto := S3.set s (.lst ((stepsF p (u0 p) done_).map (stepW p) ++ [stepW p (us, d.2.2.2)]))
    have hdl : (stepsF p (u0 p) done_).length ≤ 1000 := by rw [stepsF_len]; simp at hl; omega
    have hbody : b_year_go_on_f1 [some (.ref y), some pl, some (dmW d), x3] S = .nx [some (.ref y), some pl, some (dmW d), some (.lst (us.map .int))] S4 := by
      have q2 : fldK 0 2 (.ref y) S2 = .ok (.ref s) S2 := fldK_ok h2.ho rfl
      have q0 : fldK 0 0 (.ref y) S2 = .ok (planW p) S2 := fldK_ok h2.ho rfl
      have t2 : tyOf S2 (.ref s) = some .lst := tyOf_ref h2.hs
      have ha := app_ref (x := stepW p (us, d.2.2.2)) h3.hs (lenOk_t (by rw [List.length_map]; omega))
      rw [b_year_go_on_f1, seq_nx (e := [some (.ref y), some pl, some (dmW d), some (.ref S.length)]) (S' := S1) (by
          simp only [sSet_d, fMeth_d, fVar_z, bind_ok]
          rw [methK_ok h.ho, fNil_d, bind_ok, hus]
          rfl),
        seq_nx (e := [some (.ref y), some pl, some (dmW d), some (.lst (us.map .int))]) (S' := S2) (by
          rw [sFrz_ref (k := S.length) rfl hS1]
          rfl)]
      simp only [sExpr_d, fBM_d, fFld_d, fVar_z, bind_ok, q2, t2, if_true, fCons_d, fNil_d, fN_d, f2_d, fC_d, fVar_s, q0, idx_dm3, hsh]
      rw [tupP_d (lenOk_t (by simp)), bind_ok]
      show ((appP (.ref s) [stepW p (us, d.2.2.2)] S3).thn _ _) = _
      rw [ha]
      rfl
    have h4 : YAt S4 y r s p ((done_ ++ [d]) ++ rest) (stepsF p (u0 p) (done_ ++ [d])) := by
      rw [List.append_assoc]
      refine ⟨set_other h3.ho (Ne.symm h3.ys), set_other h3.hr (Ne.symm h3.hne), ?_, h3.hne⟩
      rw [stepsF_app, List.map_append]
      exact set_get h3.hs
    obtain ⟨e, S', g1, g2, g3, g4⟩ := goon_loop hp pl rest (done_ ++ [d]) s S4 (some (dmW d)) (some (.lst (us.map .int))) h4 (by simpa using hl)
    refine ⟨e, S', ?_, by simpa using g2, ?_, ?_⟩
    · rw [List.map_cons, forItems_cons rfl hbody]
      exact g1
    · have fr4 : Fr S3 S4 [s] := Fr.set (by simp)
      exact ((fr2.weaken (by simp)).trans (fr3.weaken (by simp))).trans (fr4.trans g3)
    · have : S4.length = S.length + 2 := by simp [S4, S3, hS2len]
      omega
theorem YAt.len {S : Sto} {y r s : Nat} {p : Pl} {row : List Dm} {st : List St2} (h : YAt S y r s p row st) : y < S.length ∧ r < S.length ∧ s < S.length := ⟨(List.getElem?_eq_some_iff.mp h.ho).1, (List.getElem?_eq_some_iff.mp h.hr).1, (List.getElem?_eq_some_iff.mp h.hs).1⟩
theorem l_year_go_on {S : Sto} {y r s : Nat} {p : Pl} {row : List Dm} {st : List St2} (h : YAt S y r s p row st) (hp : p.2.length ≤ 9) (hl : row.length ≤ 1000) (k : Nat) (hst : st.take k = stepsF p (u0 p) (row.take k)) :
    ∃ S' s', F_year_go_on [.ref y, .int k] S = .ok .non S' ∧ YAt S' y r s' p row (stepsF p (u0 p) row) ∧ Fr S S' [y] ∧ S.length ≤ S'.length ∧ S.length ≤ s' := by
  have hlen := h.len
  let S0 : Sto := S ++ [.lst ((stepsF p (u0 p) (row.take k)).map (stepW p))]
  let S1 : Sto := S0.set y (.ins 0 [planW p, .ref r, .ref S.length])
  have o0 : S0[y]? = some (.ins 0 [planW p, .ref r, .ref s]) := push_old h.ho
  have h1 : YAt S1 y r S.length p (row.take k ++ row.drop k) (stepsF p (u0 p) (row.take k)) := by
    rw [List.take_append_drop]
    exact ⟨set_get o0, set_other (push_old h.hr) h.yr, set_other push_new (by omega), by omega⟩
  obtain ⟨e, S', g1, g2, g3, g4⟩ := goon_loop hp (.int k) (row.drop k) (row.take k) S.length S1 none none h1 (by rw [List.take_append_drop]; exact hl)
  rw [List.take_append_drop] at g2
  have q2 : fldK 0 2 (.ref y) S = .ok (.ref s) S := fldK_ok h.ho rfl
  have q1 : fldK 0 1 (.ref y) S1 = .ok (.ref r) S1 := fldK_ok h1.ho rfl
  have hs1 : slP true (.ref s) none (some (k : Int)) S = .ok (.ref S.length) S0 := by
    rw [slP_ref h.hs, cut_takeN, ← List.map_take, hst, mkL_t]
  have hs2 : slP false (.ref r) (some (k : Int)) none S1 = .ok (.lst ((row.drop k).map dmW)) S1 := by
    have := h1.hr
    rw [List.take_append_drop] at this
    rw [slP_ref this, cut_dropN, ← List.map_drop, mkL_f]
  have b1 : (sFld 0 2 (fVar 0) (fSl true (fFld 0 2 (fVar 0)) (fNoPart) (fPart (fVar 1)))) [some (.ref y), some (.int k), none, none] S = .nx [some (.ref y), some (.int k), none, none] S1 := by
    simp only [sFld_d, fSl_d, fFld_d, fVar_z, fVar_s, bind_ok, q2, fNoPart_d, fPart_d, partK_d, hs1, thn_ok]
    rw [sfldK_old (i := 2) o0 (by simp)]
    rfl
  refine ⟨S', S.length, ?_, g2, ?_, ?_, Nat.le_refl _⟩
  · rw [F_year_go_on_eq, b_year_go_on, seq_nx b1, sFor_items (S1 := S1) (ws := (row.drop k).map dmW) (by simp only [itSeq_d, fSl_d, fFld_d, fVar_z, fVar_s, bind_ok, q1, fNoPart_d, fPart_d, partK_d, hs2, seqK_l]), g1]
    rfl
  · have a1 : Fr S S0 [y] := Fr.push
    have a2 : Fr S0 S1 [y] := Fr.set (by simp)
    intro i o hi hn
    have hi2 := (a1.trans a2) i o hi hn
    refine g3 i o hi2 ?_
    have := (List.getElem?_eq_some_iff.mp hi).1
    simp
    omega
  · have : S1.length = S.length + 1 := by simp [S1, S0]
    omega
def numsD (row : List Dm) : List Int := row.map fun d => d.2.2.1
theorem l_year_place_of {S : Sto} {y r s : Nat} {p : Pl} {row : List Dm} {st : List St2} (h : YAt S y r s p row st) (hl : row.length ≤ 1000) (n : Int) (hn : n ∈ numsD row) : F_year_place_of [.ref y, .int n] S = .ok (.int ((numsD row).idxOf n : Nat)) S := by
  rw [F_year_place_of_eq, b_year_place_of]
  have q1 : fldK 0 1 (.ref y) S = .ok (.ref r) S := fldK_ok h.ho rfl
  have hk : lcK false [2] (tgName 2) fYes b_year_place_of_c1 [some (.ref y), some (.int n), none] (.live r (row.map dmW).length) S = .ok (.lst ((numsD row).map .int)) S := by
    rw [lcK_live h.hr (by rw [List.length_map]; omega) (fun w => match w with
      | .tup [_, _, x, _] => x
      | _ => .non) (fun w hw => by
      obtain ⟨d, _, rfl⟩ := List.mem_map.mp hw
      exact ⟨_, rfl, by simp [b_year_place_of_c1, wipeE, dmW]⟩), mkL_f, List.map_map, numsD, List.map_map]
    rfl
  have hi : indP (.lst ((numsD row).map .int)) [.int n] S = .ok (.int ((numsD row).idxOf n : Nat)) S := by
    simp only [indP, seqOf_lst, intsOf_map, hn, if_true]
  simp only [sRet_d, fBM_d, fLc_d, itSeq_d, fFld_d, fVar_z, bind_ok, q1, seqK_ref h.hr, hk, tyOf_lst, if_true, fCons_d, fNil_d, fVar_s, hi, thn_ok, out_rt]
theorem l_year_damages {S : Sto} {y r s : Nat} {p : Pl} {row : List Dm} {st : List St2} (h : YAt S y r s p row st) : F_year_damages [.ref y] S = .ok (.ref S.length) (S ++ [.lst (row.map dmW)]) := by
  rw [F_year_damages_eq, b_year_damages]
  have q1 : fldK 0 1 (.ref y) S = .ok (.ref r) S := fldK_ok h.ho rfl
  have hl : listP true [.ref r] S = .ok (.ref S.length) (S ++ [.lst (row.map dmW)]) := by simp only [listP, seqTup_ref h.hr, mkL_t]
  simp only [sRet_d, fN_d, fCons_d, fNil_d, fFld_d, fVar_z, bind_ok, q1, hl, thn_ok, out_rt]
/-- where a number stands -/
theorem at_num {row : List Dm} {n : Int} (hn : n ∈ numsD row) : ∃ d, row[(numsD row).idxOf n]? = some d ∧ d.2.2.1 = n := by
  have hi : (numsD row).idxOf n < (numsD row).length := List.idxOf_lt_length_of_mem hn
  have he : (numsD row)[(numsD row).idxOf n]? = some n := by
    rw [List.getElem?_eq_getElem hi, List.getElem_idxOf hi]
  unfold numsD at he hi
  rw [List.getElem?_map] at he
  cases q : row[(numsD row).idxOf n]? with
  | none =>
    rw [show (List.map (fun d : Dm => d.2.2.1) row).idxOf n = (numsD row).idxOf n from rfl, q] at he
    cases he
  | some d =>
    rw [show (List.map (fun d : Dm => d.2.2.1) row).idxOf n = (numsD row).idxOf n from rfl, q] at he
    exact ⟨d, rfl, Option.some.inj he⟩
theorem l_year_share {S : Sto} {y r s : Nat} {p : Pl} {row : List Dm} (h : YAt S y r s p row (stepsF p (u0 p) row)) (hl : row.length ≤ 1000) {n : Int} {i : Nat} {d : Dm} (hi : (numsD row).idxOf n = i) (hn : n ∈ numsD row) (hd : row[i]? = some d) :
    let us := usedF p (u0 p) (row.take i)
    F_year_share [.ref y, .int n] S = .ok (.tup [.int (ownI p d.2.2.2), .ref S.length, .int (leftI p us d.2.2.2)]) (S ++ [.lst ((payI p us d.2.2.2).map .int)]) := by
  intro us
  rw [F_year_share_eq, b_year_share]
  have q2 : fldK 0 2 (.ref y) S = .ok (.ref s) S := fldK_ok h.ho rfl
  have hp := l_year_place_of h hl n hn
  rw [hi] at hp
  have hst := stepsF_at (p := p) row (u0 p) i d hd
  have hix : idxP (.ref s) (.int (i : Int)) S = .ok (stepW p (us, d.2.2.2)) S := idx_ref h.hs (by rw [atI_n, List.getElem?_map, hst]; rfl)
  have i1 : idxP (stepW p (us, d.2.2.2)) (.int 1) S = .ok (shareW (ownI p d.2.2.2) (payI p us d.2.2.2) (leftI p us d.2.2.2)) S := idx1
  have hm : methK 0 F_year_place_of (fCons (fVar 1) fNil [some (.ref y), some (.int n), none, none, none]) (.ref y) S = .ok (.int (i : Int)) S := by
    rw [methK_ok h.ho]
    simp only [fCons_d, fNil_d, fVar_s, fVar_z, bind_ok, hp]
  rw [seq_nx (e := [some (.ref y), some (.int n), some (.int (ownI p d.2.2.2)), some (.lst ((payI p us d.2.2.2).map .int)), some (.int (leftI p us d.2.2.2))]) (S' := S) (by
    simp only [sAsg_d, f2_d, fFld_d, fVar_z, bind_ok, q2, fMeth_d, hm, hix, fC_d, i1, thn_ok]
    simp [shareW])]
  simp [tupP_d, lenOk_t, listP]
/-- where a new damage goes: behind those ahead of it -/
def placeI (row : List Dm) (d : Dm) : Nat := (row.takeWhile fun e => lexB e d).length
theorem placeI_le (row : List Dm) (d : Dm) : placeI row d ≤ row.length := List.Sublist.length_le (List.takeWhile_sublist _)
theorem put_loop {S : Sto} {y r s : Nat} {p : Pl} {row : List Dm} {st : List St2} (h : YAt S y r s p row st) (d : Dm) : ∀ (rest pre : List Dm), pre ++ rest = row → ∀ j : Nat,
    whLoop b_year_put_t2 b_year_put_w1 (rest.length + j + 1) [some (.ref y), some (dmW d), some (.int (pre.length : Nat))] S = .nx [some (.ref y), some (dmW d), some (.int ((pre.length + (rest.takeWhile fun e => lexB e d).length : Nat) : Int))] S
  | [], pre, hp, j => by
    have q1 : fldK 0 1 (.ref y) S = .ok (.ref r) S := fldK_ok h.ho rfl
    have hpl : pre.length = row.length := by rw [← hp]; simp
    have ht : b_year_put_t2 [some (.ref y), some (dmW d), some (.int (pre.length : Nat))] S = .ok false S := by
      rw [b_year_put_t2]
      simp [q1, lenP_ref h.hr, hpl]
    show (b_year_put_t2 [some (.ref y), some (dmW d), some (.int (pre.length : Nat))] S).thn _ _ = _
    rw [ht, thn_ok, if_neg Bool.false_ne_true]
    simp
  | e :: rest, pre, hp, j => by
    have q1 : fldK 0 1 (.ref y) S = .ok (.ref r) S := fldK_ok h.ho rfl
    have hpl : (pre.length : Int) < row.length := by rw [← hp]; simp; omega
    have hix : idxP (.ref r) (.int (pre.length : Nat)) S = .ok (dmW e) S := idx_ref h.hr (by rw [atI_n, List.getElem?_map, ← hp]; simp)
    have ht : b_year_put_t2 [some (.ref y), some (dmW d), some (.int (pre.length : Nat))] S = .ok (lexB e d) S := by
      rw [b_year_put_t2]
      simp [q1, lenP_ref h.hr, hpl, hix, l_ahead]
    cases hb : lexB e d with
    | false =>
      rw [hb] at ht
      show (b_year_put_t2 [some (.ref y), some (dmW d), some (.int (pre.length : Nat))] S).thn _ _ = _
      rw [ht, thn_ok, if_neg Bool.false_ne_true, List.takeWhile_cons, hb]
      simp
    | true =>
      rw [hb] at ht
      have ih := put_loop h d rest (pre ++ [e]) (by rw [List.append_assoc]; exact hp) j
      have hbody : b_year_put_w1 [some (.ref y), some (dmW d), some (.int (pre.length : Nat))] S = .nx [some (.ref y), some (dmW d), some (.int ((pre ++ [e]).length : Nat))] S := by
        rw [b_year_put_w1]
        simp
      have step : whLoop b_year_put_t2 b_year_put_w1 ((e :: rest).length + j + 1) [some (.ref y), some (dmW d), some (.int (pre.length : Nat))] S = whLoop b_year_put_t2 b_year_put_w1 (rest.length + j + 1) [some (.ref y), some (dmW d), some (.int ((pre ++ [e]).length : Nat))] S := by
        rw [show (e :: rest).length + j + 1 = (rest.length + j + 1) + 1 by simp; omega]
        show (b_year_put_t2 [some (.ref y), some (dmW d), some (.int (pre.length : Nat))] S).thn _ _ = _
        rw [ht, thn_ok, if_pos rfl, hbody]
      rw [step, ih, List.takeWhile_cons, hb, if_pos rfl]
      simp
      omega
def putD (row : List Dm) (d : Dm) : List Dm := row.take (placeI row d) ++ [d] ++ row.drop (placeI row d)
theorem putD_len (row : List Dm) (d : Dm) : (putD row d).length = row.length + 1 := by
  have := placeI_le row d
  simp [putD]; omega
theorem l_year_put {S : Sto} {y r s : Nat} {p : Pl} {row : List Dm} (h : YAt S y r s p row (stepsF p (u0 p) row)) (hp : p.2.length ≤ 9) (hl : row.length ≤ 900) (d : Dm) :
    ∃ S' s', F_year_put [.ref y, dmW d] S = .ok .non S' ∧ YAt S' y r s' p (putD row d) (stepsF p (u0 p) (putD row d)) ∧ Fr S S' [y, r] ∧ S.length ≤ S'.length ∧ S.length ≤ s' := by
  have hk := placeI_le row d
  have q1 : fldK 0 1 (.ref y) S = .ok (.ref r) S := fldK_ok h.ho rfl
  have hw := put_loop h d row [] rfl (999 - row.length)
  rw [show row.length + (999 - row.length) + 1 = 1000 by omega] at hw
  have hw : sWhile 1000 b_year_put_t2 b_year_put_w1 [some (.ref y), some (dmW d), some (.int 0)] S = .nx [some (.ref y), some (dmW d), some (.int (placeI row d : Nat))] S := by
    show whLoop b_year_put_t2 b_year_put_w1 1000 [some (.ref y), some (dmW d), some (.int 0)] S = _
    simpa [placeI] using hw
  let S1 : Sto := S.set r (.lst ((putD row d).map dmW))
  have hins : insP (.ref r) [.int (placeI row d : Nat), dmW d] S = .ok .non S1 := by
    have c : lenOk (row.map dmW).length = true ∧ (0 : Int) ≤ (placeI row d : Nat) ∧ ((placeI row d : Nat) : Int) < 2 ^ 63 := ⟨lenOk_t (by rw [List.length_map]; omega), by omega, by omega⟩
    simp only [insP, liveL_ref h.hr, if_pos c, Int.toNat_natCast]
    simp [S1, putD]
  have h1 : YAt S1 y r s p (putD row d) (stepsF p (u0 p) row) := ⟨set_other h.ho (Ne.symm h.yr), set_get h.hr, set_other h.hs h.hne, h.hne⟩
  have hst : (stepsF p (u0 p) row).take (placeI row d) = stepsF p (u0 p) ((putD row d).take (placeI row d)) := by
    rw [stepsF_take]
    congr 1
    simp [putD, hk]
  obtain ⟨S', s', g1, g2, g3, g4, g5⟩ := l_year_go_on h1 hp (by rw [putD_len]; omega) (placeI row d) hst
  have hl1 : S1.length = S.length := by simp [S1]
  refine ⟨S', s', ?_, g2, ?_, by omega, by omega⟩
  · rw [F_year_put_eq, b_year_put, seq_nx (e := [some (.ref y), some (dmW d), some (.int 0)]) (S' := S) (by simp), seq_nx hw,
      seq_nx (e := [some (.ref y), some (dmW d), some (.int (placeI row d : Nat))]) (S' := S1) (by
        simp only [sExpr_d, fBM_d, fFld_d, fVar_z, bind_ok, q1, tyOf_ref h.hr, if_true, fCons_d, fNil_d, fVar_s, hins, thn_ok])]
    simp only [sExpr_d, fMeth_d, fVar_z, bind_ok]
    rw [methK_ok h1.ho]
    simp only [fCons_d, fNil_d, fVar_s, fVar_z, bind_ok, g1, thn_ok, out_nx]
  · have a1 : Fr S S1 [y, r] := Fr.set (by simp)
    exact a1.trans (g3.weaken fun j hj _ => by simp at hj; simp [hj])
theorem l_year_drop {S : Sto} {y r s : Nat} {p : Pl} {row : List Dm} (h : YAt S y r s p row (stepsF p (u0 p) row)) (hp : p.2.length ≤ 9) (hl : row.length ≤ 900) (n : Int) (hn : n ∈ numsD row) :
    ∃ S' s', F_year_drop [.ref y, .int n] S = .ok .non S' ∧ YAt S' y r s' p (row.eraseIdx ((numsD row).idxOf n)) (stepsF p (u0 p) (row.eraseIdx ((numsD row).idxOf n))) ∧ Fr S S' [y, r] ∧ S.length ≤ S'.length ∧ S.length ≤ s' := by
  have q1 : fldK 0 1 (.ref y) S = .ok (.ref r) S := fldK_ok h.ho rfl
  have hpo := l_year_place_of h (by omega) n hn
  have hi : (numsD row).idxOf n < row.length := by
    have := List.idxOf_lt_length_of_mem hn
    simpa [numsD] using this
  generalize (numsD row).idxOf n = k at hpo hi
  let row' := row.eraseIdx k
  let S1 : Sto := S.set r (.lst (row'.map dmW))
  have hpop : ∃ x, popP (.ref r) [.int (k : Int)] S = .ok x S1 := by
    have c : (0 : Int) ≤ (k : Int) ∧ (k : Int) < 2 ^ 63 := by omega
    have hx : (row.map dmW)[k]? = some (dmW row[k]) := by rw [List.getElem?_map, List.getElem?_eq_getElem hi]; rfl
    refine ⟨dmW row[k], ?_⟩
    simp only [popP, liveL_ref h.hr, if_pos c, Int.toNat_natCast, hx]
    simp only [S1, row', List.eraseIdx_eq_take_drop_succ, List.map_append, List.map_take, List.map_drop]
  obtain ⟨x, hpop⟩ := hpop
  have h1 : YAt S1 y r s p row' (stepsF p (u0 p) row) := ⟨set_other h.ho (Ne.symm h.yr), set_get h.hr, set_other h.hs h.hne, h.hne⟩
  have hst : (stepsF p (u0 p) row).take k = stepsF p (u0 p) (row'.take k) := by
    rw [stepsF_take]
    congr 1
    simp only [row']
    rw [List.eraseIdx_eq_take_drop_succ, List.take_append_of_le_length (by simp; omega), List.take_take, Nat.min_self]
  have hl' : row'.length ≤ 1000 := by
    have := List.length_eraseIdx_le row k
    simp only [row']
    omega
  obtain ⟨S', s', g1, g2, g3, g4, g5⟩ := l_year_go_on h1 hp hl' k hst
  have hl1 : S1.length = S.length := by simp [S1]
  refine ⟨S', s', ?_, g2, ?_, by omega, by omega⟩
  · rw [F_year_drop_eq, b_year_drop, seq_nx (e := [some (.ref y), some (.int n), some (.int (k : Int))]) (S' := S) (by
        simp only [sSet_d, fMeth_d, fVar_z, bind_ok]
        rw [methK_ok h.ho]
        simp only [fCons_d, fNil_d, fVar_s, fVar_z, bind_ok, hpo, thn_ok]
        rfl),
      seq_nx (e := [some (.ref y), some (.int n), some (.int (k : Int))]) (S' := S1) (by
        simp only [sExpr_d, fBM_d, fFld_d, fVar_z, bind_ok, q1, tyOf_ref h.hr, if_true, fCons_d, fNil_d, fVar_s, hpop, thn_ok])]
    simp only [sExpr_d, fMeth_d, fVar_z, bind_ok]
    rw [methK_ok h1.ho]
    simp only [fCons_d, fNil_d, fVar_s, fVar_z, bind_ok, g1, thn_ok, out_nx]
  · have a1 : Fr S S1 [y, r] := Fr.set (by simp)
    exact a1.trans (g3.weaken fun j hj _ => by simp at hj; simp [hj])
theorem l_year_trail {S : Sto} {y r s : Nat} {p : Pl} {row : List Dm} (h : YAt S y r s p row (stepsF p (u0 p) row)) (hl : row.length ≤ 1000) (hp9 : p.2.length ≤ 9) {n : Int} {i : Nat} {d : Dm} (hi : (numsD row).idxOf n = i) (hn : n ∈ numsD row) (hd : row[i]? = some d) :
    let us := usedF p (u0 p) (row.take i)
    F_year_trail [.ref y, .int n] S = .ok (.ref S.length) (S ++ [.lst (List.zipWith (fun a b => .tup [.int a, .int b, .int (a + b)]) us (payI p us d.2.2.2))]) := by
  intro us
  rw [F_year_trail_eq, b_year_trail]
  have q2 : fldK 0 2 (.ref y) S = .ok (.ref s) S := fldK_ok h.ho rfl
  have hp := l_year_place_of h hl n hn
  rw [hi] at hp
  have hul : us.length = p.2.length := usedF_len _ _ (by simp [u0])
  have hst := stepsF_at (p := p) row (u0 p) i d hd
  have hix : idxP (.ref s) (.int (i : Int)) S = .ok (stepW p (us, d.2.2.2)) S := idx_ref h.hs (by rw [atI_n, List.getElem?_map, hst]; rfl)
  have i1 : idxP (shareW (ownI p d.2.2.2) (payI p us d.2.2.2) (leftI p us d.2.2.2)) (.int 1) S = .ok (.lst ((payI p us d.2.2.2).map .int)) S := idx_sh1
  have hm : methK 0 F_year_place_of (fCons (fVar 1) fNil [some (.ref y), some (.int n), none, none, none, none]) (.ref y) S = .ok (.int (i : Int)) S := by
    rw [methK_ok h.ho]
    simp only [fCons_d, fNil_d, fVar_s, fVar_z, bind_ok, hp]
  rw [seq_nx (e := [some (.ref y), some (.int n), some (.lst (us.map .int)), some (shareW (ownI p d.2.2.2) (payI p us d.2.2.2) (leftI p us d.2.2.2)), none, none]) (S' := S) (by
    simp only [sAsg_d, f2_d, fFld_d, fVar_z, bind_ok, q2, fMeth_d, hm, hix, thn_ok]
    simp [stepW])]
  have hpl := payI_len (p := p) (us := us) (a := d.2.2.2) hul
  generalize payI p us d.2.2.2 = ps at *
  have hz : zipW (us.map .int) (ps.map .int) = (us.zip ps).map fun q => .tup [.int q.1, .int q.2] := by
    unfold zipW
    rw [List.zipWith_map, List.zip, List.map_zipWith]
  have e : lcItems (tgTup [4, 5]) fYes b_year_trail_c1 (wipeE [some (.ref y), some (.int n), some (.lst (us.map .int)), some (shareW (ownI p d.2.2.2) ps (leftI p us d.2.2.2)), none, none] [4, 5]) (zipW (us.map .int) (ps.map .int)) S = .ok (List.zipWith (fun a b => .tup [.int a, .int b, .int (a + b)]) us ps) S := by
    rw [hz, lc_map (fun w => match w with
      | .tup [.int i, .int j] => .tup [.int i, .int j, .int (i + j)]
      | _ => .non) (fun w hw => by
      obtain ⟨q, _, rfl⟩ := List.mem_map.mp hw
      exact ⟨_, rfl, by simp [b_year_trail_c1, wipeE, tupP_d, lenOk_t]⟩), List.map_map, List.zip, List.map_zipWith]
    rfl
  have hlz : lenOk (zipW (us.map .int) (ps.map .int)).length = true := lenOk_t (by rw [zipW_len]; simp; omega)
  simp [i1, lcK_d hlz, e]
/-- what the law holds: each row with its copy, none of them at an object that still changes -/
def HeldOk (md : List Nat) (S : Sto) (hd : List Wv) : Prop := ∀ w ∈ hd, ∃ a xs, w = .tup [.ref a, .lst xs] ∧ S[a]? = some (.lst xs) ∧ okW 9 (.lst xs) = true ∧ a ∉ md
theorem HeldOk.fr {md md2 : List Nat} {S S' : Sto} {hd : List Wv} (h : HeldOk md S hd) (f : Fr S S' md2) (hs : ∀ a ∈ md2, a ∈ md ∨ S.length ≤ a) : HeldOk md S' hd := fun w hw => by
  obtain ⟨a, xs, h1, h2, h3, h4⟩ := h w hw
  refine ⟨a, xs, h1, f _ _ h2 (fun hc => ?_), h3, h4⟩
  rcases hs a hc with h5 | h5
  · exact h4 h5
  · have := (List.getElem?_eq_some_iff.mp h2).1
    omega
theorem toD_ref {S : Sto} {a : Nat} {xs : List Wv} (h : S[a]? = some (.lst xs)) (n : Nat) : toD S (n + 1) (.ref a) = toD S (n + 1) (.lst xs) := by simp only [toD, h]
theorem deep_rl {S : Sto} {a : Nat} {xs : List Wv} (h : S[a]? = some (.lst xs)) (ho : okW 9 (.lst xs) = true) : eqDeep S (.ref a) (.lst xs) = some true := by
  have := deep_refl (S := S) ho
  unfold eqDeep at this ⊢
  rw [toD_ref h 8]
  exact this
theorem ne_rr {S : Sto} {a b : Nat} {xs : List Wv} (h : S[a]? = some (.lst xs)) (h2 : S[b]? = some (.lst xs)) (ho : okW 9 (.lst xs) = true) : neP (.ref a) (.ref b) S = .ok (.bl false) S := by
  have := deep_refl (S := S) ho
  have e : eqDeep S (.ref a) (.ref b) = some true := by
    unfold eqDeep at this ⊢
    rw [toD_ref h 8, toD_ref h2 8]
    exact this
  simp only [neP, e, Bool.not_true]
theorem numsD_at {row : List Dm} {i : Nat} {d : Dm} (hnd : (numsD row).Nodup) (h : row[i]? = some d) : (numsD row).idxOf d.2.2.1 = i ∧ d.2.2.1 ∈ numsD row := by
  have h1 : (numsD row)[i]? = some d.2.2.1 := by rw [numsD, List.getElem?_map, h]; rfl
  have hm := List.mem_of_getElem? h1
  refine ⟨?_, hm⟩
  have h2 : (numsD row).idxOf d.2.2.1 < (numsD row).length := List.idxOf_lt_length_of_mem hm
  have h3 : (numsD row)[(numsD row).idxOf d.2.2.1]? = some d.2.2.1 := by rw [List.getElem?_eq_getElem h2, List.getElem_idxOf h2]
  exact (List.getElem?_inj h2 hnd).mp (by rw [h3, h1])
/-- the rows stand in order, no number twice -/
def SortedD (row : List Dm) : Prop := row.Pairwise fun a b => lexB a b = true
theorem k3_dm (d : Dm) : k3 (dmW d) = (d.1, d.2.1, d.2.2.1) := rfl
theorem lexB_iff (a b : Dm) : lexB a b = true ↔ a.1 < b.1 ∨ (a.1 = b.1 ∧ (a.2.1 < b.2.1 ∨ (a.2.1 = b.2.1 ∧ a.2.2.1 < b.2.2.1))) := by
  unfold lexB
  by_cases h1 : a.1 = b.1
  · by_cases h2 : a.2.1 = b.2.1
    · by_cases h3 : a.2.2.1 = b.2.2.1
      · simp [h1, h2, h3]
      · simp [h1, h2, h3]
    · simp [h1, h2]
  · simp [h1]
theorem lexB_le3 {a b : Dm} (h : lexB a b = true) : le3 (dmW a) (dmW b) = true := by
  rw [lexB_iff] at h
  rw [le3_iff, k3_dm, k3_dm]
  unfold le3P
  dsimp only
  omega
theorem lexB_trans {a b c : Dm} (h1 : lexB a b = true) (h2 : lexB b c = true) : lexB a c = true := by
  rw [lexB_iff] at *
  omega
theorem lexB_tot {a b : Dm} (h : a.2.2.1 ≠ b.2.2.1) (h2 : lexB a b = false) : lexB b a = true := by
  have : ¬ lexB a b = true := by rw [h2]; simp
  rw [lexB_iff] at *
  omega
theorem putD_eq (row : List Dm) (d : Dm) : putD row d = row.takeWhile (fun e => lexB e d) ++ d :: row.dropWhile (fun e => lexB e d) := by
  have h := List.takeWhile_append_dropWhile (p := fun e => lexB e d) (l := row)
  have e1 : row.take (placeI row d) = row.takeWhile fun e => lexB e d := by
    have := List.take_left (l₁ := row.takeWhile fun e => lexB e d) (l₂ := row.dropWhile fun e => lexB e d)
    rw [h] at this
    exact this
  have e2 : row.drop (placeI row d) = row.dropWhile fun e => lexB e d := by
    have := List.drop_left (l₁ := row.takeWhile fun e => lexB e d) (l₂ := row.dropWhile fun e => lexB e d)
    rw [h] at this
    exact this
  rw [putD, e1, e2]
  simp
theorem putD_sorted {row : List Dm} {d : Dm} (hs : SortedD row) (hn : d.2.2.1 ∉ numsD row) : SortedD (putD row d) := by
  rw [putD_eq]
  have h := List.takeWhile_append_dropWhile (p := fun e => lexB e d) (l := row)
  have hs' := hs
  unfold SortedD at hs' ⊢
  rw [← h, List.pairwise_append] at hs'
  obtain ⟨s1, s2, s3⟩ := hs'
  have hA : ∀ a ∈ row.takeWhile (fun e => lexB e d), lexB a d = true := fun a ha => by
    have := List.all_takeWhile (p := fun e => lexB e d) (l := row)
    exact List.all_eq_true.mp this a ha
  have hB : ∀ b ∈ row.dropWhile (fun e => lexB e d), lexB d b = true := by
    cases q : row.dropWhile (fun e => lexB e d) with
    | nil => intro b hb; cases hb
    | cons x xs =>
      have hx : lexB x d = false := by
        have := List.head_dropWhile_not (fun e => lexB e d) (l := row) (by rw [q]; simp)
        simp only [q, List.head_cons] at this
        simpa using this
      have hm : x ∈ row := (List.dropWhile_sublist (fun e => lexB e d)).subset (by rw [q]; simp)
      have hxd : lexB d x = true := lexB_tot (fun e => hn (by rw [← e]; exact List.mem_map_of_mem hm)) hx
      intro b hb
      rcases List.mem_cons.mp hb with rfl | hb
      · exact hxd
      · rw [q] at s2
        exact lexB_trans hxd ((List.pairwise_cons.mp s2).1 b hb)
  rw [List.pairwise_append]
  refine ⟨s1, List.pairwise_cons.mpr ⟨hB, s2⟩, fun a ha b hb => ?_⟩
  rcases List.mem_cons.mp hb with rfl | hb
  · exact hA a ha
  · exact lexB_trans (hA a ha) (hB b hb)
theorem sorted_inj {row : List Dm} (hs : SortedD row) : ∀ a ∈ row, ∀ b ∈ row, (a.1, a.2.1, a.2.2.1) = (b.1, b.2.1, b.2.2.1) → a = b := by
  induction row with
  | nil => intro a ha; cases ha
  | cons x xs ih =>
    have h := List.pairwise_cons.mp hs
    have nolt : ∀ {u v : Dm}, lexB u v = true → (u.1, u.2.1, u.2.2.1) = (v.1, v.2.1, v.2.2.1) → False := fun {u v} hl e => by
      rw [lexB_iff] at hl
      simp only [Prod.mk.injEq] at e
      omega
    intro a ha b hb e
    rcases List.mem_cons.mp ha with e1 | ha' <;> rcases List.mem_cons.mp hb with e2 | hb'
    · rw [e1, e2]
    · exact (nolt (h.1 b hb') (by rw [← e1]; exact e)).elim
    · exact (nolt (h.1 a ha') (by rw [← e2]; exact e.symm)).elim
    · exact ih h.2 a ha' b hb' e
theorem sort_dm {ws : List Wv} {row : List Dm} (hp : (row.map dmW).Perm ws) (hs : SortedD row) : ws.mergeSort le3 = row.map dmW := by
  refine sort3_eq hp (List.Pairwise.map _ (fun a b h => lexB_le3 h) hs) fun a ha b hb e => ?_
  obtain ⟨x, hx, rfl⟩ := List.mem_map.mp ha
  obtain ⟨y, hy, rfl⟩ := List.mem_map.mp hb
  rw [k3_dm, k3_dm] at e
  rw [sorted_inj hs x hx y hy e]
theorem putD_perm (row : List Dm) (d : Dm) : (putD row d).Perm (d :: row) := by
  have : putD row d = row.take (placeI row d) ++ d :: row.drop (placeI row d) := by simp [putD]
  rw [this]
  refine List.perm_middle.trans ?_
  rw [List.take_append_drop]
theorem lc_filt {tg : Tg} {cond : FT} {elt : FE} {env0 : Env} {S : Sto} (q : Wv → Bool) (v : Wv → Wv) : ∀ {ws : List Wv}, (∀ w ∈ ws, ∃ env1, tg w env0 S = some env1 ∧ cond env1 S = .ok (q w) S ∧ (q w = true → elt env1 S = .ok (v w) S)) → lcItems tg cond elt env0 ws S = .ok ((ws.filter q).map v) S
  | [], _ => rfl
  | w :: r, h => by
    obtain ⟨env1, h1, h2, h3⟩ := h w (by simp)
    have ih := lc_filt (tg := tg) (cond := cond) (elt := elt) (env0 := env0) (S := S) q v (ws := r) fun w hw => h w (by simp [hw])
    cases hq : q w with
    | true =>
      rw [hq] at h2
      simp only [lcItems, h1, h2, Out.nox, Out.bind, if_true, h3 hq, ih, List.filter_cons, hq, List.map_cons]
    | false =>
      rw [hq] at h2
      simp only [lcItems, h1, h2, Out.nox, Out.bind, Bool.false_eq_true, if_false, ih, List.filter_cons, hq]
theorem dms_okL (row : List Dm) : okW 9 (.lst (row.map dmW)) = true := by
  simp [okW, dmW]
theorem erase_filter {row : List Dm} {n : Int} (hnd : (numsD row).Nodup) (hn : n ∈ numsD row) : row.eraseIdx ((numsD row).idxOf n) = row.filter fun d => decide (d.2.2.1 ≠ n) := by
  induction row with
  | nil => cases hn
  | cons x xs ih =>
    have h := List.nodup_cons.mp hnd
    by_cases e : x.2.2.1 = n
    · have e0 : (numsD (x :: xs)).idxOf n = 0 := by simp [numsD, e]
      rw [e0, List.eraseIdx_cons_zero, List.filter_cons_of_neg (by simp [e])]
      refine (List.filter_eq_self.mpr fun d hd => ?_).symm
      simp only [decide_eq_true_eq]
      intro e2
      exact h.1 (by show x.2.2.1 ∈ numsD xs; rw [e, ← e2]; exact List.mem_map_of_mem (f := fun d : Dm => d.2.2.1) hd)
    · have hn2 : n ∈ numsD xs := by
        rcases List.mem_cons.mp hn with h2 | h2
        · exact absurd h2.symm e
        · exact h2
      have e1 : (numsD (x :: xs)).idxOf n = (numsD xs).idxOf n + 1 := by
        have : numsD (x :: xs) = x.2.2.1 :: numsD xs := rfl
        have e2 : (x.2.2.1 == n) = false := by simpa using e
        rw [this, List.idxOf_cons, e2]
        rfl
      rw [e1, List.eraseIdx_cons_succ, List.filter_cons_of_pos (by simp [e]), ih h.2 hn2]
theorem filter_nil {row : List Dm} {n : Int} (hn : n ∉ numsD row) : row.filter (fun d => decide (d.2.2.1 = n)) = [] := by
  refine List.filter_eq_nil_iff.mpr fun d hd => ?_
  simp only [decide_eq_true_eq]
  intro e
  exact hn (by rw [← e]; exact List.mem_map_of_mem (f := fun d : Dm => d.2.2.1) hd)
theorem filter_cons {row : List Dm} {n : Int} (hn : n ∈ numsD row) : (row.filter (fun d => decide (d.2.2.1 = n))).isEmpty = false := by
  obtain ⟨d, hd, e⟩ := List.mem_map.mp hn
  have : d ∈ row.filter fun d => decide (d.2.2.1 = n) := List.mem_filter.mpr ⟨hd, by simpa using e⟩
  cases q : row.filter fun d => decide (d.2.2.1 = n) with
  | nil => rw [q] at this; cases this
  | cons _ _ => rfl
def dnum : Wv → Int
  | .tup [_, _, .int n, _] => n
  | _ => 0
theorem filt_dm (row : List Dm) (f : Int → Bool) : (row.map dmW).filter (fun w => f (dnum w)) = (row.filter fun d => f d.2.2.1).map dmW := by
  rw [List.filter_map]; rfl
/-! ### damages by their numbers, years by their rows -/
def knD (kn : List Dm) : Ks := kn.map fun d => (.inl d.2.2.1, dmW d)
abbrev Ys := List (Int × Nat × Nat)
def rowsD (ys : Ys) : Ks := ys.map fun q => (.inl q.1, .ref q.2.1)
def sortD : List Dm → List Dm
  | [] => []
  | d :: l => putD (sortD l) d
theorem sortD_perm : ∀ l : List Dm, (sortD l).Perm l
  | [] => List.Perm.refl _
  | d :: l => (putD_perm _ _).trans ((sortD_perm l).cons d)
theorem sortD_sorted : ∀ l : List Dm, (numsD l).Nodup → SortedD (sortD l)
  | [], _ => List.Pairwise.nil
  | d :: l, h => by
    have h2 := List.nodup_cons.mp h
    exact putD_sorted (sortD_sorted l h2.2) fun hm => h2.1 (((sortD_perm l).map fun d : Dm => d.2.2.1).mem_iff.mp hm)
theorem sorted_uniq {a b : List Dm} (ha : SortedD a) (hb : SortedD b) (hp : a.Perm b) : a = b :=
  List.Perm.eq_of_pairwise (le := fun x y => lexB x y = true) (fun x y _ _ h1 h2 => by
    rw [lexB_iff] at h1 h2
    omega) ha hb hp
/-- the damages of a year, in order -/
def rowOf (kn : List Dm) (yr : Int) : List Dm := sortD (kn.filter fun d => decide (d.1 = yr))
theorem nums_filter {kn : List Dm} (nd : (numsD kn).Nodup) (f : Dm → Bool) : (numsD (kn.filter f)).Nodup := nd.sublist (List.filter_sublist.map _)
theorem rowOf_perm (kn : List Dm) (yr : Int) : (rowOf kn yr).Perm (kn.filter fun d => decide (d.1 = yr)) := sortD_perm _
theorem rowOf_sorted {kn : List Dm} (nd : (numsD kn).Nodup) (yr : Int) : SortedD (rowOf kn yr) := sortD_sorted _ (nums_filter nd _)
theorem rowOf_nd {kn : List Dm} (nd : (numsD kn).Nodup) (yr : Int) : (numsD (rowOf kn yr)).Nodup := (((rowOf_perm kn yr).map fun d : Dm => d.2.2.1).nodup_iff).mpr (nums_filter nd _)
theorem rowOf_len (kn : List Dm) (yr : Int) : (rowOf kn yr).length ≤ kn.length := by
  rw [(rowOf_perm kn yr).length_eq]; exact List.length_filter_le _ _
theorem rowOf_mem {kn : List Dm} {yr : Int} {d : Dm} : d ∈ rowOf kn yr ↔ d ∈ kn ∧ d.1 = yr := by
  rw [(rowOf_perm kn yr).mem_iff, List.mem_filter]; simp
theorem rowOf_nil {kn : List Dm} {yr : Int} (h : ∀ d ∈ kn, d.1 ≠ yr) : rowOf kn yr = [] := by
  have : kn.filter (fun d => decide (d.1 = yr)) = [] := List.filter_eq_nil_iff.mpr fun d hd => by simp [h d hd]
  rw [rowOf, this]; rfl
/-- one of that number -/
def findN (kn : List Dm) (n : Int) : Option Dm := kn.find? fun d => decide (d.2.2.1 = n)
theorem findN_some {kn : List Dm} {n : Int} {d : Dm} (h : findN kn n = some d) : d ∈ kn ∧ d.2.2.1 = n := ⟨List.mem_of_find?_eq_some h, by simpa using List.find?_some h⟩
theorem findN_of {kn : List Dm} {n : Int} (h : n ∈ numsD kn) : ∃ d, findN kn n = some d := by
  cases q : findN kn n with
  | some d => exact ⟨d, rfl⟩
  | none =>
    obtain ⟨d, hd, e⟩ := List.mem_map.mp h
    have := List.find?_eq_none.mp q d hd
    simp [e] at this
theorem findN_none {kn : List Dm} {n : Int} (h : n ∉ numsD kn) : findN kn n = none := List.find?_eq_none.mpr fun d hd => by
  simp only [decide_eq_true_eq]
  intro e
  exact h (by rw [← e]; exact List.mem_map_of_mem (f := fun d : Dm => d.2.2.1) hd)
theorem findN_uniq {kn : List Dm} (nd : (numsD kn).Nodup) {d : Dm} (hd : d ∈ kn) : findN kn d.2.2.1 = some d := by
  obtain ⟨e, he⟩ := findN_of (List.mem_map_of_mem (f := fun d : Dm => d.2.2.1) hd)
  obtain ⟨h1, h2⟩ := findN_some he
  rw [he]
  congr 1
  clear he
  induction kn with
  | nil => cases hd
  | cons x xs ih =>
    have h := List.nodup_cons.mp nd
    rcases List.mem_cons.mp hd with e1 | hd' <;> rcases List.mem_cons.mp h1 with e2 | h1'
    · rw [e1, e2]
    · exact (h.1 (by show x.2.2.1 ∈ numsD xs; rw [← e1, ← h2]; exact List.mem_map_of_mem (f := fun d : Dm => d.2.2.1) h1')).elim
    · exact (h.1 (by show x.2.2.1 ∈ numsD xs; rw [← e2, h2]; exact List.mem_map_of_mem (f := fun d : Dm => d.2.2.1) hd')).elim
    · exact ih h.2 hd' h1'
theorem getW_kn : ∀ (kn : List Dm) (n : Int), getW (knD kn) (.inl n) = (findN kn n).map dmW
  | [], n => rfl
  | d :: kn, n => by
    have ih := getW_kn kn n
    unfold findN at ih ⊢
    rw [List.find?_cons]
    by_cases h : d.2.2.1 = n
    · have e : getW (knD (d :: kn)) (.inl n) = some (dmW d) := if_pos (by show (Sum.inl d.2.2.1 : Key) = .inl n; rw [h])
      simp [h, e]
    · have e : getW (knD (d :: kn)) (.inl n) = getW (knD kn) (.inl n) := if_neg (by simpa using h)
      simp [h, e, ih]
theorem getW_isSome (kn : List Dm) (n : Int) : (getW (knD kn) (.inl n)).isSome = decide (n ∈ numsD kn) := by
  rw [getW_kn]
  by_cases h : n ∈ numsD kn
  · obtain ⟨d, hd⟩ := findN_of h
    simp [hd, h]
  · simp [findN_none h, h]
theorem putW_new {kn : List Dm} {d : Dm} (h : d.2.2.1 ∉ numsD kn) : putW (knD kn) (.inl d.2.2.1) (dmW d) = knD (kn ++ [d]) := by
  have : (getW (knD kn) (.inl d.2.2.1)).isSome = false := by rw [getW_isSome]; simpa using h
  rw [putW, if_neg (by rw [this]; simp)]
  simp [knD]
/-- another amount for a number -/
def chgK (kn : List Dm) (n a : Int) : List Dm := kn.map fun d => if d.2.2.1 = n then (d.1, d.2.1, d.2.2.1, a) else d
def delK (kn : List Dm) (n : Int) : List Dm := kn.filter fun d => decide (d.2.2.1 ≠ n)
theorem setW_kn (nd_ : True) : ∀ {kn : List Dm} {d : Dm}, (numsD kn).Nodup → d ∈ kn → ∀ a : Int, setW (knD kn) (.inl d.2.2.1) (dmW (d.1, d.2.1, d.2.2.1, a)) = knD (chgK kn d.2.2.1 a)
  | x :: xs, d, nd, hd, a => by
    have h := List.nodup_cons.mp nd
    have nos : ∀ {ys : List Dm} {n : Int}, n ∉ numsD ys → ∀ w, setW (knD ys) (.inl n) w = knD ys ∧ chgK ys n a = ys := by
      intro ys
      induction ys with
      | nil => intro n _ w; exact ⟨rfl, rfl⟩
      | cons y ys ih =>
        intro n hn w
        have h1 : y.2.2.1 ≠ n := fun e => hn (by rw [← e]; exact List.mem_cons_self)
        obtain ⟨i1, i2⟩ := ih (n := n) (fun hm => hn (List.mem_cons_of_mem _ hm)) w
        refine ⟨?_, ?_⟩
        · have e : (Sum.inl y.2.2.1 : Key) ≠ .inl n := by simpa using h1
          show (if (Sum.inl y.2.2.1 : Key) = .inl n then _ else _) :: setW (knD ys) (.inl n) w = _
          rw [if_neg e, i1]; rfl
        · show (if y.2.2.1 = n then _ else y) :: chgK ys n a = _
          rw [if_neg h1, i2]
    rcases List.mem_cons.mp hd with e | hd'
    · subst e
      obtain ⟨i1, i2⟩ := nos h.1 (dmW (d.1, d.2.1, d.2.2.1, a))
      show (if (Sum.inl d.2.2.1 : Key) = .inl d.2.2.1 then _ else _) :: setW (knD xs) (.inl d.2.2.1) _ = _
      rw [if_pos rfl]
      show _ = knD ((if d.2.2.1 = d.2.2.1 then (d.1, d.2.1, d.2.2.1, a) else d) :: chgK xs d.2.2.1 a)
      rw [if_pos rfl]
      have i1' : setW (knD xs) (.inl d.2.2.1) (dmW (d.1, d.2.1, d.2.2.1, a)) = knD xs := i1
      have i2' : chgK xs d.2.2.1 a = xs := i2
      rw [i1', i2']; rfl
    · have hne : x.2.2.1 ≠ d.2.2.1 := fun e => h.1 (by show x.2.2.1 ∈ numsD xs; rw [e]; exact List.mem_map_of_mem (f := fun d : Dm => d.2.2.1) hd')
      have e : (Sum.inl x.2.2.1 : Key) ≠ .inl d.2.2.1 := by simpa using hne
      show (if (Sum.inl x.2.2.1 : Key) = .inl d.2.2.1 then _ else _) :: setW (knD xs) (.inl d.2.2.1) _ = knD ((if x.2.2.1 = d.2.2.1 then _ else x) :: chgK xs d.2.2.1 a)
      rw [if_neg e, if_neg hne, setW_kn trivial h.2 hd' a]; rfl
theorem putW_chg {kn : List Dm} {d : Dm} (nd : (numsD kn).Nodup) (hd : d ∈ kn) (a : Int) : putW (knD kn) (.inl d.2.2.1) (dmW (d.1, d.2.1, d.2.2.1, a)) = knD (chgK kn d.2.2.1 a) := by
  have : (getW (knD kn) (.inl d.2.2.1)).isSome = true := by rw [getW_isSome]; exact decide_eq_true (List.mem_map_of_mem (f := fun d : Dm => d.2.2.1) hd)
  rw [putW, if_pos this, setW_kn trivial nd hd]
theorem dropW_kn : ∀ (kn : List Dm) (n : Int), dropW (knD kn) (.inl n) = knD (delK kn n)
  | [], _ => rfl
  | x :: xs, n => by
    have ih := dropW_kn xs n
    by_cases h : x.2.2.1 = n
    · have e : (Sum.inl x.2.2.1 : Key) = .inl n := by rw [h]
      show (if (Sum.inl x.2.2.1 : Key) = .inl n then dropW (knD xs) (.inl n) else _) = _
      rw [if_pos e, ih, delK, delK, List.filter_cons_of_neg (by simp [h])]
    · have e : (Sum.inl x.2.2.1 : Key) ≠ .inl n := by simpa using h
      show (if (Sum.inl x.2.2.1 : Key) = .inl n then _ else (_, _) :: dropW (knD xs) (.inl n)) = _
      rw [if_neg e, ih, delK, delK, List.filter_cons_of_pos (by simp [h])]
      rfl
theorem numsD_chg (kn : List Dm) (n a : Int) : numsD (chgK kn n a) = numsD kn := by
  unfold numsD chgK
  rw [List.map_map]
  refine List.map_congr_left fun d _ => ?_
  simp only [Function.comp_apply]
  split <;> rfl
theorem mem_delK {kn : List Dm} {n : Int} {d : Dm} : d ∈ delK kn n ↔ d ∈ kn ∧ d.2.2.1 ≠ n := by simp [delK, List.mem_filter]
/-! rows, when the known ones change -/
theorem rowOf_add {kn : List Dm} {d : Dm} (nd : (numsD (kn ++ [d])).Nodup) : rowOf (kn ++ [d]) d.1 = putD (rowOf kn d.1) d := by
  have nd0 : (numsD kn).Nodup := nd.sublist ((List.sublist_append_left kn [d]).map _)
  have hn : d.2.2.1 ∉ numsD (rowOf kn d.1) := fun hm => by
    obtain ⟨e, he, h2⟩ := List.mem_map.mp hm
    have hk := (rowOf_mem.mp he).1
    rw [numsD, List.map_append, List.nodup_append] at nd
    exact nd.2.2 _ (List.mem_map_of_mem (f := fun d : Dm => d.2.2.1) hk) _ (by simp) h2
  refine sorted_uniq (rowOf_sorted nd _) (putD_sorted (rowOf_sorted nd0 _) hn) ?_
  refine (rowOf_perm _ _).trans ?_
  rw [List.filter_append]
  refine (List.perm_append_comm).trans ?_
  simp only [List.filter_cons, decide_true, if_true, List.filter_nil, List.cons_append, List.nil_append]
  exact ((rowOf_perm kn d.1).symm.cons d).trans (putD_perm _ _).symm
theorem rowOf_add_ne {kn : List Dm} {d : Dm} {yr : Int} (h : yr ≠ d.1) : rowOf (kn ++ [d]) yr = rowOf kn yr := by
  unfold rowOf
  rw [List.filter_append]
  simp [Ne.symm h]
theorem rowOf_del {kn : List Dm} (nd : (numsD kn).Nodup) {d : Dm} (hd : d ∈ kn) : rowOf (delK kn d.2.2.1) d.1 = (rowOf kn d.1).eraseIdx ((numsD (rowOf kn d.1)).idxOf d.2.2.1) := by
  have hm : d ∈ rowOf kn d.1 := rowOf_mem.mpr ⟨hd, rfl⟩
  rw [erase_filter (rowOf_nd nd _) (List.mem_map_of_mem (f := fun d : Dm => d.2.2.1) hm)]
  refine sorted_uniq (rowOf_sorted (nums_filter nd _) _) ((rowOf_sorted nd _).sublist List.filter_sublist) ?_
  refine (rowOf_perm _ _).trans ?_
  rw [delK, List.filter_filter]
  refine List.Perm.trans ?_ ((rowOf_perm kn d.1).filter _).symm
  rw [List.filter_filter]
  exact List.Perm.of_eq (List.filter_congr fun x _ => by rw [Bool.and_comm])
theorem rowOf_del_ne {kn : List Dm} (nd : (numsD kn).Nodup) {d : Dm} (hd : d ∈ kn) {yr : Int} (h : yr ≠ d.1) : rowOf (delK kn d.2.2.1) yr = rowOf kn yr := by
  unfold rowOf
  congr 1
  rw [delK, List.filter_filter]
  refine List.filter_congr fun x hx => ?_
  by_cases e : x.1 = yr
  · have : x.2.2.1 ≠ d.2.2.1 := fun e2 => by
      have h1 := findN_uniq nd hx
      rw [e2, findN_uniq nd hd] at h1
      cases h1
      exact h e.symm
    simp [e, this]
  · simp [e]
theorem chgK_perm {kn : List Dm} (nd : (numsD kn).Nodup) {d : Dm} (hd : d ∈ kn) (a : Int) : (chgK kn d.2.2.1 a).Perm (delK kn d.2.2.1 ++ [(d.1, d.2.1, d.2.2.1, a)]) := by
  induction kn with
  | nil => cases hd
  | cons x xs ih =>
    have h := List.nodup_cons.mp nd
    have nos : ∀ {ys : List Dm} {n : Int}, n ∉ numsD ys → chgK ys n a = ys ∧ delK ys n = ys := by
      intro ys n hn
      have : ∀ y ∈ ys, y.2.2.1 ≠ n := fun y hy e => hn (by rw [← e]; exact List.mem_map_of_mem (f := fun d : Dm => d.2.2.1) hy)
      refine ⟨?_, List.filter_eq_self.mpr fun y hy => by simpa using this y hy⟩
      unfold chgK
      conv => rhs; rw [← List.map_id ys]
      exact List.map_congr_left fun y hy => by rw [if_neg (this y hy)]; rfl
    rcases List.mem_cons.mp hd with e | hd'
    · subst e
      obtain ⟨i1, i2⟩ := nos h.1
      have i1' : chgK xs d.2.2.1 a = xs := i1
      have i2' : delK xs d.2.2.1 = xs := i2
      have e1 : chgK (d :: xs) d.2.2.1 a = (d.1, d.2.1, d.2.2.1, a) :: xs := by
        show (if d.2.2.1 = d.2.2.1 then _ else d) :: chgK xs d.2.2.1 a = _
        rw [if_pos rfl, i1']
      have e2 : delK (d :: xs) d.2.2.1 = xs := by
        unfold delK at i2' ⊢
        rw [List.filter_cons_of_neg (by simp), i2']
      rw [e1, e2]
      exact (List.perm_append_singleton _ _).symm
    · have hne : x.2.2.1 ≠ d.2.2.1 := fun e => h.1 (by show x.2.2.1 ∈ numsD xs; rw [e]; exact List.mem_map_of_mem (f := fun d : Dm => d.2.2.1) hd')
      have e1 : chgK (x :: xs) d.2.2.1 a = x :: chgK xs d.2.2.1 a := by
        show (if x.2.2.1 = d.2.2.1 then _ else x) :: chgK xs d.2.2.1 a = _
        rw [if_neg hne]
      have e2 : delK (x :: xs) d.2.2.1 = x :: delK xs d.2.2.1 := List.filter_cons_of_pos (by simp [hne])
      rw [e1, e2]
      exact (ih h.2 hd').cons x
theorem rowOf_congr {a b : List Dm} (nda : (numsD a).Nodup) (hp : a.Perm b) (yr : Int) : rowOf a yr = rowOf b yr := by
  have ndb : (numsD b).Nodup := ((hp.map fun d : Dm => d.2.2.1).nodup_iff).mp nda
  exact sorted_uniq (rowOf_sorted nda _) (rowOf_sorted ndb _) (((rowOf_perm a yr).trans (hp.filter _)).trans (rowOf_perm b yr).symm)
theorem chg_nd {kn : List Dm} (nd : (numsD kn).Nodup) (n a : Int) : (numsD (chgK kn n a)).Nodup := by rw [numsD_chg]; exact nd
theorem del_add_nd {kn : List Dm} (nd : (numsD kn).Nodup) {d : Dm} (hd : d ∈ kn) (a : Int) : (numsD (delK kn d.2.2.1 ++ [(d.1, d.2.1, d.2.2.1, a)])).Nodup :=
  (((chgK_perm nd hd a).map fun d : Dm => d.2.2.1).nodup_iff).mp (chg_nd nd _ _)
theorem rowOf_chg {kn : List Dm} (nd : (numsD kn).Nodup) {d : Dm} (hd : d ∈ kn) (a : Int) : rowOf (chgK kn d.2.2.1 a) d.1 = putD ((rowOf kn d.1).eraseIdx ((numsD (rowOf kn d.1)).idxOf d.2.2.1)) (d.1, d.2.1, d.2.2.1, a) := by
  rw [rowOf_congr (chg_nd nd _ _) (chgK_perm nd hd a), ← rowOf_del nd hd]
  exact rowOf_add (d := (d.1, d.2.1, d.2.2.1, a)) (del_add_nd nd hd a)
theorem rowOf_chg_ne {kn : List Dm} (nd : (numsD kn).Nodup) {d : Dm} (hd : d ∈ kn) (a : Int) {yr : Int} (h : yr ≠ d.1) : rowOf (chgK kn d.2.2.1 a) yr = rowOf kn yr := by
  rw [rowOf_congr (chg_nd nd _ _) (chgK_perm nd hd a), rowOf_add_ne (d := (d.1, d.2.1, d.2.2.1, a)) h, rowOf_del_ne nd hd h]
theorem map_inj {α β : Type} {f : α → β} : ∀ {l : List α}, (l.map f).Nodup → ∀ {a b : α}, a ∈ l → b ∈ l → f a = f b → a = b
  | x :: xs, h, a, b, ha, hb, e => by
    have h2 := List.nodup_cons.mp h
    rcases List.mem_cons.mp ha with e1 | ha' <;> rcases List.mem_cons.mp hb with e2 | hb'
    · rw [e1, e2]
    · exact (h2.1 (by rw [← e1, e]; exact List.mem_map_of_mem hb')).elim
    · exact (h2.1 (by rw [← e2, ← e]; exact List.mem_map_of_mem ha')).elim
    · exact map_inj h2.2 ha' hb' e
def mdB (K R U : Nat) (ys : Ys) : List Nat := K :: R :: U :: (ys.map (·.2.1) ++ ys.map (·.2.2))
theorem getW_rows : ∀ {ys : Ys} {q : Int × Nat × Nat}, (ys.map (·.1)).Nodup → q ∈ ys → getW (rowsD ys) (.inl q.1) = some (.ref q.2.1)
  | x :: xs, q, h, hq => by
    have h2 := List.nodup_cons.mp h
    rcases List.mem_cons.mp hq with e | hq'
    · subst e; exact if_pos rfl
    · have hne : (Sum.inl x.1 : Key) ≠ .inl q.1 := fun e => h2.1 (by
        have e : x.1 = q.1 := by simpa using e
        show x.1 ∈ xs.map (·.1)
        rw [e]; exact List.mem_map_of_mem (f := fun q : Int × Nat × Nat => q.1) hq')
      exact (if_neg hne).trans (getW_rows h2.2 hq')
theorem getW_rows_none : ∀ {ys : Ys} {yr : Int}, yr ∉ ys.map (·.1) → getW (rowsD ys) (.inl yr) = none
  | [], _, _ => rfl
  | x :: xs, yr, h => by
    have hne : (Sum.inl x.1 : Key) ≠ .inl yr := fun e => h (by
      have e : x.1 = yr := by simpa using e
      rw [← e]; exact List.mem_cons_self)
    exact (if_neg hne).trans (getW_rows_none fun hm => h (List.mem_cons_of_mem _ hm))
theorem putW_rows {ys : Ys} {yr : Int} (h : yr ∉ ys.map (·.1)) (y r : Nat) : putW (rowsD ys) (.inl yr) (.ref y) = rowsD (ys ++ [(yr, y, r)]) := by
  rw [putW, getW_rows_none h]
  simp [rowsD]
theorem dropW_rows : ∀ (ys : Ys) (yr : Int), dropW (rowsD ys) (.inl yr) = rowsD (ys.filter fun q => decide (q.1 ≠ yr))
  | [], _ => rfl
  | x :: xs, yr => by
    have ih := dropW_rows xs yr
    by_cases h : x.1 = yr
    · have e : (Sum.inl x.1 : Key) = .inl yr := by rw [h]
      show (if (Sum.inl x.1 : Key) = .inl yr then dropW (rowsD xs) (.inl yr) else _) = _
      rw [if_pos e, ih, List.filter_cons_of_neg (by simp [h])]
    · have e : (Sum.inl x.1 : Key) ≠ .inl yr := by simpa using h
      show (if (Sum.inl x.1 : Key) = .inl yr then _ else (_, _) :: dropW (rowsD xs) (.inl yr)) = _
      rw [if_neg e, ih, List.filter_cons_of_pos (by simp [h])]
      rfl
/-- a book at b: known at K, rows at R, shut at U; the row that each year has -/
structure BG (S : Sto) (b K R U : Nat) (p : Pl) (kn : List Dm) (sh : List Int) (ys : Ys) (ex : List Nat) (row : Int → List Dm) : Prop where
  hb : S[b]? = some (.ins 1 [planW p, .ref K, .ref R, .ref U])
  hk : S[K]? = some (.dct (knD kn))
  hr : S[R]? = some (.dct (rowsD ys))
  hu : S[U]? = some (.lst (sh.map .int))
  hy : ∀ q ∈ ys, ∃ s, YAt S q.2.1 q.2.2 s p (row q.1) (stepsF p (u0 p) (row q.1)) ∧ s ∉ mdB K R U ys ∧ s ∉ ex
  yn : (ys.map (·.1)).Nodup
  an : (mdB K R U ys).Nodup
  bn : b ∉ mdB K R U ys
  exl : ∀ a ∈ ex, a < S.length ∧ a ∉ mdB K R U ys ∧ a ≠ b
section
variable {S S' : Sto} {b K R U : Nat} {p : Pl} {kn : List Dm} {sh : List Int} {ys : Ys} {ex : List Nat} {row : Int → List Dm}
theorem mdB_y {q : Int × Nat × Nat} (hq : q ∈ ys) : q.2.1 ∈ mdB K R U ys ∧ q.2.2 ∈ mdB K R U ys := by
  refine ⟨?_, ?_⟩
  · simp only [mdB, List.mem_cons, List.mem_append]
    exact .inr (.inr (.inr (.inl (List.mem_map_of_mem (f := fun q : Int × Nat × Nat => q.2.1) hq))))
  · simp only [mdB, List.mem_cons, List.mem_append]
    exact .inr (.inr (.inr (.inr (List.mem_map_of_mem (f := fun q : Int × Nat × Nat => q.2.2) hq))))
theorem mdB_K : K ∈ mdB K R U ys ∧ R ∈ mdB K R U ys ∧ U ∈ mdB K R U ys := by simp [mdB]
/-- all of these stand apart -/
theorem mdB_ne (h : (mdB K R U ys).Nodup) {q q' : Int × Nat × Nat} (hq : q ∈ ys) (hq' : q' ∈ ys) : K ≠ R ∧ K ≠ U ∧ R ≠ U ∧ K ≠ q.2.1 ∧ K ≠ q.2.2 ∧ R ≠ q.2.1 ∧ R ≠ q.2.2 ∧ U ≠ q.2.1 ∧ U ≠ q.2.2 ∧ q.2.1 ≠ q'.2.2 ∧ (q ≠ q' → q.2.1 ≠ q'.2.1 ∧ q.2.2 ≠ q'.2.2) := by
  have m1 := mdB_y (K := K) (R := R) (U := U) hq
  unfold mdB at h
  rw [List.nodup_cons, List.nodup_cons, List.nodup_cons, List.nodup_append] at h
  obtain ⟨h1, h2, h3, h4, h5, h6⟩ := h
  have a1 := List.mem_map_of_mem (f := fun q : Int × Nat × Nat => q.2.1) hq
  have a2 := List.mem_map_of_mem (f := fun q : Int × Nat × Nat => q.2.2) hq
  have a3 := List.mem_map_of_mem (f := fun q : Int × Nat × Nat => q.2.2) hq'
  simp only [List.mem_cons, List.mem_append, not_or] at h1 h2 h3
  refine ⟨h1.1, h1.2.1, h2.1, fun e => h1.2.2.1 (by rw [e]; exact a1), fun e => h1.2.2.2 (by rw [e]; exact a2), fun e => h2.2.1 (by rw [e]; exact a1), fun e => h2.2.2 (by rw [e]; exact a2), fun e => h3.1 (by rw [e]; exact a1), fun e => h3.2 (by rw [e]; exact a2), h6 _ a1 _ a3, fun hne => ⟨fun e => hne (map_inj h4 hq hq' e), fun e => hne (map_inj h5 hq hq' e)⟩⟩
theorem mdB_ne0 (h : (mdB K R U ys).Nodup) : K ≠ R ∧ K ≠ U ∧ R ≠ U := by
  unfold mdB at h
  rw [List.nodup_cons, List.nodup_cons, List.nodup_cons] at h
  obtain ⟨h1, h2, h3, _⟩ := h
  simp only [List.mem_cons, List.mem_append, not_or] at h1 h2
  exact ⟨h1.1, h1.2.1, h2.1⟩
theorem BG.lt (B : BG S b K R U p kn sh ys ex row) : b < S.length ∧ ∀ a ∈ mdB K R U ys, a < S.length := by
  refine ⟨(List.getElem?_eq_some_iff.mp B.hb).1, fun a ha => ?_⟩
  simp only [mdB, List.mem_cons, List.mem_append, List.mem_map] at ha
  rcases ha with rfl | rfl | rfl | ⟨q, hq, rfl⟩ | ⟨q, hq, rfl⟩
  · exact (List.getElem?_eq_some_iff.mp B.hk).1
  · exact (List.getElem?_eq_some_iff.mp B.hr).1
  · exact (List.getElem?_eq_some_iff.mp B.hu).1
  · obtain ⟨s, h, _⟩ := B.hy q hq; exact h.len.1
  · obtain ⟨s, h, _⟩ := B.hy q hq; exact h.len.2.1
/-- what changes elsewhere leaves the book -/
theorem BG.fr {md : List Nat} (B : BG S b K R U p kn sh ys ex row) (f : Fr S S' md) (l : S.length ≤ S'.length) (h : ∀ a ∈ md, a ∈ ex ∨ S.length ≤ a) : BG S' b K R U p kn sh ys ex row := by
  have hl := B.lt
  have out : ∀ a, (a = b ∨ a ∈ mdB K R U ys) → a ∉ md := fun a ha hm => by
    rcases h a hm with h1 | h1
    · have := B.exl a h1
      rcases ha with rfl | ha
      · exact this.2.2 rfl
      · exact this.2.1 ha
    · rcases ha with rfl | ha
      · omega
      · have := hl.2 a ha; omega
  obtain ⟨k1, k2, k3'⟩ := mdB_K (K := K) (R := R) (U := U) (ys := ys)
  refine ⟨f _ _ B.hb (out b (.inl rfl)), f _ _ B.hk (out K (.inr k1)), f _ _ B.hr (out R (.inr k2)), f _ _ B.hu (out U (.inr k3')), fun q hq => ?_, B.yn, B.an, B.bn, fun a ha => ?_⟩
  · obtain ⟨s, hs, h1, h2⟩ := B.hy q hq
    obtain ⟨m1, m2⟩ := mdB_y (K := K) (R := R) (U := U) hq
    refine ⟨s, hs.fr f (out _ (.inr m1)) (out _ (.inr m2)) (fun hm => ?_), h1, h2⟩
    rcases h s hm with h3 | h3
    · exact h2 h3
    · have := hs.len.2.2; omega
  · have := B.exl a ha
    exact ⟨by omega, this.2⟩
theorem BG.fr0 (B : BG S b K R U p kn sh ys ex row) (f : Fr S S' []) (l : S.length ≤ S'.length) : BG S' b K R U p kn sh ys ex row := B.fr f l (fun a ha => by cases ha)
theorem BG.push (B : BG S b K R U p kn sh ys ex row) (o : Ob) : BG (S ++ [o]) b K R U p kn sh ys ex row := B.fr0 Fr.push (by simp)
theorem BG.rows (B : BG S b K R U p kn sh ys ex row) {row' : Int → List Dm} (h : ∀ q ∈ ys, row' q.1 = row q.1) : BG S b K R U p kn sh ys ex row' :=
  ⟨B.hb, B.hk, B.hr, B.hu, fun q hq => by rw [h q hq]; exact B.hy q hq, B.yn, B.an, B.bn, B.exl⟩
/-- more that stands apart -/
theorem BG.more (B : BG S b K R U p kn sh ys ex row) {ex' : List Nat} (h : ∀ a ∈ ex', a < S.length ∧ a ∉ mdB K R U ys ∧ a ≠ b) (hs : ∀ q ∈ ys, ∀ s, S[q.2.1]? = some (.ins 0 [planW p, .ref q.2.2, .ref s]) → s ∉ ex') : BG S b K R U p kn sh ys ex' row :=
  ⟨B.hb, B.hk, B.hr, B.hu, fun q hq => by obtain ⟨s, h1, h2, h3⟩ := B.hy q hq; exact ⟨s, h1, h2, hs q hq s h1.ho⟩, B.yn, B.an, B.bn, h⟩
theorem BG.setK (B : BG S b K R U p kn sh ys ex row) (kn' : List Dm) : BG (S.set K (.dct (knD kn'))) b K R U p kn' sh ys ex row := by
  have ne := mdB_ne0 B.an
  obtain ⟨k1, k2, k3'⟩ := mdB_K (K := K) (R := R) (U := U) (ys := ys)
  refine ⟨set_other B.hb fun e => B.bn (by rw [← e]; exact k1), set_get B.hk, set_other B.hr ne.1, set_other B.hu ne.2.1, fun q hq => ?_, B.yn, B.an, B.bn, fun a ha => by rw [List.length_set]; exact B.exl a ha⟩
  obtain ⟨s, hs, h1, h2⟩ := B.hy q hq
  obtain ⟨m1, m2⟩ := mdB_y (K := K) (R := R) (U := U) hq
  have n := mdB_ne B.an hq hq
  exact ⟨s, ⟨set_other hs.ho n.2.2.2.1, set_other hs.hr n.2.2.2.2.1, set_other hs.hs (fun e => h1 (by rw [← e]; exact k1)), hs.hne⟩, h1, h2⟩
theorem BG.setU (B : BG S b K R U p kn sh ys ex row) (sh' : List Int) : BG (S.set U (.lst (sh'.map .int))) b K R U p kn sh' ys ex row := by
  have ne := mdB_ne0 B.an
  obtain ⟨k1, k2, k3'⟩ := mdB_K (K := K) (R := R) (U := U) (ys := ys)
  refine ⟨set_other B.hb fun e => B.bn (by rw [← e]; exact k3'), set_other B.hk ne.2.1.symm, set_other B.hr ne.2.2.symm, set_get B.hu, fun q hq => ?_, B.yn, B.an, B.bn, fun a ha => by rw [List.length_set]; exact B.exl a ha⟩
  obtain ⟨s, hs, h1, h2⟩ := B.hy q hq
  have n := mdB_ne B.an hq hq
  exact ⟨s, ⟨set_other hs.ho n.2.2.2.2.2.2.2.1, set_other hs.hr n.2.2.2.2.2.2.2.2.1, set_other hs.hs (fun e => h1 (by rw [← e]; exact k3')), hs.hne⟩, h1, h2⟩
/-- a deed on one year's row -/
theorem BG.step (B : BG S b K R U p kn sh ys ex row) {q : Int × Nat × Nat} (hq : q ∈ ys) {row' : List Dm} {s' : Nat} (hy' : YAt S' q.2.1 q.2.2 s' p row' (stepsF p (u0 p) row')) (f : Fr S S' [q.2.1, q.2.2]) (l : S.length ≤ S'.length) (ls : S.length ≤ s') :
    BG S' b K R U p kn sh ys ex (fun yr => if yr = q.1 then row' else row yr) := by
  obtain ⟨k1, k2, k3'⟩ := mdB_K (K := K) (R := R) (U := U) (ys := ys)
  obtain ⟨m1, m2⟩ := mdB_y (K := K) (R := R) (U := U) hq
  have n := mdB_ne B.an hq hq
  have hl := B.lt
  refine ⟨f _ _ B.hb ?_, f _ _ B.hk ?_, f _ _ B.hr ?_, f _ _ B.hu ?_, fun q' hq' => ?_, B.yn, B.an, B.bn, fun a ha => ?_⟩
  · simp only [List.mem_cons, List.not_mem_nil, or_false, not_or]
    exact ⟨fun e => B.bn (by rw [e]; exact m1), fun e => B.bn (by rw [e]; exact m2)⟩
  · simp only [List.mem_cons, List.not_mem_nil, or_false, not_or]
    exact ⟨n.2.2.2.1, n.2.2.2.2.1⟩
  · simp only [List.mem_cons, List.not_mem_nil, or_false, not_or]
    exact ⟨n.2.2.2.2.2.1, n.2.2.2.2.2.2.1⟩
  · simp only [List.mem_cons, List.not_mem_nil, or_false, not_or]
    exact ⟨n.2.2.2.2.2.2.2.1, n.2.2.2.2.2.2.2.2.1⟩
  · by_cases e : q' = q
    · subst e
      refine ⟨s', by simp only [if_true]; exact hy', fun hm => ?_, fun hm => ?_⟩
      · have := hl.2 s' hm; omega
      · have := (B.exl s' hm).1; omega
    · obtain ⟨s, hs, h1, h2⟩ := B.hy q' hq'
      have e1 : q'.1 ≠ q.1 := fun e1 => e (map_inj (f := fun q : Int × Nat × Nat => q.1) B.yn hq' hq e1)
      have n2 := mdB_ne B.an hq' hq
      have n3 := mdB_ne B.an hq hq'
      have n4 := n2.2.2.2.2.2.2.2.2.2.2 e
      have s1 : s ≠ q.2.1 := fun e => h1 (by rw [e]; exact m1)
      have s2 : s ≠ q.2.2 := fun e => h1 (by rw [e]; exact m2)
      have n5 : q'.2.1 ≠ q.2.2 := n2.2.2.2.2.2.2.2.2.2.1
      have n6 : q.2.1 ≠ q'.2.2 := n3.2.2.2.2.2.2.2.2.2.1
      refine ⟨s, by simp only [if_neg e1]; exact hs.fr f (by simp [n4.1, n5]) (by simp [n4.2, n6.symm]) (by simp [s1, s2]), h1, h2⟩
  · have := B.exl a ha
    exact ⟨by omega, this.2⟩
/-- a year more, of an empty row -/
theorem BG.addY (B : BG S b K R U p kn sh ys ex row) {yr : Int} (hyr : yr ∉ ys.map (·.1)) (hrow : row yr = []) :
    ∃ S1, newP 0 F_year_init [planW p] S = .ok (.ref S.length) S1 ∧ S1[R]? = some (.dct (rowsD ys)) ∧ BG (S1.set R (.dct (rowsD (ys ++ [(yr, S.length, S.length + 1)])))) b K R U p kn sh (ys ++ [(yr, S.length, S.length + 1)]) ex row ∧ Fr S (S1.set R (.dct (rowsD (ys ++ [(yr, S.length, S.length + 1)])))) [R] ∧ S.length ≤ S1.length := by
  have hn := l_year_new p S
  have hya := yat_new p S
  generalize hS1 : S ++ [.ins 0 [planW p, .ref (S.length + 1), .ref (S.length + 2)], .lst [], .lst []] = S1 at hn hya
  have l1 : S1.length = S.length + 3 := by rw [← hS1]; simp
  have f1 : Fr S S1 [] := fun i o hi _ => by rw [← hS1, List.getElem?_append_left (List.getElem?_eq_some_iff.mp hi).1]; exact hi
  have B1 := B.fr0 f1 (by omega)
  have hl := B.lt
  obtain ⟨k1, k2, k3'⟩ := mdB_K (K := K) (R := R) (U := U) (ys := ys)
  have lR := hl.2 R k2
  have ne := mdB_ne0 B.an
  have mem' : ∀ a, a ∈ mdB K R U (ys ++ [(yr, S.length, S.length + 1)]) ↔ a ∈ mdB K R U ys ∨ a = S.length ∨ a = S.length + 1 := fun a => by
    simp only [mdB, List.map_append, List.map_cons, List.map_nil, List.mem_cons, List.mem_append, List.not_mem_nil, or_false]
    constructor
    · rintro (h | h | h | (h | h) | (h | h))
      all_goals simp [h]
    · rintro ((h | h | h | (h | h)) | h | h)
      all_goals simp [h]
  have f2 : Fr S1 (S1.set R (.dct (rowsD (ys ++ [(yr, S.length, S.length + 1)])))) [R] := Fr.set (by simp)
  refine ⟨S1, hn, B1.hr, ⟨set_other B1.hb fun e => B.bn (by rw [← e]; exact k2), set_other B1.hk ne.1.symm, set_get B1.hr, set_other B1.hu ne.2.2, fun q hq => ?_, ?_, ?_, ?_, fun a ha => ?_⟩, (f1.weaken (by simp)).trans f2, by omega⟩
  · rcases List.mem_append.mp hq with hq | hq
    · obtain ⟨s, hs, h1, h2⟩ := B.hy q hq
      have n := mdB_ne B.an hq hq
      have hs1 := hs.fr f1 (by simp) (by simp) (by simp)
      refine ⟨s, hs1.fr f2 (by simp [n.2.2.2.2.2.1.symm]) (by simp [n.2.2.2.2.2.2.1.symm]) (by simp; exact fun e => h1 (by rw [e]; exact k2)), fun hm => ?_, h2⟩
      have := hs.len.2.2
      rcases (mem' s).mp hm with h3 | h3 | h3
      · exact h1 h3
      · omega
      · omega
    · rw [List.mem_singleton] at hq
      subst hq
      refine ⟨S.length + 2, ?_, fun hm => ?_, fun hm => ?_⟩
      · rw [hrow]
        exact hya.fr f2 (by simp; omega) (by simp; omega) (by simp; omega)
      · rcases (mem' _).mp hm with h3 | h3 | h3
        · have := hl.2 _ h3; omega
        · omega
        · omega
      · have := (B.exl _ hm).1; omega
  · rw [List.map_append, List.nodup_append]
    exact ⟨B.yn, by simp, fun a ha c hc e => hyr (by simp at hc; rw [← hc, ← e]; exact ha)⟩
  · have an := B.an
    have lt2 : ∀ a ∈ ys.map (fun q => q.2.1) ++ ys.map (fun q => q.2.2), a < S.length := fun a ha => hl.2 a (by
      simp only [mdB, List.mem_cons]
      exact .inr (.inr (.inr ha)))
    unfold mdB at an ⊢
    rw [List.nodup_cons, List.nodup_cons, List.nodup_cons, List.nodup_append] at an
    obtain ⟨h1, h2, h3, h4, h5, h6⟩ := an
    have lK := hl.2 K k1
    have lU := hl.2 U k3'
    simp only [List.mem_cons, List.mem_append, not_or] at h1 h2 h3
    rw [List.nodup_cons, List.nodup_cons, List.nodup_cons, List.nodup_append, List.map_append, List.map_append]
    simp only [List.map_cons, List.map_nil, List.mem_cons, List.mem_append, List.not_mem_nil, or_false, not_or]
    refine ⟨⟨h1.1, h1.2.1, ⟨h1.2.2.1, by omega⟩, h1.2.2.2, by omega⟩, ⟨h2.1, ⟨h2.2.1, by omega⟩, h2.2.2, by omega⟩, ⟨⟨h3.1, by omega⟩, h3.2, by omega⟩, ?_, ?_, ?_⟩
    · rw [List.nodup_append]
      exact ⟨h4, by simp, fun a ha c hc e => by have := lt2 a (List.mem_append_left _ ha); simp at hc; omega⟩
    · rw [List.nodup_append]
      exact ⟨h5, by simp, fun a ha c hc e => by have := lt2 a (List.mem_append_right _ ha); simp at hc; omega⟩
    · rintro a (ha | ha) c (hc | hc)
      · exact h6 a ha c hc
      · have := lt2 a (List.mem_append_left _ ha); omega
      · have := lt2 c (List.mem_append_right _ hc); omega
      · omega
  · intro hm
    rcases (mem' b).mp hm with h3 | h3 | h3
    · exact B.bn h3
    · omega
    · omega
  · have := B.exl a ha
    rw [List.length_set]
    refine ⟨by omega, fun hm => ?_, this.2.2⟩
    rcases (mem' a).mp hm with h3 | h3 | h3
    · exact this.2.1 h3
    · omega
    · omega
/-- a year less -/
theorem BG.delY (B : BG S b K R U p kn sh ys ex row) (yr : Int) : BG (S.set R (.dct (rowsD (ys.filter fun q => decide (q.1 ≠ yr))))) b K R U p kn sh (ys.filter fun q => decide (q.1 ≠ yr)) ex row := by
  obtain ⟨k1, k2, k3'⟩ := mdB_K (K := K) (R := R) (U := U) (ys := ys)
  have ne := mdB_ne0 B.an
  have sub : (mdB K R U (ys.filter fun q => decide (q.1 ≠ yr))).Sublist (mdB K R U ys) := by
    unfold mdB
    exact ((((List.filter_sublist.map _).append (List.filter_sublist.map _)).cons₂ _).cons₂ _).cons₂ _
  have f2 : Fr S (S.set R (.dct (rowsD (ys.filter fun q => decide (q.1 ≠ yr))))) [R] := Fr.set (by simp)
  refine ⟨set_other B.hb fun e => B.bn (by rw [← e]; exact k2), set_other B.hk ne.1.symm, set_get B.hr, set_other B.hu ne.2.2, fun q hq => ?_, B.yn.sublist (List.filter_sublist.map _), B.an.sublist sub, fun hm => B.bn (sub.subset hm), fun a ha => ?_⟩
  · have hq' := (List.mem_filter.mp hq).1
    obtain ⟨s, hs, h1, h2⟩ := B.hy q hq'
    have n := mdB_ne B.an hq' hq'
    exact ⟨s, hs.fr f2 (by simp [n.2.2.2.2.2.1.symm]) (by simp [n.2.2.2.2.2.2.1.symm]) (by simp; exact fun e => h1 (by rw [e]; exact k2)), fun hm => h1 (sub.subset hm), h2⟩
  · have := B.exl a ha
    rw [List.length_set]
    exact ⟨this.1, fun hm => this.2.1 (sub.subset hm), this.2.2⟩
end
theorem nodup_len : ∀ {l m : List Int}, l.Nodup → (∀ a ∈ l, a ∈ m) → l.length ≤ m.length
  | [], _, _, _ => Nat.zero_le _
  | a :: t, m, h, hs => by
    have h2 := List.nodup_cons.mp h
    have ha := hs a (by simp)
    have ih := nodup_len (l := t) (m := m.erase a) h2.2 fun x hx => by
      have hne : x ≠ a := fun e => h2.1 (by rw [← e]; exact hx)
      exact (List.mem_erase_of_ne hne).mpr (hs x (by simp [hx]))
    have := List.length_erase_of_mem ha
    have := List.length_pos_of_mem ha
    simp only [List.length_cons]
    omega
theorem wholeB_ty {w : Wv} {u : Ty} {S : Sto} (h : tyOf S w = some u) (hu : u ≠ .int) (lo hi : Int) : wholeB w lo hi = false := by
  cases w with
  | int i => exact absurd (Option.some.inj h).symm hu
  | _ => rfl
theorem l_is_whole_ty {w : Wv} {u : Ty} {S : Sto} (h : tyOf S w = some u) (lo hi : Int) : F_is_whole [w, .int lo, .int hi] S = .ok (.bl (wholeB w lo hi)) S := by
  cases w with
  | scr _ => cases h
  | exn _ => cases h
  | ref k =>
    have hu : u = .lst ∨ u = .dct := by
      simp only [tyOf] at h
      split at h
      · exact .inl (Option.some.inj h).symm
      · exact .inr (Option.some.inj h).symm
      · cases h
    rw [F_is_whole_eq, b_is_whole]
    have e : wholeB (.ref k) lo hi = false := rfl
    rw [e]
    rcases hu with rfl | rfl
    · simp [isP_ty h]
    · simp [isP_ty h]
  | _ => exact l_is_whole _ lo hi S rfl
theorem l_is_year_ty {w : Wv} {u : Ty} {S : Sto} (h : tyOf S w = some u) : F_is_year [w] S = .ok (.bl (wholeB w 0 9999)) S := by
  rw [F_is_year_eq, b_is_year]
  simp [l_is_whole_ty h]
theorem l_is_amount_ty {w : Wv} {u : Ty} {S : Sto} (h : tyOf S w = some u) : F_is_amount [w] S = .ok (.bl (wholeB w 0 1000000000000000)) S := by
  rw [F_is_amount_eq, b_is_amount]
  simp [l_is_whole_ty h]
/-- does a damage of that number stand there -/
def stB (kn : List Dm) : Wv → Bool
  | .int n => decide (n ∈ numsD kn)
  | _ => false
structure BAt (S : Sto) (b K R U : Nat) (p : Pl) (kn : List Dm) (sh : List Int) (ys : Ys) (ex : List Nat) : Prop where
  bg : BG S b K R U p kn sh ys ex (rowOf kn)
  ym : ∀ yr, yr ∈ ys.map (·.1) ↔ ∃ d ∈ kn, d.1 = yr
  nd : (numsD kn).Nodup
  ok : ∀ d ∈ kn, OkDm d
section
variable {S S' : Sto} {b K R U : Nat} {p : Pl} {kn : List Dm} {sh : List Int} {ys : Ys} {ex : List Nat}
theorem BAt.fr {md : List Nat} (B : BAt S b K R U p kn sh ys ex) (f : Fr S S' md) (l : S.length ≤ S'.length) (h : ∀ a ∈ md, a ∈ ex ∨ S.length ≤ a) : BAt S' b K R U p kn sh ys ex := ⟨B.bg.fr f l h, B.ym, B.nd, B.ok⟩
theorem BAt.fr0 (B : BAt S b K R U p kn sh ys ex) (f : Fr S S' []) (l : S.length ≤ S'.length) : BAt S' b K R U p kn sh ys ex := ⟨B.bg.fr0 f l, B.ym, B.nd, B.ok⟩
theorem BAt.push (B : BAt S b K R U p kn sh ys ex) (o : Ob) : BAt (S ++ [o]) b K R U p kn sh ys ex := ⟨B.bg.push o, B.ym, B.nd, B.ok⟩
theorem BAt.f0 (B : BAt S b K R U p kn sh ys ex) : fldK 1 0 (.ref b) S = .ok (planW p) S := fldK_ok B.bg.hb rfl
theorem BAt.f1 (B : BAt S b K R U p kn sh ys ex) : fldK 1 1 (.ref b) S = .ok (.ref K) S := fldK_ok B.bg.hb rfl
theorem BAt.f2 (B : BAt S b K R U p kn sh ys ex) : fldK 1 2 (.ref b) S = .ok (.ref R) S := fldK_ok B.bg.hb rfl
theorem BAt.f3 (B : BAt S b K R U p kn sh ys ex) : fldK 1 3 (.ref b) S = .ok (.ref U) S := fldK_ok B.bg.hb rfl
theorem stB_whole (B : BAt S b K R U p kn sh ys ex) (w : Wv) : wholeB w 0 1000000000 = false → stB kn w = false := fun h => by
  cases w with
  | int n =>
    simp only [stB, decide_eq_false_iff_not]
    intro hn
    obtain ⟨d, hd, e⟩ := List.mem_map.mp hn
    have e : d.2.2.1 = n := e
    have := (B.ok d hd).nm
    simp only [wholeB, Bool.and_eq_false_iff, decide_eq_false_iff_not] at h
    omega
  | _ => rfl
theorem l_bk_stands (B : BAt S b K R U p kn sh ys ex) {w : Wv} {u : Ty} (hw : tyOf S w = some u) : F_book_stands [.ref b, w] S = .ok (.bl (stB kn w)) S := by
  rw [F_book_stands_eq, b_book_stands]
  have h := l_is_whole_ty hw 0 1000000000
  cases hb : wholeB w 0 1000000000 with
  | false =>
    rw [hb] at h
    simp [h, stB_whole B w hb]
  | true =>
    rw [hb] at h
    cases w with
    | int n => simp [h, B.f1, din_ok B.bg.hk, getW_isSome, stB]
    | _ => cases hb
theorem l_bk_damage (B : BAt S b K R U p kn sh ys ex) {d : Dm} (hd : d ∈ kn) : F_book_damage [.ref b, .int d.2.2.1] S = .ok (dmW d) S := by
  rw [F_book_damage_eq, b_book_damage]
  have h := l_bk_stands B (w := .int d.2.2.1) rfl
  have hm : stB kn (.int d.2.2.1) = true := decide_eq_true (List.mem_map_of_mem (f := fun d : Dm => d.2.2.1) hd)
  rw [hm] at h
  have g : getW (knD kn) (.inl d.2.2.1) = some (dmW d) := by rw [getW_kn, findN_uniq B.nd hd]; rfl
  simp [methK_ok B.bg.hb, h, B.f1, dget_ok B.bg.hk g]
theorem l_bk_damage_no (B : BAt S b K R U p kn sh ys ex) {w : Wv} {u : Ty} (hw : tyOf S w = some u) (hn : stB kn w = false) : F_book_damage [.ref b, w] S = .exc 5 S := by
  rw [F_book_damage_eq, b_book_damage]
  have h := l_bk_stands B hw
  rw [hn] at h
  simp [methK_ok B.bg.hb, h]
theorem l_bk_open (B : BAt S b K R U p kn sh ys ex) (yr : Int) : F_book_need_open [.ref b, .int yr] S = if yr ∈ sh then .exc 6 S else .ok .non S := by
  rw [F_book_need_open_eq, b_book_need_open]
  have h : inIntP false (.int yr) (.ref U) S = .ok (.bl (decide (yr ∈ sh))) S := by
    simp only [inIntP, seqTup, seqOf_ref B.bg.hu, intsOf_map]; rfl
  by_cases hm : yr ∈ sh
  · simp [B.f3, h, hm]
  · simp [B.f3, h, hm]
theorem l_bk_year {w : Wv} {u : Ty} (hw : tyOf S w = some u) : F_book_need_year [.ref b, w] S = if wholeB w 0 9999 = true then .ok .non S else .exc 3 S := by
  rw [F_book_need_year_eq, b_book_need_year]
  have h := l_is_year_ty hw
  cases hb : wholeB w 0 9999 with
  | false => rw [hb] at h; simp [h]
  | true => rw [hb] at h; simp [h]
/-- the year of a damage that stands there -/
theorem BAt.yr_of (B : BAt S b K R U p kn sh ys ex) {d : Dm} (hd : d ∈ kn) : ∃ q ∈ ys, q.1 = d.1 := by
  obtain ⟨q, hq, e⟩ := List.mem_map.mp ((B.ym d.1).mpr ⟨d, hd, rfl⟩)
  exact ⟨q, hq, e⟩
theorem year_wB {yr : Int} (h : 0 ≤ yr ∧ yr ≤ 9999) : wholeB (.int yr) 0 9999 = true := by simp [wholeB, h]
/-- a damage told -/
theorem l_bk_told (B : BAt S b K R U p kn sh ys ex) (hp9 : p.2.length ≤ 9) (hl : kn.length ≤ 800) {d : Dm} (hd : OkDm d) (hs : d.1 ∉ sh) (hn : d.2.2.1 ∉ numsD kn) :
    ∃ S' ys', F_book_told [.ref b, dmW d] S = .ok .non S' ∧ BAt S' b K R U p (kn ++ [d]) sh ys' ex ∧ Fr S S' (mdB K R U ys) ∧ S.length ≤ S'.length ∧ ∀ a ∈ mdB K R U ys', a ∈ mdB K R U ys ∨ S.length ≤ a := by
  have nd' : (numsD (kn ++ [d])).Nodup := by
    rw [numsD, List.map_append, List.nodup_append]
    exact ⟨B.nd, by simp, fun a ha c hc e => hn (by simp at hc; rw [← hc, ← e]; exact ha)⟩
  have ok' : ∀ e ∈ kn ++ [d], OkDm e := fun e he => by
    rcases List.mem_append.mp he with he | he
    · exact B.ok e he
    · rw [List.mem_singleton] at he; rw [he]; exact hd
  obtain ⟨k1, k2, k3'⟩ := mdB_K (K := K) (R := R) (U := U) (ys := ys)
  have hdm := l_is_damage_ok hd S
  have hop := l_bk_open B d.1
  rw [if_neg hs] at hop
  have hin : getW (knD kn) (.inl d.2.2.1) = none := by rw [getW_kn, findN_none hn]; rfl
  have B1 := B.bg.setK (kn ++ [d])
  have f1 : Fr S (S.set K (.dct (knD (kn ++ [d])))) (mdB K R U ys) := Fr.set k1
  have hput : dputM [some (.ref b), some (dmW d)] (.ref K) (.int d.2.2.1) (dmW d) S = .nx [some (.ref b), some (dmW d)] (S.set K (.dct (knD (kn ++ [d])))) := by
    rw [dputM_ref B.bg.hk (by simp [knD]; omega), putW_new hn]
  rw [F_book_told_eq, b_book_told,
    seq_nx (e := [some (.ref b), some (dmW d)]) (S' := S) (by simp [hdm]),
    seq_nx (e := [some (.ref b), some (dmW d)]) (S' := S) (by simp [methK_ok B.bg.hb, hop]),
    seq_nx (e := [some (.ref b), some (dmW d)]) (S' := S) (by simp [B.f1, din_ok B.bg.hk, hin]),
    seq_nx (e := [some (.ref b), some (dmW d)]) (S' := S.set K (.dct (knD (kn ++ [d])))) (by simp [B.f1, hput])]
  generalize hS1 : S.set K (.dct (knD (kn ++ [d]))) = S1 at B1 f1 ⊢
  have l1 : S1.length = S.length := by rw [← hS1, List.length_set]
  -- the year's row stands there
  have key : ∃ (S2 : Sto) (ys2 : Ys) (q : Int × Nat × Nat), sIf (fTest (f2 dnotinP (f2 idxP (fVar 1) (fC (.int 0))) (fFld 1 2 (fVar 0)))) (sDPut (fFld 1 2 (fVar 0)) (f2 idxP (fVar 1) (fC (.int 0))) (fN (newP 0 F_year_init) (fCons (fFld 1 0 (fVar 0)) (fNil)))) (sNil) [some (.ref b), some (dmW d)] S1 = .nx [some (.ref b), some (dmW d)] S2 ∧
      q ∈ ys2 ∧ q.1 = d.1 ∧ BG S2 b K R U p (kn ++ [d]) sh ys2 ex (rowOf kn) ∧ Fr S S2 (mdB K R U ys) ∧ S.length ≤ S2.length ∧ (∀ a ∈ mdB K R U ys2, a ∈ mdB K R U ys ∨ S.length ≤ a) ∧ (∀ yr, yr ∈ ys2.map (·.1) ↔ ∃ e ∈ kn ++ [d], e.1 = yr) := by
    have g0 : fldK 1 0 (.ref b) S1 = .ok (planW p) S1 := fldK_ok B1.hb rfl
    have g2 : fldK 1 2 (.ref b) S1 = .ok (.ref R) S1 := fldK_ok B1.hb rfl
    by_cases hy : d.1 ∈ ys.map (·.1)
    · obtain ⟨q, hq, e⟩ := List.mem_map.mp hy
      have e : q.1 = d.1 := e
      have hg : getW (rowsD ys) (.inl d.1) = some (.ref q.2.1) := by rw [← e]; exact getW_rows B1.yn hq
      refine ⟨S1, ys, q, by simp [g2, dnotin_ok B1.hr, hg], hq, e, B1, f1, by omega, fun a ha => .inl ha, fun yr => ?_⟩
      rw [B.ym yr]
      constructor
      · rintro ⟨x, hx, e2⟩; exact ⟨x, by simp [hx], e2⟩
      · rintro ⟨x, hx, e2⟩
        rcases List.mem_append.mp hx with hx | hx
        · exact ⟨x, hx, e2⟩
        · rw [List.mem_singleton] at hx
          subst hx
          rw [← e2]
          exact (B.ym _).mp hy
    · have hg : getW (rowsD ys) (.inl d.1) = none := getW_rows_none hy
      obtain ⟨S2, n1, n2, n3, n4, n5⟩ := B1.addY hy (rowOf_nil fun e he e2 => hy ((B.ym _).mpr ⟨e, he, e2⟩))
      have hpm : dputM [some (.ref b), some (dmW d)] (.ref R) (.int d.1) (.ref S1.length) S2 = .nx [some (.ref b), some (dmW d)] (S2.set R (.dct (rowsD (ys ++ [(d.1, S1.length, S1.length + 1)])))) := by
        have hyl : ys.length ≤ 1000000 := by
          have h1 : (ys.map (·.1)).length ≤ (kn.map (·.1)).length := by
            refine nodup_len B.bg.yn fun yr hyr => ?_
            obtain ⟨e, he, e2⟩ := (B.ym yr).mp hyr
            rw [← e2]; exact List.mem_map_of_mem (f := fun d : Dm => d.1) he
          simp at h1; omega
        rw [dputM_ref n2 (by simp [rowsD]; omega), putW_rows hy]
      have g2' : fldK 1 2 (.ref b) S2 = .ok (.ref R) S2 := by
        have hb := n3.hb
        have : S2[b]? = some (.ins 1 [planW p, .ref K, .ref R, .ref U]) := by
          rw [List.getElem?_set_ne (fun e => B.bg.bn (by rw [← e]; exact k2))] at hb
          exact hb
        exact fldK_ok this rfl
      refine ⟨_, _, (d.1, S1.length, S1.length + 1), by simp [g2, dnotin_ok B1.hr, hg, g0, n1, g2', hpm], by simp, rfl, n3, f1.trans (n4.weaken fun j hj _ => by rw [List.mem_singleton] at hj; rw [hj]; exact k2), by simp; omega, fun a ha => ?_, fun yr => ?_⟩
      · simp only [mdB, List.map_append, List.map_cons, List.map_nil, List.mem_cons, List.mem_append, List.not_mem_nil, or_false] at ha ⊢
        rcases ha with h | h | h | (h | h) | (h | h)
        all_goals first | (left; simp [h]; done) | (right; omega)
      · rw [List.map_append, List.mem_append, B.ym yr]
        simp only [List.map_cons, List.map_nil, List.mem_singleton]
        constructor
        · rintro (⟨x, hx, e2⟩ | e2)
          · exact ⟨x, by simp [hx], e2⟩
          · exact ⟨d, by simp, e2.symm⟩
        · rintro ⟨x, hx, e2⟩
          rcases List.mem_append.mp hx with hx | hx
          · exact .inl ⟨x, hx, e2⟩
          · rw [List.mem_singleton] at hx
            exact .inr (by rw [← e2, hx])
  obtain ⟨S2, ys2, q, n1, hq, e, B2, f2, l2, m2, ym2⟩ := key
  rw [seq_nx n1]
  obtain ⟨s, hy, -, -⟩ := B2.hy q hq
  have hrl := rowOf_len kn q.1
  obtain ⟨S3, s3, p1, p2, p3, p4, p5⟩ := l_year_put hy hp9 (by omega) d
  have g2 : fldK 1 2 (.ref b) S2 = .ok (.ref R) S2 := fldK_ok B2.hb rfl
  have hg : getW (rowsD ys2) (.inl d.1) = some (.ref q.2.1) := by rw [← e]; exact getW_rows B2.yn hq
  have B3 := B2.step hq p2 p3 p4 p5
  obtain ⟨m1, m3⟩ := mdB_y (K := K) (R := R) (U := U) hq
  refine ⟨S3, ys2, by simp [g2, dget_ok B2.hr hg, methK_ok hy.ho, p1], ⟨B3.rows fun x hx => ?_, ym2, nd', ok'⟩, fun i o hi hni => p3 _ _ (f2 _ _ hi hni) ?_, by omega, m2⟩
  · by_cases ex1 : x.1 = q.1
    · simp only [ex1, if_true]
      rw [e]
      exact rowOf_add nd'
    · simp only [if_neg ex1]
      exact rowOf_add_ne (by rw [← e]; exact ex1)
  · have hlt := (List.getElem?_eq_some_iff.mp hi).1
    simp only [List.mem_cons, List.not_mem_nil, or_false, not_or]
    refine ⟨fun e => ?_, fun e => ?_⟩
    · rcases m2 _ m1 with h | h
      · exact hni (by rw [e]; exact h)
      · omega
    · rcases m2 _ m3 with h | h
      · exact hni (by rw [e]; exact h)
      · omega
/-- a damage of another amount -/
theorem l_bk_change (B : BAt S b K R U p kn sh ys ex) (hp9 : p.2.length ≤ 9) (hl : kn.length ≤ 800) {d : Dm} (hd : d ∈ kn) {am : Int} (ha : 0 ≤ am ∧ am ≤ 1000000000000000) (hs : d.1 ∉ sh) :
    ∃ S', F_book_change [.ref b, .int d.2.2.1, .int am] S = .ok .non S' ∧ BAt S' b K R U p (chgK kn d.2.2.1 am) sh ys ex ∧ Fr S S' (mdB K R U ys) ∧ S.length ≤ S'.length := by
  obtain ⟨k1, k2, k3'⟩ := mdB_K (K := K) (R := R) (U := U) (ys := ys)
  obtain ⟨q, hq, e⟩ := B.yr_of hd
  have hda := l_bk_damage B hd
  have ham := l_is_amount_ty (S := S) (w := .int am) rfl
  have hwb : wholeB (.int am) 0 1000000000000000 = true := by simp [wholeB, ha]
  rw [hwb] at ham
  have hop := l_bk_open B d.1
  rw [if_neg hs] at hop
  have B1 := B.bg.setK (chgK kn d.2.2.1 am)
  have f1 : Fr S (S.set K (.dct (knD (chgK kn d.2.2.1 am)))) (mdB K R U ys) := Fr.set k1
  have hput : dputM [some (.ref b), some (.int d.2.2.1), some (.int am), some (dmW d)] (.ref K) (.int d.2.2.1) (dmW (d.1, d.2.1, d.2.2.1, am)) S = .nx [some (.ref b), some (.int d.2.2.1), some (.int am), some (dmW d)] (S.set K (.dct (knD (chgK kn d.2.2.1 am)))) := by
    rw [dputM_ref B.bg.hk (by simp [knD]; omega), putW_chg B.nd hd]
  have hcat : ∀ S : Sto, (fSl false (fVar 3) (fNoPart) (fPart (fC (.int 3)))) [some (.ref b), some (.int d.2.2.1), some (.int am), some (dmW d)] S = .ok (.tup [.int d.1, .int d.2.1, .int d.2.2.1]) S := fun S => by simp [dmW]
  rw [F_book_change_eq, b_book_change,
    seq_nx (e := [some (.ref b), some (.int d.2.2.1), some (.int am), some (dmW d)]) (S' := S) (by simp [methK_ok B.bg.hb, hda]),
    seq_nx (e := [some (.ref b), some (.int d.2.2.1), some (.int am), some (dmW d)]) (S' := S) (by simp [ham]),
    seq_nx (e := [some (.ref b), some (.int d.2.2.1), some (.int am), some (dmW d)]) (S' := S) (by simp [methK_ok B.bg.hb, hop]),
    seq_nx (e := [some (.ref b), some (.int d.2.2.1), some (.int am), some (dmW d)]) (S' := S.set K (.dct (knD (chgK kn d.2.2.1 am)))) (by
      have hput' := hput
      unfold dmW at hput' hcat
      rw [sDPut_d, f2_d]
      unfold dmW
      rw [hcat]
      simp [tupP_d, lenOk_t, B.f1, hput'])]
  generalize hS1 : S.set K (.dct (knD (chgK kn d.2.2.1 am))) = S1 at B1 f1 ⊢
  have l1 : S1.length = S.length := by rw [← hS1, List.length_set]
  obtain ⟨s, hy, -, -⟩ := B1.hy q hq
  have hm : d ∈ rowOf kn q.1 := rowOf_mem.mpr ⟨hd, e.symm⟩
  have hrl := rowOf_len kn q.1
  obtain ⟨S2, s2, p1, p2, p3, p4, p5⟩ := l_year_drop hy hp9 (by omega) d.2.2.1 (List.mem_map_of_mem (f := fun d : Dm => d.2.2.1) hm)
  have g2 : fldK 1 2 (.ref b) S1 = .ok (.ref R) S1 := fldK_ok B1.hb rfl
  have hg : getW (rowsD ys) (.inl d.1) = some (.ref q.2.1) := by rw [← e]; exact getW_rows B1.yn hq
  have B2 := B1.step hq p2 p3 p4 p5
  have hel := List.length_eraseIdx_le (rowOf kn q.1) ((numsD (rowOf kn q.1)).idxOf d.2.2.1)
  obtain ⟨S3, s3, r1, r2, r3, r4, r5⟩ := l_year_put p2 hp9 (by omega) (d.1, d.2.1, d.2.2.1, am)
  have B3 := B2.step hq r2 r3 r4 r5
  have g1' : fldK 1 1 (.ref b) S2 = .ok (.ref K) S2 := fldK_ok B2.hb rfl
  have g2' : fldK 1 2 (.ref b) S2 = .ok (.ref R) S2 := fldK_ok B2.hb rfl
  have hmc : (d.1, d.2.1, d.2.2.1, am) ∈ chgK kn d.2.2.1 am := List.mem_map.mpr ⟨d, hd, by rw [if_pos rfl]⟩
  have hgk : getW (knD (chgK kn d.2.2.1 am)) (.inl d.2.2.1) = some (dmW (d.1, d.2.1, d.2.2.1, am)) := by
    rw [getW_kn, findN_uniq (kn := chgK kn d.2.2.1 am) (chg_nd B.nd _ _) hmc]; rfl
  rw [seq_nx (e := [some (.ref b), some (.int d.2.2.1), some (.int am), some (dmW d)]) (S' := S2) (by simp [g2, dget_ok B1.hr hg, methK_ok hy.ho, p1])]
  obtain ⟨m1, m3⟩ := mdB_y (K := K) (R := R) (U := U) hq
  refine ⟨S3, by simp [g2', dget_ok B2.hr hg, methK_ok p2.ho, g1', dget_ok B2.hk hgk, r1], ⟨B3.rows fun x hx => ?_, fun yr => ?_, chg_nd B.nd _ _, fun x hx => ?_⟩, ?_, by omega⟩
  · by_cases ex1 : x.1 = q.1
    · simp only [ex1, if_true]
      rw [e]
      exact rowOf_chg B.nd hd am
    · simp only [if_neg ex1]
      exact rowOf_chg_ne B.nd hd am (by rw [← e]; exact ex1)
  · rw [B.ym yr]
    constructor
    · rintro ⟨x, hx, e2⟩
      exact ⟨_, List.mem_map.mpr ⟨x, hx, rfl⟩, by split <;> exact e2⟩
    · rintro ⟨x, hx, e2⟩
      obtain ⟨y, hy, e3⟩ := List.mem_map.mp hx
      refine ⟨y, hy, ?_⟩
      rw [← e2, ← e3]
      split <;> rfl
  · obtain ⟨y, hy, e3⟩ := List.mem_map.mp hx
    have := B.ok y hy
    rw [← e3]
    split
    · exact ⟨this.yr, this.dy, this.nm, ha⟩
    · exact this
  · have w : ∀ j ∈ [q.2.1, q.2.2], j ∈ mdB K R U ys := by
      intro j hj
      simp only [List.mem_cons, List.not_mem_nil, or_false] at hj
      rcases hj with rfl | rfl
      · exact m1
      · exact m3
    exact (f1.trans (p3.weaken fun j hj _ => w j hj)).trans (r3.weaken fun j hj _ => w j hj)
/-- a damage taken back -/
theorem l_bk_back (B : BAt S b K R U p kn sh ys ex) (hp9 : p.2.length ≤ 9) (hl : kn.length ≤ 800) {d : Dm} (hd : d ∈ kn) (hs : d.1 ∉ sh) :
    ∃ S' ys', F_book_back [.ref b, .int d.2.2.1] S = .ok .non S' ∧ BAt S' b K R U p (delK kn d.2.2.1) sh ys' ex ∧ Fr S S' (mdB K R U ys) ∧ S.length ≤ S'.length ∧ ∀ a ∈ mdB K R U ys', a ∈ mdB K R U ys ∨ S.length ≤ a := by
  obtain ⟨k1, k2, k3'⟩ := mdB_K (K := K) (R := R) (U := U) (ys := ys)
  obtain ⟨q, hq, e⟩ := B.yr_of hd
  have hda := l_bk_damage B hd
  have hop := l_bk_open B d.1
  rw [if_neg hs] at hop
  have B1 := B.bg.setK (delK kn d.2.2.1)
  have f1 : Fr S (S.set K (.dct (knD (delK kn d.2.2.1)))) (mdB K R U ys) := Fr.set k1
  have hgk : getW (knD kn) (.inl d.2.2.1) = some (dmW d) := by rw [getW_kn, findN_uniq B.nd hd]; rfl
  have hpop := dpop_ok (n := d.2.2.1) B.bg.hk hgk
  rw [dropW_kn] at hpop
  rw [F_book_back_eq, b_book_back,
    seq_nx (e := [some (.ref b), some (.int d.2.2.1), some (dmW d)]) (S' := S) (by simp [methK_ok B.bg.hb, hda]),
    seq_nx (e := [some (.ref b), some (.int d.2.2.1), some (dmW d)]) (S' := S) (by simp [methK_ok B.bg.hb, hop]),
    seq_nx (e := [some (.ref b), some (.int d.2.2.1), some (dmW d)]) (S' := S.set K (.dct (knD (delK kn d.2.2.1)))) (by simp [B.f1, dpopM_ref B.bg.hk, hpop])]
  generalize hS1 : S.set K (.dct (knD (delK kn d.2.2.1))) = S1 at B1 f1 ⊢
  have l1 : S1.length = S.length := by rw [← hS1, List.length_set]
  obtain ⟨s, hy, -, -⟩ := B1.hy q hq
  have hm : d ∈ rowOf kn q.1 := rowOf_mem.mpr ⟨hd, e.symm⟩
  have hrl := rowOf_len kn q.1
  obtain ⟨S2, s2, p1, p2, p3, p4, p5⟩ := l_year_drop hy hp9 (by omega) d.2.2.1 (List.mem_map_of_mem (f := fun d : Dm => d.2.2.1) hm)
  have g2 : fldK 1 2 (.ref b) S1 = .ok (.ref R) S1 := fldK_ok B1.hb rfl
  have hg : getW (rowsD ys) (.inl d.1) = some (.ref q.2.1) := by rw [← e]; exact getW_rows B1.yn hq
  have B2 := B1.step hq p2 p3 p4 p5
  have erow : (rowOf kn q.1).eraseIdx ((numsD (rowOf kn q.1)).idxOf d.2.2.1) = rowOf (delK kn d.2.2.1) q.1 := by rw [e]; exact (rowOf_del B.nd hd).symm
  rw [erow] at p2 B2
  have B2' : BG S2 b K R U p (delK kn d.2.2.1) sh ys ex (rowOf (delK kn d.2.2.1)) := B2.rows fun x hx => by
    by_cases ex1 : x.1 = q.1
    · simp only [ex1, if_true]
    · simp only [if_neg ex1]
      exact rowOf_del_ne B.nd hd (by rw [← e]; exact ex1)
  have hdms := l_year_damages p2
  generalize hrow : rowOf (delK kn d.2.2.1) q.1 = row' at p2 hdms
  have f3 : Fr S2 (S2 ++ [.lst (row'.map dmW)]) [] := Fr.push
  have n3 : (S2 ++ [Ob.lst (row'.map dmW)])[S2.length]? = some (.lst (row'.map dmW)) := push_new
  have B3 := B2'.push (.lst (row'.map dmW))
  have g2' : fldK 1 2 (.ref b) S2 = .ok (.ref R) S2 := fldK_ok B2.hb rfl
  have g3 : fldK 1 2 (.ref b) (S2 ++ [Ob.lst (row'.map dmW)]) = .ok (.ref R) (S2 ++ [Ob.lst (row'.map dmW)]) := fldK_ok B3.hb rfl
  obtain ⟨m1, m3⟩ := mdB_y (K := K) (R := R) (U := U) hq
  have w : ∀ j ∈ [q.2.1, q.2.2], j ∈ mdB K R U ys := by
    intro j hj
    simp only [List.mem_cons, List.not_mem_nil, or_false] at hj
    rcases hj with rfl | rfl
    · exact m1
    · exact m3
  have f123 : Fr S (S2 ++ [.lst (row'.map dmW)]) (mdB K R U ys) := (f1.trans (p3.weaken fun j hj _ => w j hj)).trans (f3.weaken (by simp))
  have ok' : ∀ x ∈ delK kn d.2.2.1, OkDm x := fun x hx => B.ok x (mem_delK.mp hx).1
  have nd' := nums_filter B.nd fun x => decide (x.2.2.1 ≠ d.2.2.1)
  have hee := eqP_ref (us := []) (deep_ref_nil n3 (dms_okL row'))
  rw [seq_nx (e := [some (.ref b), some (.int d.2.2.1), some (dmW d)]) (S' := S2) (by simp [g2, dget_ok B1.hr hg, methK_ok hy.ho, p1])]
  have hiff : row' = [] ↔ ∀ x ∈ delK kn d.2.2.1, x.1 ≠ d.1 := by
    rw [← hrow, List.eq_nil_iff_forall_not_mem]
    constructor
    · intro h x hx e2; exact h x (rowOf_mem.mpr ⟨hx, by rw [e]; exact e2⟩)
    · intro h x hx
      obtain ⟨h1, h2⟩ := rowOf_mem.mp hx
      exact h x h1 (by rw [h2, e])
  by_cases hr : row' = []
  · have hpop2 := dpop_ok (n := d.1) B3.hr hg
    have hemp : (row'.map dmW).isEmpty = true := by rw [hr]; rfl
    rw [hemp] at hee
    rw [dropW_rows] at hpop2
    have B4 := B3.delY d.1
    refine ⟨_, _, by
      rw [sIf_t (S1 := S2 ++ [Ob.lst (row'.map dmW)]) (by
        simp only [fTest_d, f2_d, fMeth_d, fFld_d, fVar_z, fVar_s, bind_ok, g2', idx_dm0, fC_d, dget_ok B2.hr hg, methK_ok p2.ho, fNil_d, hdms, fN_d, lstP_d (lenOk_t (by simp : ([] : List Wv).length ≤ 1000000)), mkL_f, hee]
        rfl)]
      simp [g3, dpopM_ref B3.hr, hpop2], ⟨B4, fun yr => ?_, nd', ok'⟩, f123.trans (Fr.set k2), by simp; omega, fun a ha => .inl ?_⟩
    · rw [List.mem_map]
      constructor
      · rintro ⟨x, hx, e2⟩
        obtain ⟨h1, h2⟩ := List.mem_filter.mp hx
        obtain ⟨z, hz, e3⟩ := (B.ym yr).mp (List.mem_map.mpr ⟨x, h1, e2⟩)
        refine ⟨z, mem_delK.mpr ⟨hz, fun e4 => ?_⟩, e3⟩
        have := findN_uniq B.nd hz
        rw [e4, findN_uniq B.nd hd] at this
        cases this
        simp only [decide_eq_true_eq] at h2
        exact h2 (by rw [← e3] at e2; exact e2)
      · rintro ⟨z, hz, e3⟩
        obtain ⟨x, hx, e2⟩ := List.mem_map.mp ((B.ym yr).mpr ⟨z, (mem_delK.mp hz).1, e3⟩)
        have e2 : x.1 = yr := e2
        refine ⟨x, List.mem_filter.mpr ⟨hx, ?_⟩, e2⟩
        simp only [decide_eq_true_eq]
        intro e4
        exact hiff.mp hr z hz (by rw [e3, ← e2, e4])
    · simp only [mdB, List.mem_cons, List.mem_append, List.mem_map, List.mem_filter] at ha ⊢
      rcases ha with h | h | h | ⟨x, hx, e⟩ | ⟨x, hx, e⟩
      · exact .inl h
      · exact .inr (.inl h)
      · exact .inr (.inr (.inl h))
      · exact .inr (.inr (.inr (.inl ⟨x, hx.1, e⟩)))
      · exact .inr (.inr (.inr (.inr ⟨x, hx.1, e⟩)))
  · refine ⟨_, ys, by
      rw [sIf_f (S1 := S2 ++ [Ob.lst (row'.map dmW)]) (by
        have : (row'.map dmW).isEmpty = false := by
          cases q2 : row' with
          | nil => exact absurd q2 hr
          | cons _ _ => rfl
        rw [this] at hee
        simp only [fTest_d, f2_d, fMeth_d, fFld_d, fVar_z, fVar_s, bind_ok, g2', idx_dm0, fC_d, dget_ok B2.hr hg, methK_ok p2.ho, fNil_d, hdms, fN_d, lstP_d (lenOk_t (by simp : ([] : List Wv).length ≤ 1000000)), mkL_f, hee]
        rfl)]
      simp, ⟨B3, fun yr => ?_, nd', ok'⟩, f123, by simp; omega, fun a ha => .inl ha⟩
    rw [B.ym yr]
    constructor
    · rintro ⟨z, hz, e3⟩
      by_cases e4 : z.2.2.1 = d.2.2.1
      · have := findN_uniq B.nd hz
        rw [e4, findN_uniq B.nd hd] at this
        cases this
        have : ¬ ∀ x ∈ delK kn d.2.2.1, x.1 ≠ d.1 := fun h => hr (hiff.mpr h)
        obtain ⟨x, h1⟩ := Classical.not_forall.mp this
        obtain ⟨hx, h5⟩ := Classical.not_forall.mp h1
        have e5 := Classical.not_not.mp h5
        exact ⟨x, hx, by rw [e5, e3]⟩
      · exact ⟨z, mem_delK.mpr ⟨hz, e4⟩, e3⟩
    · rintro ⟨z, hz, e3⟩; exact ⟨z, (mem_delK.mp hz).1, e3⟩
end
/-! a book made; closed years; what is read -/
theorem l_bk_new {p : Pl} (hp : OkPlan p) (S : Sto) : ∃ S', newP 1 F_book_init [planW p] S = .ok (.ref S.length) S' ∧ BAt S' S.length (S.length + 1) (S.length + 2) (S.length + 3) p [] [] [] [] ∧ Fr S S' [] ∧ S'.length = S.length + 4 := by
  have hpl := l_is_plan_ok hp
  have hi : F_book_init [.ref S.length, planW p] (S ++ [.ins 1 []]) = .ok .non (S ++ [.ins 1 [planW p, .ref (S.length + 1), .ref (S.length + 2), .ref (S.length + 3)], .dct [], .dct [], .lst []]) := by
    rw [F_book_init_eq, b_book_init]
    have h0 : (S ++ [Ob.ins 1 []])[S.length]? = some (.ins 1 []) := push_new
    have e1 : (S ++ [Ob.ins 1 []]).set S.length (.ins 1 [planW p]) = S ++ [.ins 1 [planW p]] := by simp
    have h1 : (S ++ [Ob.ins 1 [planW p]] ++ [Ob.dct []])[S.length]? = some (.ins 1 [planW p]) := push_old push_new
    have e2 : (S ++ [Ob.ins 1 [planW p]] ++ [Ob.dct []]).set S.length (.ins 1 [planW p, .ref (S.length + 1)]) = S ++ [.ins 1 [planW p, .ref (S.length + 1)]] ++ [.dct []] := by simp
    have h2 : (S ++ [Ob.ins 1 [planW p, .ref (S.length + 1)]] ++ [Ob.dct []] ++ [Ob.dct []])[S.length]? = some (.ins 1 [planW p, .ref (S.length + 1)]) := push_old (push_old push_new)
    have e3 : (S ++ [Ob.ins 1 [planW p, .ref (S.length + 1)]] ++ [Ob.dct []] ++ [Ob.dct []]).set S.length (.ins 1 [planW p, .ref (S.length + 1), .ref (S.length + 2)]) = S ++ [.ins 1 [planW p, .ref (S.length + 1), .ref (S.length + 2)]] ++ [.dct []] ++ [.dct []] := by simp
    have h3 : (S ++ [Ob.ins 1 [planW p, .ref (S.length + 1), .ref (S.length + 2)]] ++ [Ob.dct []] ++ [Ob.dct []] ++ [Ob.lst []])[S.length]? = some (.ins 1 [planW p, .ref (S.length + 1), .ref (S.length + 2)]) := push_old (push_old (push_old push_new))
    rw [seq_nx (e := [some (.ref S.length), some (planW p)]) (S' := S ++ [.ins 1 []]) (by simp [hpl]),
      seq_nx (e := [some (.ref S.length), some (planW p)]) (S' := S ++ [.ins 1 [planW p]]) (by
        simp only [sFld_d, fVar_s, fVar_z, thn_ok]
        rw [sfldK_new (i := 0) h0 rfl, List.nil_append, e1]),
      seq_nx (e := [some (.ref S.length), some (planW p)]) (S' := S ++ [.ins 1 [planW p, .ref (S.length + 1)]] ++ [.dct []]) (by
        simp only [sFld_d, fVar_s, fVar_z, thn_ok, fDNew_d]
        rw [sfldK_new (i := 1) h1 rfl]
        rw [show ([planW p] ++ [Wv.ref (S ++ [Ob.ins 1 [planW p]]).length]) = [planW p, .ref (S.length + 1)] by simp, e2]),
      seq_nx (e := [some (.ref S.length), some (planW p)]) (S' := S ++ [.ins 1 [planW p, .ref (S.length + 1), .ref (S.length + 2)]] ++ [.dct []] ++ [.dct []]) (by
        simp only [sFld_d, fVar_s, fVar_z, thn_ok, fDNew_d]
        rw [sfldK_new (i := 2) h2 rfl]
        rw [show ([planW p, Wv.ref (S.length + 1)] ++ [Wv.ref (S ++ [Ob.ins 1 [planW p, .ref (S.length + 1)]] ++ [Ob.dct []]).length]) = [planW p, .ref (S.length + 1), .ref (S.length + 2)] by simp, e3])]
    simp only [sFld_d, fVar_s, fVar_z, thn_ok, fN_d, fNil_d, bind_ok]
    rw [lstP_d (lenOk_t (by simp)), mkL_t, thn_ok, sfldK_new (i := 3) h3 rfl]
    simp
  refine ⟨S ++ [.ins 1 [planW p, .ref (S.length + 1), .ref (S.length + 2), .ref (S.length + 3)], .dct [], .dct [], .lst []], ?_, ⟨⟨by simp, by simp [knD], by simp [rowsD], by simp, fun q hq => (by cases hq), by simp, by simp [mdB], (by simp [mdB]), fun a ha => (by cases ha)⟩, fun yr => by simp, by simp [numsD], fun d hd => (by cases hd)⟩, fun i o hi _ => ?_, by simp⟩
  · simp only [newP, hi, bind_ok]
  · rw [List.getElem?_append_left (List.getElem?_eq_some_iff.mp hi).1]; exact hi
section
variable {S S' : Sto} {b K R U : Nat} {p : Pl} {kn : List Dm} {sh : List Int} {ys : Ys} {ex : List Nat}
theorem BAt.setU (B : BAt S b K R U p kn sh ys ex) (sh' : List Int) : BAt (S.set U (.lst (sh'.map .int))) b K R U p kn sh' ys ex := ⟨B.bg.setU sh', B.ym, B.nd, B.ok⟩
theorem l_bk_close (B : BAt S b K R U p kn sh ys ex) {yr : Int} (hy : 0 ≤ yr ∧ yr ≤ 9999) (hs : yr ∉ sh) (hl : sh.length ≤ 1000) :
    F_book_close [.ref b, .int yr] S = .ok .non (S.set U (.lst ((sh ++ [yr]).map .int))) := by
  rw [F_book_close_eq, b_book_close]
  have h1 := l_bk_year (b := b) (S := S) (w := .int yr) rfl
  rw [if_pos (year_wB hy)] at h1
  have h2 := l_bk_open B yr
  rw [if_neg hs] at h2
  have h3 := app_ref (x := .int yr) B.bg.hu (lenOk_t (by rw [List.length_map]; omega))
  rw [seq_nx (e := [some (.ref b), some (.int yr)]) (S' := S) (by simp [methK_ok B.bg.hb, h1]), seq_nx (e := [some (.ref b), some (.int yr)]) (S' := S) (by simp [methK_ok B.bg.hb, h2])]
  simp [B.f3, tyOf_ref B.bg.hu, h3]
theorem rem_ref {S : Sto} {k : Nat} {ns : List Int} {n : Int} (h : S[k]? = some (.lst (ns.map .int))) (hn : n ∈ ns) : remP (.ref k) [.int n] S = .ok .non (S.set k (.lst ((ns.erase n).map .int))) := by
  rw [List.erase_eq_eraseIdx_of_idxOf rfl]
  simp only [remP, liveL_ref h, intsOf_map, hn, if_true]
theorem l_bk_reopen (B : BAt S b K R U p kn sh ys ex) {yr : Int} (hy : 0 ≤ yr ∧ yr ≤ 9999) (hs : yr ∈ sh) : F_book_reopen [.ref b, .int yr] S = .ok .non (S.set U (.lst ((sh.erase yr).map .int))) := by
  rw [F_book_reopen_eq, b_book_reopen]
  have h1 := l_bk_year (b := b) (S := S) (w := .int yr) rfl
  rw [if_pos (year_wB hy)] at h1
  have h : inIntP true (.int yr) (.ref U) S = .ok (.bl false) S := by
    simp only [inIntP, seqTup, seqOf_ref B.bg.hu, intsOf_map]
    simp [hs]
  rw [seq_nx (e := [some (.ref b), some (.int yr)]) (S' := S) (by simp [methK_ok B.bg.hb, h1]), seq_nx (e := [some (.ref b), some (.int yr)]) (S' := S) (by simp [B.f3, h])]
  simp [B.f3, tyOf_ref B.bg.hu, rem_ref B.bg.hu hs]
/-- what was used ahead of a damage -/
def usAt (p : Pl) (kn : List Dm) (d : Dm) : List Int := usedF p (u0 p) ((rowOf kn d.1).take ((numsD (rowOf kn d.1)).idxOf d.2.2.1))
theorem usAt_len {p : Pl} {kn : List Dm} {d : Dm} : (usAt p kn d).length = p.2.length := usedF_len _ _ (by simp [u0])
/-- the year of a damage, as it stands -/
theorem BAt.year (B : BAt S b K R U p kn sh ys ex) {d : Dm} (hd : d ∈ kn) : ∃ (q : Int × Nat × Nat) (s : Nat), q ∈ ys ∧ q.1 = d.1 ∧ getW (rowsD ys) (.inl d.1) = some (.ref q.2.1) ∧ YAt S q.2.1 q.2.2 s p (rowOf kn d.1) (stepsF p (u0 p) (rowOf kn d.1)) ∧
    d.2.2.1 ∈ numsD (rowOf kn d.1) ∧ (rowOf kn d.1)[(numsD (rowOf kn d.1)).idxOf d.2.2.1]? = some d := by
  obtain ⟨q, hq, e⟩ := B.yr_of hd
  obtain ⟨s, hy, -, -⟩ := B.bg.hy q hq
  rw [e] at hy
  have hm : d ∈ rowOf kn d.1 := rowOf_mem.mpr ⟨hd, rfl⟩
  have hn : d.2.2.1 ∈ numsD (rowOf kn d.1) := List.mem_map_of_mem (f := fun d : Dm => d.2.2.1) hm
  obtain ⟨x, hx, e2⟩ := at_num hn
  have hxk := (rowOf_mem.mp (List.mem_of_getElem? hx)).1
  have := findN_uniq B.nd hxk
  rw [e2, findN_uniq B.nd hd] at this
  cases this
  exact ⟨q, s, hq, e, by rw [← e]; exact getW_rows B.bg.yn hq, hy, hn, hx⟩
theorem l_bk_share (B : BAt S b K R U p kn sh ys ex) (hl : kn.length ≤ 800) {d : Dm} (hd : d ∈ kn) :
    F_book_share [.ref b, .int d.2.2.1] S = .ok (.tup [.int (ownI p d.2.2.2), .ref S.length, .int (leftI p (usAt p kn d) d.2.2.2)]) (S ++ [.lst ((payI p (usAt p kn d) d.2.2.2).map .int)]) := by
  obtain ⟨q, s, hq, e, hg, hy, hn, hx⟩ := B.year hd
  have hrl := rowOf_len kn d.1
  have h := l_year_share hy (by omega) rfl hn hx
  simp only at h
  rw [F_book_share_eq, b_book_share]
  have h' : F_year_share [.ref q.2.1, .int d.2.2.1] S = .ok (.tup [.int (ownI p d.2.2.2), .ref S.length, .int (leftI p (usAt p kn d) d.2.2.2)]) (S ++ [.lst ((payI p (usAt p kn d) d.2.2.2).map .int)]) := h
  simp [methK_ok B.bg.hb, l_bk_damage B hd, B.f2, dget_ok B.bg.hr hg, methK_ok hy.ho, h']
theorem l_bk_trail (B : BAt S b K R U p kn sh ys ex) (hp9 : p.2.length ≤ 9) (hl : kn.length ≤ 800) {d : Dm} (hd : d ∈ kn) :
    F_book_trail [.ref b, .int d.2.2.1] S = .ok (.ref S.length) (S ++ [.lst (List.zipWith (fun a b => Wv.tup [.int a, .int b, .int (a + b)]) (usAt p kn d) (payI p (usAt p kn d) d.2.2.2))]) := by
  obtain ⟨q, s, hq, e, hg, hy, hn, hx⟩ := B.year hd
  have hrl := rowOf_len kn d.1
  have h := l_year_trail hy (by omega) hp9 rfl hn hx
  simp only at h
  rw [F_book_trail_eq, b_book_trail]
  have h' : F_year_trail [.ref q.2.1, .int d.2.2.1] S = .ok (.ref S.length) (S ++ [.lst (List.zipWith (fun a b => Wv.tup [.int a, .int b, .int (a + b)]) (usAt p kn d) (payI p (usAt p kn d) d.2.2.2))]) := h
  simp [methK_ok B.bg.hb, l_bk_damage B hd, B.f2, dget_ok B.bg.hr hg, methK_ok hy.ho, h']
/-- the row of a year, one that stands there or a new one -/
theorem l_bk_row_of (B : BAt S b K R U p kn sh ys ex) {yr : Int} (hy : 0 ≤ yr ∧ yr ≤ 9999) :
    ∃ S' y r s, F_book_row_of [.ref b, .int yr] S = .ok (.ref y) S' ∧ YAt S' y r s p (rowOf kn yr) (stepsF p (u0 p) (rowOf kn yr)) ∧ Fr S S' [] ∧ S'.length = S.length + 3 := by
  have h1 := l_bk_year (b := b) (S := S) (w := .int yr) rfl
  rw [if_pos (year_wB hy)] at h1
  have hn := l_year_new p S
  have hya := yat_new p S
  rw [F_book_row_of_eq, b_book_row_of, seq_nx (e := [some (.ref b), some (.int yr)]) (S' := S) (by simp [methK_ok B.bg.hb, h1])]
  generalize hS1 : S ++ [.ins 0 [planW p, .ref (S.length + 1), .ref (S.length + 2)], .lst [], .lst []] = S1 at hn hya
  have l1 : S1.length = S.length + 3 := by rw [← hS1]; simp
  have f1 : Fr S S1 [] := fun i o hi _ => by rw [← hS1, List.getElem?_append_left (List.getElem?_eq_some_iff.mp hi).1]; exact hi
  have B1 := B.fr0 f1 (by omega)
  have hr1 : dget2K (.ref R) (.int yr) (.ref S.length) S1 = .ok ((getW (rowsD ys) (.inl yr)).getD (.ref S.length)) S1 := dget2_ok B1.bg.hr
  have main : (sRet (fDGet2 (fFld 1 2 (fVar 0)) (fVar 1) (fN (newP 0 F_year_init) (fCons (fFld 1 0 (fVar 0)) (fNil))))) [some (.ref b), some (.int yr)] S = .rt ((getW (rowsD ys) (.inl yr)).getD (.ref S.length)) S1 := by
    simp [B.f2, dget2M_ref B.bg.hr, B.f0, hn, hr1]
  rw [main]
  by_cases hm : yr ∈ ys.map (·.1)
  · obtain ⟨q, hq, e⟩ := List.mem_map.mp hm
    have e : q.1 = yr := e
    obtain ⟨s, hy2, -, -⟩ := B1.bg.hy q hq
    rw [← e, getW_rows B.bg.yn hq]
    exact ⟨S1, q.2.1, q.2.2, s, rfl, hy2, f1, l1⟩
  · rw [getW_rows_none hm]
    have hr : rowOf kn yr = [] := rowOf_nil fun d hd e => hm ((B.ym yr).mpr ⟨d, hd, e⟩)
    rw [hr]
    exact ⟨S1, _, _, _, rfl, hya, f1, l1⟩
theorem l_bk_damages (B : BAt S b K R U p kn sh ys ex) {yr : Int} (hy : 0 ≤ yr ∧ yr ≤ 9999) :
    ∃ S', F_book_damages [.ref b, .int yr] S = .ok (.ref (S.length + 3)) S' ∧ S'[S.length + 3]? = some (.lst ((rowOf kn yr).map dmW)) ∧ Fr S S' [] ∧ S'.length = S.length + 4 := by
  obtain ⟨S1, y, r, s, e, hy2, f, l⟩ := l_bk_row_of B hy
  have h := l_year_damages hy2
  rw [F_book_damages_eq, b_book_damages]
  refine ⟨S1 ++ [.lst ((rowOf kn yr).map dmW)], by simp [methK_ok B.bg.hb, e, methK_ok hy2.ho, h, l], by rw [← l]; exact push_new, f.trans Fr.push, by simp [l]⟩
theorem l_bk_used (B : BAt S b K R U p kn sh ys ex) (hp9 : p.2.length ≤ 9) {yr : Int} (hy : 0 ≤ yr ∧ yr ≤ 9999) :
    ∃ S', F_book_used [.ref b, .int yr] S = .ok (.ref (S.length + 3)) S' ∧ S'[S.length + 3]? = some (.lst ((usedF p (u0 p) (rowOf kn yr)).map .int)) ∧ Fr S S' [] ∧ S'.length = S.length + 4 := by
  obtain ⟨S1, y, r, s, e, hy2, f, l⟩ := l_bk_row_of B hy
  have h := l_year_used hy2 hp9
  rw [F_book_used_eq, b_book_used]
  refine ⟨S1 ++ [.lst ((usedF p (u0 p) (rowOf kn yr)).map .int)], by simp [methK_ok B.bg.hb, e, methK_ok hy2.ho, h, l], by rw [← l]; exact push_new, f.trans Fr.push, by simp [l]⟩
theorem keysI_rows : ∀ ys : Ys, keysI (rowsD ys) = some (ys.map (·.1))
  | [] => rfl
  | q :: ys => by
    have ih := keysI_rows ys
    show (keysI (rowsD ys)).map _ = _
    rw [ih]; rfl
/-- the years that have damages -/
def yearsI (kn : List Dm) : List Int := uniqI (kn.map (·.1))
theorem mem_uniqI {k : Int} {ns : List Int} : k ∈ uniqI ns ↔ k ∈ ns := by
  unfold uniqI
  rw [(sortI_perm _).mem_iff, mem_ddp]
theorem ddp_len : ∀ ns : List Int, (ddp ns).length ≤ ns.length
  | [] => Nat.le_refl _
  | a :: r => by
    have := ddp_len r
    unfold ddp
    split
    · simp; omega
    · simp; omega
theorem yearsI_len (kn : List Dm) : (yearsI kn).length ≤ kn.length := by
  unfold yearsI uniqI
  rw [(sortI_perm _).length_eq]
  have := ddp_len (kn.map (·.1))
  simpa using this
theorem sort_ys (B : BAt S b K R U p kn sh ys ex) : sortI (ys.map (·.1)) = yearsI kn := by
  refine uniqI_eq ?_ fun k => ?_
  · have h1 := sortI_le (ys.map (·.1))
    have h2 : (sortI (ys.map (·.1))).Nodup := ((sortI_perm _).nodup_iff).mpr B.bg.yn
    exact (h1.and h2).imp fun h => by omega
  · rw [(sortI_perm _).mem_iff, B.ym k]
    simp
theorem ys_len (B : BAt S b K R U p kn sh ys ex) : ys.length ≤ kn.length := by
  have h1 : (ys.map (·.1)).length ≤ (kn.map (·.1)).length := by
    refine nodup_len B.bg.yn fun yr hyr => ?_
    obtain ⟨e, he, e2⟩ := (B.ym yr).mp hyr
    rw [← e2]; exact List.mem_map_of_mem (f := fun d : Dm => d.1) he
  simpa using h1
theorem l_bk_years (B : BAt S b K R U p kn sh ys ex) (hl : kn.length < 64) : F_book_years [.ref b] S = .ok (.ref S.length) (S ++ [.lst ((yearsI kn).map .int)]) := by
  rw [F_book_years_eq, b_book_years]
  have := ys_len B
  have h : sortedDP true [.ref R] S = .ok (.ref S.length) (S ++ [.lst ((yearsI kn).map .int)]) := by
    simp only [sortedDP, dctOf_ref B.bg.hr, keysI_rows, List.length_map]
    rw [if_pos (by omega), sort_ys B, mkL_t]
  simp [B.f2, h]
end
theorem partsF_sum (p tot : Int) : ∀ (ws : List Int) (a t : Int) (c : Nat), c ≤ ws.length → t + ((partsF p tot ws a t).take c).sum = if c = 0 then t else p * (a + (ws.take c).sum) / tot
  | ws, a, t, 0, h => by simp
  | w :: r, a, t, c + 1, h => by
    have ih := partsF_sum p tot r (a + w) (t + (p * (a + w) / tot - t)) c (by simpa using h)
    rw [if_neg (by omega)]
    simp only [partsF, List.take_succ_cons, List.sum_cons]
    by_cases hc : c = 0
    · subst hc; simp; omega
    · rw [if_neg hc] at ih
      rw [← Int.add_assoc a w, ← ih]; omega
theorem parts_sum (p : Int) (ws : List Int) (c : Nat) (h : c < ws.length) : ((parts p ws).take (c + 1)).sum = p * (ws.take (c + 1)).sum / ws.sum := by
  have := partsF_sum p ws.sum ws 0 0 (c + 1) (by omega)
  rw [if_neg (by omega)] at this
  simpa [parts] using this
theorem partsF_nn (p tot : Int) (hp : 0 ≤ p) (ht : 0 < tot) : ∀ (ws : List Int) (a t : Int), (∀ w ∈ ws, 1 ≤ w) → t = p * a / tot → ∀ x ∈ partsF p tot ws a t, 0 ≤ x
  | [], _, _, _, _, x, h => by simp [partsF] at h
  | w :: r, a, t, hw, e, x, h => by
    simp only [partsF, List.mem_cons] at h
    rcases h with rfl | h
    · have h1 : 1 ≤ w := hw w (by simp)
      have : p * a / tot ≤ p * (a + w) / tot := Int.ediv_le_ediv ht (Int.mul_le_mul_of_nonneg_left (by omega) hp)
      omega
    · exact partsF_nn p tot hp ht r _ _ (fun w h => hw w (by simp [h])) (by omega) x h
theorem parts_nn (p : Int) (ws : List Int) (hp : 0 ≤ p) (ht : 0 < ws.sum) (hw : ∀ w ∈ ws, 1 ≤ w) : ∀ x ∈ parts p ws, 0 ≤ x := partsF_nn p ws.sum hp ht ws 0 0 hw (by simp)
theorem sum_b {M : Int} : ∀ {ws : List Int}, (∀ w ∈ ws, 1 ≤ w ∧ w ≤ M) → (ws.length : Int) ≤ ws.sum ∧ ws.sum ≤ M * ws.length
  | [], _ => by simp
  | w :: r, h => by
    have h1 := sum_b (M := M) (ws := r) fun w hw => h w (by simp [hw])
    have h2 := h w (by simp)
    simp only [List.sum_cons, List.length_cons, Int.natCast_add, Int.mul_add]
    omega
theorem okU0 {p : Pl} (hp : OkPlan p) : OkUsed p.2 (u0 p) := ⟨by simp [u0], fun i l u h1 h2 => by
  have : u = 0 := by
    have := List.mem_of_getElem? h2
    simp only [u0] at this
    exact List.eq_of_mem_replicate this
  have := (hp.lay l (List.mem_of_getElem? h1)).year
  omega⟩
theorem pay_room {p : Pl} {us : List Int} {a : Int} {i : Nat} {l : Lay} {u : Int} (hu : us.length = p.2.length) (h1 : p.2[i]? = some l) (h2 : us[i]? = some u) : ∃ q, (payI p us a)[i]? = some q ∧ q ≤ roomI l u ∧ q ≤ l.1 ∧ q ≤ l.2.1 - u ∧ (q < roomI l u → ((payI p us a).drop (i + 1)).sum + leftI p us a ≤ 0) := by
  have hr := roomsI_at h1 h2
  have hi := (List.getElem?_eq_some_iff.mp hr).1
  have hg := gr_at (roomsI p.2 us) (a - ownI p a) i hi
  have e : (roomsI p.2 us)[i] = roomI l u := by
    rw [List.getElem?_eq_getElem hi] at hr
    exact Option.some.inj hr
  rw [e] at hg
  have hc := min2_c (a - ownI p a - ((gr (roomsI p.2 us) (a - ownI p a)).take i).sum) (roomI l u)
  have hc2 : (roomI l u = l.1 ∧ l.1 ≤ l.2.1 - u) ∨ (roomI l u = l.2.1 - u ∧ l.2.1 - u < l.1) := min2_c l.1 (l.2.1 - u)
  generalize roomI l u = rm at *
  refine ⟨_, hg, by omega, by omega, by omega, fun hlt => ?_⟩
  have hs := sum_split (payI p us a) (i + 1)
  have ht := take_succ_sum hg
  unfold leftI
  unfold payI at hs ⊢
  generalize gr (roomsI p.2 us) (a - ownI p a) = P at *
  omega
theorem pay_nn {p : Pl} (hp : OkPlan p) {us : List Int} (hu : OkUsed p.2 us) {a : Int} (ha : 0 ≤ a) : (∀ x ∈ payI p us a, 0 ≤ x) ∧ (payI p us a).sum ≤ a - ownI p a ∧ 0 ≤ ownI p a ∧ ownI p a ≤ p.1 ∧ 0 ≤ leftI p us a ∧ 0 ≤ a - ownI p a := by
  have h0 := hp.own
  have hc := min2_c a p.1
  have h1 : 0 ≤ a - ownI p a := by simp only [ownI]; omega
  have h2 := gr_nn (roomsI p.2 us) (a - ownI p a) h1 (rooms_nn hp.lay hu)
  refine ⟨h2.1, h2.2, by simp only [ownI]; omega, by simp only [ownI]; omega, ?_, h1⟩
  have := h2.2
  unfold leftI payI
  omega
theorem sum_nn : ∀ xs : List Int, (∀ x ∈ xs, 0 ≤ x) → 0 ≤ xs.sum
  | [], _ => by simp
  | x :: xs, h => by
    have := sum_nn xs fun y hy => h y (by simp [hy])
    have := h x (by simp)
    rw [List.sum_cons]; omega
theorem le_sum : ∀ (xs : List Int), (∀ x ∈ xs, 0 ≤ x) → ∀ x ∈ xs, x ≤ xs.sum
  | y :: xs, h, x, hx => by
    have h1 := sum_nn xs fun z hz => h z (by simp [hz])
    have h2 := h y (by simp)
    rw [List.sum_cons]
    rcases List.mem_cons.mp hx with rfl | hx
    · omega
    · have := le_sum xs (fun z hz => h z (by simp [hz])) x hx
      omega
theorem nextU_ok {p : Pl} (hp : OkPlan p) {us : List Int} (hu : OkUsed p.2 us) {a : Int} (ha : 0 ≤ a) : OkUsed p.2 (nextU p us a) := ⟨nextU_len hu.len, fun i l v h1 h2 => by
  have hi := (List.getElem?_eq_some_iff.mp h1).1
  have h3 : us[i]? = some (us[i]'(by rw [hu.len]; exact hi)) := List.getElem?_eq_getElem _
  generalize us[i]'(by rw [hu.len]; exact hi) = u at h3
  obtain ⟨q, g1, g2, g3, g4, -⟩ := pay_room (a := a) hu.len h1 h3
  have hb := hu.b i l u h1 h3
  have hn := (pay_nn hp hu ha).1 q (List.mem_of_getElem? g1)
  rw [nextU, List.getElem?_zipWith, h3, g1] at h2
  have : v = u + q := (Option.some.inj h2).symm
  omega⟩
theorem usedF_ok {p : Pl} (hp : OkPlan p) : ∀ (ds : List Dm) (us : List Int), OkUsed p.2 us → (∀ d ∈ ds, 0 ≤ d.2.2.2) → OkUsed p.2 (usedF p us ds)
  | [], _, h, _ => h
  | d :: ds, us, h, hd => usedF_ok hp ds _ (nextU_ok hp h (hd d (by simp))) fun e he => hd e (by simp [he])
theorem usAt_ok {p : Pl} (hp : OkPlan p) {kn : List Dm} (ok : ∀ d ∈ kn, OkDm d) (d : Dm) : OkUsed p.2 (usAt p kn d) := usedF_ok hp _ _ (okU0 hp) fun e he => (ok e (rowOf_mem.mp (List.mem_of_mem_take he)).1).am.1
/-- what the covers of each layer pay -/
def partsAt (p : Pl) (ps : List Int) : List (List Int) := List.zipWith (fun (q : Int) (l : Lay) => parts q l.2.2) ps p.2
theorem wts_sum {l : Lay} (h : OkLay l) : 0 < l.2.2.sum ∧ l.2.2.sum < 1073741824 ∧ l.2.2.length ≤ 9 := by
  have h1 := sum_b (M := 1000000) (ws := l.2.2) h.wts
  have h2 := h.len
  omega
theorem parts_all {q : Int} {l : Lay} (h : OkLay l) (hq : 0 ≤ q) : (parts q l.2.2).sum = q ∧ (∀ x ∈ parts q l.2.2, 0 ≤ x) ∧ (parts q l.2.2).length = l.2.2.length := by
  have hw := wts_sum h
  have hl := h.len
  have h1 := parts_sum q l.2.2 (l.2.2.length - 1) (by omega)
  have e : l.2.2.length - 1 + 1 = l.2.2.length := by omega
  have hpl : (parts q l.2.2).length = l.2.2.length := partsF_len _ _ _ _ _
  rw [e, List.take_length, List.take_of_length_le (by omega), Int.mul_ediv_cancel _ (by omega)] at h1
  exact ⟨h1, parts_nn q l.2.2 hq hw.1 fun w hw => (h.wts w hw).1, hpl⟩
theorem l_bk_parts {S : Sto} {b K R U : Nat} {p : Pl} {kn : List Dm} {sh : List Int} {ys : Ys} {ex : List Nat} (B : BAt S b K R U p kn sh ys ex) (hp : OkPlan p) (hl : kn.length ≤ 800) {d : Dm} (hd : d ∈ kn) :
    ∃ S', F_book_parts [.ref b, .int d.2.2.1] S = .ok (.ref (S.length + 1 + p.2.length)) S' ∧ Fr S S' [] ∧ S'.length = S.length + 2 + p.2.length ∧ S'[S.length + 1 + p.2.length]? = some (.lst ((List.range p.2.length).map fun i => .ref (S.length + 1 + i))) ∧
      ∀ i ps, (partsAt p (payI p (usAt p kn d) d.2.2.2))[i]? = some ps → S'[S.length + 1 + i]? = some (.lst (ps.map .int)) := by
  have hsh := l_bk_share B hl hd
  have hok := usAt_ok hp B.ok d
  have ham := (B.ok d hd).am
  have hpn := pay_nn hp hok ham.1
  have hpl : (payI p (usAt p kn d) d.2.2.2).length = p.2.length := payI_len usAt_len
  generalize hP : payI p (usAt p kn d) d.2.2.2 = P at *
  have hle : ∀ x ∈ P, 0 ≤ x ∧ x ≤ 1000000000000000 := fun x hx => by
    have := le_sum P hpn.1 x hx
    have := hpn.1 x hx
    omega
  have f1 : Fr S (S ++ [Ob.lst (P.map .int)]) [] := Fr.push
  have n1 : (S ++ [Ob.lst (P.map .int)])[S.length]? = some (.lst (P.map .int)) := push_new
  have f2 : Fr S ((S ++ [Ob.lst (P.map .int)]).set S.length Ob.dead) [] := fun i o hi hn => set_other (f1 _ _ hi hn) (by have := (List.getElem?_eq_some_iff.mp hi).1; omega)
  have B2 := B.fr0 f2 (by simp)
  rw [F_book_parts_eq, b_book_parts, seq_nx (e := [some (.ref b), some (.int d.2.2.1), some (.ref S.length), none, none]) (S' := S ++ [Ob.lst (P.map .int)]) (by simp [methK_ok B.bg.hb, hsh]),
    seq_nx (e := [some (.ref b), some (.int d.2.2.1), some (.lst (P.map .int)), none, none]) (S' := (S ++ [Ob.lst (P.map .int)]).set S.length Ob.dead) (by rw [sFrz_ref (k := S.length) rfl n1]; rfl)]
  have g0 : fldK 1 0 (.ref b) ((S ++ [Ob.lst (P.map .int)]).set S.length Ob.dead) = .ok (planW p) ((S ++ [Ob.lst (P.map .int)]).set S.length Ob.dead) := fldK_ok B2.bg.hb rfl
  have l2 : ((S ++ [Ob.lst (P.map .int)]).set S.length Ob.dead).length = S.length + 1 := by simp
  generalize (S ++ [Ob.lst (P.map .int)]).set S.length Ob.dead = S2 at *
  have hz : ∀ (i : Nat) (w : Wv), (zipW (P.map .int) (p.2.map layW))[i]? = some w → ∃ q l, P[i]? = some q ∧ p.2[i]? = some l ∧ w = .tup [.int q, layW l] := fun i w h => by
    obtain ⟨x, y, hx, hy, e⟩ := zipW_at h
    rw [List.getElem?_map] at hx hy
    obtain ⟨q, h1, rfl⟩ := Option.map_eq_some_iff.mp hx
    obtain ⟨l, h2, rfl⟩ := Option.map_eq_some_iff.mp hy
    exact ⟨q, l, h1, h2, e⟩
  have hzl : (zipW (P.map .int) (p.2.map layW)).length = p.2.length := by rw [zipW_len]; simp; omega
  obtain ⟨S3, e3, l3, f3, a3⟩ := lc_ix (tg := tgTup [3, 4]) (elt := b_book_parts_c1) (env0 := wipeE [some (.ref b), some (.int d.2.2.1), some (.lst (P.map .int)), none, none] [3, 4]) (ws := zipW (P.map .int) (p.2.map layW)) (S := S2) (fun i => .ref (S2.length + i))
    (fun i S' => S'.length = S2.length + i ∧ Fr S2 S' [] ∧ ∀ j ps, j < i → (partsAt p P)[j]? = some ps → S'[S2.length + j]? = some (.lst (ps.map .int))) ⟨rfl, Fr.refl _ _, fun j ps hj => absurd hj (by omega)⟩ (by
      rintro i w S' hw ⟨h1, h2, h3⟩
      obtain ⟨q, l, hq, hl2, rfl⟩ := hz i w hw
      have hlay := hp.lay l (List.mem_of_getElem? hl2)
      have hws := wts_sum hlay
      have hqb := hle q (List.mem_of_getElem? hq)
      have hsp := l_split q l.2.2 S' hws.1 hws.2.1 (by omega) (by omega)
      refine ⟨[some (.ref b), some (.int d.2.2.1), some (.lst (P.map .int)), some (.int q), some (layW l)], rfl, S' ++ [Ob.lst ((parts q l.2.2).map .int)], by simp [b_book_parts_c1, wipeE, layW, hsp, h1], by simp [h1]; omega, h2.trans Fr.push, fun j ps hj hps => ?_⟩
      by_cases e : j = i
      · subst e
        have : (partsAt p P)[j]? = some (parts q l.2.2) := by rw [partsAt, List.getElem?_zipWith, hq, hl2]
        rw [this] at hps
        cases hps
        rw [← h1]; exact push_new
      · exact push_old (h3 j ps (by omega) hps))
  rw [hzl] at e3 l3 a3
  have hlz : lenOk (zipW (P.map .int) (p.2.map layW)).length = true := lenOk_t (by rw [hzl]; have := hp.len; omega)
  refine ⟨S3 ++ [Ob.lst ((List.range p.2.length).map fun i => .ref (S2.length + i))], ?_, f2.trans (f3.trans Fr.push), by simp [l3, l2]; omega, ?_, fun i ps hps => ?_⟩
  · simp [g0, lcK_d hlz, e3, l3, l2]
  · have : S.length + 1 + p.2.length = S3.length := by omega
    rw [this, push_new, l2]
  · have hi : i < p.2.length := by
      have := (List.getElem?_eq_some_iff.mp hps).1
      rw [partsAt, List.length_zipWith] at this; omega
    have := a3 i ps hi hps
    rw [l2] at this
    exact push_old this
theorem Fr.fresh {S S' : Sto} {u : Nat} (f : Fr S S' [u]) (h : S.length ≤ u) : Fr S S' [] := f.weaken fun j hj hl => by rw [List.mem_singleton] at hj; omega
theorem Fr.setNew {S S2 : Sto} {u : Nat} {o : Ob} (f : Fr S S2 []) (h : S.length ≤ u) : Fr S (S2.set u o) [] :=
  Fr.fresh (u := u) ((f.weaken fun j hj _ => by cases hj).trans (Fr.set (by simp))) h
/-! what the covers pay in a year -/
/-- what a layer pays, damage by damage -/
def payK (p : Pl) (k : Nat) : List Int → List Dm → List Int
  | _, [] => []
  | us, d :: ds => (payI p us d.2.2.2).getD k 0 :: payK p k (nextU p us d.2.2.2) ds
theorem payK_len {p : Pl} {k : Nat} : ∀ (ds : List Dm) (us : List Int), (payK p k us ds).length = ds.length
  | [], _ => rfl
  | d :: ds, us => by simp [payK, payK_len ds]
theorem payK_app {p : Pl} {k : Nat} : ∀ (ds es : List Dm) (us : List Int), payK p k us (ds ++ es) = payK p k us ds ++ payK p k (usedF p us ds) es
  | [], es, us => rfl
  | d :: ds, es, us => by simp [payK, usedF, payK_app ds]
theorem payK_at {p : Pl} {k : Nat} : ∀ (ds : List Dm) (us : List Int) (i : Nat) (d : Dm), ds[i]? = some d → (payK p k us ds)[i]? = some ((payI p (usedF p us (ds.take i)) d.2.2.2).getD k 0)
  | d :: ds, us, 0, e, h => by
    have h : d = e := by simpa using h
    subst h
    simp [payK, usedF]
  | d :: ds, us, i + 1, e, h => by
    simp only [payK, List.getElem?_cons_succ, List.take_succ_cons, usedF]
    exact payK_at ds _ i e (by simpa using h)
/-- the sums of the covers of one layer -/
def dueI (l : Lay) (qs : List Int) : List Int := (List.range l.2.2.length).map fun c => (qs.map fun q => (parts q l.2.2).getD c 0).sum
theorem dueI_len {l : Lay} {qs : List Int} : (dueI l qs).length = l.2.2.length := by simp [dueI]
theorem dueI_nil (l : Lay) : dueI l [] = List.replicate l.2.2.length 0 := by
  unfold dueI
  rw [List.eq_replicate_iff]
  exact ⟨by simp, fun x hx => by obtain ⟨c, _, rfl⟩ := List.mem_map.mp hx; rfl⟩
theorem dueI_app (l : Lay) (qs : List Int) (q : Int) : dueI l (qs ++ [q]) = List.zipWith (fun a b => a + b) (dueI l qs) (parts q l.2.2) := by
  have hpl : (parts q l.2.2).length = l.2.2.length := partsF_len _ _ _ _ _
  apply List.ext_getElem?
  intro i
  rw [List.getElem?_zipWith]
  by_cases hi : i < l.2.2.length
  · have h2 : (parts q l.2.2)[i]? = some ((parts q l.2.2)[i]'(by omega)) := List.getElem?_eq_getElem _
    have h1 : ∀ qs, (dueI l qs)[i]? = some ((qs.map fun q => (parts q l.2.2).getD i 0).sum) := fun qs => by
      rw [dueI, List.getElem?_map, List.getElem?_range hi]; rfl
    rw [h1, h1, h2, List.map_append, List.sum_append, List.map_singleton, List.getD_eq_getElem?_getD, h2]
    simp
  · rw [List.getElem?_eq_none (by rw [dueI_len]; omega), List.getElem?_eq_none (by rw [dueI_len]; omega)]
/-! the book's dues -/
section
variable {S S' : Sto} {b K R U : Nat} {p : Pl} {kn : List Dm} {sh : List Int} {ys : Ys} {ex : List Nat}
/-- lists at their addresses, one for each layer -/
def DueAt (p : Pl) (row : List Dm) (n a : Nat) (S : Sto) : Prop := ∀ k l, p.2[k]? = some l → S[a + k]? = some (.lst ((dueI l (payK p k (u0 p) (row.take n))).map .int))
theorem DueAt.fr {row : List Dm} {n a : Nat} (h : DueAt p row n a S) {u : Nat} (f : Fr S S' [u]) (hu : u < a ∨ a + p.2.length ≤ u) : DueAt p row n a S' := fun k l hk => f _ _ (h k l hk) (by
  have := (List.getElem?_eq_some_iff.mp hk).1
  rw [List.mem_singleton]; omega)
theorem DueAt.fr0 {row : List Dm} {n a : Nat} (h : DueAt p row n a S) (f : Fr S S' []) : DueAt p row n a S' := fun k l hk => f _ _ (h k l hk) (by simp)
theorem refs_at {n a i : Nat} {w : Wv} (h : ((List.range n).map fun i => Wv.ref (a + i))[i]? = some w) : i < n ∧ w = .ref (a + i) := by
  have hi := (List.getElem?_eq_some_iff.mp h).1
  rw [List.length_map, List.length_range] at hi
  rw [List.getElem?_map, List.getElem?_range hi] at h
  exact ⟨hi, (Option.some.inj h).symm⟩
def addW : Wv → Wv
  | .tup [.int x, .int y] => .int (x + y)
  | w => w
theorem zip_add : ∀ (xs ys : List Int), (zipW (xs.map Wv.int) (ys.map .int)).map addW = (List.zipWith (fun a b => a + b) xs ys).map .int
  | [], _ => rfl
  | _ :: _, [] => rfl
  | x :: xs, y :: ys => by
    have := zip_add xs ys
    simp only [zipW, List.map_cons, List.zipWith_cons_cons, addW] at this ⊢
    rw [this]
theorem lstOf_ref {S : Sto} {k : Nat} {ws : List Wv} (h : S[k]? = some (.lst ws)) : lstOf S (.ref k) = some ws := by simp only [lstOf, h]
theorem dues_body (B : BAt S b K R U p kn sh ys ex) (hp : OkPlan p) (hl : kn.length ≤ 800) {yr : Int} {i_ a : Nat} {d : Dm} (hd : (rowOf kn yr)[i_]? = some d) (hD : DueAt p (rowOf kn yr) i_ a S) (ha : a + p.2.length ≤ S.length) (x1 x4 x5 x6 x7 x8 x9 x10 : Option Wv) :
    ∃ S' a', b_book_dues_f5 [some (.ref b), x1, some (.lst ((List.range p.2.length).map fun i => .ref (a + i))), some (dmW d), x4, x5, x6, x7, x8, x9, x10] S = .nx [some (.ref b), x1, some (.lst ((List.range p.2.length).map fun i => .ref (a' + i))), some (dmW d), some (.lst ((List.range p.2.length).map fun i => .ref (S.length + 1 + i))), x5, x6, x7, x8, x9, x10] S' ∧
      DueAt p (rowOf kn yr) (i_ + 1) a' S' ∧ S.length ≤ a' ∧ a' + p.2.length ≤ S'.length ∧ Fr S S' [] := by
  have hp9 := hp.len
  obtain ⟨hdk, hdy⟩ := rowOf_mem.mp (List.mem_of_getElem? hd)
  have hix := (numsD_at (rowOf_nd B.nd yr) hd).1
  have hus : usAt p kn d = usedF p (u0 p) ((rowOf kn yr).take i_) := by rw [usAt, hdy, hix]
  obtain ⟨S1, e1, f1, l1, g1, h1⟩ := l_bk_parts B hp hl hdk
  have hpl : (payI p (usAt p kn d) d.2.2.2).length = p.2.length := payI_len usAt_len
  rw [b_book_dues_f5, seq_nx (e := [some (.ref b), x1, some (.lst ((List.range p.2.length).map fun i => .ref (a + i))), some (dmW d), some (.ref (S.length + 1 + p.2.length)), x5, x6, x7, x8, x9, x10]) (S' := S1) (by simp [methK_ok B.bg.hb, e1]),
    seq_nx (e := [some (.ref b), x1, some (.lst ((List.range p.2.length).map fun i => .ref (a + i))), some (dmW d), some (.lst ((List.range p.2.length).map fun i => .ref (S.length + 1 + i))), x5, x6, x7, x8, x9, x10]) (S' := S1.set (S.length + 1 + p.2.length) .dead) (by rw [sFrz_ref (k := S.length + 1 + p.2.length) rfl g1]; rfl)]
  have f2 : Fr S1 (S1.set (S.length + 1 + p.2.length) .dead) [S.length + 1 + p.2.length] := Fr.set (by simp)
  have f02 : Fr S (S1.set (S.length + 1 + p.2.length) .dead) [] := Fr.setNew f1 (by omega)
  have l2 : (S1.set (S.length + 1 + p.2.length) Ob.dead).length = S1.length := List.length_set
  have h2 : ∀ k l q, p.2[k]? = some l → (payI p (usAt p kn d) d.2.2.2)[k]? = some q → (S1.set (S.length + 1 + p.2.length) Ob.dead)[S.length + 1 + k]? = some (.lst ((parts q l.2.2).map .int)) := fun k l q hk hq => by
    have hk1 := (List.getElem?_eq_some_iff.mp hk).1
    refine f2 _ _ (h1 k _ ?_) (by rw [List.mem_singleton]; omega)
    rw [partsAt, List.getElem?_zipWith, hq, hk]
  have hD2 := hD.fr0 f02
  generalize S1.set (S.length + 1 + p.2.length) Ob.dead = S2 at *
  generalize hxs : (List.range p.2.length).map (fun i => Wv.ref (a + i)) = xs
  generalize hys : (List.range p.2.length).map (fun i => Wv.ref (S.length + 1 + i)) = zs
  have hxl : xs.length = p.2.length := by rw [← hxs]; simp
  have hzl : zs.length = p.2.length := by rw [← hys]; simp
  have hzz : (zipW xs zs).length = p.2.length := by rw [zipW_len]; omega
  obtain ⟨S3, e3, l3, f3, a3⟩ := lc_ix (tg := tgTup [7, 8]) (elt := b_book_dues_c4) (env0 := wipeE [some (.ref b), x1, some (.lst xs), some (dmW d), some (.lst zs), x5, x6, x7, x8, x9, x10] [7, 8]) (ws := zipW xs zs) (S := S2) (fun i => .ref (S2.length + i))
    (fun i S' => S'.length = S2.length + i ∧ Fr S2 S' [] ∧ ∀ k l, k < i → p.2[k]? = some l → S'[S2.length + k]? = some (.lst ((dueI l (payK p k (u0 p) ((rowOf kn yr).take (i_ + 1)))).map .int))) ⟨rfl, Fr.refl _ _, fun j ps hj => absurd hj (by omega)⟩ (by
      rintro k w S' hw ⟨q1, q2, q3⟩
      obtain ⟨x, y, hx, hy, rfl⟩ := zipW_at hw
      rw [← hxs] at hx
      rw [← hys] at hy
      obtain ⟨hk, rfl⟩ := refs_at hx
      obtain ⟨-, rfl⟩ := refs_at hy
      have hq : p.2[k]? = some p.2[k] := List.getElem?_eq_getElem hk
      generalize p.2[k] = l at hq
      have hpq : (payI p (usAt p kn d) d.2.2.2)[k]? = some ((payI p (usAt p kn d) d.2.2.2).getD k 0) := by
        rw [List.getD_eq_getElem?_getD, List.getElem?_eq_getElem (by omega)]; rfl
      have hlay := hp.lay l (List.mem_of_getElem? hq)
      have hws := wts_sum hlay
      have r1 := q2 _ _ (hD2 k l hq) (by simp)
      have r2 := q2 _ _ (h2 k l _ hq hpq) (by simp)
      have hpk : payK p k (u0 p) ((rowOf kn yr).take (i_ + 1)) = payK p k (u0 p) ((rowOf kn yr).take i_) ++ [(payI p (usAt p kn d) d.2.2.2).getD k 0] := by
        rw [List.take_add_one, hd, Option.toList_some, payK_app, hus]; rfl
      have hdl : (dueI l (payK p k (u0 p) ((rowOf kn yr).take i_))).length = l.2.2.length := dueI_len
      have hda := dueI_app l (payK p k (u0 p) ((rowOf kn yr).take i_)) ((payI p (usAt p kn d) d.2.2.2).getD k 0)
      rw [← hpk] at hda
      generalize (payI p (usAt p kn d) d.2.2.2).getD k 0 = q at *
      generalize dueI l (payK p k (u0 p) ((rowOf kn yr).take i_)) = D at *
      have hpl2 : (parts q l.2.2).length = l.2.2.length := partsF_len _ _ _ _ _
      generalize parts q l.2.2 = P at *
      have hzl2 : (zipW (D.map Wv.int) (P.map .int)).length ≤ 1000000 := by rw [zipW_len, List.length_map]; omega
      have hz := lcK_zipl (live := true) (own := [9, 10]) (tg := tgTup [9, 10]) (elt := b_book_dues_c3) (env := [some (.ref b), x1, some (.lst xs), some (dmW d), some (.lst zs), x5, x6, some (.ref (a + k)), some (.ref (S.length + 1 + k)), x9, x10]) (w := .ref (a + k)) (u := .ref (S.length + 1 + k)) (lstOf_ref r1) (lstOf_ref r2) hzl2 addW (fun z hz => by
        obtain ⟨j, hj⟩ := List.getElem?_of_mem hz
        obtain ⟨x, y, hx, hy, rfl⟩ := zipW_at hj
        obtain ⟨x, -, rfl⟩ := map_at hx
        obtain ⟨y, -, rfl⟩ := map_at hy
        exact ⟨_, rfl, by simp [b_book_dues_c3, addW, wipeE]⟩)
      refine ⟨[some (.ref b), x1, some (.lst xs), some (dmW d), some (.lst zs), x5, x6, some (.ref (a + k)), some (.ref (S.length + 1 + k)), x9, x10], rfl, S' ++ [.lst ((List.zipWith (fun a b => a + b) D P).map .int)], ?_, by simp; omega, q2.trans Fr.push, fun j l' hj hl' => ?_⟩
      · rw [b_book_dues_c4, fLc_d]
        rw [zip_add] at hz
        simp [zipK_rr r1 r2, hz, q1]
      · by_cases e : j = k
        · subst e
          rw [hq] at hl'
          obtain rfl := (Option.some.inj hl').symm
          rw [hda, ← q1]; exact push_new
        · exact push_old (q3 j l' (by omega) hl'))
  rw [hzz] at e3 l3 a3
  have hlz : lenOk (zipW xs zs).length = true := lenOk_t (by omega)
  refine ⟨S3, S2.length, ?_, fun k l hk => a3 k l (List.getElem?_eq_some_iff.mp hk).1 hk, by omega, by omega, f02.trans f3⟩
  simp [lcK_d hlz, e3]
end
theorem l_bk_dues {S : Sto} {b K R U : Nat} {p : Pl} {kn : List Dm} {sh : List Int} {ys : Ys} {ex : List Nat} (B : BAt S b K R U p kn sh ys ex) (hp : OkPlan p) (hl : kn.length ≤ 800) {yr : Int} (hy : 0 ≤ yr ∧ yr ≤ 9999) :
    ∃ S' a, F_book_dues [.ref b, .int yr] S = .ok (.lst ((List.range p.2.length).map fun i => .ref (a + i))) S' ∧ DueAt p (rowOf kn yr) (rowOf kn yr).length a S' ∧ S.length ≤ a ∧ a + p.2.length ≤ S'.length ∧ Fr S S' [] := by
  have hp9 := hp.len
  rw [F_book_dues_eq, b_book_dues]
  obtain ⟨S1, e1, l1, f1, a1⟩ := lc_ix (tg := tgName 5) (elt := b_book_dues_c2) (env0 := wipeE [some (.ref b), some (.int yr), none, none, none, none, none, none, none, none, none] [5]) (ws := p.2.map layW) (S := S) (fun i => .ref (S.length + i))
    (fun i S' => S'.length = S.length + i ∧ Fr S S' [] ∧ ∀ k l, k < i → p.2[k]? = some l → S'[S.length + k]? = some (.lst ((dueI l []).map .int))) ⟨rfl, Fr.refl _ _, fun j ps hj => absurd hj (by omega)⟩ (by
      rintro k w S' hw ⟨q1, q2, q3⟩
      rw [List.getElem?_map] at hw
      obtain ⟨l, hq, rfl⟩ := Option.map_eq_some_iff.mp hw
      have hlay := hp.lay l (List.mem_of_getElem? hq)
      have hws := wts_sum hlay
      have hln : lenOk (l.2.2.map Wv.int).length = true := lenOk_t (by rw [List.length_map]; omega)
      have hlc : lcItems (tgName 6) fYes b_book_dues_c1 (wipeE [some (.ref b), some (.int yr), none, none, none, some (layW l), none, none, none, none, none] [6]) (l.2.2.map .int) S' = .ok ((dueI l []).map .int) S' := by
        refine lc_by (by rw [List.length_map, List.length_map, dueI_len]) fun c w v hw hv => ?_
        obtain ⟨x, hx, rfl⟩ := map_at hv
        rw [dueI_nil] at hx
        have := List.mem_of_getElem? hx
        obtain rfl := List.eq_of_mem_replicate this
        exact ⟨_, rfl, by simp [b_book_dues_c1]⟩
      refine ⟨[some (.ref b), some (.int yr), none, none, none, some (layW l), none, none, none, none, none], rfl, S' ++ [.lst ((dueI l []).map .int)], ?_, by simp; omega, q2.trans Fr.push, fun j l' hj hl' => ?_⟩
      · rw [b_book_dues_c2, fLc_d]
        simp [lcK_d hln, hlc, q1]
      · by_cases e : j = k
        · subst e
          rw [hq] at hl'
          obtain rfl := (Option.some.inj hl').symm
          rw [← q1]; exact push_new
        · exact push_old (q3 j l' (by omega) hl'))
  rw [List.length_map] at e1 l1 a1
  have hlz : lenOk (p.2.map layW).length = true := lenOk_t (by rw [List.length_map]; omega)
  have B1 := B.fr0 f1 (by omega)
  have hD1 : DueAt p (rowOf kn yr) 0 S.length S1 := fun k l hk => a1 k l (List.getElem?_eq_some_iff.mp hk).1 hk
  rw [seq_nx (e := [some (.ref b), some (.int yr), some (.lst ((List.range p.2.length).map fun i => .ref (S.length + i))), none, none, none, none, none, none, none, none]) (S' := S1) (by
    simp [B.f0, planW, lcK_d hlz, e1])]
  obtain ⟨S2, e2, d2, f2, l2⟩ := l_bk_damages B1 hy
  have hrl := rowOf_len kn yr
  obtain ⟨e, S3, g1, g2, a, ⟨hD, k1, k2, k3⟩, x3, x4, rfl⟩ := sFor_live (fi := itSeq (fMeth 1 F_book_damages (fVar 0) (fCons (fVar 1) (fNil)))) (tg := tgName 3) (body := b_book_dues_f5) (env := [some (.ref b), some (.int yr), some (.lst ((List.range p.2.length).map fun i => .ref (S.length + i))), none, none, none, none, none, none, none, none]) (S := S1) (S1 := S2) (k := S1.length + 3) (all := (rowOf kn yr).map dmW)
    (by simp [methK_ok B1.bg.hb, e2, seqK_ref d2])
    (fun i e S' => ∃ a, (DueAt p (rowOf kn yr) i a S' ∧ S.length ≤ a ∧ a + p.2.length ≤ S'.length ∧ Fr S2 S' []) ∧ ∃ x3 x4, e = [some (.ref b), some (.int yr), some (.lst ((List.range p.2.length).map fun i => .ref (a + i))), x3, x4, none, none, none, none, none, none]) d2
    ⟨S.length, ⟨hD1.fr0 f2, Nat.le_refl _, by omega, Fr.refl _ _⟩, _, _, rfl⟩ (by
      rintro i w env S4 hw hk ⟨a, ⟨q1, q2, q3, q4⟩, x3, x4, rfl⟩
      rw [List.getElem?_map] at hw
      obtain ⟨d, hd, rfl⟩ := Option.map_eq_some_iff.mp hw
      have hlt := (List.getElem?_eq_some_iff.mp d2).1
      have hlt4 := (List.getElem?_eq_some_iff.mp hk).1
      have lS4 : S2.length ≤ S4.length := by
        have h9 : S2.length - 1 < S2.length := by omega
        have := q4 _ _ (List.getElem?_eq_getElem h9) (by simp)
        have := (List.getElem?_eq_some_iff.mp this).1
        omega
      have B4 := (B1.fr0 f2 (by omega)).fr0 q4 lS4
      obtain ⟨S5, a', m1, m2, m3, m4, m5⟩ := dues_body B4 hp hl hd q1 q3 (some (.int yr)) x4 none none none none none none
      exact ⟨_, rfl, _, S5, m1, m5 _ _ hk (by simp), a', ⟨m2, by omega, m4, q4.trans m5⟩, _, _, rfl⟩)
  rw [List.length_map] at hD
  rw [seq_nx g1]
  exact ⟨S3, a, by simp, hD, k1, k2, (f1.trans f2).trans k3⟩
/-! things that are alike in all depth, whatever is changed at md -/
def TD (md : List Nat) (S : Sto) (n : Nat) (x y : Wv) : Prop := ∀ S', Fr S S' md → toD S' n x = toD S' n y
theorem TD.fr {md : List Nat} {S S' : Sto} {n : Nat} {x y : Wv} (h : TD md S n x y) (f : Fr S S' md) : TD md S' n x y := fun S'' f2 => h S'' (f.trans f2)
theorem TD.fr0 {md : List Nat} {S S' : Sto} {n : Nat} {x y : Wv} (h : TD md S n x y) (f : Fr S S' []) : TD md S' n x y := h.fr (f.weaken fun j hj _ => by cases hj)
theorem TD.nil {md : List Nat} {S : Sto} {n : Nat} {x y : Wv} (h : TD md S n x y) : TD [] S n x y := fun S' f => h S' (f.weaken fun j hj _ => by cases hj)
theorem TD.refl {md : List Nat} {S : Sto} {n : Nat} (x : Wv) : TD md S n x x := fun _ _ => rfl
theorem optAll_F2 {α β : Type} {f : α → Option β} {xs ys : List α} (h : F2 (fun x y => f x = f y) xs ys) : optAll f xs = optAll f ys := by
  induction h with
  | nil => rfl
  | cons r _ ih => simp only [optAll, r, ih]
theorem F2.imp {α β : Type} {R R' : α → β → Prop} (k : ∀ a b, R a b → R' a b) {l : List α} {m : List β} (h : F2 R l m) : F2 R' l m := by
  induction h with
  | nil => exact .nil
  | cons r _ ih => exact .cons (k _ _ r) ih
theorem F2.snoc {α β : Type} {R : α → β → Prop} {l : List α} {m : List β} {a : α} {b : β} (h : F2 R l m) (r : R a b) : F2 R (l ++ [a]) (m ++ [b]) := by
  induction h with
  | nil => exact .cons r .nil
  | cons r' _ ih => exact .cons r' ih
theorem F2.refl {α : Type} {R : α → α → Prop} (k : ∀ a, R a a) : ∀ l : List α, F2 R l l
  | [] => .nil
  | a :: l => .cons (k a) (F2.refl k l)
theorem F2.len {α β : Type} {R : α → β → Prop} {l : List α} {m : List β} (h : F2 R l m) : l.length = m.length := by
  induction h with
  | nil => rfl
  | cons _ _ ih => simp [ih]
theorem F2.at {α β : Type} {R : α → β → Prop} : ∀ {l : List α} {m : List β}, l.length = m.length → (∀ (i : Nat) a b, l[i]? = some a → m[i]? = some b → R a b) → F2 R l m
  | [], [], _, _ => .nil
  | [], _ :: _, h, _ => by cases h
  | _ :: _, [], h, _ => by cases h
  | a :: l, b :: m, h, k => .cons (k 0 a b rfl rfl) (F2.at (by simpa using h) fun i a b h1 h2 => k (i + 1) a b (by simpa using h1) (by simpa using h2))
section
variable {md : List Nat} {S : Sto} {n : Nat} {xs ys : List Wv}
theorem td_lst (h : F2 (TD md S n) xs ys) : TD md S (n + 1) (.lst xs) (.lst ys) := fun S' f => by
  simp only [toD, optAll_F2 (h.imp fun x y k => k S' f)]
theorem td_tup (h : F2 (TD md S n) xs ys) : TD md S (n + 1) (.tup xs) (.tup ys) := fun S' f => by
  simp only [toD, optAll_F2 (h.imp fun x y k => k S' f)]
theorem td_ref {a : Nat} (ha : S[a]? = some (.lst xs)) (hm : a ∉ md) (h : F2 (TD md S n) xs ys) : TD md S (n + 1) (.ref a) (.lst ys) := fun S' f => by
  rw [toD_ref (f _ _ ha hm) n]
  exact td_lst h S' f
theorem td_flat {a : Nat} (ha : S[a]? = some (.lst xs)) (hm : a ∉ md) : TD md S (n + 1) (.ref a) (.lst xs) := td_ref ha hm (F2.refl (fun x => TD.refl x) xs)
/-- equal, where both are alike to one thing that has a shape -/
theorem td_eq {x y : Wv} {us : List Wv} (h1 : TD [] S 9 x (.lst us)) (h2 : TD [] S 9 y (.lst us)) (ho : okW 9 (.lst us) = true) : eqDeep S x y = some true := by
  have h := deep_refl (S := S) ho
  have e1 := h1 S (Fr.refl _ _)
  have e2 := h2 S (Fr.refl _ _)
  unfold eqDeep at h ⊢
  rw [e1, e2]; exact h
end
theorem ok_map {α : Type} {n : Nat} {f : α → Wv} {xs : List α} (h : ∀ x ∈ xs, okW n (f x) = true) : okW (n + 1) (.lst (xs.map f)) = true := by
  show (xs.map f).all (okW n) = true
  rw [List.all_map]
  exact List.all_eq_true.mpr fun x hx => h x hx
theorem ok_cons {n : Nat} {x : Wv} {xs : List Wv} (h : okW n x = true) (h2 : okW (n + 1) (.lst xs) = true) : okW (n + 1) (.lst (x :: xs)) = true := by
  show (x :: xs).all (okW n) = true
  rw [List.all_cons, h, Bool.true_and]
  exact h2
theorem ok_app {n : Nat} {xs ys : List Wv} (h : okW (n + 1) (.lst xs) = true) (h2 : okW (n + 1) (.lst ys) = true) : okW (n + 1) (.lst (xs ++ ys)) = true := by
  show (xs ++ ys).all (okW n) = true
  rw [List.all_append, Bool.and_eq_true]
  exact ⟨h, h2⟩
theorem ok_ints {n : Nat} (ns : List Int) : okW (n + 1) (.lst (ns.map .int)) = true := ok_map fun _ _ => by cases n <;> rfl
/-! all that a book tells -/
def duesW (p : Pl) (row : List Dm) : Wv := .lst (p.2.zipIdx.map fun x => .lst ((dueI x.1 (payK p x.2 (u0 p) row)).map .int))
def yearW (p : Pl) (kn : List Dm) (y : Int) : Wv := .lst [.lst ((rowOf kn y).map dmW), .lst ((usedF p (u0 p) (rowOf kn y)).map .int), duesW p (rowOf kn y)]
def trailW (us P : List Int) : List Wv := List.zipWith (fun a b => Wv.tup [.int a, .int b, .int (a + b)]) us P
def oneW (p : Pl) (kn : List Dm) (d : Dm) : Wv := .lst [dmW d, shareW (ownI p d.2.2.2) (payI p (usAt p kn d) d.2.2.2) (leftI p (usAt p kn d) d.2.2.2), .lst (trailW (usAt p kn d) (payI p (usAt p kn d) d.2.2.2)), .lst ((partsAt p (payI p (usAt p kn d) d.2.2.2)).map fun ps => .lst (ps.map .int))]
def allW (p : Pl) (kn ds : List Dm) : List Wv := .lst ((yearsI kn).map .int) :: ((yearsI kn).map (yearW p kn) ++ ds.map (oneW p kn))
theorem ok_dmW (n : Nat) (d : Dm) : okW (n + 1) (dmW d) = true := by
  simp [dmW, okW]
theorem ok_allW (p : Pl) (kn ds : List Dm) : okW 9 (.lst (allW p kn ds)) = true := by
  refine ok_cons (ok_ints _) (ok_app (ok_map fun y _ => ?_) (ok_map fun d _ => ?_))
  · refine ok_cons (ok_map fun d _ => ok_dmW 5 d) (ok_cons (ok_ints _) (ok_cons (ok_map fun x _ => ok_ints _) rfl))
  · refine ok_cons (ok_dmW 6 d) (ok_cons ?_ (ok_cons ?_ (ok_cons (ok_map fun x _ => ok_ints _) rfl)))
    · show ([Wv.int _, .lst _, .int _]).all (okW 6) = true
      simp only [List.all_cons, List.all_nil, Bool.and_true, Bool.and_eq_true]
      exact ⟨rfl, ok_ints _, rfl⟩
    · show (trailW _ _).all (okW 6) = true
      refine List.all_eq_true.mpr fun w hw => ?_
      obtain ⟨j, hj⟩ := List.getElem?_of_mem hw
      unfold trailW at hj
      rw [List.getElem?_zipWith] at hj
      cases q1 : (usAt p kn d)[j]? with
      | none => rw [q1] at hj; cases hj
      | some x =>
        cases q2 : (payI p (usAt p kn d) d.2.2.2)[j]? with
        | none => rw [q1, q2] at hj; cases hj
        | some y =>
          rw [q1, q2] at hj
          obtain rfl := (Option.some.inj hj).symm
          rfl
theorem years_congr {a b : List Dm} (hp : a.Perm b) : yearsI a = yearsI b := by
  unfold yearsI
  refine uniqI_eq ?_ fun k => ?_
  · unfold uniqI
    have h1 := sortI_le (ddp (a.map (·.1)))
    have h2 : (sortI (ddp (a.map (·.1)))).Nodup := ((sortI_perm _).nodup_iff).mpr (nodup_ddp _)
    exact (h1.and h2).imp fun h => by omega
  · rw [mem_uniqI]
    exact (hp.map fun d : Dm => d.1).mem_iff
theorem allW_congr {p : Pl} {a b ds : List Dm} (nd : (numsD a).Nodup) (hp : a.Perm b) : allW p a ds = allW p b ds := by
  have hr : ∀ y, rowOf a y = rowOf b y := rowOf_congr nd hp
  have hu : ∀ d, usAt p a d = usAt p b d := fun d => by unfold usAt; rw [hr]
  have h1 : yearW p a = yearW p b := funext fun y => by unfold yearW; rw [hr]
  have h2 : oneW p a = oneW p b := funext fun d => by unfold oneW; rw [hu]
  unfold allW
  rw [years_congr hp, h1, h2]
section
variable {S : Sto} {b K R U : Nat} {p : Pl} {kn : List Dm} {sh : List Int} {ys : Ys} {ex : List Nat}
theorem all_year (B : BAt S b K R U p kn sh ys ex) (hp : OkPlan p) (hl : kn.length ≤ 60) {y : Int} (hy : 0 ≤ y ∧ y ≤ 9999) {f : Nat} (hf : f < S.length) {xs : List Wv} (h : S[f]? = some (.lst xs)) (hx : xs.length ≤ 1000) (x1 x4 : Option Wv) :
    ∃ S' x, b_l_all_f1 [some (.ref b), x1, some (.ref f), some (.int y), x4] S = .nx [some (.ref b), x1, some (.ref f), some (.int y), x4] S' ∧ S'[f]? = some (.lst (xs ++ [x])) ∧ Fr S S' [f] ∧ S.length ≤ S'.length ∧ TD [f] S' 8 x (yearW p kn y) := by
  obtain ⟨S1, e1, d1, f1, l1⟩ := l_bk_damages B hy
  have B1 := B.fr0 f1 (by omega)
  obtain ⟨S2, e2, d2, f2, l2⟩ := l_bk_used B1 hp.len hy
  have B2 := B1.fr0 f2 (by omega)
  obtain ⟨S3, a, e3, hD, la, lb, f3⟩ := l_bk_dues B2 hp (by omega) hy
  have f13 : Fr S S3 [] := (f1.trans f2).trans f3
  have h3 := f13 _ _ h (by simp)
  have hap := app_ref (x := .lst [.ref (S.length + 3), .ref (S1.length + 3), .lst ((List.range p.2.length).map fun i => .ref (a + i))]) h3 (lenOk_t (by omega))
  have t3 := tyOf_ref h
  have c1 := f3 _ _ (f2 _ _ d1 (by simp)) (by simp)
  have c2 := f3 _ _ d2 (by simp)
  have hdue : TD [f] S3 7 (.lst ((List.range p.2.length).map fun i => .ref (a + i))) (duesW p (rowOf kn y)) := td_lst (F2.at (by simp) fun i x w hx hw => by
    obtain ⟨hi, rfl⟩ := refs_at hx
    have hq : p.2[i]? = some p.2[i] := List.getElem?_eq_getElem hi
    rw [List.getElem?_map, List.getElem?_zipIdx, hq] at hw
    obtain rfl := (Option.some.inj hw).symm
    simp only [Nat.zero_add]
    have := hD i _ hq
    rw [List.take_length] at this
    exact td_flat this (by rw [List.mem_singleton]; omega))
  have ht : TD [f] S3 8 (.lst [.ref (S.length + 3), .ref (S1.length + 3), .lst ((List.range p.2.length).map fun i => .ref (a + i))]) (yearW p kn y) :=
    td_lst (.cons (td_flat c1 (by rw [List.mem_singleton]; omega)) (.cons (td_flat c2 (by rw [List.mem_singleton]; omega)) (.cons hdue .nil)))
  have f4 : Fr S3 (S3.set f (.lst (xs ++ [.lst [.ref (S.length + 3), .ref (S1.length + 3), .lst ((List.range p.2.length).map fun i => .ref (a + i))]]))) [f] := Fr.set (by simp)
  refine ⟨_, _, ?_, set_get h3, (f13.weaken fun j hj _ => by cases hj).trans f4, by rw [List.length_set]; omega, ht.fr f4⟩
  rw [b_l_all_f1]
  simp [methK_ok B.bg.hb, e1, methK_ok B1.bg.hb, e2, methK_ok B2.bg.hb, e3, lstP_d, lenOk_t, t3, hap]
theorem all_one (B : BAt S b K R U p kn sh ys ex) (hp : OkPlan p) (hl : kn.length ≤ 60) {d : Dm} (hd : d ∈ kn) {f : Nat} (hf : f < S.length) {xs : List Wv} (h : S[f]? = some (.lst xs)) (hx : xs.length ≤ 1000) (x1 x3 : Option Wv) :
    ∃ S' x, b_l_all_f2 [some (.ref b), x1, some (.ref f), x3, some (.int d.2.2.1)] S = .nx [some (.ref b), x1, some (.ref f), x3, some (.int d.2.2.1)] S' ∧ S'[f]? = some (.lst (xs ++ [x])) ∧ Fr S S' [f] ∧ S.length ≤ S'.length ∧ TD [f] S' 8 x (oneW p kn d) := by
  have e0 := l_bk_damage B hd
  have e1 := l_bk_share B (by omega) hd
  have hPl : (payI p (usAt p kn d) d.2.2.2).length = p.2.length := payI_len usAt_len
  generalize hS1 : S ++ [Ob.lst ((payI p (usAt p kn d) d.2.2.2).map .int)] = S1 at e1
  have f1 : Fr S S1 [] := hS1 ▸ Fr.push
  have q1 : S1[S.length]? = some (.lst ((payI p (usAt p kn d) d.2.2.2).map .int)) := by rw [← hS1]; exact push_new
  have l1 : S1.length = S.length + 1 := by rw [← hS1]; simp
  have B1 := B.fr0 f1 (by omega)
  have e2 := l_bk_trail B1 hp.len (by omega) hd
  generalize hS2 : S1 ++ [Ob.lst (List.zipWith (fun a b => Wv.tup [.int a, .int b, .int (a + b)]) (usAt p kn d) (payI p (usAt p kn d) d.2.2.2))] = S2 at e2
  have f2 : Fr S1 S2 [] := hS2 ▸ Fr.push
  have q2 : S2[S1.length]? = some (.lst (trailW (usAt p kn d) (payI p (usAt p kn d) d.2.2.2))) := by rw [← hS2]; exact push_new
  have l2 : S2.length = S1.length + 1 := by rw [← hS2]; simp
  have B2 := B1.fr0 f2 (by omega)
  obtain ⟨S3, e3, f3, l3, c3, c4⟩ := l_bk_parts B2 hp (by omega) hd
  have f13 : Fr S S3 [] := (f1.trans f2).trans f3
  have h3 := f13 _ _ h (by simp)
  have hPA : (partsAt p (payI p (usAt p kn d) d.2.2.2)).length = p.2.length := by rw [partsAt, List.length_zipWith]; omega
  have hap := app_ref (x := .lst [dmW d, .tup [.int (ownI p d.2.2.2), .ref S.length, .int (leftI p (usAt p kn d) d.2.2.2)], .ref S1.length, .ref (S2.length + 1 + p.2.length)]) h3 (lenOk_t (by omega))
  have t3 := tyOf_ref h
  have d1 := f3 _ _ (f2 _ _ q1 (by simp)) (by simp)
  have d2 := f3 _ _ q2 (by simp)
  have hpt : TD [f] S3 7 (.ref (S2.length + 1 + p.2.length)) (.lst ((partsAt p (payI p (usAt p kn d) d.2.2.2)).map fun ps => .lst (ps.map .int))) := td_ref c3 (by rw [List.mem_singleton]; omega) (F2.at (by simp [hPA]) fun i x w hx hw => by
    obtain ⟨hi, rfl⟩ := refs_at hx
    rw [List.getElem?_map] at hw
    obtain ⟨pt, hpt, rfl⟩ := Option.map_eq_some_iff.mp hw
    exact td_flat (c4 i pt hpt) (by rw [List.mem_singleton]; omega))
  have ht : TD [f] S3 8 (.lst [dmW d, .tup [.int (ownI p d.2.2.2), .ref S.length, .int (leftI p (usAt p kn d) d.2.2.2)], .ref S1.length, .ref (S2.length + 1 + p.2.length)]) (oneW p kn d) :=
    td_lst (.cons (TD.refl _) (.cons (td_tup (.cons (TD.refl _) (.cons (td_flat d1 (by rw [List.mem_singleton]; omega)) (.cons (TD.refl _) .nil)))) (.cons (td_flat d2 (by rw [List.mem_singleton]; omega)) (.cons hpt .nil))))
  have f4 : Fr S3 (S3.set f (.lst (xs ++ [.lst [dmW d, .tup [.int (ownI p d.2.2.2), .ref S.length, .int (leftI p (usAt p kn d) d.2.2.2)], .ref S1.length, .ref (S2.length + 1 + p.2.length)]]))) [f] := Fr.set (by simp)
  refine ⟨_, _, ?_, set_get h3, (f13.weaken fun j hj _ => by cases hj).trans f4, by rw [List.length_set]; omega, ht.fr f4⟩
  rw [b_l_all_f2]
  simp [methK_ok B.bg.hb, e0, e1, methK_ok B1.bg.hb, e2, methK_ok B2.bg.hb, e3, lstP_d, lenOk_t, t3, hap]
theorem l_all (B : BAt S b K R U p kn sh ys ex) (hp : OkPlan p) (hl : kn.length ≤ 60) {ds : List Dm} (hd : ∀ d ∈ ds, d ∈ kn) (hdl : ds.length ≤ 60) :
    ∃ S' xs, F_l_all [.ref b, .lst ((ds.map (·.2.2.1)).map .int)] S = .ok (.ref (S.length + 1)) S' ∧ S'[S.length + 1]? = some (.lst (.ref S.length :: xs)) ∧ S'[S.length]? = some (.lst ((yearsI kn).map .int)) ∧ TD [] S' 9 (.ref (S.length + 1)) (.lst (allW p kn ds)) ∧ Fr S S' [] ∧ S.length ≤ S'.length := by
  have hyl := yearsI_len kn
  have y1 := l_bk_years B (by omega)
  generalize hS1 : S ++ [Ob.lst ((yearsI kn).map .int)] = S1 at y1
  have f1 : Fr S S1 [] := hS1 ▸ Fr.push
  have q1 : S1[S.length]? = some (.lst ((yearsI kn).map .int)) := by rw [← hS1]; exact push_new
  have l1 : S1.length = S.length + 1 := by rw [← hS1]; simp
  generalize hS2 : S1 ++ [Ob.lst [.ref S.length]] = S2
  have f2 : Fr S1 S2 [] := hS2 ▸ Fr.push
  have q2 : S2[S.length + 1]? = some (.lst [.ref S.length]) := by rw [← hS2, ← l1]; exact push_new
  have l2 : S2.length = S.length + 2 := by rw [← hS2]; simp [l1]
  have B2 := B.fr0 (f1.trans f2) (by omega)
  have q12 := f2 _ _ q1 (by simp)
  rw [F_l_all_eq, b_l_all, seq_nx (e := [some (.ref b), some (.lst ((ds.map (·.2.2.1)).map .int)), some (.ref (S.length + 1)), none, none]) (S' := S2) (by simp [methK_ok B.bg.hb, y1, lstP_d, lenOk_t, l1, hS2])]
  obtain ⟨e, S3, g1, g2, ⟨xs, c1, c2, c3, c4⟩, x3, rfl⟩ := sFor_live (fi := itSeq (CL.f2 idxP (fVar 2) (fC (.int 0)))) (tg := tgName 3) (body := b_l_all_f1) (env := [some (.ref b), some (.lst ((ds.map (·.2.2.1)).map .int)), some (.ref (S.length + 1)), none, none]) (S := S2) (S1 := S2) (k := S.length) (all := (yearsI kn).map .int)
    (by have i0 : idxP (.ref (S.length + 1)) (.int 0) S2 = .ok (.ref S.length) S2 := idx_ref q2 rfl
        simp [i0, seqK_ref q12])
    (fun i e S' => (∃ xs, S'[S.length + 1]? = some (.lst (.ref S.length :: xs)) ∧ F2 (TD [S.length + 1] S' 8) xs (((yearsI kn).take i).map (yearW p kn)) ∧ Fr S2 S' [S.length + 1] ∧ S2.length ≤ S'.length) ∧ ∃ x3, e = [some (.ref b), some (.lst ((ds.map (·.2.2.1)).map .int)), some (.ref (S.length + 1)), x3, none]) q12
    ⟨⟨[], q2, .nil, Fr.refl _ _, Nat.le_refl _⟩, _, rfl⟩ (by
      rintro i w env S4 hw hk ⟨⟨xs, c1, c2, c3, c4⟩, x3, rfl⟩
      obtain ⟨y, hy, rfl⟩ := map_at hw
      have hi := (List.getElem?_eq_some_iff.mp hy).1
      have hyb : 0 ≤ y ∧ y ≤ 9999 := by
        obtain ⟨d, hd, rfl⟩ := List.mem_map.mp (mem_uniqI.mp (List.mem_of_getElem? hy))
        exact (B.ok d hd).yr
      have B4 := B.fr0 (Fr.fresh (u := S.length + 1) (((f1.trans f2).weaken fun j hj _ => by cases hj).trans c3) (by omega)) (by omega)
      have hxl := c2.len
      obtain ⟨S5, x, m1, m2, m3, m4, m5⟩ := all_year B4 hp hl hyb (f := S.length + 1) (by omega) c1 (by simp at hxl ⊢; omega) (some (.lst ((ds.map (·.2.2.1)).map .int))) none
      refine ⟨_, rfl, _, S5, m1, m3 _ _ hk (by simp), ⟨xs ++ [x], m2, ?_, c3.trans m3, by omega⟩, _, rfl⟩
      rw [List.take_add_one, hy, List.map_append]
      exact (c2.imp fun a b k => k.fr m3).snoc m5)
  rw [List.length_map, List.take_length] at c2
  rw [seq_nx g1]
  have hxl := c2.len
  obtain ⟨e, S4, g3, ⟨zs, c5, c6, c7, c8⟩, x4, rfl⟩ := for_ix (tg := tgName 4) (body := b_l_all_f2) (ws := (ds.map (·.2.2.1)).map .int) (env := [some (.ref b), some (.lst ((ds.map (·.2.2.1)).map .int)), some (.ref (S.length + 1)), x3, none]) (S := S3)
    (fun i e S' => (∃ zs, S'[S.length + 1]? = some (.lst (.ref S.length :: (xs ++ zs))) ∧ F2 (TD [S.length + 1] S' 8) (xs ++ zs) ((yearsI kn).map (yearW p kn) ++ (ds.take i).map (oneW p kn)) ∧ Fr S2 S' [S.length + 1] ∧ S2.length ≤ S'.length) ∧ ∃ x4, e = [some (.ref b), some (.lst ((ds.map (·.2.2.1)).map .int)), some (.ref (S.length + 1)), x3, x4]) ⟨⟨[], by simpa using c1, by simpa using c2, c3, c4⟩, _, rfl⟩ (by
      rintro i w env S4 hw ⟨⟨zs, c1, c2, c3, c4⟩, x4, rfl⟩
      have hi : i < ds.length := by have := (List.getElem?_eq_some_iff.mp hw).1; simpa using this
      rw [List.getElem?_map, List.getElem?_map] at hw
      have hdi : ds[i]? = some ds[i] := List.getElem?_eq_getElem hi
      rw [hdi] at hw
      obtain rfl := (Option.some.inj hw).symm
      generalize ds[i] = d at hdi
      have B4 := B.fr0 (Fr.fresh (u := S.length + 1) (((f1.trans f2).weaken fun j hj _ => by cases hj).trans c3) (by omega)) (by omega)
      have hzl := c2.len
      obtain ⟨S5, x, m1, m2, m3, m4, m5⟩ := all_one B4 hp hl (hd d (List.mem_of_getElem? hdi)) (f := S.length + 1) (by omega) c1 (by simp at hzl ⊢; omega) (some (.lst ((ds.map (·.2.2.1)).map .int))) x3
      refine ⟨_, rfl, _, S5, m1, ⟨zs ++ [x], by simpa using m2, ?_, c3.trans m3, by omega⟩, _, rfl⟩
      rw [List.take_add_one, hdi, List.map_append, ← List.append_assoc, ← List.append_assoc]
      exact (c2.imp fun a b k => k.fr m3).snoc m5)
  rw [List.length_map, List.length_map, List.take_length] at c6
  rw [seq_nx (by rw [sFor_items (S1 := S3) (ws := (ds.map (·.2.2.1)).map .int) (by simp)]; exact g3)]
  have q4 := c7 _ _ q12 (by simp)
  have ff : Fr S S4 [] := Fr.fresh (u := S.length + 1) (((f1.trans f2).weaken fun j hj _ => by cases hj).trans c7) (by omega)
  have hy9 : TD [S.length + 1] S4 8 (.ref S.length) (.lst ((yearsI kn).map .int)) := td_flat q4 (by simp)
  have hall : F2 (TD [S.length + 1] S4 8) (.ref S.length :: (xs ++ zs)) (allW p kn ds) := .cons hy9 c6
  exact ⟨S4, xs ++ zs, by simp, c5, q4, td_ref c5 (by simp) (hall.imp fun a b k => k.nil), ff, by omega⟩
end
section
variable {S : Sto} {b K R U : Nat} {p : Pl} {kn : List Dm} {sh : List Int} {ys : Ys} {ex : List Nat}
theorem bk_told_closed (B : BAt S b K R U p kn sh ys ex) {d : Dm} (hd : OkDm d) (hs : d.1 ∈ sh) : F_book_told [.ref b, dmW d] S = .exc 6 S := by
  have hdm := l_is_damage_ok hd S
  have hop := l_bk_open B d.1
  rw [if_pos hs] at hop
  rw [F_book_told_eq, b_book_told, seq_nx (e := [some (.ref b), some (dmW d)]) (S' := S) (by simp [hdm])]
  have : (sExpr (fMeth 1 F_book_need_open (fVar 0) (fCons (CL.f2 idxP (fVar 1) (fC (.int 0))) (fNil)))) [some (.ref b), some (dmW d)] S = .exc 6 [some (.ref b), some (dmW d)] S := by simp [methK_ok B.bg.hb, hop]
  simp only [sSeq, this, SOut.andThen, SOut.out]
theorem bk_told_known (B : BAt S b K R U p kn sh ys ex) {d : Dm} (hd : OkDm d) (hs : d.1 ∉ sh) (hn : d.2.2.1 ∈ numsD kn) : F_book_told [.ref b, dmW d] S = .exc 4 S := by
  have hdm := l_is_damage_ok hd S
  have hop := l_bk_open B d.1
  rw [if_neg hs] at hop
  have g := getW_isSome kn d.2.2.1
  rw [decide_eq_true hn] at g
  rw [F_book_told_eq, b_book_told, seq_nx (e := [some (.ref b), some (dmW d)]) (S' := S) (by simp [hdm]), seq_nx (e := [some (.ref b), some (dmW d)]) (S' := S) (by simp [methK_ok B.bg.hb, hop])]
  have : (sIf (fTest (CL.f2 dinP (CL.f2 idxP (fVar 1) (fC (.int 2))) (fFld 1 1 (fVar 0)))) (sRaise 4) sNil) [some (.ref b), some (dmW d)] S = .exc 4 [some (.ref b), some (dmW d)] S := by simp [B.f1, din_ok B.bg.hk, g]
  simp only [sSeq, this, SOut.andThen, SOut.out]
theorem sTry_hit {hit : Hit} {fb fs : FS} {env e : Env} {S S' : Sto} {c : Nat} {o : SOut} (h : fb env S = .exc c e S') (hh : hit c = some true) (h2 : fs e S' = o) (h3 : ∀ c e S, o ≠ .exc c e S) : sTry hit fb fs env S = o := by
  simp only [sTry, h, hh, h2]
theorem l_closed11 (B : BAt S b K R U p kn sh ys ex) {d : Dm} (hd : OkDm d) (hs : d.1 ∈ sh) : F_l_closed [.ref b, dmW d] S = .ok (.bl true) S := by
  have h := bk_told_closed B hd hs
  rw [F_l_closed_eq, b_l_closed]
  have : (sTry (hitOf 6) (b_l_closed_y1) (b_l_closed_h2)) [some (.ref b), some (dmW d)] S = .rt (.bl true) S :=
    sTry_hit (c := 6) (e := [some (.ref b), some (dmW d)]) (S' := S) (by simp [b_l_closed_y1, methK_ok B.bg.hb, h]) (by decide) (by simp [b_l_closed_h2]) (by simp)
  simp only [sSeq, this, SOut.andThen, SOut.out]
theorem l_refused11 (B : BAt S b K R U p kn sh ys ex) {d : Dm} (hd : OkDm d) (hs : d.1 ∉ sh) (hn : d.2.2.1 ∈ numsD kn) : F_l_refused [.ref b, dmW d] S = .ok (.bl true) S := by
  have h := bk_told_known B hd hs hn
  rw [F_l_refused_eq, b_l_refused]
  have : (sTry (hitOf 4) (b_l_refused_y1) (b_l_refused_h2)) [some (.ref b), some (dmW d)] S = .rt (.bl true) S :=
    sTry_hit (c := 4) (e := [some (.ref b), some (dmW d)]) (S' := S) (by simp [b_l_refused_y1, methK_ok B.bg.hb, h]) (by decide) (by simp [b_l_refused_h2]) (by simp)
  simp only [sSeq, this, SOut.andThen, SOut.out]
theorem chg_last {kn : List Dm} {d : Dm} {a : Int} (hn : d.2.2.1 ∉ numsD kn) : chgK (kn ++ [(d.1, d.2.1, d.2.2.1, a)]) d.2.2.1 d.2.2.2 = kn ++ [d] := by
  unfold chgK
  rw [List.map_append]
  congr 1
  · conv => rhs; rw [← List.map_id kn]
    refine List.map_congr_left fun x hx => ?_
    rw [if_neg fun e => hn (by rw [← e]; exact List.mem_map_of_mem (f := fun d : Dm => d.2.2.1) hx)]; rfl
  · simp
theorem del_last {kn : List Dm} {d : Dm} {n : Int} (hn : n ∉ numsD kn) (hd : d.2.2.1 = n) : delK (kn ++ [d]) n = kn := by
  unfold delK
  rw [List.filter_append, List.filter_eq_self.mpr fun x hx => by
    simp only [decide_eq_true_eq]
    intro e
    exact hn (by rw [← e]; exact List.mem_map_of_mem (f := fun d : Dm => d.2.2.1) hx)]
  simp [hd]
/-- a year closed and opened at once -/
theorem shut_open (B : BAt S b K R U p kn [] ys ex) {yr : Int} (hy : 0 ≤ yr ∧ yr ≤ 9999) : ∃ S1 S2, F_book_close [.ref b, .int yr] S = .ok .non S1 ∧ BAt S1 b K R U p kn [yr] ys ex ∧ F_book_reopen [.ref b, .int yr] S1 = .ok .non S2 ∧ BAt S2 b K R U p kn [] ys ex ∧ Fr S S2 (mdB K R U ys) ∧ S2.length = S.length := by
  obtain ⟨k1, k2, k3'⟩ := mdB_K (K := K) (R := R) (U := U) (ys := ys)
  have h1 := l_bk_close B hy (by simp) (by simp)
  have B1 := B.setU [yr]
  have h2 := l_bk_reopen B1 hy (by simp)
  have B2 := B1.setU []
  refine ⟨_, _, h1, B1, by simpa using h2, B2, (Fr.set k3').trans (Fr.set k3'), by simp⟩
theorem Fr.comp {S S1 S2 : Sto} {md md2 : List Nat} (f : Fr S S1 md) (f2 : Fr S1 S2 md2) (h : ∀ a ∈ md2, a ∈ md ∨ S.length ≤ a) : Fr S S2 md := fun i o hi hm => f2 _ _ (f _ _ hi hm) fun h2 => by
  have := (List.getElem?_eq_some_iff.mp hi).1
  rcases h i h2 with h | h
  · exact hm h
  · omega
theorem l_told11 (B : BAt S b K R U p kn [] ys ex) (hp9 : p.2.length ≤ 9) (hl : kn.length ≤ 60) {d : Dm} (hd : OkDm d) (hn : d.2.2.1 ∉ numsD kn) (pk : Int) :
    ∃ S' ys', F_l_told [.ref b, dmW d, .int pk] S = .ok (.bl true) S' ∧ BAt S' b K R U p (kn ++ [d]) [] ys' ex ∧ Fr S S' (mdB K R U ys) ∧ S.length ≤ S'.length ∧ ∀ a ∈ mdB K R U ys', a ∈ mdB K R U ys ∨ S.length ≤ a := by
  have hsl3 : ∀ S, slP false (dmW d) none (some 3) S = .ok (.tup [.int d.1, .int d.2.1, .int d.2.2.1]) S := fun S => by simp [dmW]
  have hsl2 : ∀ S, slP false (dmW d) (some 2) none S = .ok (.tup [.int d.2.2.1, .int d.2.2.2]) S := fun S => by simp [dmW]
  rw [F_l_told_eq, b_l_told]
  by_cases cA : pk % 6 < 5 ∧ pk % 5 = 1
  · have hdA : OkDm (d.1, d.2.1, d.2.2.1, (d.2.2.2 + pk) % 1000000000000001) := ⟨hd.yr, hd.dy, hd.nm, by show 0 ≤ (d.2.2.2 + pk) % 1000000000000001 ∧ (d.2.2.2 + pk) % 1000000000000001 ≤ 1000000000000000; omega⟩
    obtain ⟨S1, ys1, a1, a2, a3, a4, a5⟩ := l_bk_told B hp9 (by omega) hdA (by simp) hn
    obtain ⟨S2, b1, b2, b3, b4⟩ := l_bk_change a2 hp9 (by simp; omega) (d := (d.1, d.2.1, d.2.2.1, (d.2.2.2 + pk) % 1000000000000001)) (by simp) (am := d.2.2.2) hd.am (by simp)
    have e := chg_last (a := (d.2.2.2 + pk) % 1000000000000001) hn
    rw [e] at b2
    refine ⟨S2, ys1, ?_, b2, a3.comp b3 a5, by omega, a5⟩
    · have hb1 := b1
      have e2 : (Wv.tup ([.int d.1, .int d.2.1, .int d.2.2.1] ++ [.int ((d.2.2.2 + pk) % 1000000000000001)])) = dmW (d.1, d.2.1, d.2.2.1, (d.2.2.2 + pk) % 1000000000000001) := rfl
      have main : (sIf (fTAnd (fTest (CL.f2 (cmpI fun i j => decide (i < j)) (CL.f2 modI (fVar 2) (fC (.int 6))) (fC (.int 5)))) (fTest (CL.f2 eqP (CL.f2 modI (fVar 2) (fC (.int 5))) (fC (.int 1))))) (sSeq (sExpr (fMeth 1 F_book_told (fVar 0) (fCons (CL.f2 catT (fSl false (fVar 1) (fNoPart) (fPart (fC (.int 3)))) (fN tupP (fCons (CL.f2 modI (CL.f2 addI (CL.f2 idxP (fVar 1) (fC (.int 3))) (fVar 2)) (CL.f2 addI (CL.f2 powI (fC (.int 10)) (fC (.int 15))) (fC (.int 1)))) (fNil)))) (fNil))))
  (sSeq (sExpr (fMeth 1 F_book_change (fVar 0) (fCons (CL.f2 idxP (fVar 1) (fC (.int 2))) (fCons (CL.f2 idxP (fVar 1) (fC (.int 3))) (fNil)))))
  (sRet (fC (.bl true))))) (sNil)) [some (.ref b), some (dmW d), some (.int pk)] S = .rt (.bl true) S2 := by
        rw [sIf_t (S1 := S) (by simp [cA.1, cA.2]), seq_nx (e := [some (.ref b), some (dmW d), some (.int pk)]) (S' := S1) (by
          simp only [dmW] at a1
          simp [hsl3, tupP_d, lenOk_t, methK_ok B.bg.hb, a1]),
          seq_nx (e := [some (.ref b), some (dmW d), some (.int pk)]) (S' := S2) (by simp [methK_ok a2.bg.hb, hb1])]
        simp
      simp only [sSeq, main, SOut.andThen, SOut.out]
  · rw [seq_nx (e := [some (.ref b), some (dmW d), some (.int pk)]) (S' := S) (by
      by_cases c1 : pk % 6 < 5
      · have c2 : ¬ pk % 5 = 1 := fun h => cA ⟨c1, h⟩
        simp [c1, c2]
      · simp [c1])]
    by_cases cB : pk % 6 = 5
    · obtain ⟨S1, S2, a1, a2, a3, a4, a5, a6⟩ := shut_open B hd.yr
      have hcl := l_closed11 a2 hd (by simp)
      obtain ⟨S3, ys3, b1, b2, b3, b4, b5⟩ := l_bk_told a4 hp9 (by omega) hd (by simp) hn
      refine ⟨S3, ys3, ?_, b2, a5.comp b3 (fun a ha => .inl ha), by omega, fun a ha => by
        rcases b5 a ha with h | h
        · exact .inl h
        · exact .inr (by omega)⟩
      have main : (sIf (fTest (CL.f2 eqP (CL.f2 modI (fVar 2) (fC (.int 6))) (fC (.int 5)))) (sSeq (sExpr (fMeth 1 F_book_close (fVar 0) (fCons (CL.f2 idxP (fVar 1) (fC (.int 0))) (fNil))))
  (sSeq (sIf (fTNot (fTest (fN F_l_closed (fCons (fVar 0) (fCons (fVar 1) (fNil)))))) (sRet (fC (.bl false))) (sNil))
  (sSeq (sExpr (fMeth 1 F_book_reopen (fVar 0) (fCons (CL.f2 idxP (fVar 1) (fC (.int 0))) (fNil))))
  (sSeq (sExpr (fMeth 1 F_book_told (fVar 0) (fCons (fVar 1) (fNil))))
  (sRet (fC (.bl true))))))) (sNil)) [some (.ref b), some (dmW d), some (.int pk)] S = .rt (.bl true) S3 := by
        rw [sIf_t (S1 := S) (by simp [cB]), seq_nx (e := [some (.ref b), some (dmW d), some (.int pk)]) (S' := S1) (by simp [methK_ok B.bg.hb, a1]),
          seq_nx (e := [some (.ref b), some (dmW d), some (.int pk)]) (S' := S1) (by simp [hcl]),
          seq_nx (e := [some (.ref b), some (dmW d), some (.int pk)]) (S' := S2) (by simp [methK_ok a2.bg.hb, a3]),
          seq_nx (e := [some (.ref b), some (dmW d), some (.int pk)]) (S' := S3) (by simp [methK_ok a4.bg.hb, b1])]
        simp
      simp only [sSeq] at main ⊢
      simp only [main, SOut.andThen, SOut.out]
    · rw [seq_nx (e := [some (.ref b), some (dmW d), some (.int pk)]) (S' := S) (by simp [cB])]
      have hC : ∃ S1 ys1, (sIf (fTest (CL.f2 eqP (CL.f2 modI (fVar 2) (fC (.int 5))) (fC (.int 2)))) (sSeq (sExpr (fMeth 1 F_book_told (fVar 0) (fCons (CL.f2 catT (fN tupP (fCons (CL.f2 idxP (fN (lstP false) (fCons (CL.f2 idxP (fVar 1) (fC (.int 0))) (fCons (CL.f2 modI (CL.f2 addI (CL.f2 idxP (fVar 1) (fC (.int 0))) (fC (.int 1))) (fC (.int 10000))) (fNil)))) (CL.f2 modI (CL.f2 fdivI (fVar 2) (fC (.int 5))) (fC (.int 2)))) (fCons (CL.f2 addI (fC (.int 1)) (CL.f2 modI (CL.f2 addI (CL.f2 idxP (fVar 1) (fC (.int 1))) (fVar 2)) (fC (.int 366)))) (fNil)))) (fSl false (fVar 1) (fPart (fC (.int 2))) (fNoPart))) (fNil))))
  (sExpr (fMeth 1 F_book_back (fVar 0) (fCons (CL.f2 idxP (fVar 1) (fC (.int 2))) (fNil))))) (sNil)) [some (.ref b), some (dmW d), some (.int pk)] S = .nx [some (.ref b), some (dmW d), some (.int pk)] S1 ∧
          BAt S1 b K R U p kn [] ys1 ex ∧ Fr S S1 (mdB K R U ys) ∧ S.length ≤ S1.length ∧ ∀ a ∈ mdB K R U ys1, a ∈ mdB K R U ys ∨ S.length ≤ a := by
        by_cases c : pk % 5 = 2
        · obtain ⟨yw, hyw, hy⟩ := idx_mem [.int d.1, .int ((d.1 + 1) % 10000)] (pk / 5) 2 (by decide) rfl
          obtain ⟨yr, hyr, rfl⟩ : ∃ yr : Int, (0 ≤ yr ∧ yr ≤ 9999) ∧ yw = .int yr := by
            simp only [List.mem_cons, List.not_mem_nil, or_false] at hyw
            rcases hyw with rfl | rfl
            · exact ⟨_, hd.yr, rfl⟩
            · exact ⟨_, by omega, rfl⟩
          have hdC : OkDm (yr, 1 + (d.2.1 + pk) % 366, d.2.2.1, d.2.2.2) := ⟨hyr, by show 1 ≤ 1 + (d.2.1 + pk) % 366 ∧ 1 + (d.2.1 + pk) % 366 ≤ 366; omega, hd.nm, hd.am⟩
          obtain ⟨S1, ys1, a1, a2, a3, a4, a5⟩ := l_bk_told B hp9 (by omega) hdC (by simp) hn
          obtain ⟨S2, ys2, b1, b2, b3, b4, b5⟩ := l_bk_back a2 hp9 (by simp; omega) (d := (yr, 1 + (d.2.1 + pk) % 366, d.2.2.1, d.2.2.2)) (by simp) (by simp)
          have e2 : delK (kn ++ [(yr, 1 + (d.2.1 + pk) % 366, d.2.2.1, d.2.2.2)]) d.2.2.1 = kn := del_last hn rfl
          simp only at b2
          rw [e2] at b2
          refine ⟨S2, ys2, ?_, b2, a3.comp b3 a5, by omega, fun a ha => ?_⟩
          · rw [sIf_t (S1 := S) (by simp [c]), seq_nx (e := [some (.ref b), some (dmW d), some (.int pk)]) (S' := S1) (by
              simp only [dmW] at a1
              simp [hsl2, tupP_d, lenOk_t, lstP_d, hy, methK_ok B.bg.hb, a1])]
            have hb1 : F_book_back [.ref b, .int d.2.2.1] S1 = .ok .non S2 := b1
            simp [methK_ok a2.bg.hb, hb1]
          · rcases b5 a ha with h | h
            · exact a5 a h
            · exact .inr (by omega)
        · exact ⟨S, ys, by simp [c], B, Fr.refl _ _, Nat.le_refl _, fun a ha => .inl ha⟩
      obtain ⟨S1, ys1, z1, a2, a3, a4, a5⟩ := hC
      rw [seq_nx z1]
      obtain ⟨S2, ys2, b1, b2, b3, b4, b5⟩ := l_bk_told a2 hp9 (by omega) hd (by simp) hn
      rw [seq_nx (e := [some (.ref b), some (dmW d), some (.int pk)]) (S' := S2) (by simp [methK_ok a2.bg.hb, b1])]
      have hE : ∃ S3, (sIf (fTest (CL.f2 eqP (CL.f2 modI (fVar 2) (fC (.int 5))) (fC (.int 3)))) (sSeq (sExpr (fMeth 1 F_book_close (fVar 0) (fCons (CL.f2 idxP (fVar 1) (fC (.int 0))) (fNil))))
  (sExpr (fMeth 1 F_book_reopen (fVar 0) (fCons (CL.f2 idxP (fVar 1) (fC (.int 0))) (fNil))))) (sNil)) [some (.ref b), some (dmW d), some (.int pk)] S2 = .nx [some (.ref b), some (dmW d), some (.int pk)] S3 ∧
          BAt S3 b K R U p (kn ++ [d]) [] ys2 ex ∧ Fr S2 S3 (mdB K R U ys2) ∧ S3.length = S2.length := by
        by_cases c : pk % 5 = 3
        · obtain ⟨S3, S4, c1, c2, c3, c4, c5, c6⟩ := shut_open b2 hd.yr
          refine ⟨S4, ?_, c4, c5, c6⟩
          rw [sIf_t (S1 := S2) (by simp [c]), seq_nx (e := [some (.ref b), some (dmW d), some (.int pk)]) (S' := S3) (by simp [methK_ok b2.bg.hb, c1])]
          simp [methK_ok c2.bg.hb, c3]
        · exact ⟨S2, by simp [c], b2, Fr.refl _ _, rfl⟩
      obtain ⟨S3, z3, c2, c3, c4⟩ := hE
      rw [seq_nx z3]
      have hys : ∀ a ∈ mdB K R U ys2, a ∈ mdB K R U ys ∨ S.length ≤ a := fun a ha => by
        rcases b5 a ha with h | h
        · exact a5 a h
        · exact .inr (by omega)
      refine ⟨S3, ys2, ?_, c2, ((a3.comp b3 a5).comp c3 hys), by omega, hys⟩
      by_cases c : pk % 5 = 4
      · have h5 : OkDm (d.1, d.2.1, d.2.2.1, 5) := ⟨hd.yr, hd.dy, hd.nm, by show (0 : Int) ≤ 5 ∧ (5 : Int) ≤ 1000000000000000; decide⟩
        have hr := l_refused11 c2 h5 (by simp) (by simp [numsD])
        simp only [dmW] at hr
        simp [c, hsl3, tupP_d, lenOk_t, hr]
      · simp [c]
end
theorem l_dmg (ns : List Int) (c : Int) (k : Nat) {m : Int} (hm : 1 ≤ m ∧ m ≤ 30) : ∃ d : Dm, OkDm d ∧ ∀ S, F_l_damage [.scr ns, .int c, .int (k : Nat), .int m] S = .ok (dmW d) S := by
  have hmx : ∀ S, F_l_mixed [.int c, .int (k : Nat)] S = .ok (.int (mixI c k)) S := fun S => l_mixed _ _ S
  have hm2 : ∀ S, F_l_mixed [.int c, .int ((k : Int) + 100)] S = .ok (.int (mixI c (k + 100))) S := fun S => l_mixed _ _ S
  generalize hpk : mixI c k = pk at hmx
  have hc0 : ∀ S, F_l_cell_at [.scr ns, .int 0] S = .ok (.int (cellAt ns 0)) S := fun S => l_cell_at ns 0 S
  have hc2 : ∀ S, F_l_cell_at [.scr ns, .int 2] S = .ok (.int (cellAt ns 2)) S := fun S => l_cell_at ns 2 S
  have hc3 : ∀ S, F_l_cell_at [.scr ns, .int 3] S = .ok (.int (cellAt ns 3)) S := fun S => l_cell_at ns 3 S
  have hbs : 0 ≤ cellAt ns 2 % 9997 ∧ cellAt ns 2 % 9997 ≤ 9996 := by omega
  generalize hbe : cellAt ns 2 % 9997 = bs at hbs
  obtain ⟨yw, hyw, hy⟩ := idx_mem [.int bs, .int bs, .int (bs + 1), .int (9999 - bs), .int ((bs + 100 * (pk / 5 % 99)) % 10000)] pk 5 (by decide) rfl
  obtain ⟨yr, hyr, rfl⟩ : ∃ yr : Int, (0 ≤ yr ∧ yr ≤ 9999) ∧ yw = .int yr := by
    simp only [List.mem_cons, List.not_mem_nil, or_false] at hyw
    rcases hyw with rfl | rfl | rfl | rfl | rfl
    · exact ⟨bs, by omega, rfl⟩
    · exact ⟨bs, by omega, rfl⟩
    · exact ⟨bs + 1, by omega, rfl⟩
    · exact ⟨9999 - bs, by omega, rfl⟩
    · exact ⟨(bs + 100 * (pk / 5 % 99)) % 10000, by omega, rfl⟩
  obtain ⟨xw, hxm, hx⟩ := idx_mem [.int 3, .int 366] (pk / 1830) 2 (by decide) rfl
  obtain ⟨xx, hxx, rfl⟩ : ∃ x : Int, (0 < x ∧ x ≤ 366) ∧ xw = .int x := by
    simp only [List.mem_cons, List.not_mem_nil, or_false] at hxm
    rcases hxm with rfl | rfl
    · exact ⟨3, by decide, rfl⟩
    · exact ⟨366, by decide, rfl⟩
  have hdy : 1 ≤ 1 + pk / 5 % xx ∧ 1 + pk / 5 % xx ≤ 366 := by
    have h1 := Int.emod_nonneg (pk / 5) (b := xx) (by omega)
    have h2 := Int.emod_lt_of_pos (pk / 5) hxx.1
    omega
  have hm0 : 0 < m := by omega
  have hkb : 0 ≤ pk / 3660 % m ∧ pk / 3660 % m ≤ 1000 := by
    have h1 := Int.emod_nonneg (pk / 3660) (b := m) (by omega)
    have h2 := Int.emod_lt_of_pos (pk / 3660) hm0
    omega
  have hnb := nameI_b (pk / 3660 % m) (cellAt ns 3) hkb
  have hname : ∀ S, F_l_name [.int (pk / 3660 % m), .int (cellAt ns 3)] S = .ok (.int (nameI (pk / 3660 % m) (cellAt ns 3))) S := fun S => l_name _ _ _ hkb
  generalize nameI (pk / 3660 % m) (cellAt ns 3) = nm at hnb hname
  have hab := amtI_b c (mixI c (k + 100)) (cellAt ns 0)
  have hamt : ∀ S, F_l_amount [.int c, .int (mixI c (k + 100)), .int (cellAt ns 0)] S = .ok (.int (amtI c (mixI c (k + 100)) (cellAt ns 0))) S := fun S => l_amount _ _ _ S
  generalize amtI c (mixI c (k + 100)) (cellAt ns 0) = am at hab hamt
  have hmul : (-(2 ^ 64) < (100 : Int) ∧ (100 : Int) < 2 ^ 64) := by decide
  refine ⟨(yr, 1 + pk / 5 % xx, nm, am), ⟨hyr, hdy, hnb, hab⟩, fun S => ?_⟩
  rw [F_l_damage_eq, b_l_damage,
    seq_nx (e := [some (.scr ns), some (.int c), some (.int (k : Nat)), some (.int m), some (.int pk), none, none, none, none, none]) (S' := S) (by simp [hmx]),
    seq_nx (e := [some (.scr ns), some (.int c), some (.int (k : Nat)), some (.int m), some (.int pk), some (.int (cellAt ns 0)), none, none, none, none]) (S' := S) (by simp [hc0]),
    seq_nx (e := [some (.scr ns), some (.int c), some (.int (k : Nat)), some (.int m), some (.int pk), some (.int (cellAt ns 0)), some (.int bs), none, none, none]) (S' := S) (by simp [hc2, hbe]),
    seq_nx (e := [some (.scr ns), some (.int c), some (.int (k : Nat)), some (.int m), some (.int pk), some (.int (cellAt ns 0)), some (.int bs), some (.int yr), none, none]) (S' := S) (by simp [mulI_d (.inl hmul), lstP_d, lenOk_t, hy]),
    seq_nx (e := [some (.scr ns), some (.int c), some (.int (k : Nat)), some (.int m), some (.int pk), some (.int (cellAt ns 0)), some (.int bs), some (.int yr), some (.int (1 + pk / 5 % xx)), none]) (S' := S) (by simp [lstP_d, lenOk_t, hx, modI_d hxx.1]),
    seq_nx (e := [some (.scr ns), some (.int c), some (.int (k : Nat)), some (.int m), some (.int pk), some (.int (cellAt ns 0)), some (.int bs), some (.int yr), some (.int (1 + pk / 5 % xx)), some (.int nm)]) (S' := S) (by simp [modI_d hm0, hc3, hname])]
  simp [hm2, hamt, tupP_d, lenOk_t, dmW]
theorem name_inj {c : Int} {j k : Int} (hj : 0 ≤ j ∧ j ≤ 40) (hk : 0 ≤ k ∧ k ≤ 40) (h : nameI j c = nameI k c) : j = k := by
  unfold nameI at h
  split at h
  · omega
  · split at h
    · have h5 : c / 3 % 5 = 0 ∨ c / 3 % 5 = 1 ∨ c / 3 % 5 = 2 ∨ c / 3 % 5 = 3 ∨ c / 3 % 5 = 4 := by omega
      generalize c / 3 % 5 = m at h h5
      generalize c / 3 = e at h
      rcases h5 with rfl | rfl | rfl | rfl | rfl <;> simp [nthI] at h <;> omega
    · exact h
/-- the damages of the law -/
theorem l_damages (ns : List Int) (hl : ns.length ≤ 63) (S : Sto) : ∃ S' ds, F_l_damages [.scr ns] S = .ok (.lst (ds.map dmW)) S' ∧ ds.length ≤ 16 ∧ (∀ d ∈ ds, OkDm d) ∧ (numsD ds).Nodup := by
  have hc3 : ∀ S, F_l_cell_at [.scr ns, .int 3] S = .ok (.int (cellAt ns 3)) S := fun S => l_cell_at ns 3 S
  have hde : ∀ S, F_l_deeds [.scr ns, .int 4, .int 16, .int 40] S = .ok (.lst ((deedsI ns 16).map .int)) S := fun S => l_deeds ns 16 40 S hl (by decide)
  have hdl : (deedsI ns 16).length ≤ 16 := by simp [deedsI]; omega
  generalize deedsI ns 16 = es at hde hdl
  have n1 : (S ++ [Ob.lst []])[S.length]? = some (.lst []) := push_new
  rw [F_l_damages_eq, b_l_damages, seq_nx (e := [some (.scr ns), some (.ref S.length), none, none, none]) (S' := S ++ [.lst []]) (by simp [lstP_d, lenOk_t]),
    seq_nx (e := [some (.scr ns), some (.ref S.length), some (.lst (es.map .int)), none, none]) (S' := S ++ [.lst []]) (by simp [hde])]
  obtain ⟨e, S1, g, ⟨ds, q1, q2, q3, q4⟩, x3, x4, rfl⟩ := for_ix (tg := tgName 3) (body := b_l_damages_f1) (ws := rangeW 0 es.length) (env := [some (.scr ns), some (.ref S.length), some (.lst (es.map .int)), none, none]) (S := S ++ [.lst []])
    (fun i e S' => (∃ ds : List Dm, S'[S.length]? = some (.lst (ds.map dmW)) ∧ ds.length = i ∧ (∀ d ∈ ds, OkDm d) ∧ numsD ds = (List.range i).map fun j => nameI (j : Nat) (cellAt ns 3)) ∧ ∃ x3 x4, e = [some (.scr ns), some (.ref S.length), some (.lst (es.map .int)), x3, x4]) ⟨⟨[], n1, rfl, (fun d hd => by cases hd), rfl⟩, _, _, rfl⟩ (by
      rintro i w env S2 hw ⟨⟨ds, q1, q2, q3, q4⟩, x3, x4, rfl⟩
      obtain ⟨hi, rfl⟩ := rangeW_at hw
      have e0 : (0 : Int) + (i : Int) = i := by omega
      have hx : es[i]? = some es[i] := List.getElem?_eq_getElem hi
      generalize es[i] = c at hx
      have i1 : ∀ S, idxP (.lst (es.map .int)) (.int (i : Int)) S = .ok (.int c) S := fun S => idx_lst (atI_map hx)
      obtain ⟨d, hd, hdm⟩ := l_dmg ns c i (m := 30) (by decide)
      have hnb := nameI_b (i : Nat) (cellAt ns 3) (by omega)
      have hnm : ∀ S, F_l_name [.int (i : Nat), .int (cellAt ns 3)] S = .ok (.int (nameI (i : Nat) (cellAt ns 3))) S := fun S => l_name _ _ S (by omega)
      have hap := app_ref (x := dmW (d.1, d.2.1, nameI (i : Nat) (cellAt ns 3), d.2.2.2)) q1 (lenOk_t (by rw [List.length_map]; omega))
      have t1 := tyOf_ref q1
      refine ⟨_, rfl, [some (.scr ns), some (.ref S.length), some (.lst (es.map .int)), some (.int (i : Int)), some (dmW d)], S2.set S.length (.lst (ds.map dmW ++ [dmW (d.1, d.2.1, nameI (i : Nat) (cellAt ns 3), d.2.2.2)])), ?_, ⟨ds ++ [(d.1, d.2.1, nameI (i : Nat) (cellAt ns 3), d.2.2.2)], ?_, by simp [q2], fun x hx => ?_, ?_⟩, _, _, rfl⟩
      · rw [b_l_damages_f1]
        simp only [e0]
        rw [seq_nx (e := [some (.scr ns), some (.ref S.length), some (.lst (es.map .int)), some (.int (i : Int)), some (dmW d)]) (S' := S2) (by simp [i1, hdm])]
        have hsl2 : slP false (dmW d) none (some 2) S2 = .ok (.tup [.int d.1, .int d.2.1]) S2 := by simp [dmW]
        simp only [dmW] at hap
        simp [t1, hsl2, hc3, hnm, tupP_d, lenOk_t]
        simp [dmW] at hap ⊢
        simp [hap]
      · rw [List.map_append]; exact set_get q1
      · rcases List.mem_append.mp hx with hx | hx
        · exact q3 x hx
        · rw [List.mem_singleton] at hx; rw [hx]; exact ⟨hd.yr, hd.dy, hnb, hd.am⟩
      · rw [List.range_succ, List.map_append, ← q4]; simp [numsD])
  rw [rangeW_len] at q2 q4
  rw [seq_nx (by rw [sFor_items (S1 := S ++ [.lst []]) (ws := rangeW 0 es.length) (by simp; rw [rng1K_d (by omega)]; simp)]; exact g), seq_nx (sFrz_ref (k := S.length) rfl q1)]
  refine ⟨S1.set S.length .dead, ds, by simp, by omega, q3, ?_⟩
  rw [q4]
  refine List.pairwise_map.mpr ?_
  refine List.Pairwise.imp_of_mem (fun {a b} ha hb hab h => ?_) (List.pairwise_lt_range (n := es.length))
  have ha := List.mem_range.mp ha
  have hb := List.mem_range.mp hb
  have := name_inj (by omega) (by omega) h
  omega
def l4 (d : Dm) : List Int := [d.1, d.2.1, d.2.2.1, d.2.2.2]
theorem sorted_dms {ds : List Dm} (ok : ∀ d ∈ ds, OkDm d) (hl : ds.length ≤ 16) : ∃ sd : List Dm, sd.Perm ds ∧ ∀ S, sortedTP false [.lst (ds.map dmW)] S = .ok (.lst (sd.map dmW)) S := by
  have hf : F2 (fun r (d : Dm) => r = l4 d) (ds.map l4) ds := F2.at (by simp) fun i a b h1 h2 => by
    rw [List.getElem?_map, h2] at h1
    exact (Option.some.inj h1).symm
  obtain ⟨sd, p1, f1⟩ := hf.perm (sortC_perm bigB (ds.map l4))
  have he : sortC bigB (ds.map l4) = sd.map l4 := by
    clear p1
    generalize sortC bigB (ds.map l4) = R at f1
    induction f1 with
    | nil => rfl
    | cons r _ ih => rw [List.map_cons, ← ih, r]
  refine ⟨sd, p1, fun S => ?_⟩
  have e1 : ds.map dmW = (ds.map l4).map tupW := by rw [List.map_map]; rfl
  have e2 : sd.map dmW = (sd.map l4).map tupW := by rw [List.map_map]; rfl
  have hc : (ds.map l4).length < 64 ∧ (ds.map l4).all okT4 = true := ⟨by rw [List.length_map]; omega, by
    rw [List.all_map]
    refine List.all_eq_true.mpr fun d hd => ?_
    have h := ok d hd
    have h1 := h.yr
    have h2 := h.dy
    have h3 := h.nm
    have h4 := h.am
    show okT4 (l4 d) = true
    simp only [okT4, l4, List.length_cons, List.length_nil, List.all_cons, List.all_nil, Bool.and_true, Bool.and_eq_true, decide_eq_true_eq, bigB]
    exact ⟨trivial, ⟨h1.1, decide_eq_true (by omega)⟩, ⟨by omega, decide_eq_true (by omega)⟩, ⟨h3.1, decide_eq_true (by omega)⟩, ⟨h4.1, decide_eq_true (by omega)⟩⟩⟩
  simp only [sortedTP, lstOf, e1, tupsOf_map, hc, and_self, if_true, he, e2, mkL_f]
theorem erase_perm {α : Type} : ∀ {l : List α} {k : Nat} (h : k < l.length), (l[k] :: l.eraseIdx k).Perm l
  | [], _, h => by cases h
  | a :: l, 0, _ => List.Perm.refl _
  | a :: l, k + 1, h => by
    have ih := erase_perm (l := l) (k := k) (by simpa using h)
    exact (List.Perm.swap _ _ _).trans (ih.cons a)
theorem erase_map {α β : Type} {f : α → β} : ∀ (l : List α) (k : Nat), (l.map f).eraseIdx k = (l.eraseIdx k).map f
  | [], _ => rfl
  | _ :: _, 0 => rfl
  | a :: l, k + 1 => by
    show f a :: (l.map f).eraseIdx k = f a :: (l.eraseIdx k).map f
    rw [erase_map l k]
/-- the second book, and what is left for it -/
structure L11 (S : Sto) (N0 b K R U lf : Nat) (p : Pl) (ds kn ls : List Dm) (ys : Ys) : Prop where
  B : BAt S b K R U p kn [] ys [lf]
  hl : S[lf]? = some (.lst (ls.map dmW))
  pm : (kn ++ ls).Perm ds
  ge : (∀ a ∈ mdB K R U ys, N0 ≤ a) ∧ N0 ≤ lf
theorem left_loop {p : Pl} (hp : OkPlan p) {N0 b K R U lf : Nat} {ds : List Dm} (ok : ∀ d ∈ ds, OkDm d) (nd : (numsD ds).Nodup) (hdl : ds.length ≤ 16) (x0 x1 x2 x3 x5 x6 x11 : Option Wv) :
    ∀ (n : Nat) (kn ls : List Dm) (ys : Ys) (S : Sto) (c : Int) (x4 x10 : Option Wv) (m : Nat), ls.length = n → L11 S N0 b K R U lf p ds kn ls ys → N0 ≤ S.length →
      ∃ S' kn' ys' c' x4' x10', whLoop b_law_t6 b_law_w5 (n + 1 + m) [x0, x1, x2, x3, x4, x5, x6, some (.ref b), some (.ref lf), some (.int c), x10, x11] S = .nx [x0, x1, x2, x3, x4', x5, x6, some (.ref b), some (.ref lf), some (.int c'), x10', x11] S' ∧
        L11 S' N0 b K R U lf p ds kn' [] ys' ∧ S.length ≤ S'.length ∧ ∀ i o, i < N0 → S[i]? = some o → S'[i]? = some o
  | 0, kn, ls, ys, S, c, x4, x10, m, hn, L, h0 => by
    have e : ls = [] := List.length_eq_zero_iff.mp hn
    subst e
    have hL : S[lf]? = some (.lst []) := L.hl
    have ht : b_law_t6 [x0, x1, x2, x3, x4, x5, x6, some (.ref b), some (.ref lf), some (.int c), x10, x11] S = .ok false S := by
      have : neP (.ref lf) (.lst []) S = .ok (.bl false) S := neP_ref (deep_ref_nil hL rfl)
      simp [b_law_t6, lstP_d, lenOk_t, this]
    refine ⟨S, kn, ys, c, x4, x10, ?_, L, Nat.le_refl _, fun i o _ h => h⟩
    rw [show 0 + 1 + m = m + 1 by omega]
    simp only [whLoop, ht, thn_ok]
    rfl
  | n + 1, kn, ls, ys, S, c, x4, x10, m, hn, L, h0 => by
    have hne : ls ≠ [] := fun e => by rw [e] at hn; cases hn
    have ht : b_law_t6 [x0, x1, x2, x3, x4, x5, x6, some (.ref b), some (.ref lf), some (.int c), x10, x11] S = .ok true S := by
      have : neP (.ref lf) (.lst []) S = .ok (.bl true) S := by
        have h := deep_ref_nil L.hl (dms_okL ls)
        rw [show (ls.map dmW).isEmpty = false by cases ls with | nil => exact absurd rfl hne | cons _ _ => rfl] at h
        exact neP_ref h
      simp [b_law_t6, lstP_d, lenOk_t, this]
    have hpl := L.pm.length_eq
    rw [List.length_append] at hpl
    obtain ⟨d0, hd0⟩ : ∃ d0, ls[0]? = some d0 := ⟨ls[0]'(by omega), List.getElem?_eq_getElem _⟩
    have i0 : idxP (.ref lf) (.int 0) S = .ok (dmW d0) S := idx_ref L.hl (by rw [show (0 : Int) = ((0 : Nat) : Int) from rfl, atI_n, List.getElem?_map, hd0]; rfl)
    obtain ⟨pk, hmx⟩ : ∃ pk : Int, ∀ S, F_l_mixed [.int (d0.2.2.2 + d0.2.1), .int c] S = .ok (.int pk) S := ⟨_, fun S => l_mixed _ c S⟩
    have hpos : 0 < (ls.length : Int) := by omega
    obtain ⟨k, hk, hkl⟩ : ∃ k : Nat, (k : Int) = pk / 100 % (ls.length : Int) ∧ k < ls.length := by
      have h1 := Int.emod_nonneg (pk / 100) (b := (ls.length : Int)) (by omega)
      have h2 := Int.emod_lt_of_pos (pk / 100) hpos
      exact ⟨(pk / 100 % (ls.length : Int)).toNat, by omega, by omega⟩
    have hd : ls[k]? = some ls[k] := List.getElem?_eq_getElem hkl
    have hpe : (ls[k] :: ls.eraseIdx k).Perm ls := erase_perm hkl
    generalize ls[k] = d at hd hpe
    have hel : (ls.eraseIdx k).length = n := by rw [List.length_eraseIdx]; simp [hkl]; omega
    have hpop : popP (.ref lf) [.int (pk / 100 % (ls.length : Int))] S = .ok (dmW d) (S.set lf (.lst ((ls.eraseIdx k).map dmW))) := by
      rw [← hk]
      have c : (0 : Int) ≤ (k : Int) ∧ (k : Int) < 2 ^ 63 := by omega
      have hx : (ls.map dmW)[k]? = some (dmW d) := by rw [List.getElem?_map, hd]; rfl
      have he : (ls.map dmW).eraseIdx k = (ls.eraseIdx k).map dmW := erase_map ls k
      simp only [popP, liveL_ref L.hl, if_pos c, Int.toNat_natCast, hx, he]
    have f1 : Fr S (S.set lf (.lst ((ls.eraseIdx k).map dmW))) [lf] := Fr.set (by simp)
    have l1 : (S.set lf (Ob.lst ((ls.eraseIdx k).map dmW))).length = S.length := List.length_set
    have B1 := L.B.fr f1 (by omega) (fun a ha => .inl ha)
    have n1 := set_get (o' := Ob.lst ((ls.eraseIdx k).map dmW)) L.hl
    generalize S.set lf (.lst ((ls.eraseIdx k).map dmW)) = S1 at *
    have hdm : d ∈ ds := L.pm.mem_iff.mp (List.mem_append_right _ (List.mem_of_getElem? hd))
    have hndk : (numsD (kn ++ ls)).Nodup := ((L.pm.map fun d : Dm => d.2.2.1).nodup_iff).mpr nd
    have hnk : d.2.2.1 ∉ numsD kn := fun hm => by
      rw [numsD, List.map_append, List.nodup_append] at hndk
      exact hndk.2.2 _ hm _ (List.mem_map_of_mem (f := fun d : Dm => d.2.2.1) (List.mem_of_getElem? hd)) rfl
    obtain ⟨S2, ys2, a1, a2, a3, a4, a5⟩ := l_told11 B1 hp.len (by omega) (ok d hdm) hnk pk
    have hlx := (B1.bg.exl lf (by simp)).2.1
    have n2 := a3 _ _ n1 hlx
    have hA : ∃ S3, (sIf (fTest (CL.f2 eqP (CL.f2 modI (CL.f2 fdivI (fVar 10) (fC (.int 5))) (fC (.int 7))) (fC (.int 0)))) (sExpr (fN F_l_all (fCons (fVar 7) (fCons (fN (lstP false) (fCons (CL.f2 idxP (fVar 4) (fC (.int 2))) (fNil))) (fNil))))) (sNil)) [x0, x1, x2, x3, some (dmW d), x5, x6, some (.ref b), some (.ref lf), some (.int c), some (.int pk), x11] S2 = .nx [x0, x1, x2, x3, some (dmW d), x5, x6, some (.ref b), some (.ref lf), some (.int c), some (.int pk), x11] S3 ∧ Fr S2 S3 [] ∧ S2.length ≤ S3.length := by
      by_cases c7 : pk / 5 % 7 = 0
      · obtain ⟨S3, xs, z1, -, -, -, z2, z3⟩ := l_all a2 hp (by simp; omega) (ds := [d]) (fun x hx => by rw [List.mem_singleton] at hx; simp [hx]) (by simp)
        have z1 : F_l_all [.ref b, .lst [.int d.2.2.1]] S2 = .ok (.ref (S2.length + 1)) S3 := z1
        exact ⟨S3, by simp [c7, lstP_d, lenOk_t, z1], z2, z3⟩
      · exact ⟨S2, by simp [c7], Fr.refl _ _, Nat.le_refl _⟩
    obtain ⟨S3, z1, z2, z3⟩ := hA
    have L3 : L11 S3 N0 b K R U lf p ds (kn ++ [d]) (ls.eraseIdx k) ys2 := ⟨a2.fr0 z2 z3, z2 _ _ n2 (by simp), by
        refine List.Perm.trans ?_ L.pm
        rw [List.append_assoc]
        exact hpe.append_left kn, ⟨fun a ha => by
        rcases a5 a ha with h | h
        · exact L.ge.1 a h
        · omega, L.ge.2⟩⟩
    obtain ⟨S4, kn', ys', c', x4', x10', r1, r2, r3, r4⟩ := left_loop hp ok nd hdl x0 x1 x2 x3 x5 x6 x11 n (kn ++ [d]) (ls.eraseIdx k) ys2 S3 (c + 1) (some (dmW d)) (some (.int pk)) m hel L3 (by omega)
    refine ⟨S4, kn', ys', c', x4', x10', ?_, r2, by omega, fun i o hi h => r4 i o hi (z2 _ _ (a3 _ _ (f1 _ _ h (by have := L.ge.2; rw [List.mem_singleton]; omega)) (fun hm => by have := L.ge.1 i hm; omega)) (by simp))⟩
    have hb : b_law_w5 [x0, x1, x2, x3, x4, x5, x6, some (.ref b), some (.ref lf), some (.int c), x10, x11] S = .nx [x0, x1, x2, x3, some (dmW d), x5, x6, some (.ref b), some (.ref lf), some (.int (c + 1)), some (.int pk), x11] S3 := by
      have hlen : lenP [.ref lf] S = .ok (.int ls.length) S := by
        have := len_ty (seqOf_ref L.hl)
        rw [List.length_map] at this; exact this
      rw [b_law_w5, seq_nx (e := [x0, x1, x2, x3, x4, x5, x6, some (.ref b), some (.ref lf), some (.int c), some (.int pk), x11]) (S' := S) (by simp [i0, hmx]),
        seq_nx (e := [x0, x1, x2, x3, some (dmW d), x5, x6, some (.ref b), some (.ref lf), some (.int c), some (.int pk), x11]) (S' := S1) (by
          simp [tyOf_ref L.hl, hlen, modI_d hpos, hpop]),
        seq_nx (e := [x0, x1, x2, x3, some (dmW d), x5, x6, some (.ref b), some (.ref lf), some (.int c), some (.int pk), x11]) (S' := S2) (by simp [a1]),
        seq_nx z1]
      simp
    rw [show n + 1 + 1 + m = (n + 1 + m) + 1 by omega]
    simp only [whLoop, ht, thn_ok, if_true, hb, r1]
theorem law_true (ns : List Int) (hl : ns.length ≤ 63) : ∃ S', F_law [.scr ns] [] = .ok (.bl true) S' := by
  have hok := planI_ok (cellAt ns 0) (cellAt ns 1)
  have hpl := l_plan ns 0 []
  simp only [Nat.zero_add] at hpl
  generalize hp : planI (cellAt ns 0) (cellAt ns 1) = p at hok hpl
  have hp9 := hok.len
  have hpl' : F_l_plan [.scr ns, .int 0] [] = .ok (planW p) [.lst (p.2.map layW)] := hpl
  obtain ⟨S1, ds, hds, hdl, ok, nd⟩ := l_damages ns hl [.lst (p.2.map layW)]
  have hln : lenOk (ds.map dmW).length = true := lenOk_t (by rw [List.length_map]; omega)
  have hnum : ∀ S, lcItems (tgName 4) fYes b_law_c1 (wipeE [some (.scr ns), some (planW p), some (.lst (ds.map dmW)), none, none, none, none, none, none, none, none, none] [4]) (ds.map dmW) S = .ok ((ds.map (·.2.2.1)).map .int) S := fun S => by
    refine lc_by (by simp) fun i w v hw hv => ?_
    rw [List.getElem?_map] at hw
    obtain ⟨d, hd, rfl⟩ := Option.map_eq_some_iff.mp hw
    rw [List.getElem?_map, List.getElem?_map, hd] at hv
    obtain rfl := (Option.some.inj hv).symm
    exact ⟨_, rfl, by simp [b_law_c1, wipeE]⟩
  obtain ⟨S2, hnew, hB, w2, l2⟩ := l_bk_new hok S1
  obtain ⟨sd, sp, hsd⟩ := sorted_dms ok hdl
  have sdl := sp.length_eq
  have snd : (numsD sd).Nodup := ((sp.map fun d : Dm => d.2.2.1).nodup_iff).mpr nd
  have hF : F_law [.scr ns] [] = (b_law [some (.scr ns), none, none, none, none, none, none, none, none, none, none, none] []).out := rfl
  rw [hF, b_law, seq_nx (e := [some (.scr ns), some (planW p), none, none, none, none, none, none, none, none, none, none]) (S' := [.lst (p.2.map layW)]) (by simp [hpl']),
    seq_nx (e := [some (.scr ns), some (planW p), some (.lst (ds.map dmW)), none, none, none, none, none, none, none, none, none]) (S' := S1) (by simp [hds]),
    seq_nx (e := [some (.scr ns), some (planW p), some (.lst (ds.map dmW)), some (.lst ((ds.map (·.2.2.1)).map .int)), none, none, none, none, none, none, none, none]) (S' := S1) (by
      simp only [sSet_d, fLc_d, itSeq_d, fVar_s, fVar_z, bind_ok, seqK_l, lcK_d hln, hnum, nox_ok, mkL_f, thn_ok]
      rfl),
    seq_nx (e := [some (.scr ns), some (planW p), some (.lst (ds.map dmW)), some (.lst ((ds.map (·.2.2.1)).map .int)), none, some (.ref S1.length), none, none, none, none, none, none]) (S' := S2) (by simp [hnew])]
  generalize S1.length = b at *
  -- the first book is told them by their days
  obtain ⟨e, S3, h, ⟨ys, g1⟩, x4, rfl⟩ := for_ix (tg := tgName 4) (body := b_law_f2) (ws := sd.map dmW) (env := [some (.scr ns), some (planW p), some (.lst (ds.map dmW)), some (.lst ((ds.map (·.2.2.1)).map .int)), none, some (.ref b), none, none, none, none, none, none]) (S := S2)
    (fun i e S' => (∃ ys, BAt S' b (b + 1) (b + 2) (b + 3) p (sd.take i) [] ys []) ∧ ∃ x4, e = [some (.scr ns), some (planW p), some (.lst (ds.map dmW)), some (.lst ((ds.map (·.2.2.1)).map .int)), x4, some (.ref b), none, none, none, none, none, none]) ⟨⟨[], by simpa using hB⟩, _, rfl⟩ (by
      rintro i w env S4 hw ⟨⟨ys, g1⟩, x4, rfl⟩
      rw [List.getElem?_map] at hw
      obtain ⟨d, hd, rfl⟩ := Option.map_eq_some_iff.mp hw
      have hdk := ok d (sp.mem_iff.mp (List.mem_of_getElem? hd))
      have hn : d.2.2.1 ∉ numsD (sd.take i) := fun hm => by
        have hi := (List.getElem?_eq_some_iff.mp hd).1
        have h2 : (sd.take i ++ sd.drop i) = sd := List.take_append_drop i sd
        rw [← h2, numsD, List.map_append, List.nodup_append] at snd
        refine snd.2.2 _ hm _ (List.mem_map_of_mem (f := fun d : Dm => d.2.2.1) (a := d) ?_) rfl
        exact List.mem_of_getElem? (i := 0) (by rw [List.getElem?_drop]; simpa using hd)
      obtain ⟨S5, ys5, a1, a2, a3, a4, a5⟩ := l_bk_told g1 hp9 (by simp; omega) hdk (by simp) hn
      refine ⟨_, rfl, [some (.scr ns), some (planW p), some (.lst (ds.map dmW)), some (.lst ((ds.map (·.2.2.1)).map .int)), some (dmW d), some (.ref b), none, none, none, none, none, none], S5, by simp [b_law_f2, methK_ok g1.bg.hb, a1], ⟨ys5, ?_⟩, _, rfl⟩
      rw [List.take_add_one, hd]; exact a2)
  rw [List.length_map, List.take_length] at g1
  rw [seq_nx (by rw [sFor_items (S1 := S2) (ws := sd.map dmW) (by simp [hsd])]; exact h)]
  -- all that it tells
  obtain ⟨S4, xs, d1, d2, d3, d4, d5, d6⟩ := l_all g1 hok (by omega) (ds := ds) (fun d hd => sp.mem_iff.mpr hd) (by omega)
  have g4 := g1.fr0 d5 d6
  rw [seq_nx (e := [some (.scr ns), some (planW p), some (.lst (ds.map dmW)), some (.lst ((ds.map (·.2.2.1)).map .int)), x4, some (.ref b), some (.ref (S3.length + 1)), none, none, none, none, none]) (S' := S4) (by simp [d1, -List.map_map])]
  have hy0 : idxP (.ref (S3.length + 1)) (.int 0) S4 = .ok (.ref S3.length) S4 := idx_ref d2 (by rw [show (0 : Int) = ((0 : Nat) : Int) from rfl, atI_n]; rfl)
  have hyr : lcItems (tgName 4) fYes b_law_c3 (wipeE [some (.scr ns), some (planW p), some (.lst (ds.map dmW)), some (.lst ((ds.map (·.2.2.1)).map .int)), x4, some (.ref b), some (.ref (S3.length + 1)), none, none, none, none, none] [4]) (ds.map dmW) S4 = .ok ((ds.map (·.1)).map .int) S4 := by
    refine lc_by (by simp) fun i w v hw hv => ?_
    rw [List.getElem?_map] at hw
    obtain ⟨d, hd, rfl⟩ := Option.map_eq_some_iff.mp hw
    rw [List.getElem?_map, List.getElem?_map, hd] at hv
    obtain rfl := (Option.some.inj hv).symm
    exact ⟨_, rfl, by simp [b_law_c3, wipeE]⟩
  have hss : sortedSetP false (.lst ((ds.map (·.1)).map .int)) S4 = .ok (.lst ((yearsI sd).map .int)) S4 := by
    rw [years_congr sp]
    have hc : (ds.map (·.1)).length < 64 := by rw [List.length_map]; omega
    simp only [sortedSetP, lstOf, intsOf_map, hc, if_true, mkL_f]
    rfl
  have hne1 : neP (.ref S3.length) (.lst ((yearsI sd).map .int)) S4 = .ok (.bl false) S4 := neP_ref (deep_rl d3 (ok_ints _))
  have hln2 : lenOk ((ds.map (·.2.2.1)).map Wv.int).length = true := lenOk_t (by simp; omega)
  have hdm : lcItems (tgName 11) fYes b_law_c4 (wipeE [some (.scr ns), some (planW p), some (.lst (ds.map dmW)), some (.lst ((ds.map (·.2.2.1)).map .int)), x4, some (.ref b), some (.ref (S3.length + 1)), none, none, none, none, none] [11]) ((ds.map (·.2.2.1)).map .int) S4 = .ok (ds.map dmW) S4 := by
    refine lc_by (by simp) fun i w v hw hv => ?_
    rw [List.getElem?_map] at hv
    obtain ⟨d, hd, rfl⟩ := Option.map_eq_some_iff.mp hv
    rw [List.getElem?_map, List.getElem?_map, hd] at hw
    obtain rfl := (Option.some.inj hw).symm
    have := l_bk_damage g4 (sp.mem_iff.mpr (List.mem_of_getElem? hd))
    exact ⟨_, rfl, by simp [b_law_c4, wipeE, methK_ok g4.bg.hb, this]⟩
  have hne2 : neP (.lst (ds.map dmW)) (.lst (ds.map dmW)) S4 = .ok (.bl false) S4 := by
    have := deep_refl (S := S4) (dms_okL ds)
    simp only [neP, this, Bool.not_true]
  generalize hN : (ds.map (·.2.2.1)).map Wv.int = NW at *
  generalize hD : ds.map dmW = DW at *
  generalize hY : (ds.map (·.1)).map Wv.int = YW at *
  rw [seq_nx (e := [some (.scr ns), some (planW p), some (.lst DW), some (.lst NW), x4, some (.ref b), some (.ref (S3.length + 1)), none, none, none, none, none]) (S' := S4) (by
    simp [hy0, lcK_d hln, hyr, hss, hne1, lcK_d hln2, hdm, hne2])]
  -- the second book
  obtain ⟨S5, hnew2, hB2, w5, l5⟩ := l_bk_new hok S4
  have n6 : (S5 ++ [Ob.lst DW])[S5.length]? = some (.lst DW) := push_new
  have hli : listP true [.lst DW] S5 = .ok (.ref S5.length) (S5 ++ [.lst DW]) := by simp only [listP, seqTup, seqOf_lst, mkL_t]
  have f6 : Fr S5 (S5 ++ [Ob.lst DW]) [] := Fr.push
  have l6 : (S5 ++ [Ob.lst DW]).length = S5.length + 1 := by simp
  have B6 := hB2.fr0 f6 (by omega)
  generalize S5 ++ [Ob.lst DW] = S6 at *
  have L6 : L11 S6 S4.length S4.length (S4.length + 1) (S4.length + 2) (S4.length + 3) S5.length p ds [] ds [] := ⟨⟨B6.bg.more (fun a ha => by
      rw [List.mem_singleton] at ha
      rw [ha]; refine ⟨by omega, ?_, by omega⟩
      simp [mdB]; omega) (fun q hq => by cases hq), B6.ym, B6.nd, B6.ok⟩, by rw [hD]; exact n6, List.Perm.refl _, ⟨fun a ha => by simp [mdB] at ha; omega, by omega⟩⟩
  obtain ⟨S7, kn, ys', c', x4', x10', r1, r2, r3, r4⟩ := left_loop hok ok nd hdl (some (.scr ns)) (some (planW p)) (some (.lst DW)) (some (.lst NW)) (some (.ref b)) (some (.ref (S3.length + 1))) none ds.length [] ds [] S6 0 x4 none (999 - ds.length) rfl L6 (by omega)
  rw [show ds.length + 1 + (999 - ds.length) = 1000 by omega] at r1
  rw [seq_nx (e := [some (.scr ns), some (planW p), some (.lst DW), some (.lst NW), x4, some (.ref b), some (.ref (S3.length + 1)), some (.ref S4.length), none, none, none, none]) (S' := S5) (by simp [hnew2]),
    seq_nx (e := [some (.scr ns), some (planW p), some (.lst DW), some (.lst NW), x4, some (.ref b), some (.ref (S3.length + 1)), some (.ref S4.length), some (.ref S5.length), none, none, none]) (S' := S6) (by simp [hli]),
    seq_nx (e := [some (.scr ns), some (planW p), some (.lst DW), some (.lst NW), x4, some (.ref b), some (.ref (S3.length + 1)), some (.ref S4.length), some (.ref S5.length), some (.int 0), none, none]) (S' := S6) (by simp),
    seq_nx (show sWhile 1000 b_law_t6 b_law_w5 _ _ = _ from r1)]
  have f7 : Fr S4 S7 [] := fun i o hi _ => r4 i o (List.getElem?_eq_some_iff.mp hi).1 (f6 _ _ (w5 _ _ hi (by simp)) (by simp))
  have g7 := g4.fr0 f7 (by omega)
  have pm : kn.Perm ds := by have := r2.pm; rwa [List.append_nil] at this
  have pkl := pm.length_eq
  -- both alike
  obtain ⟨S8, zs, a1, -, -, a4, a5, a6⟩ := l_all r2.B hok (by omega) (ds := ds) (fun d hd => pm.mem_iff.mpr hd) (by omega)
  rw [hN] at a1
  rw [allW_congr r2.B.nd (pm.trans sp.symm)] at a4
  have e1 := td_eq a4 ((d4.fr0 f7).fr0 a5) (ok_allW p sd ds)
  have g8 := g7.fr0 a5 a6
  obtain ⟨S9, us, b1, -, -, b4, b5, b6⟩ := l_all g8 hok (by omega) (ds := ds) (fun d hd => sp.mem_iff.mpr hd) (by omega)
  rw [hN] at b1
  have e2 := td_eq b4 (((d4.fr0 f7).fr0 a5).fr0 b5) (ok_allW p sd ds)
  have q1 : eqP (.ref (S7.length + 1)) (.ref (S3.length + 1)) S8 = .ok (.bl true) S8 := by simp only [eqP, e1]
  have q2 : eqP (.ref (S8.length + 1)) (.ref (S3.length + 1)) S9 = .ok (.bl true) S9 := by simp only [eqP, e2]
  exact ⟨S9, by simp [a1, q1, b1, q2]⟩
end CL
namespace W_k11_whole_any_order
open PySem PySem.Spec PyProof.Rows L2 CL
theorem nd_0 : (cnm 0).Nodup := by decide +kernel
theorem few_0 : (cnm 0).length < 1000 := by decide
theorem nd_1 : (cnm 1).Nodup := by decide +kernel
theorem few_1 : (cnm 1).length < 1000 := by decide
theorem all_ok {P : Program} {w : World} {K : PySem.W.Frag} {mg : Str → Option Value} {h : Heap} {fa : Addr} (X : K.In h) (G : h.Ns mainGlobals mg) (hfa : mg "law" = some (.ref fa))
    (n_all : mg "all" = none) (n_bool : mg "bool" = none) (n_enumerate : mg "enumerate" = none) (n_int : mg "int" = none) (n_isinstance : mg "isinstance" = none) (n_len : mg "len" = none) (n_list : mg "list" = none) (n_min : mg "min" = none) (n_range : mg "range" = none) (n_set : mg "set" = none) (n_sorted : mg "sorted" = none) (n_sum : mg "sum" = none) (n_tuple : mg "tuple" = none) (n_zip : mg "zip" = none) {x0 x1 x2 x3 x4 x5 x6 x7 : Addr} (e0 : ExG K mg "ClaimError" x0) (e1 : ExG K mg "NoPlan" x1) (e2 : ExG K mg "NoDamage" x2) (e3 : ExG K mg "NoYear" x3) (e4 : ExG K mg "Known" x4) (e5 : ExG K mg "Unknown" x5) (e6 : ExG K mg "Closed" x6) (e7 : ExG K mg "NotClosed" x7) (s00 : PySem.W.subIn K (.ref x0) (.ref x0) = some true) (s01 : PySem.W.subIn K (.ref x0) (.ref x1) = some false) (s02 : PySem.W.subIn K (.ref x0) (.ref x2) = some false) (s03 : PySem.W.subIn K (.ref x0) (.ref x3) = some false) (s04 : PySem.W.subIn K (.ref x0) (.ref x4) = some false) (s05 : PySem.W.subIn K (.ref x0) (.ref x5) = some false) (s06 : PySem.W.subIn K (.ref x0) (.ref x6) = some false) (s07 : PySem.W.subIn K (.ref x0) (.ref x7) = some false) (s10 : PySem.W.subIn K (.ref x1) (.ref x0) = some true) (s11 : PySem.W.subIn K (.ref x1) (.ref x1) = some true) (s12 : PySem.W.subIn K (.ref x1) (.ref x2) = some false) (s13 : PySem.W.subIn K (.ref x1) (.ref x3) = some false) (s14 : PySem.W.subIn K (.ref x1) (.ref x4) = some false) (s15 : PySem.W.subIn K (.ref x1) (.ref x5) = some false) (s16 : PySem.W.subIn K (.ref x1) (.ref x6) = some false) (s17 : PySem.W.subIn K (.ref x1) (.ref x7) = some false) (s20 : PySem.W.subIn K (.ref x2) (.ref x0) = some true) (s21 : PySem.W.subIn K (.ref x2) (.ref x1) = some false) (s22 : PySem.W.subIn K (.ref x2) (.ref x2) = some true) (s23 : PySem.W.subIn K (.ref x2) (.ref x3) = some false) (s24 : PySem.W.subIn K (.ref x2) (.ref x4) = some false) (s25 : PySem.W.subIn K (.ref x2) (.ref x5) = some false) (s26 : PySem.W.subIn K (.ref x2) (.ref x6) = some false) (s27 : PySem.W.subIn K (.ref x2) (.ref x7) = some false) (s30 : PySem.W.subIn K (.ref x3) (.ref x0) = some true) (s31 : PySem.W.subIn K (.ref x3) (.ref x1) = some false) (s32 : PySem.W.subIn K (.ref x3) (.ref x2) = some false) (s33 : PySem.W.subIn K (.ref x3) (.ref x3) = some true) (s34 : PySem.W.subIn K (.ref x3) (.ref x4) = some false) (s35 : PySem.W.subIn K (.ref x3) (.ref x5) = some false) (s36 : PySem.W.subIn K (.ref x3) (.ref x6) = some false) (s37 : PySem.W.subIn K (.ref x3) (.ref x7) = some false) (s40 : PySem.W.subIn K (.ref x4) (.ref x0) = some true) (s41 : PySem.W.subIn K (.ref x4) (.ref x1) = some false) (s42 : PySem.W.subIn K (.ref x4) (.ref x2) = some false) (s43 : PySem.W.subIn K (.ref x4) (.ref x3) = some false) (s44 : PySem.W.subIn K (.ref x4) (.ref x4) = some true) (s45 : PySem.W.subIn K (.ref x4) (.ref x5) = some false) (s46 : PySem.W.subIn K (.ref x4) (.ref x6) = some false) (s47 : PySem.W.subIn K (.ref x4) (.ref x7) = some false) (s50 : PySem.W.subIn K (.ref x5) (.ref x0) = some true) (s51 : PySem.W.subIn K (.ref x5) (.ref x1) = some false) (s52 : PySem.W.subIn K (.ref x5) (.ref x2) = some false) (s53 : PySem.W.subIn K (.ref x5) (.ref x3) = some false) (s54 : PySem.W.subIn K (.ref x5) (.ref x4) = some false) (s55 : PySem.W.subIn K (.ref x5) (.ref x5) = some true) (s56 : PySem.W.subIn K (.ref x5) (.ref x6) = some false) (s57 : PySem.W.subIn K (.ref x5) (.ref x7) = some false) (s60 : PySem.W.subIn K (.ref x6) (.ref x0) = some true) (s61 : PySem.W.subIn K (.ref x6) (.ref x1) = some false) (s62 : PySem.W.subIn K (.ref x6) (.ref x2) = some false) (s63 : PySem.W.subIn K (.ref x6) (.ref x3) = some false) (s64 : PySem.W.subIn K (.ref x6) (.ref x4) = some false) (s65 : PySem.W.subIn K (.ref x6) (.ref x5) = some false) (s66 : PySem.W.subIn K (.ref x6) (.ref x6) = some true) (s67 : PySem.W.subIn K (.ref x6) (.ref x7) = some false) (s70 : PySem.W.subIn K (.ref x7) (.ref x0) = some true) (s71 : PySem.W.subIn K (.ref x7) (.ref x1) = some false) (s72 : PySem.W.subIn K (.ref x7) (.ref x2) = some false) (s73 : PySem.W.subIn K (.ref x7) (.ref x3) = some false) (s74 : PySem.W.subIn K (.ref x7) (.ref x4) = some false) (s75 : PySem.W.subIn K (.ref x7) (.ref x5) = some false) (s76 : PySem.W.subIn K (.ref x7) (.ref x6) = some false) (s77 : PySem.W.subIn K (.ref x7) (.ref x7) = some true) (v0 : PySem.W.subIn K (.ref x0) (.type "ValueError") = some true) (y0 : PySem.W.typeIn K (.ref x0) = some (.type "type")) (g0A : PySem.W.findIn K (.ref x0) "__getattribute__" = some (some (.builtin "BaseException.__getattribute__"))) (g0B : PySem.W.findIn K (.ref x0) "__getattr__" = some none) (g0C : PySem.W.subIn K (.ref x0) (.type "BaseException") = some true) (g0D : PySem.W.hasDictIn K x0 = true) (g0E : PySem.W.findIn K (.ref x0) "__class__" = some (some (.builtin "object.__class__"))) (g0F : PySem.W.mroIn K x0 (.type "object") = some true) (v1 : PySem.W.subIn K (.ref x1) (.type "ValueError") = some true) (y1 : PySem.W.typeIn K (.ref x1) = some (.type "type")) (g1A : PySem.W.findIn K (.ref x1) "__getattribute__" = some (some (.builtin "BaseException.__getattribute__"))) (g1B : PySem.W.findIn K (.ref x1) "__getattr__" = some none) (g1C : PySem.W.subIn K (.ref x1) (.type "BaseException") = some true) (g1D : PySem.W.hasDictIn K x1 = true) (g1E : PySem.W.findIn K (.ref x1) "__class__" = some (some (.builtin "object.__class__"))) (g1F : PySem.W.mroIn K x1 (.type "object") = some true) (v2 : PySem.W.subIn K (.ref x2) (.type "ValueError") = some true) (y2 : PySem.W.typeIn K (.ref x2) = some (.type "type")) (g2A : PySem.W.findIn K (.ref x2) "__getattribute__" = some (some (.builtin "BaseException.__getattribute__"))) (g2B : PySem.W.findIn K (.ref x2) "__getattr__" = some none) (g2C : PySem.W.subIn K (.ref x2) (.type "BaseException") = some true) (g2D : PySem.W.hasDictIn K x2 = true) (g2E : PySem.W.findIn K (.ref x2) "__class__" = some (some (.builtin "object.__class__"))) (g2F : PySem.W.mroIn K x2 (.type "object") = some true) (v3 : PySem.W.subIn K (.ref x3) (.type "ValueError") = some true) (y3 : PySem.W.typeIn K (.ref x3) = some (.type "type")) (g3A : PySem.W.findIn K (.ref x3) "__getattribute__" = some (some (.builtin "BaseException.__getattribute__"))) (g3B : PySem.W.findIn K (.ref x3) "__getattr__" = some none) (g3C : PySem.W.subIn K (.ref x3) (.type "BaseException") = some true) (g3D : PySem.W.hasDictIn K x3 = true) (g3E : PySem.W.findIn K (.ref x3) "__class__" = some (some (.builtin "object.__class__"))) (g3F : PySem.W.mroIn K x3 (.type "object") = some true) (v4 : PySem.W.subIn K (.ref x4) (.type "ValueError") = some true) (y4 : PySem.W.typeIn K (.ref x4) = some (.type "type")) (g4A : PySem.W.findIn K (.ref x4) "__getattribute__" = some (some (.builtin "BaseException.__getattribute__"))) (g4B : PySem.W.findIn K (.ref x4) "__getattr__" = some none) (g4C : PySem.W.subIn K (.ref x4) (.type "BaseException") = some true) (g4D : PySem.W.hasDictIn K x4 = true) (g4E : PySem.W.findIn K (.ref x4) "__class__" = some (some (.builtin "object.__class__"))) (g4F : PySem.W.mroIn K x4 (.type "object") = some true) (v5 : PySem.W.subIn K (.ref x5) (.type "ValueError") = some true) (y5 : PySem.W.typeIn K (.ref x5) = some (.type "type")) (g5A : PySem.W.findIn K (.ref x5) "__getattribute__" = some (some (.builtin "BaseException.__getattribute__"))) (g5B : PySem.W.findIn K (.ref x5) "__getattr__" = some none) (g5C : PySem.W.subIn K (.ref x5) (.type "BaseException") = some true) (g5D : PySem.W.hasDictIn K x5 = true) (g5E : PySem.W.findIn K (.ref x5) "__class__" = some (some (.builtin "object.__class__"))) (g5F : PySem.W.mroIn K x5 (.type "object") = some true) (v6 : PySem.W.subIn K (.ref x6) (.type "ValueError") = some true) (y6 : PySem.W.typeIn K (.ref x6) = some (.type "type")) (g6A : PySem.W.findIn K (.ref x6) "__getattribute__" = some (some (.builtin "BaseException.__getattribute__"))) (g6B : PySem.W.findIn K (.ref x6) "__getattr__" = some none) (g6C : PySem.W.subIn K (.ref x6) (.type "BaseException") = some true) (g6D : PySem.W.hasDictIn K x6 = true) (g6E : PySem.W.findIn K (.ref x6) "__class__" = some (some (.builtin "object.__class__"))) (g6F : PySem.W.mroIn K x6 (.type "object") = some true) (v7 : PySem.W.subIn K (.ref x7) (.type "ValueError") = some true) (y7 : PySem.W.typeIn K (.ref x7) = some (.type "type")) (g7A : PySem.W.findIn K (.ref x7) "__getattribute__" = some (some (.builtin "BaseException.__getattribute__"))) (g7B : PySem.W.findIn K (.ref x7) "__getattr__" = some none) (g7C : PySem.W.subIn K (.ref x7) (.type "BaseException") = some true) (g7D : PySem.W.hasDictIn K x7 = true) (g7E : PySem.W.findIn K (.ref x7) "__class__" = some (some (.builtin "object.__class__"))) (g7F : PySem.W.mroIn K x7 (.type "object") = some true) (gN : PySem.W.specialIn K (.builtin "object.__class__") "__get__" = some (some (.builtin "getset_descriptor.__get__"))) (gT : PySem.W.takesIn K (.builtin "object.__class__") = some true) (c_MOST_COVERS : ConF mg "MOST_COVERS" (.int 9)) (c_MOST_LAYERS : ConF mg "MOST_LAYERS" (.int 9)) {y0c : Addr} (C0 : ClsG K mg "Year" y0c) (N0_0 : PySem.W.findIn K (.ref y0c) "plan" = some none) (N0_1 : PySem.W.findIn K (.ref y0c) "row" = some none) (N0_2 : PySem.W.findIn K (.ref y0c) "steps" = some none) {y1c : Addr} (C1 : ClsG K mg "Book" y1c) (N1_0 : PySem.W.findIn K (.ref y1c) "plan" = some none) (N1_1 : PySem.W.findIn K (.ref y1c) "known" = some none) (N1_2 : PySem.W.findIn K (.ref y1c) "rows" = some none) (N1_3 : PySem.W.findIn K (.ref y1c) "shut" = some none) (M0 : MetF K y0c "__init__" "Year.__init__" s_year_init) (M1 : MetF K y0c "used" "Year.used" s_year_used) (M2 : MetF K y0c "go_on" "Year.go_on" s_year_go_on) (M3 : MetF K y0c "put" "Year.put" s_year_put) (M4 : MetF K y0c "place_of" "Year.place_of" s_year_place_of) (M5 : MetF K y0c "drop" "Year.drop" s_year_drop) (M6 : MetF K y0c "damages" "Year.damages" s_year_damages) (M7 : MetF K y0c "share" "Year.share" s_year_share) (M8 : MetF K y0c "trail" "Year.trail" s_year_trail) (M9 : MetF K y1c "__init__" "Book.__init__" s_book_init) (M10 : MetF K y1c "stands" "Book.stands" s_book_stands) (M11 : MetF K y1c "damage" "Book.damage" s_book_damage) (M12 : MetF K y1c "need_open" "Book.need_open" s_book_need_open) (M13 : MetF K y1c "need_year" "Book.need_year" s_book_need_year) (M14 : MetF K y1c "told" "Book.told" s_book_told) (M15 : MetF K y1c "change" "Book.change" s_book_change) (M16 : MetF K y1c "back" "Book.back" s_book_back) (M17 : MetF K y1c "close" "Book.close" s_book_close) (M18 : MetF K y1c "reopen" "Book.reopen" s_book_reopen) (M19 : MetF K y1c "share" "Book.share" s_book_share) (M20 : MetF K y1c "trail" "Book.trail" s_book_trail) (M21 : MetF K y1c "parts" "Book.parts" s_book_parts) (M22 : MetF K y1c "row_of" "Book.row_of" s_book_row_of) (M23 : MetF K y1c "damages" "Book.damages" s_book_damages) (M24 : MetF K y1c "used" "Book.used" s_book_used) (M25 : MetF K y1c "years" "Book.years" s_book_years) (M26 : MetF K y1c "dues" "Book.dues" s_book_dues) (d1 : DefF K mg "is_whole" "is_whole" s_is_whole) (d2 : DefF K mg "are_weights" "are_weights" s_are_weights) (d3 : DefF K mg "is_layer" "is_layer" s_is_layer) (d4 : DefF K mg "is_plan" "is_plan" s_is_plan) (d5 : DefF K mg "split" "split" s_split) (d6 : DefF K mg "is_year" "is_year" s_is_year) (d7 : DefF K mg "is_amount" "is_amount" s_is_amount) (d8 : DefF K mg "is_damage" "is_damage" s_is_damage) (d9 : DefF K mg "ahead" "ahead" s_ahead) (d10 : DefF K mg "shared" "shared" s_shared) (d11 : DefF K mg "behind" "behind" s_behind) (d12 : DefF K mg "_law_cell_at" "_law_cell_at" s_l_cell_at) (d13 : DefF K mg "_law_mixed" "_law_mixed" s_l_mixed) (d14 : DefF K mg "_law_weights" "_law_weights" s_l_weights) (d15 : DefF K mg "_law_plan" "_law_plan" s_l_plan) (d16 : DefF K mg "_law_amount" "_law_amount" s_l_amount) (d17 : DefF K mg "_law_name" "_law_name" s_l_name) (d18 : DefF K mg "_law_damage" "_law_damage" s_l_damage) (d19 : DefF K mg "_law_deeds" "_law_deeds" s_l_deeds) (d20 : DefF K mg "_law_all" "_law_all" s_l_all) (d21 : DefF K mg "_law_refused" "_law_refused" s_l_refused) (d22 : DefF K mg "_law_closed" "_law_closed" s_l_closed) (d23 : DefF K mg "_law_told" "_law_told" s_l_told) (d24 : DefF K mg "_law_damages" "_law_damages" s_l_damages) (d25 : DefF K mg "law" "law" s_law) :
    ∃ fd : FuncData, (∀ (s : Shared) (v : Value), BindsTo s fd ⟨[v], []⟩ [("_law_script", v)]) ∧ ∀ base : Heap, K.In base → base.Ns mainGlobals mg → FnOk P w K mg base (L2.CX P w) 8 fa fd ["_law_script"] (spLaw K) := by
  obtain ⟨f1, fd1, F1, g1⟩ := d1.ex
  obtain ⟨f2, fd2, F2, g2⟩ := d2.ex
  obtain ⟨f3, fd3, F3, g3⟩ := d3.ex
  obtain ⟨f4, fd4, F4, g4⟩ := d4.ex
  obtain ⟨f5, fd5, F5, g5⟩ := d5.ex
  obtain ⟨f6, fd6, F6, g6⟩ := d6.ex
  obtain ⟨f7, fd7, F7, g7⟩ := d7.ex
  obtain ⟨f8, fd8, F8, g8⟩ := d8.ex
  obtain ⟨f9, fd9, F9, g9⟩ := d9.ex
  obtain ⟨f10, fd10, F10, g10⟩ := d10.ex
  obtain ⟨f11, fd11, F11, g11⟩ := d11.ex
  obtain ⟨f12, fd12, F12, g12⟩ := d12.ex
  obtain ⟨f13, fd13, F13, g13⟩ := d13.ex
  obtain ⟨f14, fd14, F14, g14⟩ := d14.ex
  obtain ⟨f15, fd15, F15, g15⟩ := d15.ex
  obtain ⟨f16, fd16, F16, g16⟩ := d16.ex
  obtain ⟨f17, fd17, F17, g17⟩ := d17.ex
  obtain ⟨f18, fd18, F18, g18⟩ := d18.ex
  obtain ⟨f19, fd19, F19, g19⟩ := d19.ex
  obtain ⟨f20, fd20, F20, g20⟩ := d20.ex
  obtain ⟨f21, fd21, F21, g21⟩ := d21.ex
  obtain ⟨f22, fd22, F22, g22⟩ := d22.ex
  obtain ⟨f23, fd23, F23, g23⟩ := d23.ex
  obtain ⟨f24, fd24, F24, g24⟩ := d24.ex
  obtain ⟨f25, fd25, F25, g25⟩ := d25.ex
  obtain ⟨mf0, mfd0, MF0, ma0, mi0⟩ := M0.ex
  obtain ⟨mf1, mfd1, MF1, ma1, mi1⟩ := M1.ex
  obtain ⟨mf2, mfd2, MF2, ma2, mi2⟩ := M2.ex
  obtain ⟨mf3, mfd3, MF3, ma3, mi3⟩ := M3.ex
  obtain ⟨mf4, mfd4, MF4, ma4, mi4⟩ := M4.ex
  obtain ⟨mf5, mfd5, MF5, ma5, mi5⟩ := M5.ex
  obtain ⟨mf6, mfd6, MF6, ma6, mi6⟩ := M6.ex
  obtain ⟨mf7, mfd7, MF7, ma7, mi7⟩ := M7.ex
  obtain ⟨mf8, mfd8, MF8, ma8, mi8⟩ := M8.ex
  obtain ⟨mf9, mfd9, MF9, ma9, mi9⟩ := M9.ex
  obtain ⟨mf10, mfd10, MF10, ma10, mi10⟩ := M10.ex
  obtain ⟨mf11, mfd11, MF11, ma11, mi11⟩ := M11.ex
  obtain ⟨mf12, mfd12, MF12, ma12, mi12⟩ := M12.ex
  obtain ⟨mf13, mfd13, MF13, ma13, mi13⟩ := M13.ex
  obtain ⟨mf14, mfd14, MF14, ma14, mi14⟩ := M14.ex
  obtain ⟨mf15, mfd15, MF15, ma15, mi15⟩ := M15.ex
  obtain ⟨mf16, mfd16, MF16, ma16, mi16⟩ := M16.ex
  obtain ⟨mf17, mfd17, MF17, ma17, mi17⟩ := M17.ex
  obtain ⟨mf18, mfd18, MF18, ma18, mi18⟩ := M18.ex
  obtain ⟨mf19, mfd19, MF19, ma19, mi19⟩ := M19.ex
  obtain ⟨mf20, mfd20, MF20, ma20, mi20⟩ := M20.ex
  obtain ⟨mf21, mfd21, MF21, ma21, mi21⟩ := M21.ex
  obtain ⟨mf22, mfd22, MF22, ma22, mi22⟩ := M22.ex
  obtain ⟨mf23, mfd23, MF23, ma23, mi23⟩ := M23.ex
  obtain ⟨mf24, mfd24, MF24, ma24, mi24⟩ := M24.ex
  obtain ⟨mf25, mfd25, MF25, ma25, mi25⟩ := M25.ex
  obtain ⟨mf26, mfd26, MF26, ma26, mi26⟩ := M26.ex
  have e := hfa.symm.trans g25
  cases e
  have b : Binds K fd25 ["_law_script"] [] := F25.binds fun _ _ _ _ _ _ us hl => match us, hl with | [_], _ => rfl
  obtain ⟨oc, od, kV, doc, pm, an, cdv, ct, osl, rfl, lk, hcd⟩ := F25.ex
  refine ⟨PySem.W.fnOf "law" "law" (defArgs s_law) (defBody s_law) (defScope s_law) .none kV doc pm an cdv ct, fun s v => .of_eq rfl, fun base _ _ => ?_⟩
  have exs : ExAll ⟨fun n => match n with | 0 => y0c | 1 => y1c | _ => 0, cnm, fun n => match n with | 0 => x0 | 1 => x1 | 2 => x2 | 3 => x3 | 4 => x4 | 5 => x5 | 6 => x6 | 7 => x7 | _ => 0, 0⟩ K := ⟨fun n m hn hm => match n, m, hn, hm with
    | 0, 0, _, _ => s00
    | 0, 1, _, _ => s01
    | 0, 2, _, _ => s02
    | 0, 3, _, _ => s03
    | 0, 4, _, _ => s04
    | 0, 5, _, _ => s05
    | 0, 6, _, _ => s06
    | 0, 7, _, _ => s07
    | 1, 0, _, _ => s10
    | 1, 1, _, _ => s11
    | 1, 2, _, _ => s12
    | 1, 3, _, _ => s13
    | 1, 4, _, _ => s14
    | 1, 5, _, _ => s15
    | 1, 6, _, _ => s16
    | 1, 7, _, _ => s17
    | 2, 0, _, _ => s20
    | 2, 1, _, _ => s21
    | 2, 2, _, _ => s22
    | 2, 3, _, _ => s23
    | 2, 4, _, _ => s24
    | 2, 5, _, _ => s25
    | 2, 6, _, _ => s26
    | 2, 7, _, _ => s27
    | 3, 0, _, _ => s30
    | 3, 1, _, _ => s31
    | 3, 2, _, _ => s32
    | 3, 3, _, _ => s33
    | 3, 4, _, _ => s34
    | 3, 5, _, _ => s35
    | 3, 6, _, _ => s36
    | 3, 7, _, _ => s37
    | 4, 0, _, _ => s40
    | 4, 1, _, _ => s41
    | 4, 2, _, _ => s42
    | 4, 3, _, _ => s43
    | 4, 4, _, _ => s44
    | 4, 5, _, _ => s45
    | 4, 6, _, _ => s46
    | 4, 7, _, _ => s47
    | 5, 0, _, _ => s50
    | 5, 1, _, _ => s51
    | 5, 2, _, _ => s52
    | 5, 3, _, _ => s53
    | 5, 4, _, _ => s54
    | 5, 5, _, _ => s55
    | 5, 6, _, _ => s56
    | 5, 7, _, _ => s57
    | 6, 0, _, _ => s60
    | 6, 1, _, _ => s61
    | 6, 2, _, _ => s62
    | 6, 3, _, _ => s63
    | 6, 4, _, _ => s64
    | 6, 5, _, _ => s65
    | 6, 6, _, _ => s66
    | 6, 7, _, _ => s67
    | 7, 0, _, _ => s70
    | 7, 1, _, _ => s71
    | 7, 2, _, _ => s72
    | 7, 3, _, _ => s73
    | 7, 4, _, _ => s74
    | 7, 5, _, _ => s75
    | 7, 6, _, _ => s76
    | 7, 7, _, _ => s77, fun n hn => match n, hn with
    | 0, _ => kitV_of v0
    | 1, _ => kitV_of v1
    | 2, _ => kitV_of v2
    | 3, _ => kitV_of v3
    | 4, _ => kitV_of v4
    | 5, _ => kitV_of v5
    | 6, _ => kitV_of v6
    | 7, _ => kitV_of v7, fun n hn => match n, hn with
    | 0, _ => y0
    | 1, _ => y1
    | 2, _ => y2
    | 3, _ => y3
    | 4, _ => y4
    | 5, _ => y5
    | 6, _ => y6
    | 7, _ => y7, fun n hn => match n, hn with
    | 0, _ => ⟨g0A, g0B, g0C, g0D, g0E, gN, gT, g0F⟩
    | 1, _ => ⟨g1A, g1B, g1C, g1D, g1E, gN, gT, g1F⟩
    | 2, _ => ⟨g2A, g2B, g2C, g2D, g2E, gN, gT, g2F⟩
    | 3, _ => ⟨g3A, g3B, g3C, g3D, g3E, gN, gT, g3F⟩
    | 4, _ => ⟨g4A, g4B, g4C, g4D, g4E, gN, gT, g4F⟩
    | 5, _ => ⟨g5A, g5B, g5C, g5D, g5E, gN, gT, g5F⟩
    | 6, _ => ⟨g6A, g6B, g6C, g6D, g6E, gN, gT, g6F⟩
    | 7, _ => ⟨g7A, g7B, g7C, g7D, g7E, gN, gT, g7F⟩⟩
  have B : Bf ⟨fun n => match n with | 0 => y0c | 1 => y1c | _ => 0, cnm, fun n => match n with | 0 => x0 | 1 => x1 | 2 => x2 | 3 => x3 | 4 => x4 | 5 => x5 | 6 => x6 | 7 => x7 | _ => 0, 0⟩ K mg := ⟨trivial, n_all, n_bool, n_enumerate, n_int, n_isinstance, n_len, n_list, n_min, n_range, n_set, n_sorted, n_sum, n_tuple, n_zip, ⟨C0.cl, List.forall_mem_cons.mpr ⟨N0_0, List.forall_mem_cons.mpr ⟨N0_1, List.forall_mem_cons.mpr ⟨N0_2, List.forall_mem_nil _⟩⟩⟩, nd_0, few_0⟩, ⟨C1.cl, List.forall_mem_cons.mpr ⟨N1_0, List.forall_mem_cons.mpr ⟨N1_1, List.forall_mem_cons.mpr ⟨N1_2, List.forall_mem_cons.mpr ⟨N1_3, List.forall_mem_nil _⟩⟩⟩⟩, nd_1, few_1⟩, e0.f _ 0 rfl, e1.f _ 1 rfl, e2.f _ 2 rfl, e3.f _ 3 rfl, e4.f _ 4 rfl, e5.f _ 5 rfl, e6.f _ 6 rfl, e7.f _ 7 rfl, exs, c_MOST_COVERS, c_MOST_LAYERS⟩
  have h_is_whole := Cal.of F1 (ok_is_whole (P := P) (w := w) (base := base) F1 B) rfl g1 (F1.binds fun _ _ _ _ _ _ us hl => match us, hl with | [_, _, _], _ => rfl)
  have h_are_weights := Cal.of F2 (ok_are_weights (P := P) (w := w) (base := base) F2 B h_is_whole) rfl g2 (F2.binds fun _ _ _ _ _ _ us hl => match us, hl with | [_], _ => rfl)
  have h_is_layer := Cal.of F3 (ok_is_layer (P := P) (w := w) (base := base) F3 B h_are_weights h_is_whole) rfl g3 (F3.binds fun _ _ _ _ _ _ us hl => match us, hl with | [_], _ => rfl)
  have h_is_plan := Cal.of F4 (ok_is_plan (P := P) (w := w) (base := base) F4 B h_is_layer h_is_whole) rfl g4 (F4.binds fun _ _ _ _ _ _ us hl => match us, hl with | [_], _ => rfl)
  have h_split := Cal.of F5 (ok_split (P := P) (w := w) (base := base) F5 B) rfl g5 (F5.binds fun _ _ _ _ _ _ us hl => match us, hl with | [_, _], _ => rfl)
  have h_is_year := Cal.of F6 (ok_is_year (P := P) (w := w) (base := base) F6 B h_is_whole) rfl g6 (F6.binds fun _ _ _ _ _ _ us hl => match us, hl with | [_], _ => rfl)
  have h_is_amount := Cal.of F7 (ok_is_amount (P := P) (w := w) (base := base) F7 B h_is_whole) rfl g7 (F7.binds fun _ _ _ _ _ _ us hl => match us, hl with | [_], _ => rfl)
  have h_is_damage := Cal.of F8 (ok_is_damage (P := P) (w := w) (base := base) F8 B h_is_amount h_is_whole h_is_year) rfl g8 (F8.binds fun _ _ _ _ _ _ us hl => match us, hl with | [_], _ => rfl)
  have h_ahead := Cal.of F9 (ok_ahead (P := P) (w := w) (base := base) F9 B) rfl g9 (F9.binds fun _ _ _ _ _ _ us hl => match us, hl with | [_, _], _ => rfl)
  have h_shared := Cal.of F10 (ok_shared (P := P) (w := w) (base := base) F10 B) rfl g10 (F10.binds fun _ _ _ _ _ _ us hl => match us, hl with | [_, _, _], _ => rfl)
  have h_behind := Cal.of F11 (ok_behind (P := P) (w := w) (base := base) F11 B) rfl g11 (F11.binds fun _ _ _ _ _ _ us hl => match us, hl with | [_, _], _ => rfl)
  have k_year : Kal ⟨fun n => match n with | 0 => y0c | 1 => y1c | _ => 0, cnm, fun n => match n with | 0 => x0 | 1 => x1 | 2 => x2 | 3 => x3 | 4 => x4 | 5 => x5 | 6 => x6 | 7 => x7 | _ => 0, 0⟩ P w K mg base 0 "Year" 1 2 F_year_init := ⟨_, _, _, rfl, (ok_year_init (P := P) (w := w) (base := base) MF0 B), ⟨C0.mks, ma0, mi0, C0.kp⟩, C0.mg, MF0.binds fun _ _ _ _ _ _ us hl => match us, hl with | [_, _], _ => rfl⟩
  have m_year_used : Mal ⟨fun n => match n with | 0 => y0c | 1 => y1c | _ => 0, cnm, fun n => match n with | 0 => x0 | 1 => x1 | 2 => x2 | 3 => x3 | 4 => x4 | 5 => x5 | 6 => x6 | 7 => x7 | _ => 0, 0⟩ P w K mg base 0 "used" 2 1 F_year_used := ⟨_, _, _, rfl, (ok_year_used (P := P) (w := w) (base := base) MF1 B h_behind), ⟨ma1, mi1, MF1.kp⟩, MF1.binds fun _ _ _ _ _ _ us hl => match us, hl with | [_], _ => rfl⟩
  have m_year_go_on : Mal ⟨fun n => match n with | 0 => y0c | 1 => y1c | _ => 0, cnm, fun n => match n with | 0 => x0 | 1 => x1 | 2 => x2 | 3 => x3 | 4 => x4 | 5 => x5 | 6 => x6 | 7 => x7 | _ => 0, 0⟩ P w K mg base 0 "go_on" 3 2 F_year_go_on := ⟨_, _, _, rfl, (ok_year_go_on (P := P) (w := w) (base := base) MF2 B m_year_used h_shared), ⟨ma2, mi2, MF2.kp⟩, MF2.binds fun _ _ _ _ _ _ us hl => match us, hl with | [_, _], _ => rfl⟩
  have m_year_put : Mal ⟨fun n => match n with | 0 => y0c | 1 => y1c | _ => 0, cnm, fun n => match n with | 0 => x0 | 1 => x1 | 2 => x2 | 3 => x3 | 4 => x4 | 5 => x5 | 6 => x6 | 7 => x7 | _ => 0, 0⟩ P w K mg base 0 "put" 4 2 F_year_put := ⟨_, _, _, rfl, (ok_year_put (P := P) (w := w) (base := base) MF3 B m_year_go_on h_ahead), ⟨ma3, mi3, MF3.kp⟩, MF3.binds fun _ _ _ _ _ _ us hl => match us, hl with | [_, _], _ => rfl⟩
  have m_year_place_of : Mal ⟨fun n => match n with | 0 => y0c | 1 => y1c | _ => 0, cnm, fun n => match n with | 0 => x0 | 1 => x1 | 2 => x2 | 3 => x3 | 4 => x4 | 5 => x5 | 6 => x6 | 7 => x7 | _ => 0, 0⟩ P w K mg base 0 "place_of" 1 2 F_year_place_of := ⟨_, _, _, rfl, (ok_year_place_of (P := P) (w := w) (base := base) MF4 B), ⟨ma4, mi4, MF4.kp⟩, MF4.binds fun _ _ _ _ _ _ us hl => match us, hl with | [_, _], _ => rfl⟩
  have m_year_drop : Mal ⟨fun n => match n with | 0 => y0c | 1 => y1c | _ => 0, cnm, fun n => match n with | 0 => x0 | 1 => x1 | 2 => x2 | 3 => x3 | 4 => x4 | 5 => x5 | 6 => x6 | 7 => x7 | _ => 0, 0⟩ P w K mg base 0 "drop" 4 2 F_year_drop := ⟨_, _, _, rfl, (ok_year_drop (P := P) (w := w) (base := base) MF5 B m_year_go_on m_year_place_of), ⟨ma5, mi5, MF5.kp⟩, MF5.binds fun _ _ _ _ _ _ us hl => match us, hl with | [_, _], _ => rfl⟩
  have m_year_damages : Mal ⟨fun n => match n with | 0 => y0c | 1 => y1c | _ => 0, cnm, fun n => match n with | 0 => x0 | 1 => x1 | 2 => x2 | 3 => x3 | 4 => x4 | 5 => x5 | 6 => x6 | 7 => x7 | _ => 0, 0⟩ P w K mg base 0 "damages" 1 1 F_year_damages := ⟨_, _, _, rfl, (ok_year_damages (P := P) (w := w) (base := base) MF6 B), ⟨ma6, mi6, MF6.kp⟩, MF6.binds fun _ _ _ _ _ _ us hl => match us, hl with | [_], _ => rfl⟩
  have m_year_share : Mal ⟨fun n => match n with | 0 => y0c | 1 => y1c | _ => 0, cnm, fun n => match n with | 0 => x0 | 1 => x1 | 2 => x2 | 3 => x3 | 4 => x4 | 5 => x5 | 6 => x6 | 7 => x7 | _ => 0, 0⟩ P w K mg base 0 "share" 2 2 F_year_share := ⟨_, _, _, rfl, (ok_year_share (P := P) (w := w) (base := base) MF7 B m_year_place_of), ⟨ma7, mi7, MF7.kp⟩, MF7.binds fun _ _ _ _ _ _ us hl => match us, hl with | [_, _], _ => rfl⟩
  have m_year_trail : Mal ⟨fun n => match n with | 0 => y0c | 1 => y1c | _ => 0, cnm, fun n => match n with | 0 => x0 | 1 => x1 | 2 => x2 | 3 => x3 | 4 => x4 | 5 => x5 | 6 => x6 | 7 => x7 | _ => 0, 0⟩ P w K mg base 0 "trail" 2 2 F_year_trail := ⟨_, _, _, rfl, (ok_year_trail (P := P) (w := w) (base := base) MF8 B m_year_place_of), ⟨ma8, mi8, MF8.kp⟩, MF8.binds fun _ _ _ _ _ _ us hl => match us, hl with | [_, _], _ => rfl⟩
  have k_book : Kal ⟨fun n => match n with | 0 => y0c | 1 => y1c | _ => 0, cnm, fun n => match n with | 0 => x0 | 1 => x1 | 2 => x2 | 3 => x3 | 4 => x4 | 5 => x5 | 6 => x6 | 7 => x7 | _ => 0, 0⟩ P w K mg base 1 "Book" 5 2 F_book_init := ⟨_, _, _, rfl, (ok_book_init (P := P) (w := w) (base := base) MF9 B h_is_plan), ⟨C1.mks, ma9, mi9, C1.kp⟩, C1.mg, MF9.binds fun _ _ _ _ _ _ us hl => match us, hl with | [_, _], _ => rfl⟩
  have m_book_stands : Mal ⟨fun n => match n with | 0 => y0c | 1 => y1c | _ => 0, cnm, fun n => match n with | 0 => x0 | 1 => x1 | 2 => x2 | 3 => x3 | 4 => x4 | 5 => x5 | 6 => x6 | 7 => x7 | _ => 0, 0⟩ P w K mg base 1 "stands" 2 2 F_book_stands := ⟨_, _, _, rfl, (ok_book_stands (P := P) (w := w) (base := base) MF10 B h_is_whole), ⟨ma10, mi10, MF10.kp⟩, MF10.binds fun _ _ _ _ _ _ us hl => match us, hl with | [_, _], _ => rfl⟩
  have m_book_damage : Mal ⟨fun n => match n with | 0 => y0c | 1 => y1c | _ => 0, cnm, fun n => match n with | 0 => x0 | 1 => x1 | 2 => x2 | 3 => x3 | 4 => x4 | 5 => x5 | 6 => x6 | 7 => x7 | _ => 0, 0⟩ P w K mg base 1 "damage" 3 2 F_book_damage := ⟨_, _, _, rfl, (ok_book_damage (P := P) (w := w) (base := base) MF11 B m_book_stands), ⟨ma11, mi11, MF11.kp⟩, MF11.binds fun _ _ _ _ _ _ us hl => match us, hl with | [_, _], _ => rfl⟩
  have m_book_need_open : Mal ⟨fun n => match n with | 0 => y0c | 1 => y1c | _ => 0, cnm, fun n => match n with | 0 => x0 | 1 => x1 | 2 => x2 | 3 => x3 | 4 => x4 | 5 => x5 | 6 => x6 | 7 => x7 | _ => 0, 0⟩ P w K mg base 1 "need_open" 1 2 F_book_need_open := ⟨_, _, _, rfl, (ok_book_need_open (P := P) (w := w) (base := base) MF12 B), ⟨ma12, mi12, MF12.kp⟩, MF12.binds fun _ _ _ _ _ _ us hl => match us, hl with | [_, _], _ => rfl⟩
  have m_book_need_year : Mal ⟨fun n => match n with | 0 => y0c | 1 => y1c | _ => 0, cnm, fun n => match n with | 0 => x0 | 1 => x1 | 2 => x2 | 3 => x3 | 4 => x4 | 5 => x5 | 6 => x6 | 7 => x7 | _ => 0, 0⟩ P w K mg base 1 "need_year" 3 2 F_book_need_year := ⟨_, _, _, rfl, (ok_book_need_year (P := P) (w := w) (base := base) MF13 B h_is_year), ⟨ma13, mi13, MF13.kp⟩, MF13.binds fun _ _ _ _ _ _ us hl => match us, hl with | [_, _], _ => rfl⟩
  have m_book_told : Mal ⟨fun n => match n with | 0 => y0c | 1 => y1c | _ => 0, cnm, fun n => match n with | 0 => x0 | 1 => x1 | 2 => x2 | 3 => x3 | 4 => x4 | 5 => x5 | 6 => x6 | 7 => x7 | _ => 0, 0⟩ P w K mg base 1 "told" 5 2 F_book_told := ⟨_, _, _, rfl, (ok_book_told (P := P) (w := w) (base := base) MF14 B m_book_need_open k_year m_year_put h_is_damage), ⟨ma14, mi14, MF14.kp⟩, MF14.binds fun _ _ _ _ _ _ us hl => match us, hl with | [_, _], _ => rfl⟩
  have m_book_change : Mal ⟨fun n => match n with | 0 => y0c | 1 => y1c | _ => 0, cnm, fun n => match n with | 0 => x0 | 1 => x1 | 2 => x2 | 3 => x3 | 4 => x4 | 5 => x5 | 6 => x6 | 7 => x7 | _ => 0, 0⟩ P w K mg base 1 "change" 5 3 F_book_change := ⟨_, _, _, rfl, (ok_book_change (P := P) (w := w) (base := base) MF15 B m_book_damage m_book_need_open m_year_drop m_year_put h_is_amount), ⟨ma15, mi15, MF15.kp⟩, MF15.binds fun _ _ _ _ _ _ us hl => match us, hl with | [_, _, _], _ => rfl⟩
  have m_book_back : Mal ⟨fun n => match n with | 0 => y0c | 1 => y1c | _ => 0, cnm, fun n => match n with | 0 => x0 | 1 => x1 | 2 => x2 | 3 => x3 | 4 => x4 | 5 => x5 | 6 => x6 | 7 => x7 | _ => 0, 0⟩ P w K mg base 1 "back" 5 2 F_book_back := ⟨_, _, _, rfl, (ok_book_back (P := P) (w := w) (base := base) MF16 B m_book_damage m_book_need_open m_year_damages m_year_drop), ⟨ma16, mi16, MF16.kp⟩, MF16.binds fun _ _ _ _ _ _ us hl => match us, hl with | [_, _], _ => rfl⟩
  have m_book_close : Mal ⟨fun n => match n with | 0 => y0c | 1 => y1c | _ => 0, cnm, fun n => match n with | 0 => x0 | 1 => x1 | 2 => x2 | 3 => x3 | 4 => x4 | 5 => x5 | 6 => x6 | 7 => x7 | _ => 0, 0⟩ P w K mg base 1 "close" 4 2 F_book_close := ⟨_, _, _, rfl, (ok_book_close (P := P) (w := w) (base := base) MF17 B m_book_need_open m_book_need_year), ⟨ma17, mi17, MF17.kp⟩, MF17.binds fun _ _ _ _ _ _ us hl => match us, hl with | [_, _], _ => rfl⟩
  have m_book_reopen : Mal ⟨fun n => match n with | 0 => y0c | 1 => y1c | _ => 0, cnm, fun n => match n with | 0 => x0 | 1 => x1 | 2 => x2 | 3 => x3 | 4 => x4 | 5 => x5 | 6 => x6 | 7 => x7 | _ => 0, 0⟩ P w K mg base 1 "reopen" 4 2 F_book_reopen := ⟨_, _, _, rfl, (ok_book_reopen (P := P) (w := w) (base := base) MF18 B m_book_need_year), ⟨ma18, mi18, MF18.kp⟩, MF18.binds fun _ _ _ _ _ _ us hl => match us, hl with | [_, _], _ => rfl⟩
  have m_book_share : Mal ⟨fun n => match n with | 0 => y0c | 1 => y1c | _ => 0, cnm, fun n => match n with | 0 => x0 | 1 => x1 | 2 => x2 | 3 => x3 | 4 => x4 | 5 => x5 | 6 => x6 | 7 => x7 | _ => 0, 0⟩ P w K mg base 1 "share" 4 2 F_book_share := ⟨_, _, _, rfl, (ok_book_share (P := P) (w := w) (base := base) MF19 B m_book_damage m_year_share), ⟨ma19, mi19, MF19.kp⟩, MF19.binds fun _ _ _ _ _ _ us hl => match us, hl with | [_, _], _ => rfl⟩
  have m_book_trail : Mal ⟨fun n => match n with | 0 => y0c | 1 => y1c | _ => 0, cnm, fun n => match n with | 0 => x0 | 1 => x1 | 2 => x2 | 3 => x3 | 4 => x4 | 5 => x5 | 6 => x6 | 7 => x7 | _ => 0, 0⟩ P w K mg base 1 "trail" 4 2 F_book_trail := ⟨_, _, _, rfl, (ok_book_trail (P := P) (w := w) (base := base) MF20 B m_book_damage m_year_trail), ⟨ma20, mi20, MF20.kp⟩, MF20.binds fun _ _ _ _ _ _ us hl => match us, hl with | [_, _], _ => rfl⟩
  have m_book_parts : Mal ⟨fun n => match n with | 0 => y0c | 1 => y1c | _ => 0, cnm, fun n => match n with | 0 => x0 | 1 => x1 | 2 => x2 | 3 => x3 | 4 => x4 | 5 => x5 | 6 => x6 | 7 => x7 | _ => 0, 0⟩ P w K mg base 1 "parts" 5 2 F_book_parts := ⟨_, _, _, rfl, (ok_book_parts (P := P) (w := w) (base := base) MF21 B m_book_share h_split), ⟨ma21, mi21, MF21.kp⟩, MF21.binds fun _ _ _ _ _ _ us hl => match us, hl with | [_, _], _ => rfl⟩
  have m_book_row_of : Mal ⟨fun n => match n with | 0 => y0c | 1 => y1c | _ => 0, cnm, fun n => match n with | 0 => x0 | 1 => x1 | 2 => x2 | 3 => x3 | 4 => x4 | 5 => x5 | 6 => x6 | 7 => x7 | _ => 0, 0⟩ P w K mg base 1 "row_of" 4 2 F_book_row_of := ⟨_, _, _, rfl, (ok_book_row_of (P := P) (w := w) (base := base) MF22 B m_book_need_year k_year), ⟨ma22, mi22, MF22.kp⟩, MF22.binds fun _ _ _ _ _ _ us hl => match us, hl with | [_, _], _ => rfl⟩
  have m_book_damages : Mal ⟨fun n => match n with | 0 => y0c | 1 => y1c | _ => 0, cnm, fun n => match n with | 0 => x0 | 1 => x1 | 2 => x2 | 3 => x3 | 4 => x4 | 5 => x5 | 6 => x6 | 7 => x7 | _ => 0, 0⟩ P w K mg base 1 "damages" 5 2 F_book_damages := ⟨_, _, _, rfl, (ok_book_damages (P := P) (w := w) (base := base) MF23 B m_book_row_of m_year_damages), ⟨ma23, mi23, MF23.kp⟩, MF23.binds fun _ _ _ _ _ _ us hl => match us, hl with | [_, _], _ => rfl⟩
  have m_book_used : Mal ⟨fun n => match n with | 0 => y0c | 1 => y1c | _ => 0, cnm, fun n => match n with | 0 => x0 | 1 => x1 | 2 => x2 | 3 => x3 | 4 => x4 | 5 => x5 | 6 => x6 | 7 => x7 | _ => 0, 0⟩ P w K mg base 1 "used" 5 2 F_book_used := ⟨_, _, _, rfl, (ok_book_used (P := P) (w := w) (base := base) MF24 B m_book_row_of m_year_used), ⟨ma24, mi24, MF24.kp⟩, MF24.binds fun _ _ _ _ _ _ us hl => match us, hl with | [_, _], _ => rfl⟩
  have m_book_years : Mal ⟨fun n => match n with | 0 => y0c | 1 => y1c | _ => 0, cnm, fun n => match n with | 0 => x0 | 1 => x1 | 2 => x2 | 3 => x3 | 4 => x4 | 5 => x5 | 6 => x6 | 7 => x7 | _ => 0, 0⟩ P w K mg base 1 "years" 1 1 F_book_years := ⟨_, _, _, rfl, (ok_book_years (P := P) (w := w) (base := base) MF25 B), ⟨ma25, mi25, MF25.kp⟩, MF25.binds fun _ _ _ _ _ _ us hl => match us, hl with | [_], _ => rfl⟩
  have m_book_dues : Mal ⟨fun n => match n with | 0 => y0c | 1 => y1c | _ => 0, cnm, fun n => match n with | 0 => x0 | 1 => x1 | 2 => x2 | 3 => x3 | 4 => x4 | 5 => x5 | 6 => x6 | 7 => x7 | _ => 0, 0⟩ P w K mg base 1 "dues" 6 2 F_book_dues := ⟨_, _, _, rfl, (ok_book_dues (P := P) (w := w) (base := base) MF26 B m_book_damages m_book_parts), ⟨ma26, mi26, MF26.kp⟩, MF26.binds fun _ _ _ _ _ _ us hl => match us, hl with | [_, _], _ => rfl⟩
  have h_l_cell_at := Cal.of F12 (ok_l_cell_at (P := P) (w := w) (base := base) F12 B) rfl g12 (F12.binds fun _ _ _ _ _ _ us hl => match us, hl with | [_, _], _ => rfl)
  have h_l_mixed := Cal.of F13 (ok_l_mixed (P := P) (w := w) (base := base) F13 B) rfl g13 (F13.binds fun _ _ _ _ _ _ us hl => match us, hl with | [_, _], _ => rfl)
  have h_l_weights := Cal.of F14 (ok_l_weights (P := P) (w := w) (base := base) F14 B h_l_mixed) rfl g14 (F14.binds fun _ _ _ _ _ _ us hl => match us, hl with | [_], _ => rfl)
  have h_l_plan := Cal.of F15 (ok_l_plan (P := P) (w := w) (base := base) F15 B h_l_cell_at h_l_mixed h_l_weights) rfl g15 (F15.binds fun _ _ _ _ _ _ us hl => match us, hl with | [_, _], _ => rfl)
  have h_l_amount := Cal.of F16 (ok_l_amount (P := P) (w := w) (base := base) F16 B) rfl g16 (F16.binds fun _ _ _ _ _ _ us hl => match us, hl with | [_, _, _], _ => rfl)
  have h_l_name := Cal.of F17 (ok_l_name (P := P) (w := w) (base := base) F17 B) rfl g17 (F17.binds fun _ _ _ _ _ _ us hl => match us, hl with | [_, _], _ => rfl)
  have h_l_damage := Cal.of F18 (ok_l_damage (P := P) (w := w) (base := base) F18 B h_l_amount h_l_cell_at h_l_mixed h_l_name) rfl g18 (F18.binds fun _ _ _ _ _ _ us hl => match us, hl with | [_, _, _, _], _ => rfl)
  have h_l_deeds := Cal.of F19 (ok_l_deeds (P := P) (w := w) (base := base) F19 B) rfl g19 (F19.binds fun _ _ _ _ _ _ us hl => match us, hl with | [_, _, _, _], _ => rfl)
  have h_l_all := Cal.of F20 (ok_l_all (P := P) (w := w) (base := base) F20 B m_book_damage m_book_damages m_book_dues m_book_parts m_book_share m_book_trail m_book_used m_book_years) rfl g20 (F20.binds fun _ _ _ _ _ _ us hl => match us, hl with | [_, _], _ => rfl)
  have h_l_refused := Cal.of F21 (ok_l_refused (P := P) (w := w) (base := base) F21 B m_book_told) rfl g21 (F21.binds fun _ _ _ _ _ _ us hl => match us, hl with | [_, _], _ => rfl)
  have h_l_closed := Cal.of F22 (ok_l_closed (P := P) (w := w) (base := base) F22 B m_book_told) rfl g22 (F22.binds fun _ _ _ _ _ _ us hl => match us, hl with | [_, _], _ => rfl)
  have h_l_told := Cal.of F23 (ok_l_told (P := P) (w := w) (base := base) F23 B m_book_back m_book_change m_book_close m_book_reopen m_book_told h_l_closed h_l_refused) rfl g23 (F23.binds fun _ _ _ _ _ _ us hl => match us, hl with | [_, _, _], _ => rfl)
  have h_l_damages := Cal.of F24 (ok_l_damages (P := P) (w := w) (base := base) F24 B h_l_cell_at h_l_damage h_l_deeds h_l_name) rfl g24 (F24.binds fun _ _ _ _ _ _ us hl => match us, hl with | [_], _ => rfl)
  exact (ok_law F25 B k_book m_book_damage m_book_told h_l_all h_l_damages h_l_mixed h_l_plan h_l_told).imp fun vs H Q E q => law_sp law_true q
end W_k11_whole_any_order
open PySem PySem.W PyProof.Rows
set_option maxHeartbeats 0 in
theorem PySem.Challenge.cw_claimlayers_k11_whole_any_order_holds : PySem.Challenge.rw_claimlayers_k11_whole_any_order.Holds := by
  w_on; o_law; k_head; (case hw => w_witness2)
  k_fill
  refine CL.walk (l := PySem.Challenge.rw_claimlayers_k11_whole_any_order) (k := 8) (x := "_law_script") rfl rfl ⟨rfl, by decide, by decide⟩ (fun w h Y => PySem.W.kIn_of Y) ?F
  case F =>
    intro w mg fa h KX G hmg
    refine' W_k11_whole_any_order.all_ok KX G hmg (CL.freeF KX G ?b0) (CL.freeF KX G ?b1) (CL.freeF KX G ?b2) (CL.freeF KX G ?b3) (CL.freeF KX G ?b4) (CL.freeF KX G ?b5) (CL.freeF KX G ?b6) (CL.freeF KX G ?b7) (CL.freeF KX G ?b8) (CL.freeF KX G ?b9) (CL.freeF KX G ?b10) (CL.freeF KX G ?b11) (CL.freeF KX G ?b12) (CL.freeF KX G ?b13) (CL.exG KX G ?p0 ?q0 ?r0 ?s0 ?t0) (CL.exG KX G ?p1 ?q1 ?r1 ?s1 ?t1) (CL.exG KX G ?p2 ?q2 ?r2 ?s2 ?t2) (CL.exG KX G ?p3 ?q3 ?r3 ?s3 ?t3) (CL.exG KX G ?p4 ?q4 ?r4 ?s4 ?t4) (CL.exG KX G ?p5 ?q5 ?r5 ?s5 ?t5) (CL.exG KX G ?p6 ?q6 ?r6 ?s6 ?t6) (CL.exG KX G ?p7 ?q7 ?r7 ?s7 ?t7) ?S00 ?S01 ?S02 ?S03 ?S04 ?S05 ?S06 ?S07 ?S10 ?S11 ?S12 ?S13 ?S14 ?S15 ?S16 ?S17 ?S20 ?S21 ?S22 ?S23 ?S24 ?S25 ?S26 ?S27 ?S30 ?S31 ?S32 ?S33 ?S34 ?S35 ?S36 ?S37 ?S40 ?S41 ?S42 ?S43 ?S44 ?S45 ?S46 ?S47 ?S50 ?S51 ?S52 ?S53 ?S54 ?S55 ?S56 ?S57 ?S60 ?S61 ?S62 ?S63 ?S64 ?S65 ?S66 ?S67 ?S70 ?S71 ?S72 ?S73 ?S74 ?S75 ?S76 ?S77 ?Zv0 ?Zy0 ?ZA0 ?ZB0 ?ZC0 ?ZD0 ?ZE0 ?ZF0 ?Zv1 ?Zy1 ?ZA1 ?ZB1 ?ZC1 ?ZD1 ?ZE1 ?ZF1 ?Zv2 ?Zy2 ?ZA2 ?ZB2 ?ZC2 ?ZD2 ?ZE2 ?ZF2 ?Zv3 ?Zy3 ?ZA3 ?ZB3 ?ZC3 ?ZD3 ?ZE3 ?ZF3 ?Zv4 ?Zy4 ?ZA4 ?ZB4 ?ZC4 ?ZD4 ?ZE4 ?ZF4 ?Zv5 ?Zy5 ?ZA5 ?ZB5 ?ZC5 ?ZD5 ?ZE5 ?ZF5 ?Zv6 ?Zy6 ?ZA6 ?ZB6 ?ZC6 ?ZD6 ?ZE6 ?ZF6 ?Zv7 ?Zy7 ?ZA7 ?ZB7 ?ZC7 ?ZD7 ?ZE7 ?ZF7 ?ZN ?ZT (CL.conFI KX G ?u0) (CL.conFI KX G ?u1) (CL.clsG KX G ?K0a ?K0b ?K0c ?K0d ?K0e ?K0f ?K0g) ?N00 ?N01 ?N02 (CL.clsG KX G ?K1a ?K1b ?K1c ?K1d ?K1e ?K1f ?K1g) ?N10 ?N11 ?N12 ?N13 (CL.metF ?M0a ?M0i ?M0l ?M0c ?M0k) (CL.metF ?M1a ?M1i ?M1l ?M1c ?M1k) (CL.metF ?M2a ?M2i ?M2l ?M2c ?M2k) (CL.metF ?M3a ?M3i ?M3l ?M3c ?M3k) (CL.metF ?M4a ?M4i ?M4l ?M4c ?M4k) (CL.metF ?M5a ?M5i ?M5l ?M5c ?M5k) (CL.metF ?M6a ?M6i ?M6l ?M6c ?M6k) (CL.metF ?M7a ?M7i ?M7l ?M7c ?M7k) (CL.metF ?M8a ?M8i ?M8l ?M8c ?M8k) (CL.metF ?M9a ?M9i ?M9l ?M9c ?M9k) (CL.metF ?M10a ?M10i ?M10l ?M10c ?M10k) (CL.metF ?M11a ?M11i ?M11l ?M11c ?M11k) (CL.metF ?M12a ?M12i ?M12l ?M12c ?M12k) (CL.metF ?M13a ?M13i ?M13l ?M13c ?M13k) (CL.metF ?M14a ?M14i ?M14l ?M14c ?M14k) (CL.metF ?M15a ?M15i ?M15l ?M15c ?M15k) (CL.metF ?M16a ?M16i ?M16l ?M16c ?M16k) (CL.metF ?M17a ?M17i ?M17l ?M17c ?M17k) (CL.metF ?M18a ?M18i ?M18l ?M18c ?M18k) (CL.metF ?M19a ?M19i ?M19l ?M19c ?M19k) (CL.metF ?M20a ?M20i ?M20l ?M20c ?M20k) (CL.metF ?M21a ?M21i ?M21l ?M21c ?M21k) (CL.metF ?M22a ?M22i ?M22l ?M22c ?M22k) (CL.metF ?M23a ?M23i ?M23l ?M23c ?M23k) (CL.metF ?M24a ?M24i ?M24l ?M24c ?M24k) (CL.metF ?M25a ?M25i ?M25l ?M25c ?M25k) (CL.metF ?M26a ?M26i ?M26l ?M26c ?M26k) (CL.defF KX G ?a0 ?l0 ?c0 ?k0) (CL.defF KX G ?a1 ?l1 ?c1 ?k1) (CL.defF KX G ?a2 ?l2 ?c2 ?k2) (CL.defF KX G ?a3 ?l3 ?c3 ?k3) (CL.defF KX G ?a4 ?l4 ?c4 ?k4) (CL.defF KX G ?a5 ?l5 ?c5 ?k5) (CL.defF KX G ?a6 ?l6 ?c6 ?k6) (CL.defF KX G ?a7 ?l7 ?c7 ?k7) (CL.defF KX G ?a8 ?l8 ?c8 ?k8) (CL.defF KX G ?a9 ?l9 ?c9 ?k9) (CL.defF KX G ?a10 ?l10 ?c10 ?k10) (CL.defF KX G ?a11 ?l11 ?c11 ?k11) (CL.defF KX G ?a12 ?l12 ?c12 ?k12) (CL.defF KX G ?a13 ?l13 ?c13 ?k13) (CL.defF KX G ?a14 ?l14 ?c14 ?k14) (CL.defF KX G ?a15 ?l15 ?c15 ?k15) (CL.defF KX G ?a16 ?l16 ?c16 ?k16) (CL.defF KX G ?a17 ?l17 ?c17 ?k17) (CL.defF KX G ?a18 ?l18 ?c18 ?k18) (CL.defF KX G ?a19 ?l19 ?c19 ?k19) (CL.defF KX G ?a20 ?l20 ?c20 ?k20) (CL.defF KX G ?a21 ?l21 ?c21 ?k21) (CL.defF KX G ?a22 ?l22 ?c22 ?k22) (CL.defF KX G ?a23 ?l23 ?c23 ?k23) (CL.defF KX G ?a24 ?l24 ?c24 ?k24)
    (case b0 => k_is)
    (case b1 => k_is)
    (case b2 => k_is)
    (case b3 => k_is)
    (case b4 => k_is)
    (case b5 => k_is)
    (case b6 => k_is)
    (case b7 => k_is)
    (case b8 => k_is)
    (case b9 => k_is)
    (case b10 => k_is)
    (case b11 => k_is)
    (case b12 => k_is)
    (case b13 => k_is)
    (case p0 => k_is)
    (case q0 => k_exc)
    (case r0 => k_is)
    (case s0 => k_is)
    (case t0 => k_is)
    (case p1 => k_is)
    (case q1 => k_exc)
    (case r1 => k_is)
    (case s1 => k_is)
    (case t1 => k_is)
    (case p2 => k_is)
    (case q2 => k_exc)
    (case r2 => k_is)
    (case s2 => k_is)
    (case t2 => k_is)
    (case p3 => k_is)
    (case q3 => k_exc)
    (case r3 => k_is)
    (case s3 => k_is)
    (case t3 => k_is)
    (case p4 => k_is)
    (case q4 => k_exc)
    (case r4 => k_is)
    (case s4 => k_is)
    (case t4 => k_is)
    (case p5 => k_is)
    (case q5 => k_exc)
    (case r5 => k_is)
    (case s5 => k_is)
    (case t5 => k_is)
    (case p6 => k_is)
    (case q6 => k_exc)
    (case r6 => k_is)
    (case s6 => k_is)
    (case t6 => k_is)
    (case p7 => k_is)
    (case q7 => k_exc)
    (case r7 => k_is)
    (case s7 => k_is)
    (case t7 => k_is)
    (case S00 => k_is)
    (case S01 => k_is)
    (case S02 => k_is)
    (case S03 => k_is)
    (case S04 => k_is)
    (case S05 => k_is)
    (case S06 => k_is)
    (case S07 => k_is)
    (case S10 => k_is)
    (case S11 => k_is)
    (case S12 => k_is)
    (case S13 => k_is)
    (case S14 => k_is)
    (case S15 => k_is)
    (case S16 => k_is)
    (case S17 => k_is)
    (case S20 => k_is)
    (case S21 => k_is)
    (case S22 => k_is)
    (case S23 => k_is)
    (case S24 => k_is)
    (case S25 => k_is)
    (case S26 => k_is)
    (case S27 => k_is)
    (case S30 => k_is)
    (case S31 => k_is)
    (case S32 => k_is)
    (case S33 => k_is)
    (case S34 => k_is)
    (case S35 => k_is)
    (case S36 => k_is)
    (case S37 => k_is)
    (case S40 => k_is)
    (case S41 => k_is)
    (case S42 => k_is)
    (case S43 => k_is)
    (case S44 => k_is)
    (case S45 => k_is)
    (case S46 => k_is)
    (case S47 => k_is)
    (case S50 => k_is)
    (case S51 => k_is)
    (case S52 => k_is)
    (case S53 => k_is)
    (case S54 => k_is)
    (case S55 => k_is)
    (case S56 => k_is)
    (case S57 => k_is)
    (case S60 => k_is)
    (case S61 => k_is)
    (case S62 => k_is)
    (case S63 => k_is)
    (case S64 => k_is)
    (case S65 => k_is)
    (case S66 => k_is)
    (case S67 => k_is)
    (case S70 => k_is)
    (case S71 => k_is)
    (case S72 => k_is)
    (case S73 => k_is)
    (case S74 => k_is)
    (case S75 => k_is)
    (case S76 => k_is)
    (case S77 => k_is)
    (case Zv0 => k_is)
    (case Zy0 => k_is)
    (case ZA0 => k_is)
    (case ZB0 => k_is)
    (case ZC0 => k_is)
    (case ZD0 => k_is)
    (case ZE0 => k_is)
    (case ZF0 => k_is)
    (case Zv1 => k_is)
    (case Zy1 => k_is)
    (case ZA1 => k_is)
    (case ZB1 => k_is)
    (case ZC1 => k_is)
    (case ZD1 => k_is)
    (case ZE1 => k_is)
    (case ZF1 => k_is)
    (case Zv2 => k_is)
    (case Zy2 => k_is)
    (case ZA2 => k_is)
    (case ZB2 => k_is)
    (case ZC2 => k_is)
    (case ZD2 => k_is)
    (case ZE2 => k_is)
    (case ZF2 => k_is)
    (case Zv3 => k_is)
    (case Zy3 => k_is)
    (case ZA3 => k_is)
    (case ZB3 => k_is)
    (case ZC3 => k_is)
    (case ZD3 => k_is)
    (case ZE3 => k_is)
    (case ZF3 => k_is)
    (case Zv4 => k_is)
    (case Zy4 => k_is)
    (case ZA4 => k_is)
    (case ZB4 => k_is)
    (case ZC4 => k_is)
    (case ZD4 => k_is)
    (case ZE4 => k_is)
    (case ZF4 => k_is)
    (case Zv5 => k_is)
    (case Zy5 => k_is)
    (case ZA5 => k_is)
    (case ZB5 => k_is)
    (case ZC5 => k_is)
    (case ZD5 => k_is)
    (case ZE5 => k_is)
    (case ZF5 => k_is)
    (case Zv6 => k_is)
    (case Zy6 => k_is)
    (case ZA6 => k_is)
    (case ZB6 => k_is)
    (case ZC6 => k_is)
    (case ZD6 => k_is)
    (case ZE6 => k_is)
    (case ZF6 => k_is)
    (case Zv7 => k_is)
    (case Zy7 => k_is)
    (case ZA7 => k_is)
    (case ZB7 => k_is)
    (case ZC7 => k_is)
    (case ZD7 => k_is)
    (case ZE7 => k_is)
    (case ZF7 => k_is)
    (case ZN => k_is)
    (case ZT => k_is)
    (case u0 => k_is)
    (case u1 => k_is)
    (case K0a => k_is)
    (case K0b => k_is)
    (case K0c => k_is)
    (case K0d => k_is)
    (case K0e => k_is)
    (case K0f => k_is)
    (case K0g => k_is)
    (case N00 => k_is)
    (case N01 => k_is)
    (case N02 => k_is)
    (case K1a => k_is)
    (case K1b => k_is)
    (case K1c => k_is)
    (case K1d => k_is)
    (case K1e => k_is)
    (case K1f => k_is)
    (case K1g => k_is)
    (case N10 => k_is)
    (case N11 => k_is)
    (case N12 => k_is)
    (case N13 => k_is)
    (case M0a => k_is)
    (case M0i => k_is)
    (case M0l => k_is)
    (case M0c => k_is)
    (case M0k => k_is)
    (case M1a => k_is)
    (case M1i => k_is)
    (case M1l => k_is)
    (case M1c => k_is)
    (case M1k => k_is)
    (case M2a => k_is)
    (case M2i => k_is)
    (case M2l => k_is)
    (case M2c => k_is)
    (case M2k => k_is)
    (case M3a => k_is)
    (case M3i => k_is)
    (case M3l => k_is)
    (case M3c => k_is)
    (case M3k => k_is)
    (case M4a => k_is)
    (case M4i => k_is)
    (case M4l => k_is)
    (case M4c => k_is)
    (case M4k => k_is)
    (case M5a => k_is)
    (case M5i => k_is)
    (case M5l => k_is)
    (case M5c => k_is)
    (case M5k => k_is)
    (case M6a => k_is)
    (case M6i => k_is)
    (case M6l => k_is)
    (case M6c => k_is)
    (case M6k => k_is)
    (case M7a => k_is)
    (case M7i => k_is)
    (case M7l => k_is)
    (case M7c => k_is)
    (case M7k => k_is)
    (case M8a => k_is)
    (case M8i => k_is)
    (case M8l => k_is)
    (case M8c => k_is)
    (case M8k => k_is)
    (case M9a => k_is)
    (case M9i => k_is)
    (case M9l => k_is)
    (case M9c => k_is)
    (case M9k => k_is)
    (case M10a => k_is)
    (case M10i => k_is)
    (case M10l => k_is)
    (case M10c => k_is)
    (case M10k => k_is)
    (case M11a => k_is)
    (case M11i => k_is)
    (case M11l => k_is)
    (case M11c => k_is)
    (case M11k => k_is)
    (case M12a => k_is)
    (case M12i => k_is)
    (case M12l => k_is)
    (case M12c => k_is)
    (case M12k => k_is)
    (case M13a => k_is)
    (case M13i => k_is)
    (case M13l => k_is)
    (case M13c => k_is)
    (case M13k => k_is)
    (case M14a => k_is)
    (case M14i => k_is)
    (case M14l => k_is)
    (case M14c => k_is)
    (case M14k => k_is)
    (case M15a => k_is)
    (case M15i => k_is)
    (case M15l => k_is)
    (case M15c => k_is)
    (case M15k => k_is)
    (case M16a => k_is)
    (case M16i => k_is)
    (case M16l => k_is)
    (case M16c => k_is)
    (case M16k => k_is)
    (case M17a => k_is)
    (case M17i => k_is)
    (case M17l => k_is)
    (case M17c => k_is)
    (case M17k => k_is)
    (case M18a => k_is)
    (case M18i => k_is)
    (case M18l => k_is)
    (case M18c => k_is)
    (case M18k => k_is)
    (case M19a => k_is)
    (case M19i => k_is)
    (case M19l => k_is)
    (case M19c => k_is)
    (case M19k => k_is)
    (case M20a => k_is)
    (case M20i => k_is)
    (case M20l => k_is)
    (case M20c => k_is)
    (case M20k => k_is)
    (case M21a => k_is)
    (case M21i => k_is)
    (case M21l => k_is)
    (case M21c => k_is)
    (case M21k => k_is)
    (case M22a => k_is)
    (case M22i => k_is)
    (case M22l => k_is)
    (case M22c => k_is)
    (case M22k => k_is)
    (case M23a => k_is)
    (case M23i => k_is)
    (case M23l => k_is)
    (case M23c => k_is)
    (case M23k => k_is)
    (case M24a => k_is)
    (case M24i => k_is)
    (case M24l => k_is)
    (case M24c => k_is)
    (case M24k => k_is)
    (case M25a => k_is)
    (case M25i => k_is)
    (case M25l => k_is)
    (case M25c => k_is)
    (case M25k => k_is)
    (case M26a => k_is)
    (case M26i => k_is)
    (case M26l => k_is)
    (case M26c => k_is)
    (case M26k => k_is)
    (case a0 => k_is)
    (case l0 => k_is)
    (case c0 => k_is)
    (case k0 => k_is)
    (case a1 => k_is)
    (case l1 => k_is)
    (case c1 => k_is)
    (case k1 => k_is)
    (case a2 => k_is)
    (case l2 => k_is)
    (case c2 => k_is)
    (case k2 => k_is)
    (case a3 => k_is)
    (case l3 => k_is)
    (case c3 => k_is)
    (case k3 => k_is)
    (case a4 => k_is)
    (case l4 => k_is)
    (case c4 => k_is)
    (case k4 => k_is)
    (case a5 => k_is)
    (case l5 => k_is)
    (case c5 => k_is)
    (case k5 => k_is)
    (case a6 => k_is)
    (case l6 => k_is)
    (case c6 => k_is)
    (case k6 => k_is)
    (case a7 => k_is)
    (case l7 => k_is)
    (case c7 => k_is)
    (case k7 => k_is)
    (case a8 => k_is)
    (case l8 => k_is)
    (case c8 => k_is)
    (case k8 => k_is)
    (case a9 => k_is)
    (case l9 => k_is)
    (case c9 => k_is)
    (case k9 => k_is)
    (case a10 => k_is)
    (case l10 => k_is)
    (case c10 => k_is)
    (case k10 => k_is)
    (case a11 => k_is)
    (case l11 => k_is)
    (case c11 => k_is)
    (case k11 => k_is)
    (case a12 => k_is)
    (case l12 => k_is)
    (case c12 => k_is)
    (case k12 => k_is)
    (case a13 => k_is)
    (case l13 => k_is)
    (case c13 => k_is)
    (case k13 => k_is)
    (case a14 => k_is)
    (case l14 => k_is)
    (case c14 => k_is)
    (case k14 => k_is)
    (case a15 => k_is)
    (case l15 => k_is)
    (case c15 => k_is)
    (case k15 => k_is)
    (case a16 => k_is)
    (case l16 => k_is)
    (case c16 => k_is)
    (case k16 => k_is)
    (case a17 => k_is)
    (case l17 => k_is)
    (case c17 => k_is)
    (case k17 => k_is)
    (case a18 => k_is)
    (case l18 => k_is)
    (case c18 => k_is)
    (case k18 => k_is)
    (case a19 => k_is)
    (case l19 => k_is)
    (case c19 => k_is)
    (case k19 => k_is)
    (case a20 => k_is)
    (case l20 => k_is)
    (case c20 => k_is)
    (case k20 => k_is)
    (case a21 => k_is)
    (case l21 => k_is)
    (case c21 => k_is)
    (case k21 => k_is)
    (case a22 => k_is)
    (case l22 => k_is)
    (case c22 => k_is)
    (case k22 => k_is)
    (case a23 => k_is)
    (case l23 => k_is)
    (case c23 => k_is)
    (case k23 => k_is)
    (case a24 => k_is)
    (case l24 => k_is)
    (case c24 => k_is)
    (case k24 => k_is)
