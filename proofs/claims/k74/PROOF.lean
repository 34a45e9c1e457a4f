import PyProof.Rows.All
import Wide.All
import OpenK.AllK
import Wide.FinOn
import HandS.ForMost
import HandS.IsInst
import HandS.Flow
import HandS.Star
import HandS.ClsMeth
import HandS.Wide
import HandS.TupAny
import HandS.TupLe
import HandS.Deep
import HandS.Style
import HandS.Property
import PyProof.ReprRoads
import HandS.DictComp
import HandS.Ends
import HandS.EndBits
import HandS.Defaults
import HandS.Head0
import HandS.Head1
import HandS.Head2
import HandS.HeadHook1
import HandS.HeadHook2
import PySem.Challenge.RW_ringlists_k74_heaps_filled
import KE.KStateDown
set_option Elab.async false
set_option linter.all false
set_option maxRecDepth 100000
set_option maxHeartbeats 0
/-! # Mini: a small deterministic machine in plain Lean, and what ties it to the layer -/
namespace Mini
open PySem L2

/-! ## values, objects, results -/
/-- a value: plain data, an object of the heap by its number, a def or class of the text, a tuple that holds such, the script -/
inductive MV where
  | d (p : PyData)
  | ref (i : Nat)
  | glb (x : Str)
  | tup (l : List MV)
  | rl (ns : List Int)
/-- an object: a list, a dict with int and text keys, a dict with tuple keys, an instance (its class by number, its fields by place) -/
inductive MO where
  | lst (l : List MV)
  | dk (kvs : List (Key × MV))
  | dt (kvs : List (List Key × MV))
  | ins (c : Nat) (fs : List MV)
abbrev MH := List MO
abbrev MSt := List (Option MV)
inductive R (α : Type) where
  | ok (a : α) (h : MH)
  | bad
def R.bind {α β : Type} (r : R α) (f : α → MH → R β) : R β := match r with
  | .ok a h => f a h
  | .bad => .bad
@[simp] theorem R.bind_ok {α β : Type} {a : α} {h : MH} {f : α → MH → R β} : (R.ok a h).bind f = f a h := rfl
@[simp] theorem R.bind_bad {α β : Type} {f : α → MH → R β} : (R.bad : R α).bind f = .bad := rfl
inductive RS where
  | nx (μ : MSt) (h : MH)
  | rt (v : MV) (h : MH)
  | bk (μ : MSt) (h : MH)
  | ct (μ : MSt) (h : MH)
  | bad
def R.thn {α : Type} (r : R α) (f : α → MH → RS) : RS := match r with
  | .ok a h => f a h
  | .bad => .bad
@[simp] theorem R.thn_ok {α : Type} {a : α} {h : MH} {f : α → MH → RS} : (R.ok a h).thn f = f a h := rfl
@[simp] theorem R.thn_bad {α : Type} {f : α → MH → RS} : (R.bad : R α).thn f = .bad := rfl

/-! ## the worlds: the part of the abstract heap that is never written, the addresses of the objects -/
structure Wd where
  F : Hp
  ρ : List Addr
/-- classes by number: name, fields in order -/
structure Gx where
  K : PySem.W.Frag
  mg : Str → Option Value
  cn : Nat → Str × List Str
mutual
inductive Dq (F : Hp) : V → PyData → Prop
  | non : Dq F .non .none
  | bl (b : Bool) : Dq F (.bl b) (.bool b)
  | int (i : Int) : Dq F (.int i) (.int i)
  | str (x : Str) : Dq F (.str x) (.str x)
  | lst {a : Addr} {xs : List V} {ds : List PyData} : F a = some (.lst xs) → Dqs F xs ds → Dq F (.ref a) (.list ds)
  | tup {a : Addr} {xs : List V} {ds : List PyData} : F a = some (.tup xs) → Dqs F xs ds → Dq F (.ref a) (.tuple ds)
inductive Dqs (F : Hp) : List V → List PyData → Prop
  | nil : Dqs F [] []
  | cons {v : V} {vs : List V} {d : PyData} {ds : List PyData} : Dq F v d → Dqs F vs ds → Dqs F (v :: vs) (d :: ds)
end
mutual
inductive RV (G : Gx) (W : Wd) : MV → V → Prop
  | d {v : V} {p : PyData} : Dq W.F v p → RV G W (.d p) v
  | ref {i : Nat} {a : Addr} : W.ρ[i]? = some a → RV G W (.ref i) (.ref a)
  | glb {x : Str} {a : Addr} : G.mg x = some (.ref a) → RV G W (.glb x) (.ref a)
  | tup {l : List MV} {a : Addr} {xs : List V} : W.F a = some (.tup xs) → RVs G W l xs → RV G W (.tup l) (.ref a)
  | rl {ns : List Int} {a : Addr} : SqL G.K W.F a (ns.map V.int) → RV G W (.rl ns) (.ref a)
inductive RVs (G : Gx) (W : Wd) : List MV → List V → Prop
  | nil : RVs G W [] []
  | cons {m : MV} {l : List MV} {v : V} {vs : List V} : RV G W m v → RVs G W l vs → RVs G W (m :: l) (v :: vs)
end
/-- what stands at a -/
def RO (G : Gx) (W : Wd) (H : Hp) (a : Addr) : MO → Prop
  | .lst l => ∃ xs, H a = some (.lst xs) ∧ RVs G W l xs
  | .dk kvs => ∃ kvs', H a = some (.dK kvs') ∧ kvs.map (·.1) = kvs'.map (·.1) ∧ RVs G W (kvs.map (·.2)) (kvs'.map (·.2))
  | .dt kvs => ∃ kvs', H a = some (.dT kvs') ∧ kvs.map (·.1) = kvs'.map (·.1) ∧ RVs G W (kvs.map (·.2)) (kvs'.map (·.2))
  | .ins c fs => ∃ C dx fs', G.mg (G.cn c).1 = some (.ref C) ∧ H a = some (.ins C dx fs') ∧ fs'.map (·.1) = (G.cn c).2.take fs.length ∧ fs.length ≤ (G.cn c).2.length ∧ RVs G W fs (fs'.map (·.2))
structure Rel (G : Gx) (W : Wd) (h : MH) (H : Hp) : Prop where
  sub : ∀ a o, W.F a = some o → H a = some o
  dis : ∀ a ∈ W.ρ, W.F a = none
  nd : W.ρ.Nodup
  len : W.ρ.length = h.length
  obj : ∀ (i : Nat) (o : MO) (a : Addr), h[i]? = some o → W.ρ[i]? = some a → RO G W H a o
/-- from one world to a later one: what is not ours stays -/
structure Ext (W : Wd) (H : Hp) (W' : Wd) (H' : Hp) : Prop where
  sub : ∀ a o, W.F a = some o → W'.F a = some o
  pre : W.ρ <+: W'.ρ
  frm : ∀ a o, H a = some o → a ∉ W.ρ → H' a = some o
  new : ∀ a o, H a = some o → a ∉ W.ρ → a ∉ W'.ρ ∧ (W.F a = none → W'.F a = none)
theorem Ext.refl (W : Wd) (H : Hp) : Ext W H W H := ⟨fun _ _ e => e, List.prefix_rfl, fun _ _ e _ => e, fun _ _ _ n => ⟨n, id⟩⟩
theorem Ext.trans {W W1 W2 : Wd} {H H1 H2 : Hp} (a : Ext W H W1 H1) (b : Ext W1 H1 W2 H2) : Ext W H W2 H2 :=
  ⟨fun x o e => b.sub x o (a.sub x o e), a.pre.trans b.pre, fun x o e n => b.frm x o (a.frm x o e n) (a.new x o e n).1,
   fun x o e n => ⟨(b.new x o (a.frm x o e n) (a.new x o e n).1).1, fun z => (b.new x o (a.frm x o e n) (a.new x o e n).1).2 ((a.new x o e n).2 z)⟩⟩
theorem pre_get {α : Type} {l l' : List α} (p : l <+: l') {i : Nat} {a : α} (h : l[i]? = some a) : l'[i]? = some a := by
  obtain ⟨t, rfl⟩ := p
  rw [List.getElem?_append_left (List.getElem?_eq_some_iff.mp h).1]; exact h

section
variable {G : Gx} {W W' : Wd} {H H' : Hp} {h h' : MH}
theorem rd_sub {F F' : Hp} (e : ∀ a o, F a = some o → F' a = some o) {a : Addr} {u : HO} (r : Rd F a u) : Rd F' a u := by
  rcases r with r | ⟨o, r⟩
  · exact .inl (e _ _ r)
  · exact .inr ⟨o, e _ _ r⟩
theorem sqL_sub {K : PySem.W.Frag} {F F' : Hp} (e : ∀ a o, F a = some o → F' a = some o) {a : Addr} {xs : List V} (r : SqL K F a xs) : SqL K F' a xs := by
  rcases r with r | r
  · exact .inl (rd_sub e r)
  · exact .inr r
theorem sqT_sub {K : PySem.W.Frag} {F F' : Hp} (e : ∀ a o, F a = some o → F' a = some o) {a : Addr} {xs : List V} (r : SqT K F a xs) : SqT K F' a xs := by
  rcases r with r | r
  · exact .inl (rd_sub e r)
  · exact .inr r
mutual
theorem Dq.sub {F F' : Hp} (e : ∀ a o, F a = some o → F' a = some o) : ∀ {p : PyData} {v : V}, Dq F v p → Dq F' v p
  | .none, _, .non => .non
  | .bool b, _, .bl _ => .bl b
  | .int i, _, .int _ => .int i
  | .str x, _, .str _ => .str x
  | .list _, _, .lst s t => .lst (e _ _ s) (Dqs.sub e t)
  | .tuple _, _, .tup s t => .tup (e _ _ s) (Dqs.sub e t)
theorem Dqs.sub {F F' : Hp} (e : ∀ a o, F a = some o → F' a = some o) : ∀ {ps : List PyData} {vs : List V}, Dqs F vs ps → Dqs F' vs ps
  | [], _, .nil => .nil
  | _ :: _, _, .cons a b => .cons (Dq.sub e a) (Dqs.sub e b)
end
mutual
theorem Dq.dp {F H : Hp} {K : PySem.W.Frag} (e : ∀ a o, F a = some o → H a = some o) : ∀ {p : PyData} {v : V}, Dq F v p → Dp K H v p
  | .none, _, .non => .non
  | .bool b, _, .bl _ => .bl b
  | .int i, _, .int _ => .int i
  | .str x, _, .str _ => .str x
  | .list _, _, .lst s t => .lst (SqL.of (e _ _ s)) (Dqs.dp e t)
  | .tuple _, _, .tup s t => .tup (SqT.of (e _ _ s)) (Dqs.dp e t)
theorem Dqs.dp {F H : Hp} {K : PySem.W.Frag} (e : ∀ a o, F a = some o → H a = some o) : ∀ {ps : List PyData} {vs : List V}, Dqs F vs ps → DpAll K H vs ps
  | [], _, .nil => .nil
  | _ :: _, _, .cons a b => .cons (Dq.dp e a) (Dqs.dp e b)
end
mutual
theorem RV.le (e : ∀ a o, W.F a = some o → W'.F a = some o) (p : W.ρ <+: W'.ρ) : ∀ {m : MV} {v : V}, RV G W m v → RV G W' m v
  | .d _, _, .d x => .d (x.sub e)
  | .ref _, _, .ref x => .ref (pre_get p x)
  | .glb _, _, .glb x => .glb x
  | .tup _, _, .tup x y => .tup (e _ _ x) (RVs.le e p y)
  | .rl _, _, .rl x => .rl (sqL_sub e x)
theorem RVs.le (e : ∀ a o, W.F a = some o → W'.F a = some o) (p : W.ρ <+: W'.ρ) : ∀ {l : List MV} {vs : List V}, RVs G W l vs → RVs G W' l vs
  | [], _, .nil => .nil
  | _ :: _, _, .cons a b => .cons (RV.le e p a) (RVs.le e p b)
end
theorem RV.ext (e : Ext W H W' H') {m : MV} {v : V} (r : RV G W m v) : RV G W' m v := r.le e.sub e.pre
theorem RVs.ext (e : Ext W H W' H') {l : List MV} {vs : List V} (r : RVs G W l vs) : RVs G W' l vs := r.le e.sub e.pre
theorem RVs.length : ∀ {l : List MV} {vs : List V}, RVs G W l vs → l.length = vs.length
  | [], _, .nil => rfl
  | _ :: _, _, .cons _ b => by simp [RVs.length b]
theorem RVs.get : ∀ {l : List MV} {vs : List V} {i : Nat} {m : MV}, RVs G W l vs → l[i]? = some m → ∃ v, vs[i]? = some v ∧ RV G W m v
  | [], _, _, _, .nil, e => by simp at e
  | _ :: _, _, 0, _, .cons a _, e => by simp at e; subst e; exact ⟨_, rfl, a⟩
  | _ :: _, _, i + 1, m, .cons _ b, e => by
    obtain ⟨v, q, r⟩ := RVs.get (i := i) (m := m) b (by simpa using e)
    exact ⟨v, by simpa using q, r⟩
theorem RVs.getr {l : List MV} {vs : List V} {i : Nat} {v : V} (r : RVs G W l vs) (e : vs[i]? = some v) : ∃ m, l[i]? = some m ∧ RV G W m v := by
  have hi : i < l.length := by rw [r.length]; exact (List.getElem?_eq_some_iff.mp e).1
  obtain ⟨v', e', q⟩ := r.get (List.getElem?_eq_getElem hi)
  rw [e] at e'; cases e'
  exact ⟨_, List.getElem?_eq_getElem hi, q⟩
theorem RVs.app : ∀ {l k : List MV} {vs us : List V}, RVs G W l vs → RVs G W k us → RVs G W (l ++ k) (vs ++ us)
  | [], _, _, _, .nil, q => q
  | _ :: _, _, _, _, .cons a b, q => .cons a (b.app q)
theorem RVs.set : ∀ {l : List MV} {vs : List V} {i : Nat} {m : MV} {v : V}, RVs G W l vs → RV G W m v → RVs G W (l.set i m) (vs.set i v)
  | [], _, _, _, _, .nil, _ => by simpa using RVs.nil
  | _ :: _, _, 0, _, _, .cons _ b, q => .cons q b
  | _ :: _, _, i + 1, _, _, .cons a b, q => .cons a (b.set q)
theorem RVs.take : ∀ {l : List MV} {vs : List V} (n : Nat), RVs G W l vs → RVs G W (l.take n) (vs.take n)
  | _, _, 0, _ => by simpa using RVs.nil
  | [], _, _ + 1, .nil => .nil
  | _ :: _, _, n + 1, .cons a b => .cons a (b.take n)
theorem RVs.drop : ∀ {l : List MV} {vs : List V} (n : Nat), RVs G W l vs → RVs G W (l.drop n) (vs.drop n)
  | _, _, 0, q => by simpa using q
  | [], _, _ + 1, .nil => .nil
  | _ :: _, _, n + 1, .cons _ b => b.drop n
theorem RVs.rev : ∀ {l : List MV} {vs : List V}, RVs G W l vs → RVs G W l.reverse vs.reverse
  | [], _, .nil => by simpa using RVs.nil
  | _ :: _, _, .cons a b => by
    rw [List.reverse_cons, List.reverse_cons]
    exact b.rev.app (.cons a .nil)
theorem RVs.ofDps : ∀ {ps : List PyData} {vs : List V}, Dqs W.F vs ps → RVs G W (ps.map MV.d) vs
  | [], _, .nil => .nil
  | _ :: _, _, .cons a b => .cons (.d a) (RVs.ofDps b)
theorem RVs.toDps : ∀ {ps : List PyData} {vs : List V}, RVs G W (ps.map MV.d) vs → Dqs W.F vs ps
  | [], _, .nil => .nil
  | _ :: _, _, .cons (.d a) b => .cons a b.toDps
theorem RO.le {a : Addr} {o : MO} (e : ∀ a o, W.F a = some o → W'.F a = some o) (p : W.ρ <+: W'.ρ) (k : ∀ u, H a = some u → H' a = some u) (r : RO G W H a o) : RO G W' H' a o := by
  cases o with
  | lst l => obtain ⟨xs, q, s⟩ := r; exact ⟨xs, k _ q, s.le e p⟩
  | dk kvs => obtain ⟨xs, q, s, t⟩ := r; exact ⟨xs, k _ q, s, t.le e p⟩
  | dt kvs => obtain ⟨xs, q, s, t⟩ := r; exact ⟨xs, k _ q, s, t.le e p⟩
  | ins c fs => obtain ⟨C, dx, fs', m, q, n, z, t⟩ := r; exact ⟨C, dx, fs', m, k _ q, n, z, t.le e p⟩
theorem RO.some {a : Addr} {o : MO} (r : RO G W H a o) : ∃ u, H a = some u := by
  cases o with
  | lst l => obtain ⟨xs, q, s⟩ := r; exact ⟨_, q⟩
  | dk kvs => obtain ⟨xs, q, s, t⟩ := r; exact ⟨_, q⟩
  | dt kvs => obtain ⟨xs, q, s, t⟩ := r; exact ⟨_, q⟩
  | ins c fs => obtain ⟨C, dx, fs', m, q, n, t⟩ := r; exact ⟨_, q⟩
theorem Rel.at (R : Rel G W h H) {i : Nat} {o : MO} (e : h[i]? = some o) : ∃ a, W.ρ[i]? = some a ∧ a ∈ W.ρ ∧ RO G W H a o := by
  have hi : i < W.ρ.length := by rw [R.len]; exact (List.getElem?_eq_some_iff.mp e).1
  exact ⟨_, List.getElem?_eq_getElem hi, List.getElem_mem hi, R.obj i o _ e (List.getElem?_eq_getElem hi)⟩
theorem Rel.ofRef (R : Rel G W h H) {i : Nat} {a : Addr} (e : W.ρ[i]? = some a) : ∃ o, h[i]? = some o ∧ RO G W H a o := by
  have hi : i < h.length := by rw [← R.len]; exact (List.getElem?_eq_some_iff.mp e).1
  exact ⟨_, List.getElem?_eq_getElem hi, R.obj i _ a (List.getElem?_eq_getElem hi) e⟩
theorem Rel.trk (R : Rel G W h H) {a : Addr} (e : a ∈ W.ρ) : ∃ u, H a = some u := by
  obtain ⟨i, hi, q⟩ := List.getElem_of_mem e
  obtain ⟨o, _, r⟩ := R.ofRef (i := i) (a := a) (by rw [List.getElem?_eq_getElem hi, q])
  exact r.some
theorem Rel.free (R : Rel G W h H) {p : Addr} (e : H p = none) : W.F p = none ∧ p ∉ W.ρ := by
  refine ⟨?_, fun q => ?_⟩
  · cases z : W.F p with
    | none => rfl
    | some o => rw [R.sub _ _ z] at e; cases e
  · obtain ⟨u, z⟩ := R.trk q
    rw [z] at e; cases e
/-- a new thing that is only read from now on -/
theorem Rel.frozen (R : Rel G W h H) {p : Addr} (e : H p = none) (u : HO) : Rel G ⟨upd W.F p u, W.ρ⟩ h (upd H p u) ∧ Ext W H ⟨upd W.F p u, W.ρ⟩ (upd H p u) := by
  obtain ⟨f1, f2⟩ := R.free e
  have sub : ∀ a o, W.F a = some o → (upd W.F p u) a = some o := fun a o z => by
    rw [upd_ne (ne_of_none z f1)]; exact z
  refine ⟨⟨fun a o z => ?_, fun a ha => ?_, R.nd, R.len, fun i o a h1 h2 => ?_⟩, ⟨sub, List.prefix_rfl, fun a o z _ => ?_, fun a o z n => ⟨n, fun q => ?_⟩⟩⟩
  · by_cases q : a = p
    · subst q
      have z' : (upd W.F a u) a = some o := z
      rw [upd_same] at z' ⊢; exact z'
    · have z' : (upd W.F p u) a = some o := z
      rw [upd_ne q] at z'; rw [upd_ne q]; exact R.sub _ _ z'
  · show (upd W.F p u) a = none
    rw [upd_ne (fun q => f2 (by rw [← q]; exact ha))]; exact R.dis a ha
  · exact (R.obj i o a h1 h2).le sub List.prefix_rfl fun v z => by rw [upd_ne (ne_of_none z e)]; exact z
  · rw [upd_ne (ne_of_none z e)]; exact z
  · show (upd W.F p u) a = none
    rw [upd_ne (ne_of_none z e)]; exact q
/-- a new object of the heap -/
theorem Rel.push (R : Rel G W h H) {p : Addr} (e : H p = none) (u : HO) (o : MO) (ho : ∀ W' : Wd, (∀ a o, W.F a = some o → W'.F a = some o) → W.ρ <+: W'.ρ → RO G W' (upd H p u) p o) :
    Rel G ⟨W.F, W.ρ ++ [p]⟩ (h ++ [o]) (upd H p u) ∧ Ext W H ⟨W.F, W.ρ ++ [p]⟩ (upd H p u) := by
  obtain ⟨f1, f2⟩ := R.free e
  have pre : W.ρ <+: W.ρ ++ [p] := List.prefix_append _ _
  have k : ∀ {a : Addr} {v : HO}, H a = some v → (upd H p u) a = some v := fun z => by rw [upd_ne (ne_of_none z e)]; exact z
  refine ⟨⟨fun a o z => k (R.sub a o z), fun a ha => ?_, ?_, by simp [R.len], fun i o' a h1 h2 => ?_⟩, ⟨fun _ _ z => z, pre, fun a o z _ => k z, fun a o z n => ⟨fun q => ?_, id⟩⟩⟩
  · rcases List.mem_append.mp ha with q | q
    · exact R.dis a q
    · rw [List.mem_singleton.mp q]; exact f1
  · exact List.nodup_append.mpr ⟨R.nd, by simp, fun x hx y hy => by
      rw [List.mem_singleton.mp hy]
      exact fun q => f2 (by rw [← q]; exact hx)⟩
  · by_cases hi : i < h.length
    · rw [List.getElem?_append_left hi] at h1
      rw [List.getElem?_append_left (by rw [R.len]; exact hi)] at h2
      exact (R.obj i o' a h1 h2).le (W := W) (W' := ⟨W.F, W.ρ ++ [p]⟩) (fun _ _ z => z) pre fun v z => k z
    · have e1 : i = h.length := by
        have := (List.getElem?_eq_some_iff.mp h1).1
        simp at this; omega
      subst e1
      rw [List.getElem?_append_right (Nat.le_refl _)] at h1
      rw [List.getElem?_append_right (by rw [R.len]; exact Nat.le_refl _), R.len] at h2
      simp at h1 h2
      subst h1; subst h2
      exact ho _ (fun _ _ z => z) pre
  · rcases List.mem_append.mp q with q | q
    · exact n q
    · rw [List.mem_singleton.mp q, e] at z; cases z
/-- an object written -/
theorem Rel.put (R : Rel G W h H) {i : Nat} {a : Addr} (hi : W.ρ[i]? = some a) (u : HO) (o : MO) (ho : RO G W (upd H a u) a o) : Rel G W (h.set i o) (upd H a u) ∧ Ext W H W (upd H a u) := by
  have ha : a ∈ W.ρ := List.mem_of_getElem? hi
  refine ⟨⟨fun b v z => ?_, R.dis, R.nd, by simp [R.len], fun j o' b h1 h2 => ?_⟩, ⟨fun _ _ z => z, List.prefix_rfl, fun b v z n => ?_, fun b v z n => ⟨n, id⟩⟩⟩
  · have nb : b ≠ a := fun q => by rw [q, R.dis a ha] at z; cases z
    rw [upd_ne nb]; exact R.sub b v z
  · by_cases hj : j = i
    · subst hj
      rw [hi] at h2; cases h2
      have hl : j < h.length := by rw [← R.len]; exact (List.getElem?_eq_some_iff.mp hi).1
      rw [List.getElem?_set_self hl] at h1
      cases h1
      exact ho
    · rw [List.getElem?_set_ne (Ne.symm hj)] at h1
      have nb : b ≠ a := fun q => by
        rw [q] at h2
        exact hj (L2.nd_ix R.nd h2 hi)
      exact (R.obj j o' b h1 h2).le (W := W) (W' := W) (fun _ _ z => z) List.prefix_rfl fun v z => by rw [upd_ne nb]; exact z
  · have nb : b ≠ a := fun q => n (q ▸ ha)
    rw [upd_ne nb]; exact z
end

/-! ## what is wanted behind a result -/
section
variable {α β γ δ : Type} {G : Gx} {W W1 : Wd} {H H1 : Hp}
def Po (G : Gx) (rel : Wd → α → β → Prop) (W : Wd) (H : Hp) (r : R α) (Q : β → Hp → Prop) : Prop := match r with
  | .ok a h' => ∀ W' H' x, Ext W H W' H' → Rel G W' h' H' → rel W' a x → Q x H'
  | .bad => False
theorem Po.ext {rel : Wd → α → β → Prop} {r : R α} {Q : β → Hp → Prop} (p : Po G rel W H r Q) (e : Ext W H W1 H1) : Po G rel W1 H1 r Q := by
  cases r with
  | ok a h' => exact fun W' H' x e' R' r' => p W' H' x (e.trans e') R' r'
  | bad => exact p
theorem Po.bnd {relA : Wd → α → β → Prop} {relB : Wd → γ → δ → Prop} {r : R α} {f : α → MH → R γ} {Q : δ → Hp → Prop} {k : β → Hp → Prop} (p : Po G relB W H (r.bind f) Q)
    (hk : ∀ a h1 W1 H1 x, r = .ok a h1 → Ext W H W1 H1 → Rel G W1 h1 H1 → relA W1 a x → Po G relB W1 H1 (f a h1) Q → k x H1) : Po G relA W H r k := by
  cases r with
  | ok a h1 => exact fun W1 H1 x e R' ra => hk a h1 W1 H1 x rfl e R' ra (Po.ext p e)
  | bad => exact p
theorem Po.ok {rel : Wd → α → β → Prop} {a : α} {x : β} {h : MH} {Q : β → Hp → Prop} (p : Po G rel W H (.ok a h) Q) (R' : Rel G W h H) (r : rel W a x) : Q x H := p W H x (Ext.refl _ _) R' r
theorem Po.ok' {rel : Wd → α → β → Prop} {a : α} {x : β} {h : MH} {Q : β → Hp → Prop} (p : Po G rel W H (.ok a h) Q) (e : Ext W H W1 H1) (R' : Rel G W1 h H1) (r : rel W1 a x) : Q x H1 := p W1 H1 x e R' r
end
abbrev PoE (G : Gx) (W : Wd) (H : Hp) (r : R MV) (Q : VK) : Prop := Po G (RV G) W H r Q
abbrev PoA (G : Gx) (W : Wd) (H : Hp) (r : R (List MV)) (Q : List V → Hp → Prop) : Prop := Po G (RVs G) W H r Q
abbrev PoT (G : Gx) (W : Wd) (H : Hp) (r : R Bool) (Q : Bool → Hp → Prop) : Prop := Po G (fun _ (a b : Bool) => a = b) W H r Q
/-- slots -/
inductive RSl (G : Gx) (W : Wd) : MSt → St → Prop
  | nil : RSl G W [] []
  | none {x : Option V} {μ : MSt} {σ : St} : RSl G W μ σ → RSl G W (Option.none :: μ) (x :: σ)
  | some {m : MV} {v : V} {μ : MSt} {σ : St} : RV G W m v → RSl G W μ σ → RSl G W (Option.some m :: μ) (Option.some v :: σ)
section
variable {G : Gx} {W W1 : Wd} {H H1 : Hp}
theorem RSl.le {W' : Wd} (e : ∀ a o, W.F a = Option.some o → W'.F a = Option.some o) (p : W.ρ <+: W'.ρ) : ∀ {μ : MSt} {σ : St}, RSl G W μ σ → RSl G W' μ σ
  | _, _, .nil => .nil
  | _, _, .none q => .none (q.le e p)
  | _, _, .some a q => .some (a.le e p) (q.le e p)
theorem RSl.ext (e : Ext W H W1 H1) {μ : MSt} {σ : St} (r : RSl G W μ σ) : RSl G W1 μ σ := r.le e.sub e.pre
theorem RSl.get : ∀ {μ : MSt} {σ : St} {i : Nat} {m : MV}, RSl G W μ σ → μ[i]? = Option.some (Option.some m) → ∃ v, σ[i]? = Option.some (Option.some v) ∧ RV G W m v
  | _, _, _, _, .nil, e => by simp at e
  | _, _, 0, _, .none _, e => by simp at e
  | _, _, 0, _, .some a _, e => by simp at e; subst e; exact ⟨_, rfl, a⟩
  | _, _, i + 1, m, .none q, e => by
    obtain ⟨v, z, r⟩ := RSl.get (i := i) (m := m) q (by simpa using e)
    exact ⟨v, by simpa using z, r⟩
  | _, _, i + 1, m, .some _ q, e => by
    obtain ⟨v, z, r⟩ := RSl.get (i := i) (m := m) q (by simpa using e)
    exact ⟨v, by simpa using z, r⟩
theorem RSl.set : ∀ {μ : MSt} {σ : St} {i : Nat} {m : MV} {v : V}, RSl G W μ σ → RV G W m v → RSl G W (μ.set i (Option.some m)) (σ.set i (Option.some v))
  | _, _, _, _, _, .nil, _ => .nil
  | _, _, 0, _, _, .none q, r => .some r q
  | _, _, 0, _, _, .some _ q, r => .some r q
  | _, _, i + 1, _, _, .none q, r => .none (q.set r)
  | _, _, i + 1, _, _, .some a q, r => .some a (q.set r)
theorem RSl.setN : ∀ {μ : MSt} {σ : St} {i : Nat} {x : Option V}, RSl G W μ σ → RSl G W (μ.set i Option.none) (σ.set i x)
  | _, _, _, _, .nil => .nil
  | _, _, 0, _, .none q => .none q
  | _, _, 0, _, .some _ q => .none q
  | _, _, i + 1, _, .none q => .none q.setN
  | _, _, i + 1, _, .some a q => .some a q.setN
theorem RSl.length : ∀ {μ : MSt} {σ : St}, RSl G W μ σ → μ.length = σ.length
  | _, _, .nil => rfl
  | _, _, .none q => by simp [q.length]
  | _, _, .some _ q => by simp [q.length]
theorem RSl.ofVs : ∀ {l : List MV} {vs : List V} (n : Nat), RVs G W l vs → RSl G W (l.map Option.some ++ List.replicate n Option.none) (vs.map Option.some ++ List.replicate n Option.none)
  | [], _, 0, .nil => .nil
  | [], _, n + 1, .nil => .none (RSl.ofVs n .nil)
  | _ :: _, _, n, .cons a b => .some a (RSl.ofVs n b)
end
/-- behind a statement -/
def PoS (G : Gx) (W : Wd) (H : Hp) (r : RS) (D : Ends) : Prop := match r with
  | .nx μ h => ∀ W' H' σ, Ext W H W' H' → Rel G W' h H' → RSl G W' μ σ → D.nx σ H'
  | .rt v h => ∀ W' H' x, Ext W H W' H' → Rel G W' h H' → RV G W' v x → D.rt x H'
  | .bk μ h => ∀ W' H' σ, Ext W H W' H' → Rel G W' h H' → RSl G W' μ σ → D.bk σ H'
  | .ct μ h => ∀ W' H' σ, Ext W H W' H' → Rel G W' h H' → RSl G W' μ σ → D.ct σ H'
  | .bad => False
theorem PoS.ext {G : Gx} {W W1 : Wd} {H H1 : Hp} {r : RS} {D : Ends} (p : PoS G W H r D) (e : Ext W H W1 H1) : PoS G W1 H1 r D := by
  cases r with
  | nx μ h => exact fun W' H' x e' R' r' => p W' H' x (e.trans e') R' r'
  | rt v h => exact fun W' H' x e' R' r' => p W' H' x (e.trans e') R' r'
  | bk μ h => exact fun W' H' x e' R' r' => p W' H' x (e.trans e') R' r'
  | ct μ h => exact fun W' H' x e' R' r' => p W' H' x (e.trans e') R' r'
  | bad => exact p
theorem PoS.thn {α β : Type} {G : Gx} {W : Wd} {H : Hp} {D : Ends} {relA : Wd → α → β → Prop} {r : R α} {f : α → MH → RS} {k : β → Hp → Prop} (p : PoS G W H (r.thn f) D)
    (hk : ∀ a h1 W1 H1 x, r = .ok a h1 → Ext W H W1 H1 → Rel G W1 h1 H1 → relA W1 a x → PoS G W1 H1 (f a h1) D → k x H1) : Po G relA W H r k := by
  cases r with
  | ok a h1 => exact fun W1 H1 x e R' ra => hk a h1 W1 H1 x rfl e R' ra (PoS.ext p e)
  | bad => exact p

/-! ## the ties -/
abbrev ME := MSt → MH → R MV
abbrev MT := MSt → MH → R Bool
abbrev MA := MSt → MH → R (List MV)
abbrev MS := MSt → MH → RS
abbrev MG := MV → MSt → MH → R MSt
def SimE (G : Gx) (t : TE) (m : ME) : Prop := ∀ W h H μ σ Q, Rel G W h H → RSl G W μ σ → PoE G W H (m μ h) Q → t σ H Q
def SimT (G : Gx) (t : TT) (m : MT) : Prop := ∀ W h H μ σ Q, Rel G W h H → RSl G W μ σ → PoT G W H (m μ h) Q → t σ H Q
def SimA (G : Gx) (t : TA) (m : MA) : Prop := ∀ W h H μ σ Q, Rel G W h H → RSl G W μ σ → PoA G W H (m μ h) Q → t σ H Q
def SimS (G : Gx) (t : TS) (m : MS) : Prop := ∀ W h H μ σ D, Rel G W h H → RSl G W μ σ → PoS G W H (m μ h) D → t D σ H
def SimG (G : Gx) (t : TG) (m : MG) : Prop := ∀ W h H μ σ v x Q, Rel G W h H → RSl G W μ σ → RV G W v x → Po G (RSl G) W H (m v μ h) Q → t x σ H Q
abbrev gx (X : Cx) (cn : Nat → Str × List Str) : Gx := ⟨X.K, X.mg, cn⟩
section
variable (cn : Nat → Str × List Str) (X : Cx)
def RE (e : Expr) (m : ME) : Prop := PE X e fun σ H Q => ∃ W h μ, Rel (gx X cn) W h H ∧ RSl (gx X cn) W μ σ ∧ PoE (gx X cn) W H (m μ h) Q
def RT (e : Expr) (m : MT) : Prop := PT X e fun σ H Q => ∃ W h μ, Rel (gx X cn) W h H ∧ RSl (gx X cn) W μ σ ∧ PoT (gx X cn) W H (m μ h) Q
def RW (e : Expr) (m : MT) : Prop := PW X e fun σ H Q => ∃ W h μ, Rel (gx X cn) W h H ∧ RSl (gx X cn) W μ σ ∧ PoT (gx X cn) W H (m μ h) Q
def RA (es : List Expr) (m : MA) : Prop := PA X es fun σ H Q => ∃ W h μ, Rel (gx X cn) W h H ∧ RSl (gx X cn) W μ σ ∧ PoA (gx X cn) W H (m μ h) Q
def RSt (st : Stmt) (m : MS) : Prop := PS X st fun D σ H => ∃ W h μ, Rel (gx X cn) W h H ∧ RSl (gx X cn) W μ σ ∧ PoS (gx X cn) W H (m μ h) D
def RB (sts : List Stmt) (m : MS) : Prop := PSs X sts fun D σ H => ∃ W h μ, Rel (gx X cn) W h H ∧ RSl (gx X cn) W μ σ ∧ PoS (gx X cn) W H (m μ h) D
def RG (tg : Expr) (m : MG) : Prop := PG X tg fun x σ H Q => ∃ W h μ v, Rel (gx X cn) W h H ∧ RSl (gx X cn) W μ σ ∧ RV (gx X cn) W v x ∧ Po (gx X cn) (RSl (gx X cn)) W H (m v μ h) Q
end
section
variable {cn : Nat → Str × List Str} {X : Cx} {e : Expr} {es : List Expr} {m : ME} {mt : MT} {ma : MA} {ms : MS} {mg : MG} {st : Stmt} {sts : List Stmt}
theorem RE.mk (h : ∃ t, PE X e t ∧ SimE (gx X cn) t m) : RE cn X e m := by
  obtain ⟨t, p, s⟩ := h
  exact ⟨fun pins s0 σ H Q I ⟨W, h, μ, R, S, P⟩ => p.run pins s0 σ H Q I (s W h H μ σ Q R S P)⟩
theorem RE.ex (h : RE cn X e m) : ∃ t, PE X e t ∧ SimE (gx X cn) t m := ⟨_, h, fun W h H μ σ Q R S P => ⟨W, h, μ, R, S, P⟩⟩
theorem RT.mk (h : ∃ t, PT X e t ∧ SimT (gx X cn) t mt) : RT cn X e mt := by
  obtain ⟨t, p, s⟩ := h
  exact ⟨fun pins s0 σ H Q I ⟨W, h, μ, R, S, P⟩ => p.run pins s0 σ H Q I (s W h H μ σ Q R S P)⟩
theorem RT.ex (h : RT cn X e mt) : ∃ t, PT X e t ∧ SimT (gx X cn) t mt := ⟨_, h, fun W h H μ σ Q R S P => ⟨W, h, μ, R, S, P⟩⟩
theorem RW.mk (h : ∃ t, PW X e t ∧ SimT (gx X cn) t mt) : RW cn X e mt := by
  obtain ⟨t, p, s⟩ := h
  exact ⟨fun wh pins s0 σ H Q I ⟨W, h, μ, R, S, P⟩ => p.run wh pins s0 σ H Q I (s W h H μ σ Q R S P)⟩
theorem RW.ex (h : RW cn X e mt) : ∃ t, PW X e t ∧ SimT (gx X cn) t mt := ⟨_, h, fun W h H μ σ Q R S P => ⟨W, h, μ, R, S, P⟩⟩
theorem RA.mk (h : ∃ t, PA X es t ∧ SimA (gx X cn) t ma) : RA cn X es ma := by
  obtain ⟨t, p, s⟩ := h
  exact ⟨fun ps pins s0 σ H Q I ⟨W, h, μ, R, S, P⟩ => p.run ps pins s0 σ H Q I (s W h H μ σ Q R S P)⟩
theorem RA.ex (h : RA cn X es ma) : ∃ t, PA X es t ∧ SimA (gx X cn) t ma := ⟨_, h, fun W h H μ σ Q R S P => ⟨W, h, μ, R, S, P⟩⟩
theorem RSt.mk (h : ∃ t, PS X st t ∧ SimS (gx X cn) t ms) : RSt cn X st ms := by
  obtain ⟨t, p, s⟩ := h
  exact ⟨fun pins s0 σ H Q I ⟨W, h, μ, R, S, P⟩ => p.run pins s0 σ H Q I (s W h H μ σ Q R S P)⟩
theorem RSt.ex (h : RSt cn X st ms) : ∃ t, PS X st t ∧ SimS (gx X cn) t ms := ⟨_, h, fun W h H μ σ Q R S P => ⟨W, h, μ, R, S, P⟩⟩
theorem RB.mk (h : ∃ t, PSs X sts t ∧ SimS (gx X cn) t ms) : RB cn X sts ms := by
  obtain ⟨t, p, s⟩ := h
  exact ⟨fun pins s0 σ H Q I ⟨W, h, μ, R, S, P⟩ => p.run pins s0 σ H Q I (s W h H μ σ Q R S P)⟩
theorem RB.ex (h : RB cn X sts ms) : ∃ t, PSs X sts t ∧ SimS (gx X cn) t ms := ⟨_, h, fun W h H μ σ Q R S P => ⟨W, h, μ, R, S, P⟩⟩
theorem RG.mk (h : ∃ t, PG X e t ∧ SimG (gx X cn) t mg) : RG cn X e mg := by
  obtain ⟨t, p, s⟩ := h
  exact ⟨fun pins s0 σ H v u Q I r ⟨W, h, μ, x, R, S, rv, P⟩ => p.run pins s0 σ H v u Q I r (s W h H μ σ x v Q R S rv P)⟩
theorem RG.ex (h : RG cn X e mg) : ∃ t, PG X e t ∧ SimG (gx X cn) t mg := ⟨_, h, fun W h H μ σ v x Q R S r P => ⟨W, h, μ, v, R, S, r, P⟩⟩
end
end Mini
/-! # Mini: expressions by values -/
namespace Mini
open PySem L2

/-! ## reading -/
def mapO {α β : Type} (f : α → Option β) : List α → Option (List β)
  | [] => some []
  | a :: r => match f a, mapO f r with
    | some b, some bs => some (b :: bs)
    | _, _ => none
def lstOf (h : MH) : MV → Option (List MV)
  | .d (.list ds) => some (ds.map .d)
  | .ref i => match h[i]? with
    | some (.lst l) => some l
    | _ => none
  | .rl ns => some (ns.map fun i => .d (.int i))
  | _ => none
def tupOf : MV → Option (List MV)
  | .d (.tuple ds) => some (ds.map .d)
  | .tup l => some l
  | _ => none
def pureAll : List MV → Option (List PyData)
  | [] => some []
  | .d p :: r => match pureAll r with
    | some ps => some (p :: ps)
    | none => none
  | _ :: _ => none
def mkTup (l : List MV) : MV := match pureAll l with
  | some ps => .d (.tuple ps)
  | none => .tup l
/-- the data that a value is, lists of the heap read -/
def toD : Nat → MH → MV → Option PyData
  | _, _, .d p => some p
  | 0, _, _ => none
  | n + 1, h, .ref i => match h[i]? with
    | some (.lst l) => match mapO (toD n h) l with
      | some ds => some (.list ds)
      | none => none
    | _ => none
  | n + 1, h, .tup l => match mapO (toD n h) l with
      | some ds => some (.tuple ds)
      | none => none
  | _, _, _ => none
def szL : Nat := 16777216
section
variable {G : Gx} {W : Wd} {H : Hp} {h : MH} {v : V}
theorem pureAll_eq : ∀ {l : List MV} {ps : List PyData}, pureAll l = some ps → l = ps.map .d
  | [], ps, e => by simp [pureAll] at e; subst e; rfl
  | .d p :: r, ps, e => by
    unfold pureAll at e
    cases q : pureAll r with
    | none => rw [q] at e; cases e
    | some qs => rw [q] at e; cases e; rw [pureAll_eq q]; rfl
  | .ref _ :: _, _, e => by simp [pureAll] at e
  | .glb _ :: _, _, e => by simp [pureAll] at e
  | .tup _ :: _, _, e => by simp [pureAll] at e
  | .rl _ :: _, _, e => by simp [pureAll] at e
theorem mkTup_rv {l : List MV} {a : Addr} {xs : List V} (e : W.F a = some (.tup xs)) (r : RVs G W l xs) : RV G W (mkTup l) (.ref a) := by
  unfold mkTup
  cases q : pureAll l with
  | none => exact .tup e r
  | some ps =>
    have := pureAll_eq q
    subst this
    exact .d (.tup e r.toDps)
theorem ints_rv : ∀ ns : List Int, RVs G W (ns.map fun i => MV.d (.int i)) (ns.map V.int)
  | [] => .nil
  | i :: r => .cons (.d (.int i)) (ints_rv r)
theorem lstOf_ok (R : Rel G W h H) {m : MV} {l : List MV} (r : RV G W m v) (e : lstOf h m = some l) : ∃ a xs, v = .ref a ∧ SqL G.K H a xs ∧ RVs G W l xs := by
  cases r with
  | @d _ p q =>
    cases q with
    | @lst a xs ds s t => cases e; exact ⟨a, xs, rfl, SqL.of (R.sub _ _ s), RVs.ofDps t⟩
    | _ => cases e
  | @ref i a q =>
    obtain ⟨o, ho, ro⟩ := R.ofRef q
    unfold lstOf at e
    simp only [ho] at e
    cases o with
    | lst l' => cases e; obtain ⟨xs, s, t⟩ := ro; exact ⟨a, xs, rfl, SqL.of s, t⟩
    | _ => cases e
  | rl q => cases e; exact ⟨_, _, rfl, sqL_sub R.sub q, ints_rv _⟩
  | _ => cases e
/-- not the script: the list itself is tracked -/
theorem lstOf_trk (R : Rel G W h H) {m : MV} {l : List MV} (r : RV G W m v) (e : lstOf h m = some l) (n : ∀ ns, m ≠ .rl ns) : ∃ a xs, v = .ref a ∧ H a = some (.lst xs) ∧ RVs G W l xs := by
  cases r with
  | @d _ p q =>
    cases q with
    | @lst a xs ds s t => cases e; exact ⟨a, xs, rfl, R.sub _ _ s, RVs.ofDps t⟩
    | _ => cases e
  | @ref i a q =>
    obtain ⟨o, ho, ro⟩ := R.ofRef q
    unfold lstOf at e
    simp only [ho] at e
    cases o with
    | lst l' => cases e; obtain ⟨xs, s, t⟩ := ro; exact ⟨a, xs, rfl, s, t⟩
    | _ => cases e
  | rl q => exact absurd rfl (n _)
  | _ => cases e
theorem tupOf_ok (R : Rel G W h H) {m : MV} {l : List MV} (r : RV G W m v) (e : tupOf m = some l) : ∃ a xs, v = .ref a ∧ H a = some (.tup xs) ∧ RVs G W l xs := by
  cases r with
  | @d _ p q =>
    cases q with
    | @tup a xs ds s t => cases e; exact ⟨a, xs, rfl, R.sub _ _ s, RVs.ofDps t⟩
    | _ => cases e
  | tup s t => cases e; exact ⟨_, _, rfl, R.sub _ _ s, t⟩
  | _ => cases e
theorem mapO_dps (f : MV → Option PyData) {K : PySem.W.Frag} (hf : ∀ m v p, RV G W m v → f m = some p → Dp K H v p) : ∀ {l : List MV} {vs : List V} {ds : List PyData}, RVs G W l vs → mapO f l = some ds → DpAll K H vs ds
  | [], _, _, .nil, e => by cases e; exact .nil
  | m :: l, _, ds, .cons a b, e => by
    unfold mapO at e
    cases q1 : f m with
    | none => rw [q1] at e; cases e
    | some p =>
      rw [q1] at e
      cases q2 : mapO f l with
      | none => rw [q2] at e; cases e
      | some ps =>
        rw [q2] at e
        cases e
        exact .cons (hf _ _ _ a q1) (mapO_dps f hf b q2)
theorem toD_ok (R : Rel G W h H) : ∀ (n : Nat) (m : MV) (v : V) (p : PyData), RV G W m v → toD n h m = some p → Dp G.K H v p := by
  intro n
  induction n with
  | zero =>
    intro m v p r e
    cases r with
    | d q => simp [toD] at e; subst e; exact q.dp R.sub
    | _ => simp [toD] at e
  | succ n ih =>
    intro m v p r e
    cases r with
    | d q => simp [toD] at e; subst e; exact q.dp R.sub
    | @ref i a q =>
      obtain ⟨o, ho, ro⟩ := R.ofRef q
      unfold toD at e
      simp only [ho] at e
      cases o with
      | lst l' =>
        obtain ⟨xs, s, t⟩ := ro
        simp only at e
        cases z : mapO (toD n h) l' with
        | none => rw [z] at e; cases e
        | some ds =>
          rw [z] at e
          cases e
          exact .lst (SqL.of s) (mapO_dps _ ih t z)
      | _ => cases e
    | @tup l a xs s t =>
      unfold toD at e
      cases z : mapO (toD n h) l with
      | none => rw [z] at e; cases e
      | some ds =>
        rw [z] at e
        cases e
        exact .tup (SqT.of (R.sub _ _ s)) (mapO_dps _ ih t z)
    | _ => simp [toD] at e
theorem RVs.ints : ∀ {l : List MV} {vs : List V} {ns : List Int}, RVs G W l vs → l = ns.map (fun i => MV.d (.int i)) → vs = ns.map V.int
  | [], _, [], .nil, _ => rfl
  | _ :: _, _, n :: ns, .cons a b, e => by
    simp at e
    obtain ⟨e1, e2⟩ := e
    subst e1
    cases a with
    | d q => cases q; rw [RVs.ints b e2]; rfl
end

/-! ## results of values -/
/-- a plain result -/
abbrev rd (p : PyData) (h : MH) : R MV := .ok (.d p) h
abbrev rI (i : Int) (h : MH) : R MV := .ok (.d (.int i)) h
abbrev rB (b : Bool) (h : MH) : R MV := .ok (.d (.bool b)) h
abbrev rS (s : Str) (h : MH) : R MV := .ok (.d (.str s)) h
abbrev rN (h : MH) : R MV := .ok (.d .none) h
/-- a new list -/
def rL (l : List MV) (h : MH) : R MV := if l.length ≤ szL then .ok (.ref h.length) (h ++ [.lst l]) else .bad
/-- a new tuple -/
def rT (l : List MV) (h : MH) : R MV := if l.length ≤ szL then .ok (mkTup l) h else .bad
section
variable {G : Gx} {W : Wd} {H : Hp} {h : MH} {Q : VK}
theorem pI {i : Int} (R : Rel G W h H) (P : PoE G W H (rI i h) Q) : Q (.int i) H := P.ok R (.d (.int i))
theorem pB {b : Bool} (R : Rel G W h H) (P : PoE G W H (rB b h) Q) : Q (.bl b) H := P.ok R (.d (.bl b))
theorem pS {s : Str} (R : Rel G W h H) (P : PoE G W H (rS s h) Q) : Q (.str s) H := P.ok R (.d (.str s))
theorem pN (R : Rel G W h H) (P : PoE G W H (rN h) Q) : Q .non H := P.ok R (.d .non)
theorem szL_eq : szL = sizeLine := by rw [sizeLine_eq]; rfl
theorem pL {l : List MV} {xs : List V} (R : Rel G W h H) (r : RVs G W l xs) (P : PoE G W H (rL l h) Q) : xs.length ≤ sizeLine ∧ ∀ p, H p = none → Q (.ref p) (upd H p (.lst xs)) := by
  unfold rL at P
  by_cases c : l.length ≤ szL
  · rw [if_pos c] at P
    refine ⟨by rw [← r.length, ← szL_eq]; exact c, fun p hp => ?_⟩
    obtain ⟨R', E'⟩ := R.push hp (.lst xs) (.lst l) fun W' s q => ⟨xs, upd_same, r.le s q⟩
    refine P.ok' E' R' (.ref ?_)
    show (W.ρ ++ [p])[h.length]? = some p
    rw [← R.len]; simp
  · rw [if_neg c] at P
    exact P.elim
theorem pT {l : List MV} {xs : List V} (R : Rel G W h H) (r : RVs G W l xs) (P : PoE G W H (rT l h) Q) : xs.length ≤ sizeLine ∧ ∀ p, H p = none → Q (.ref p) (upd H p (.tup xs)) := by
  unfold rT at P
  by_cases c : l.length ≤ szL
  · rw [if_pos c] at P
    refine ⟨by rw [← r.length, ← szL_eq]; exact c, fun p hp => ?_⟩
    obtain ⟨R', E'⟩ := R.frozen hp (.tup xs)
    exact P.ok' E' R' (mkTup_rv (W := ⟨upd W.F p (.tup xs), W.ρ⟩) upd_same (r.ext E'))
  · rw [if_neg c] at P
    exact P.elim
end

/-! ## expressions -/
section
variable {cn : Nat → Str × List Str} {X : Cx} {a b c : Expr} {ma mb mc : ME} {pos : Pos}
def mVar (i : Nat) : ME := fun μ h => match μ[i]? with
  | some (some v) => .ok v h
  | _ => .bad
theorem re_var (i : Nat) {x : Str} (hN : X.N[i]? = some x) (hv : Vis X.env.scope x) (hd : (x == ("__debug__" : Str)) = false := by decide) (hcd : (x == ("__classdict__" : Str)) = false := by decide) : RE cn X (.Name x pos) (mVar i) :=
  .mk ⟨_, pe_var hN hv hd hcd, fun W h H μ σ Q R S P => by
    unfold mVar at P
    cases e : μ[i]? with
    | none => rw [e] at P; exact P.elim
    | some o =>
      cases o with
      | none => rw [e] at P; exact P.elim
      | some m =>
        rw [e] at P
        obtain ⟨v, hv, rv⟩ := S.get e
        exact ⟨v, hv, P.ok R rv⟩⟩
def mD (p : PyData) : ME := fun _ h => .ok (.d p) h
theorem re_int {i : Int} {j} : RE cn X (.Constant (.int i) j pos) (mD (.int i)) := .mk ⟨_, pe_int, fun W h H μ σ Q R S P => P.ok R (.d (.int i))⟩
theorem re_bl {x : Bool} {j} : RE cn X (.Constant (.bool x) j pos) (mD (.bool x)) := .mk ⟨_, pe_bl, fun W h H μ σ Q R S P => P.ok R (.d (.bl x))⟩
theorem re_non {j} : RE cn X (.Constant .none j pos) (mD .none) := .mk ⟨_, pe_non, fun W h H μ σ Q R S P => P.ok R (.d .non)⟩
theorem re_str {x : Str} {j} : RE cn X (.Constant (.str x) j pos) (mD (.str x)) := .mk ⟨_, pe_str, fun W h H μ σ Q R S P => P.ok R (.d (.str x))⟩
/-- a constant of the module -/
theorem re_gS {x s : Str} {t : Tok} (hm : X.mg x = some (.str s t)) (hg : Gl X x) (hd : (x == ("__debug__" : Str)) = false := by decide) : RE cn X (.Name x pos) (mD (.str s)) :=
  .mk ⟨_, pe_glob hg hm (show RelV (.str s) _ from ⟨t, rfl⟩) hd, fun W h H μ σ Q R S P => P.ok R (.d (.str s))⟩
theorem re_gI {x : Str} {s : Int} {t : Tok} (hm : X.mg x = some (.int s t)) (hg : Gl X x) (hd : (x == ("__debug__" : Str)) = false := by decide) : RE cn X (.Name x pos) (mD (.int s)) :=
  .mk ⟨_, pe_glob hg hm (show RelV (.int s) _ from ⟨t, rfl⟩) hd, fun W h H μ σ Q R S P => P.ok R (.d (.int s))⟩
/-- a def or class of the module, as a value -/
def mGlb (x : Str) : ME := fun _ h => .ok (.glb x) h
theorem re_glb {x : Str} {f : Addr} (hm : X.mg x = some (.ref f)) (hg : Gl X x) (hd : (x == ("__debug__" : Str)) = false := by decide) : RE cn X (.Name x pos) (mGlb x) :=
  .mk ⟨_, pe_glob hg hm (show RelV (.ref f) _ from rfl) hd, fun W h H μ σ Q R S P => P.ok R (.glb hm)⟩

/-! ### two-place operations -/
def OpM (G : Gx) (r : R2) (f : MV → MV → MH → R MV) : Prop := ∀ W h H x y v u Q, Rel G W h H → RV G W x v → RV G W y u → PoE G W H (f x y h) Q → r v u H Q
def mBin (f : MV → MV → MH → R MV) (a b : ME) : ME := fun μ h => (a μ h).bind fun x h1 => (b μ h1).bind fun y h2 => f x y h2
theorem sim_bin {G : Gx} {r : R2} {f : MV → MV → MH → R MV} {ta tb : TE} (om : OpM G r f) (ha : SimE G ta ma) (hb : SimE G tb mb) : SimE G (tOp r ta tb) (mBin f ma mb) := by
  intro W h H μ σ Q R S P
  refine ha W h H μ σ _ R S (P.bnd fun x h1 W1 H1 v _ E1 R1 r1 P1 => ?_)
  refine hb W1 h1 H1 μ σ _ R1 (S.ext E1) (P1.bnd fun y h2 W2 H2 u _ E2 R2 r2 P2 => ?_)
  exact om W2 h2 H2 x y v u Q R2 (r1.ext E2) r2 P2
theorem re_op {op : Operator} {r : R2} {f : MV → MV → MH → R MV} (ho : OpR X (binaryOp op) r) (om : OpM (gx X cn) r f) (ha : RE cn X a ma) (hb : RE cn X b mb) : RE cn X (.BinOp a op b pos) (mBin f ma mb) := by
  obtain ⟨ta, pa, sa⟩ := ha.ex
  obtain ⟨tb, pb, sb⟩ := hb.ex
  exact .mk ⟨_, pe_op ho pa pb, sim_bin om sa sb⟩
theorem re_cmp {op : CmpOp} {r : R2} {f : MV → MV → MH → R MV} (ho : OpR X (compareOp op) r) (om : OpM (gx X cn) r f) (ha : RE cn X a ma) (hb : RE cn X b mb) (hm : behindInMarks op b = false) : RE cn X (.Compare a [op] [b] pos) (mBin f ma mb) := by
  obtain ⟨ta, pa, sa⟩ := ha.ex
  obtain ⟨tb, pb, sb⟩ := hb.ex
  exact .mk ⟨_, pe_cmpR ho pa pb hm, sim_bin om sa sb⟩
theorem OpR.or {f : Value → Value → Sem Value} {r r' : R2} (h : OpR X f r) (h' : OpR X f r') : OpR X f (fun x y H Q => r x y H Q ∨ r' x y H Q) := by
  intro pins s σ H x y v u Q I rx ry q
  rcases q with q | q
  · exact h pins s σ H x y v u Q I rx ry q
  · exact h' pins s σ H x y v u Q I rx ry q
theorem OpM.l {G : Gx} {r r' : R2} {f : MV → MV → MH → R MV} (m : OpM G r f) : OpM G (fun x y H Q => r x y H Q ∨ r' x y H Q) f := fun W h H x y v u Q R rx ry P => .inl (m W h H x y v u Q R rx ry P)
def isRl : MV → Bool | .rl _ => true | _ => false
theorem isRl_no {m : MV} (e : isRl m = false) : ∀ ns, m ≠ .rl ns := by rintro ns rfl; cases e
/-- a + b -/
def fAdd (x y : MV) (h : MH) : R MV := match x, y with
  | .d (.int i), .d (.int j) => rI (i + j) h
  | .d (.str s), .d (.str t) => if s.length + t.length ≤ szL then rS (s ++ t) h else .bad
  | _, _ => match lstOf h x, lstOf h y with
    | some l, some k => if isRl x || isRl y then .bad else rL (l ++ k) h
    | _, _ => match tupOf x, tupOf y with
      | some l, some k => if l.length + k.length ≤ szL then (if l.isEmpty then .ok y h else if k.isEmpty then .ok x h else rT (l ++ k) h) else .bad
      | _, _ => .bad
end
end Mini
/-! # Mini: the operators -/
namespace Mini
open PySem L2
section
variable {G : Gx} {W : Wd} {H : Hp} {h : MH} {v : V}
theorem RV.int_inv {i : Int} (r : RV G W (.d (.int i)) v) : v = .int i := by
  cases r with | d q => cases q; rfl
theorem RV.str_inv {i : Str} (r : RV G W (.d (.str i)) v) : v = .str i := by
  cases r with | d q => cases q; rfl
theorem RV.bl_inv {i : Bool} (r : RV G W (.d (.bool i)) v) : v = .bl i := by
  cases r with | d q => cases q; rfl
theorem RV.non_inv (r : RV G W (.d .none) v) : v = .non := by
  cases r with | d q => cases q; rfl
theorem RVs.len0 {l : List MV} {vs : List V} (r : RVs G W l vs) : l.isEmpty = vs.isEmpty := by
  cases r <;> rfl
theorem empt {α : Type} {l : List α} : l.isEmpty = true → l = [] := by cases l <;> simp
theorem nempt {α : Type} {l : List α} (e : ¬ l.isEmpty = true) : l ≠ [] := by cases l <;> simp_all
end
section
variable {cn : Nat → Str × List Str} {X : Cx} {a b c : Expr} {ma mb mc : ME} {pos : Pos} {G : Gx}

/-! ### a + b -/
def rAddAll (K : PySem.W.Frag) : R2 := fun x y H Q => (L2.rI0 (fun i j => .int (i + j)) x y H Q ∨ (∃ i j, x = .str i ∧ y = .str j ∧ i.length + j.length ≤ sizeLine ∧ Q (.str (i ++ j)) H)) ∨ (rCat x y H Q ∨ rCatA K x y H Q)
theorem op_addAll : OpR X (binaryOp .Add) (rAddAll X.K) := (OpR.or op_add op_add_str).or (OpR.or op_cat op_catA)
theorem om_add : OpM G (rAddAll G.K) fAdd := by
  intro W h H x y v u Q R rx ry P
  unfold fAdd at P
  split at P
  · rw [rx.int_inv, ry.int_inv]
    exact .inl (.inl ⟨_, _, rfl, rfl, pI R P⟩)
  · rw [rx.str_inv, ry.str_inv]
    split at P
    · rename_i c
      exact .inl (.inr ⟨_, _, rfl, rfl, by rw [← szL_eq]; exact c, pS R P⟩)
    · exact P.elim
  · split at P
    · rename_i l k e1 e2
      split at P
      · exact P.elim
      · rename_i hn
        simp only [Bool.or_eq_true, not_or, Bool.not_eq_true] at hn
        obtain ⟨a, xs, rfl, ha, ra⟩ := lstOf_trk R rx e1 (isRl_no hn.1)
        obtain ⟨b, ys, rfl, hb, rb⟩ := lstOf_trk R ry e2 (isRl_no hn.2)
        obtain ⟨z, q⟩ := pL R (ra.app rb) P
        exact .inr (.inl ⟨a, b, xs, ys, rfl, rfl, ha, hb, by rw [← List.length_append]; exact z, q⟩)
    · split at P
      · rename_i e1 e2
        obtain ⟨a, xs, rfl, ha, ra⟩ := tupOf_ok R rx e1
        obtain ⟨b, ys, rfl, hb, rb⟩ := tupOf_ok R ry e2
        split at P
        · rename_i c
          refine .inr (.inr ⟨a, b, xs, ys, rfl, rfl, SqT.of ha, SqT.of hb, by rw [← ra.length, ← rb.length, ← szL_eq]; exact c, fun z => ?_, fun z1 z2 => ?_, fun z1 z2 => ?_⟩)
          · rw [if_pos (by rw [ra.len0, z]; rfl)] at P
            exact P.ok R ry
          · rw [if_neg (by rw [ra.len0]; cases xs <;> simp_all), if_pos (by rw [rb.len0, z2]; rfl)] at P
            exact P.ok R rx
          · rw [if_neg (by rw [ra.len0]; cases xs <;> simp_all), if_neg (by rw [rb.len0]; cases ys <;> simp_all)] at P
            exact (pT R (ra.app rb) P).2
        · exact P.elim
      · exact P.elim

/-! ### whole numbers -/
def fSub (x y : MV) (h : MH) : R MV := match x, y with
  | .d (.int i), .d (.int j) => rI (i - j) h
  | _, _ => .bad
theorem om_sub : OpM G (L2.rI0 fun i j => .int (i - j)) fSub := by
  intro W h H x y v u Q R rx ry P
  unfold fSub at P
  split at P
  · rw [rx.int_inv, ry.int_inv]; exact ⟨_, _, rfl, rfl, pI R P⟩
  · exact P.elim
/-- one factor below 2^64, or a list times a number -/
def fMul (x y : MV) (h : MH) : R MV := match x, y with
  | .d (.int i), .d (.int j) => if (-18446744073709551616 < i ∧ i < 18446744073709551616) ∨ (-18446744073709551616 < j ∧ j < 18446744073709551616) then rI (i * j) h else .bad
  | x, .d (.int k) => match lstOf h x with
    | some l => if isRl x then .bad else if k ≤ 1000000 ∧ -1000000 ≤ k ∧ l.length * k.toNat ≤ szL then rL (List.replicate k.toNat l).flatten h else .bad
    | none => .bad
  | _, _ => .bad
def rMulAll : R2 := fun x y H Q => L2.rI CMul (fun i j => .int (i * j)) x y H Q ∨ rRep x y H Q
theorem op_mulAll : OpR X (binaryOp .Mult) rMulAll := OpR.or op_mul op_rep
theorem RVs.rep {W : Wd} {l : List MV} {xs : List V} (r : RVs G W l xs) : ∀ n : Nat, RVs G W (List.replicate n l).flatten (List.replicate n xs).flatten
  | 0 => .nil
  | n + 1 => by
    rw [List.replicate_succ, List.replicate_succ, List.flatten_cons, List.flatten_cons]
    exact r.app (r.rep n)
theorem om_mul : OpM G rMulAll fMul := by
  intro W h H x y v u Q R rx ry P
  unfold fMul at P
  split at P
  · split at P
    · rename_i c
      rw [rx.int_inv, ry.int_inv]
      refine .inl ⟨_, _, rfl, rfl, ?_, pI R P⟩
      rcases c with c | c
      · exact .inl ⟨by have := c.1; omega, by have := c.2; omega⟩
      · exact .inr ⟨by have := c.1; omega, by have := c.2; omega⟩
    · exact P.elim
  · split at P
    · rename_i l e
      split at P
      · exact P.elim
      · rename_i hn
        split at P
        · rename_i c
          obtain ⟨a, xs, rfl, ha, ra⟩ := lstOf_trk R rx e (isRl_no (by simpa using hn))
          rw [ry.int_inv]
          refine .inr ⟨a, _, xs, rfl, rfl, ha, by omega, by omega, by rw [← ra.length, ← szL_eq]; exact c.2.2, (pL R (ra.rep _) P).2⟩
        · exact P.elim
    · exact P.elim
  · exact P.elim
def bigJ : Int := 10000000000000000000000000000000000000000000000000000000000000
theorem bigJ_ok {j : Int} (h0 : 0 < j) (h : j ≤ bigJ) : CDivW 0 j := by
  refine ⟨h0, ?_⟩
  refine Nat.lt_of_lt_of_le (PySem.Flt.log2_lt_of (k := 210) (by decide) ?_) (by decide)
  have e : bigJ < 2 ^ 210 := by unfold bigJ; decide
  omega
def fDiv (x y : MV) (h : MH) : R MV := match x, y with
  | .d (.int i), .d (.int j) => if 0 < j ∧ j ≤ bigJ then rI (i / j) h else .bad
  | _, _ => .bad
theorem om_div : OpM G (L2.rI CDivW fun i j => .int (i / j)) fDiv := by
  intro W h H x y v u Q R rx ry P
  unfold fDiv at P
  split at P
  · split at P
    · rename_i c
      rw [rx.int_inv, ry.int_inv]; exact ⟨_, _, rfl, rfl, bigJ_ok c.1 c.2, pI R P⟩
    · exact P.elim
  · exact P.elim
def fMod (x y : MV) (h : MH) : R MV := match x, y with
  | .d (.int i), .d (.int j) => if 0 < j then rI (i % j) h else .bad
  | _, _ => .bad
theorem om_mod : OpM G (L2.rI (fun _ j => 0 < j) fun i j => .int (i % j)) fMod := by
  intro W h H x y v u Q R rx ry P
  unfold fMod at P
  split at P
  · split at P
    · rename_i c
      rw [rx.int_inv, ry.int_inv]; exact ⟨_, _, rfl, rfl, c, pI R P⟩
    · exact P.elim
  · exact P.elim
def fPow (x y : MV) (h : MH) : R MV := match x, y with
  | .d (.int i), .d (.int j) => if (0 ≤ j ∧ j ≤ 1000) ∧ (-18446744073709551616 < i ∧ i < 18446744073709551616) then rI (i ^ j.toNat) h else .bad
  | _, _ => .bad
theorem om_pow : OpM G (L2.rI CPow fun i j => .int (i ^ j.toNat)) fPow := by
  intro W h H x y v u Q R rx ry P
  unfold fPow at P
  split at P
  · split at P
    · rename_i c
      rw [rx.int_inv, ry.int_inv]; exact ⟨_, _, rfl, rfl, ⟨by omega, by omega, by omega⟩, pI R P⟩
    · exact P.elim
  · exact P.elim

/-! ### comparisons -/
def fEq (neg : Bool) (x y : MV) (h : MH) : R MV := match toD 40 h x, toD 40 h y with
  | some p, some q => if SeqAt.shaped p && SeqAt.shaped q then rB (neg != PyData.eqv p q) h else .bad
  | _, _ => .bad
theorem om_eq : OpM G (rEqD G.K) (fEq false) := by
  intro W h H x y v u Q R rx ry P
  unfold fEq at P
  split at P
  · rename_i p q e1 e2
    split at P
    · rename_i c
      rw [Bool.and_eq_true] at c
      refine ⟨p, q, toD_ok R _ _ _ _ rx e1, toD_ok R _ _ _ _ ry e2, c.1, c.2, ?_⟩
      have := pB R P
      simpa using this
    · exact P.elim
  · exact P.elim
theorem om_ne : OpM G (rNeD G.K) (fEq true) := by
  intro W h H x y v u Q R rx ry P
  unfold fEq at P
  split at P
  · rename_i p q e1 e2
    split at P
    · rename_i c
      rw [Bool.and_eq_true] at c
      refine ⟨p, q, toD_ok R _ _ _ _ rx e1, toD_ok R _ _ _ _ ry e2, c.1, c.2, ?_⟩
      have := pB R P
      simpa using this
    · exact P.elim
  · exact P.elim
def strLt (i j : Str) : Bool := decide (i.cps.toList < j.cps.toList)
def fLt (x y : MV) (h : MH) : R MV := match x, y with
  | .d (.int i), .d (.int j) => rB (decide (i < j)) h
  | .d (.str i), .d (.str j) => rB (strLt i j) h
  | _, _ => .bad
def fLe (x y : MV) (h : MH) : R MV := match x, y with
  | .d (.int i), .d (.int j) => rB (decide (i ≤ j)) h
  | .d (.str i), .d (.str j) => rB (!strLt j i) h
  | _, _ => .bad
def fGt (x y : MV) (h : MH) : R MV := match x, y with
  | .d (.int i), .d (.int j) => rB (decide (j < i)) h
  | .d (.str i), .d (.str j) => rB (strLt j i) h
  | _, _ => .bad
def fGe (x y : MV) (h : MH) : R MV := match x, y with
  | .d (.int i), .d (.int j) => rB (decide (j ≤ i)) h
  | .d (.str i), .d (.str j) => rB (!strLt i j) h
  | _, _ => .bad
def rLt2 : R2 := fun x y H Q => L2.rI0 (fun i j => .bl (decide (i < j))) x y H Q ∨ (∃ i j, x = .str i ∧ y = .str j ∧ Q (.bl (decide (i.cps.toList < j.cps.toList))) H)
def rLe2 : R2 := fun x y H Q => L2.rI0 (fun i j => .bl (decide (i ≤ j))) x y H Q ∨ (∃ i j, x = .str i ∧ y = .str j ∧ Q (.bl (!decide (j.cps.toList < i.cps.toList))) H)
def rGt2 : R2 := fun x y H Q => L2.rI0 (fun i j => .bl (decide (j < i))) x y H Q ∨ (∃ i j, x = .str i ∧ y = .str j ∧ Q (.bl (decide (j.cps.toList < i.cps.toList))) H)
def rGe2 : R2 := fun x y H Q => L2.rI0 (fun i j => .bl (decide (j ≤ i))) x y H Q ∨ (∃ i j, x = .str i ∧ y = .str j ∧ Q (.bl (!decide (i.cps.toList < j.cps.toList))) H)
theorem op_lt2 : OpR X (compareOp .Lt) rLt2 := OpR.or op_lt op_lt_str
theorem op_le2 : OpR X (compareOp .LtE) rLe2 := OpR.or op_le op_le_str
theorem op_gt2 : OpR X (compareOp .Gt) rGt2 := OpR.or op_gt op_gt_str
theorem op_ge2 : OpR X (compareOp .GtE) rGe2 := OpR.or op_ge op_ge_str
theorem om_lt : OpM G rLt2 fLt := by
  intro W h H x y v u Q R rx ry P
  unfold fLt at P
  split at P
  · rw [rx.int_inv, ry.int_inv]; exact .inl ⟨_, _, rfl, rfl, pB R P⟩
  · rw [rx.str_inv, ry.str_inv]; exact .inr ⟨_, _, rfl, rfl, pB R P⟩
  · exact P.elim
theorem om_le : OpM G rLe2 fLe := by
  intro W h H x y v u Q R rx ry P
  unfold fLe at P
  split at P
  · rw [rx.int_inv, ry.int_inv]; exact .inl ⟨_, _, rfl, rfl, pB R P⟩
  · rw [rx.str_inv, ry.str_inv]; exact .inr ⟨_, _, rfl, rfl, pB R P⟩
  · exact P.elim
theorem om_gt : OpM G rGt2 fGt := by
  intro W h H x y v u Q R rx ry P
  unfold fGt at P
  split at P
  · rw [rx.int_inv, ry.int_inv]; exact .inl ⟨_, _, rfl, rfl, pB R P⟩
  · rw [rx.str_inv, ry.str_inv]; exact .inr ⟨_, _, rfl, rfl, pB R P⟩
  · exact P.elim
theorem om_ge : OpM G rGe2 fGe := by
  intro W h H x y v u Q R rx ry P
  unfold fGe at P
  split at P
  · rw [rx.int_inv, ry.int_inv]; exact .inl ⟨_, _, rfl, rfl, pB R P⟩
  · rw [rx.str_inv, ry.str_inv]; exact .inr ⟨_, _, rfl, rfl, pB R P⟩
  · exact P.elim
/-- x is None, x is not None -/
def isNone : MV → Bool | .d .none => true | _ => false
def fIsN (neg : Bool) (x y : MV) (h : MH) : R MV := match y with
  | .d .none => rB (neg != isNone x) h
  | _ => .bad
theorem isNone_rv {G : Gx} {W : Wd} {x : MV} {v : V} (r : RV G W x v) : decide (v = .non) = isNone x := by
  cases r with
  | d q => cases q <;> simp [isNone]
  | _ => simp [isNone]
theorem om_isN : OpM G (fun x y H Q => y = .non ∧ Q (.bl (decide (x = .non))) H) (fIsN false) := by
  intro W h H x y v u Q R rx ry P
  unfold fIsN at P
  split at P
  · refine ⟨ry.non_inv, ?_⟩
    rw [isNone_rv rx]
    simpa using pB R P
  · exact P.elim
theorem om_notN : OpM G (fun x y H Q => y = .non ∧ Q (.bl (!decide (x = .non))) H) (fIsN true) := by
  intro W h H x y v u Q R rx ry P
  unfold fIsN at P
  split at P
  · refine ⟨ry.non_inv, ?_⟩
    rw [isNone_rv rx]
    simpa using pB R P
  · exact P.elim
/-- x is True, x is not False .. of bools -/
def fIsB (neg : Bool) (x y : MV) (h : MH) : R MV := match x, y with
  | .d (.bool a), .d (.bool b) => rB (neg != (a == b)) h
  | _, _ => .bad
theorem om_isB : OpM G (fun x y H Q => ∃ a b, x = .bl a ∧ y = .bl b ∧ Q (.bl (decide (a = b))) H) (fIsB false) := by
  intro W h H x y v u Q R rx ry P
  unfold fIsB at P
  split at P
  · rename_i a b
    rw [rx.bl_inv, ry.bl_inv]
    refine ⟨_, _, rfl, rfl, ?_⟩
    have := pB R P
    cases a <;> cases b <;> simpa using this
  · exact P.elim
theorem om_notB : OpM G (fun x y H Q => ∃ a b, x = .bl a ∧ y = .bl b ∧ Q (.bl (!decide (a = b))) H) (fIsB true) := by
  intro W h H x y v u Q R rx ry P
  unfold fIsB at P
  split at P
  · rename_i a b
    rw [rx.bl_inv, ry.bl_inv]
    refine ⟨_, _, rfl, rfl, ?_⟩
    have := pB R P
    cases a <;> cases b <;> simpa using this
  · exact P.elim

/-! ### dicts by values -/
def dget {κ : Type} [DecidableEq κ] (kvs : List (κ × MV)) (k : κ) : Option MV := (kvs.find? fun kv => decide (kv.1 = k)).map (·.2)
def dput {κ : Type} [DecidableEq κ] (kvs : List (κ × MV)) (k : κ) (v : MV) : List (κ × MV) :=
  if (kvs.any fun kv => decide (kv.1 = k)) = true then kvs.map (fun kv => if kv.1 = k then (kv.1, v) else kv) else kvs ++ [(k, v)]
def ddrop {κ : Type} [DecidableEq κ] (kvs : List (κ × MV)) (k : κ) : List (κ × MV) := kvs.filter fun kv => decide (kv.1 ≠ k)
def keyOf : MV → Option Key
  | .d (.int i) => some (.inl i)
  | .d (.str s) => some (.inr s)
  | _ => none
def keyD : PyData → Option Key
  | .int i => some (.inl i)
  | .str s => some (.inr s)
  | _ => none
def keysOf : MV → Option (List Key)
  | .d (.tuple ds) => mapO keyD ds
  | _ => none
section
variable {W : Wd} {H : Hp} {h : MH} {v : V}
/-- two tables alike -/
def RK {κ : Type} (G : Gx) (W : Wd) (kvs : List (κ × MV)) (kvs' : List (κ × V)) : Prop := kvs.map (·.1) = kvs'.map (·.1) ∧ RVs G W (kvs.map (·.2)) (kvs'.map (·.2))
theorem RK.nil_inv {κ : Type} {kvs' : List (κ × V)} (r : RK G W ([] : List (κ × MV)) kvs') : kvs' = [] := by
  have := r.1
  cases kvs' <;> simp_all
theorem RK.cons_inv {κ : Type} {k : κ} {m : MV} {kvs : List (κ × MV)} {kvs' : List (κ × V)} (r : RK G W ((k, m) :: kvs) kvs') : ∃ v t, kvs' = (k, v) :: t ∧ RV G W m v ∧ RK G W kvs t := by
  cases kvs' with
  | nil => have := r.1; simp at this
  | cons p t =>
    obtain ⟨k', v⟩ := p
    obtain ⟨e, r⟩ := r
    simp at e
    obtain ⟨e1, e2⟩ := e
    subst e1
    cases r with
    | cons a b => exact ⟨v, t, rfl, a, e2, b⟩
theorem RK.cons {κ : Type} {k : κ} {m : MV} {v : V} {kvs : List (κ × MV)} {kvs' : List (κ × V)} (r : RV G W m v) (t : RK G W kvs kvs') : RK G W ((k, m) :: kvs) ((k, v) :: kvs') :=
  ⟨by simp [t.1], .cons r t.2⟩
theorem RK.get {κ : Type} [DecidableEq κ] {k : κ} : ∀ {kvs : List (κ × MV)} {kvs' : List (κ × V)}, RK G W kvs kvs' → (dget kvs k = none ∧ valV kvs' k = none) ∨ ∃ m v, dget kvs k = some m ∧ valV kvs' k = some v ∧ RV G W m v
  | [], kvs', r => by rw [r.nil_inv]; exact .inl ⟨rfl, rfl⟩
  | (k', m) :: t, kvs', r => by
    obtain ⟨v, t', rfl, a, b⟩ := r.cons_inv
    by_cases e : k' = k
    · subst e
      exact .inr ⟨m, v, by simp [dget], by simp [valV], a⟩
    · rcases b.get (k := k) with q | ⟨m2, v2, q1, q2, q3⟩
      · exact .inl ⟨by simpa [dget, List.find?_cons, e] using q.1, by simpa [valV, List.find?_cons, e] using q.2⟩
      · exact .inr ⟨m2, v2, by simpa [dget, List.find?_cons, e] using q1, by simpa [valV, List.find?_cons, e] using q2, q3⟩
theorem RK.any {κ : Type} [DecidableEq κ] {k : κ} : ∀ {kvs : List (κ × MV)} {kvs' : List (κ × V)}, RK G W kvs kvs' → (kvs.any fun kv => decide (kv.1 = k)) = (kvs'.any fun kv => decide (kv.1 = k))
  | [], kvs', r => by rw [r.nil_inv]; rfl
  | (k', m) :: t, kvs', r => by
    obtain ⟨v, t', rfl, a, b⟩ := r.cons_inv
    rw [List.any_cons, List.any_cons, b.any]
theorem RK.mapv {κ : Type} [DecidableEq κ] {k : κ} {m : MV} {v : V} (q : RV G W m v) : ∀ {kvs : List (κ × MV)} {kvs' : List (κ × V)}, RK G W kvs kvs' →
    RK G W (kvs.map fun kv => if kv.1 = k then (kv.1, m) else kv) (kvs'.map fun kv => if kv.1 = k then (kv.1, v) else kv)
  | [], kvs', r => by
    have e := r.nil_inv
    subst e
    exact ⟨rfl, .nil⟩
  | (k', m') :: t, kvs', r => by
    obtain ⟨v', t', rfl, a, b⟩ := r.cons_inv
    rw [List.map_cons, List.map_cons]
    by_cases e : k' = k
    · simp only [e, if_true]
      exact .cons q (b.mapv q)
    · simp only [e, if_false]
      exact .cons a (b.mapv q)
theorem RK.app {κ : Type} {kvs ms : List (κ × MV)} {kvs' ms' : List (κ × V)} (r : RK G W kvs kvs') (q : RK G W ms ms') : RK G W (kvs ++ ms) (kvs' ++ ms') :=
  ⟨by rw [List.map_append, List.map_append, r.1, q.1], by rw [List.map_append, List.map_append]; exact r.2.app q.2⟩
theorem RK.put {κ : Type} [DecidableEq κ] {k : κ} {m : MV} {v : V} {kvs : List (κ × MV)} {kvs' : List (κ × V)} (r : RK G W kvs kvs') (q : RV G W m v) : RK G W (dput kvs k m) (putK kvs' k v) := by
  unfold dput putK
  rw [r.any]
  split
  · exact r.mapv q
  · exact r.app (.cons q ⟨rfl, .nil⟩)
theorem RK.length {κ : Type} {kvs : List (κ × MV)} {kvs' : List (κ × V)} (r : RK G W kvs kvs') : kvs.length = kvs'.length := by
  have := congrArg List.length r.1
  simpa using this
theorem keyOf_rv {m : MV} {k : Key} (r : RV G W m v) (e : keyOf m = some k) : v = kV k := by
  unfold keyOf at e
  split at e
  · cases e; exact r.int_inv
  · cases e; exact r.str_inv
  · cases e
theorem keyD_dqs {F : Hp} : ∀ {ds : List PyData} {vs : List V} {k : List Key}, Dqs F vs ds → mapO keyD ds = some k → vs = k.map kV
  | [], _, _, .nil, e => by cases e; rfl
  | d :: ds, _, k, .cons a b, e => by
    unfold mapO at e
    split at e
    · rename_i x xs e1 e2
      cases e
      rw [keyD_dqs b e2]
      unfold keyD at e1
      split at e1
      · cases e1; cases a; rfl
      · cases e1; cases a; rfl
      · cases e1
    · cases e
theorem keysOf_rv (R : Rel G W h H) {m : MV} {k : List Key} (r : RV G W m v) (e : keysOf m = some k) : ∃ b, v = .ref b ∧ H b = some (.tup (k.map kV)) := by
  unfold keysOf at e
  split at e
  · cases r with
    | d q =>
      cases q with
      | tup s t =>
        rw [← keyD_dqs t e]
        exact ⟨_, rfl, R.sub _ _ s⟩
  · cases e
end
/-- the value at a key: none: no dict or no key of such; some none: not there -/
def dlook (h : MH) (d k : MV) : Option (Option MV) := match d with
  | .ref i => match h[i]? with
    | some (.dk kvs) => match keyOf k with
      | some k => some (dget kvs k)
      | none => none
    | some (.dt kvs) => match keysOf k with
      | some k => some (dget kvs k)
      | none => none
    | _ => none
  | _ => none
theorem dlook_ok {W : Wd} {H : Hp} {h : MH} {d k : MV} {x y : V} {o : Option MV} (R : Rel G W h H) (rx : RV G W d x) (ry : RV G W k y) (e : dlook h d k = some o) :
    ∃ a o', x = .ref a ∧ DGet H a y o' ∧ ((o = none ∧ o' = none) ∨ ∃ m v, o = some m ∧ o' = some v ∧ RV G W m v) := by
  cases rx with
  | @ref i a q =>
    obtain ⟨ob, ho, ro⟩ := R.ofRef q
    unfold dlook at e
    simp only [ho] at e
    cases ob with
    | dk kvs =>
      obtain ⟨kvs', hk, rk⟩ := ro
      simp only at e
      split at e
      · rename_i k' ek
        cases e
        rw [keyOf_rv ry ek]
        have := RK.get (k := k') (⟨rk.1, rk.2⟩ : RK G W kvs kvs')
        rcases this with ⟨q1, q2⟩ | ⟨m, v, q1, q2, q3⟩
        · exact ⟨a, _, rfl, DGet.k hk, .inl ⟨q1, q2⟩⟩
        · exact ⟨a, _, rfl, DGet.k hk, .inr ⟨m, v, q1, q2, q3⟩⟩
      · cases e
    | dt kvs =>
      obtain ⟨kvs', hk, rk⟩ := ro
      simp only at e
      split at e
      · rename_i k' ek
        cases e
        obtain ⟨b, rfl, hb⟩ := keysOf_rv R ry ek
        have := RK.get (k := k') (⟨rk.1, rk.2⟩ : RK G W kvs kvs')
        rcases this with ⟨q1, q2⟩ | ⟨m, v, q1, q2, q3⟩
        · exact ⟨a, _, rfl, DGet.t hk hb, .inl ⟨q1, q2⟩⟩
        · exact ⟨a, _, rfl, DGet.t hk hb, .inr ⟨m, v, q1, q2, q3⟩⟩
      · cases e
    | _ => simp at e
  | _ => simp [dlook] at e

/-! ### x in y -/
def charIn (s t : Str) : Option Bool := match s.cps.toList with
  | [c] => some (decide (c ∈ t.cps.toList))
  | _ => none
def fIn (neg : Bool) (x y : MV) (h : MH) : R MV := match dlook h y x with
  | some o => rB (neg != o.isSome) h
  | none => match x, y with
    | .d (.str s), .d (.str t) => match charIn s t with
      | some b => rB (neg != b) h
      | none => .bad
    | _, _ => match toD 40 h x, toD 40 h y with
      | some p, some (.list ds) => if SeqAt.shaped p && SeqAt.shaped (.list ds) then rB (neg != (ds.any fun z => PyData.eqv z p)) h else .bad
      | _, _ => .bad
def rInAll (K : PySem.W.Frag) : R2 := fun x y H Q => ((∃ (c : Nat) (z : Str), x = .str ⟨#[c]⟩ ∧ y = .str z ∧ Q (.bl (decide (c ∈ z.cps.toList))) H) ∨ rInD K x y H Q) ∨ (∃ a o, y = .ref a ∧ DGet H a x o ∧ Q (.bl o.isSome) H)
def rNotInAll (K : PySem.W.Frag) : R2 := fun x y H Q => ((∃ (c : Nat) (z : Str), x = .str ⟨#[c]⟩ ∧ y = .str z ∧ Q (.bl (!decide (c ∈ z.cps.toList))) H) ∨ rNotInD K x y H Q) ∨ (∃ a o, y = .ref a ∧ DGet H a x o ∧ Q (.bl (!o.isSome)) H)
theorem op_inAll (hu : X.A.units + 65 < cLine) : OpR X (compareOp .In) (rInAll X.K) := by
  refine OpR.or (OpR.or op_in_sign (op_inD hu)) ?_
  intro pins s σ H x y v u Q I rx ry q
  obtain ⟨a, o, rfl, g, q⟩ := q
  cases (show u = Value.ref a from ry)
  exact d_in (by omega) I g rx fun s3 I3 => ⟨.bl o.isSome, H, I3, rfl, q⟩
theorem op_notInAll (hu : X.A.units + 65 < cLine) : OpR X (compareOp .NotIn) (rNotInAll X.K) := by
  refine OpR.or (OpR.or op_notIn_sign (op_notInD hu)) ?_
  intro pins s σ H x y v u Q I rx ry q
  obtain ⟨a, o, rfl, g, q⟩ := q
  cases (show u = Value.ref a from ry)
  exact d_notIn (by omega) I g rx fun s3 I3 => ⟨.bl (!o.isSome), H, I3, rfl, q⟩
theorem charIn_eq {s t : Str} {b : Bool} (e : charIn s t = some b) : ∃ c, s = ⟨#[c]⟩ ∧ b = decide (c ∈ t.cps.toList) := by
  unfold charIn at e
  split at e
  · rename_i c hc
    cases e
    refine ⟨c, ?_, rfl⟩
    obtain ⟨cps⟩ := s
    simp only at hc
    congr 1
    have : cps = cps.toList.toArray := by simp
    rw [this, hc]
  · cases e
theorem om_in : OpM G (rInAll G.K) (fIn false) := by
  intro W h H x y v u Q R rx ry P
  unfold fIn at P
  split at P
  · rename_i o e
    obtain ⟨a, o', rfl, g, q⟩ := dlook_ok R ry rx e
    refine .inr ⟨a, o', rfl, g, ?_⟩
    have := pB R P
    rcases q with ⟨rfl, rfl⟩ | ⟨m, v', rfl, rfl, _⟩ <;> simpa using this
  · split at P
    · split at P
      · rename_i b e
        obtain ⟨c, rfl, rfl⟩ := charIn_eq e
        rw [rx.str_inv, ry.str_inv]
        refine .inl (.inl ⟨c, _, rfl, rfl, ?_⟩)
        simpa using pB R P
      · exact P.elim
    · split at P
      · rename_i p ds e1 e2
        split at P
        · rename_i c
          rw [Bool.and_eq_true] at c
          refine .inl (.inr ⟨p, ds, toD_ok R _ _ _ _ rx e1, toD_ok R _ _ _ _ ry e2, c.1, c.2, ?_⟩)
          simpa using pB R P
        · exact P.elim
      · exact P.elim
theorem om_notIn : OpM G (rNotInAll G.K) (fIn true) := by
  intro W h H x y v u Q R rx ry P
  unfold fIn at P
  split at P
  · rename_i o e
    obtain ⟨a, o', rfl, g, q⟩ := dlook_ok R ry rx e
    refine .inr ⟨a, o', rfl, g, ?_⟩
    have := pB R P
    rcases q with ⟨rfl, rfl⟩ | ⟨m, v', rfl, rfl, _⟩ <;> simpa using this
  · split at P
    · split at P
      · rename_i b e
        obtain ⟨c, rfl, rfl⟩ := charIn_eq e
        rw [rx.str_inv, ry.str_inv]
        refine .inl (.inl ⟨c, _, rfl, rfl, ?_⟩)
        simpa using pB R P
      · exact P.elim
    · split at P
      · rename_i p ds e1 e2
        split at P
        · rename_i c
          rw [Bool.and_eq_true] at c
          refine .inl (.inr ⟨p, ds, toD_ok R _ _ _ _ rx e1, toD_ok R _ _ _ _ ry e2, c.1, c.2, ?_⟩)
          simpa using pB R P
        · exact P.elim
      · exact P.elim

/-! ### a chain of two comparisons -/
def mChain (f g : MV → MV → MH → R MV) (a b c : ME) : ME := fun μ h => (a μ h).bind fun x h1 => (b μ h1).bind fun y h2 => (f x y h2).bind fun z h3 => match z with
  | .d (.bool true) => (c μ h3).bind fun w h4 => g y w h4
  | .d (.bool false) => rB false h3
  | _ => .bad
theorem om_bind {G : Gx} {r : R2} {f : MV → MV → MH → R MV} (om : OpM G r f) {W : Wd} {h : MH} {H : Hp} {x y : MV} {v u : V} {Q : VK} {k : MV → MH → R MV} (R : Rel G W h H) (rx : RV G W x v) (ry : RV G W y u) (P : PoE G W H ((f x y h).bind k) Q)
    {Q' : VK} (hk : ∀ z h1 W1 H1 w, Ext W H W1 H1 → Rel G W1 h1 H1 → RV G W1 z w → PoE G W1 H1 (k z h1) Q → Q' w H1) : r v u H Q' :=
  om W h H x y v u Q' R rx ry (P.bnd fun z h1 W1 H1 w _ E1 R1 r1 P1 => hk z h1 W1 H1 w E1 R1 r1 P1)
theorem re_chain {op op' : CmpOp} {r r' : R2} {f g : MV → MV → MH → R MV} (ho : OpR X (compareOp op) r) (om : OpM (gx X cn) r f) (ho' : OpR X (compareOp op') r') (om' : OpM (gx X cn) r' g) (ha : RE cn X a ma) (hb : RE cn X b mb) (hc : RE cn X c mc)
    (hm : lastMarks [op, op'] [b, c] = false := by with_unfolding_all rfl) : RE cn X (.Compare a [op, op'] [b, c] pos) (mChain f g ma mb mc) := by
  obtain ⟨ta, pa, sa⟩ := ha.ex
  obtain ⟨tb, pb, sb⟩ := hb.ex
  obtain ⟨tc, pc, sc⟩ := hc.ex
  refine .mk ⟨_, pe_chain ho ho' pa pb pc hm, fun W h H μ σ Q R S P => ?_⟩
  refine sa W h H μ σ _ R S (P.bnd fun x h1 W1 H1 v _ E1 R1 r1 P1 => ?_)
  refine sb W1 h1 H1 μ σ _ R1 (S.ext E1) (P1.bnd fun y h2 W2 H2 u _ E2 R2 r2 P2 => ?_)
  refine om_bind om R2 (r1.ext E2) r2 P2 fun z h3 W3 H3 w E3 R3 r3 P3 => ?_
  split at P3
  · rw [r3.bl_inv]
    refine ⟨true, rfl, ?_⟩
    rw [if_pos rfl]
    refine sc W3 h3 H3 μ σ _ R3 ((S.ext E1).ext (E2.trans E3)) (P3.bnd fun w' h4 W4 H4 w2 _ E4 R4 r4 P4 => ?_)
    exact om' W4 h4 H4 y w' u w2 Q R4 (r2.ext (E3.trans E4)) r4 P4
  · rw [r3.bl_inv]
    refine ⟨false, rfl, ?_⟩
    rw [if_neg (by decide)]
    exact pB R3 P3
  · exact P3.elim

/-! ### truth -/
def truthy (h : MH) : MV → Option Bool
  | .d .none => some false
  | .d (.bool b) => some b
  | .d (.int i) => some (i != 0)
  | .d (.str s) => if s.length ≤ szL then some ((s.length : Int) != 0) else none
  | .d (.list ds) => some (!ds.isEmpty)
  | .d (.tuple ds) => some (!ds.isEmpty)
  | .tup l => some (!l.isEmpty)
  | .ref i => match h[i]? with
    | some (.lst l) => some (!l.isEmpty)
    | some (.dk kvs) => some (!kvs.isEmpty)
    | _ => none
  | _ => none
theorem truthy_ok {W : Wd} {H : Hp} {h : MH} {m : MV} {v : V} {b : Bool} (R : Rel G W h H) (r : RV G W m v) (e : truthy h m = some b) : TruV G.K v H b := by
  cases r with
  | d q =>
    cases q with
    | non => cases e; rfl
    | bl => cases e; rfl
    | int => cases e; rfl
    | str x =>
      simp only [truthy] at e
      split at e
      · rename_i c
        cases e
        exact ⟨by rw [← szL_eq]; exact c, rfl⟩
      · cases e
    | @lst a xs ds s t =>
      cases e
      have := (RVs.ofDps (G := G) (W := W) t).len0
      refine .inl ⟨xs, SqL.of (R.sub _ _ s), ?_⟩
      rw [← this]; cases ds <;> rfl
    | @tup a xs ds s t =>
      cases e
      have := (RVs.ofDps (G := G) (W := W) t).len0
      refine .inr (.inl ⟨xs, SqT.of (R.sub _ _ s), ?_⟩)
      rw [← this]; cases ds <;> rfl
  | tup s t =>
    cases e
    exact .inr (.inl ⟨_, SqT.of (R.sub _ _ s), by rw [t.len0]⟩)
  | @ref i a q =>
    obtain ⟨o, ho, ro⟩ := R.ofRef q
    simp only [truthy, ho] at e
    cases o with
    | lst l =>
      cases e
      obtain ⟨xs, s, t⟩ := ro
      exact .inl ⟨xs, SqL.of s, by rw [t.len0]⟩
    | dk kvs =>
      cases e
      obtain ⟨xs, s, t⟩ := ro
      refine .inr (.inr ⟨xs, s, ?_⟩)
      have := t.1
      cases kvs <;> cases xs <;> simp_all
    | _ => cases e
  | _ => cases e
def ofO {α : Type} (o : Option α) (h : MH) : R α := match o with
  | some a => .ok a h
  | none => .bad
def mTru (m : ME) : MT := fun μ h => (m μ h).bind fun x h1 => ofO (truthy h1 x) h1
theorem rt_truth (ha : RE cn X a ma) (he : ∀ whole, isTrue a X.env whole = (do let v ← whole; standAt a.pos; holding [v] (PySem.truthy v))) : RT cn X a (mTru ma) := by
  obtain ⟨ta, pa, sa⟩ := ha.ex
  refine .mk ⟨_, pt_truth pa he, fun W h H μ σ Q R S P => ?_⟩
  refine sa W h H μ σ _ R S (P.bnd fun x h1 W1 H1 v _ E1 R1 r1 P1 => ?_)
  unfold ofO at P1
  split at P1
  · rename_i b e
    exact ⟨b, truthy_ok R1 r1 e, P1.ok R1 rfl⟩
  · exact P1.elim
/-- a comparison as a test -/
def asB : MV → Option Bool | .d (.bool b) => some b | _ => none
def mTB (m : ME) : MT := fun μ h => (m μ h).bind fun x h1 => ofO (asB x) h1
theorem sim_tb {ta : TE} (sa : SimE G ta ma) : SimT G (tTest ta) (mTB ma) := by
  intro W h H μ σ Q R S P
  refine sa W h H μ σ _ R S (P.bnd fun x h1 W1 H1 v _ E1 R1 r1 P1 => ?_)
  unfold ofO at P1
  split at P1
  · rename_i b e
    unfold asB at e
    split at e
    · cases e
      rw [r1.bl_inv]
      exact ⟨b, rfl, P1.ok R1 rfl⟩
    · cases e
  · exact P1.elim
theorem rt_cmp {op : CmpOp} {r : R2} {f : MV → MV → MH → R MV} (ho : OpR X (compareOp op) r) (om : OpM (gx X cn) r f) (ha : RE cn X a ma) (hb : RE cn X b mb) (hm : behindInMarks op b = false) : RT cn X (.Compare a [op] [b] pos) (mTB (mBin f ma mb)) := by
  obtain ⟨ta, pa, sa⟩ := ha.ex
  obtain ⟨tb, pb, sb⟩ := hb.ex
  exact .mk ⟨_, pt_cmpR ho pa pb hm, sim_tb (sim_bin om sa sb)⟩
theorem rt_chain {op op' : CmpOp} {r r' : R2} {f g : MV → MV → MH → R MV} (ho : OpR X (compareOp op) r) (om : OpM (gx X cn) r f) (ho' : OpR X (compareOp op') r') (om' : OpM (gx X cn) r' g) (ha : RE cn X a ma) (hb : RE cn X b mb) (hc : RE cn X c mc)
    (hm : lastMarks [op, op'] [b, c] = false := by with_unfolding_all rfl) : RT cn X (.Compare a [op, op'] [b, c] pos) (mTB (mChain f g ma mb mc)) := by
  obtain ⟨ta, pa, sa⟩ := ha.ex
  obtain ⟨tb, pb, sb⟩ := hb.ex
  obtain ⟨tc, pc, sc⟩ := hc.ex
  refine .mk ⟨_, pt_chain ho ho' pa pb pc hm, sim_tb (G := gx X cn) (ma := mChain f g ma mb mc) fun W h H μ σ Q R S P => ?_⟩
  refine sa W h H μ σ _ R S (P.bnd fun x h1 W1 H1 v _ E1 R1 r1 P1 => ?_)
  refine sb W1 h1 H1 μ σ _ R1 (S.ext E1) (P1.bnd fun y h2 W2 H2 u _ E2 R2 r2 P2 => ?_)
  refine om_bind om R2 (r1.ext E2) r2 P2 fun z h3 W3 H3 w E3 R3 r3 P3 => ?_
  split at P3
  · rw [r3.bl_inv]
    refine ⟨true, rfl, ?_⟩
    rw [if_pos rfl]
    refine sc W3 h3 H3 μ σ _ R3 ((S.ext E1).ext (E2.trans E3)) (P3.bnd fun w' h4 W4 H4 w2 _ E4 R4 r4 P4 => ?_)
    exact om' W4 h4 H4 y w' u w2 Q R4 (r2.ext (E3.trans E4)) r4 P4
  · rw [r3.bl_inv]
    refine ⟨false, rfl, ?_⟩
    rw [if_neg (by decide)]
    exact pB R3 P3
  · exact P3.elim
/-! ### and, or, not: tests -/
def mTAnd (t u : MT) : MT := fun μ h => (t μ h).bind fun b h1 => match b with
  | true => u μ h1
  | false => .ok false h1
def mTOr (t u : MT) : MT := fun μ h => (t μ h).bind fun b h1 => match b with
  | true => .ok true h1
  | false => u μ h1
def mTNot (t : MT) : MT := fun μ h => (t μ h).bind fun b h1 => .ok (!b) h1
variable {ta tb : MT} {rest : List Expr}
theorem rw_and1 (ha : RT cn X a ta) : RW cn X (.BoolOp .And [a] pos) ta := by
  obtain ⟨t, p, s⟩ := ha.ex
  exact .mk ⟨_, pw_and1 p, s⟩
theorem rw_or1 (ha : RT cn X a ta) : RW cn X (.BoolOp .Or [a] pos) ta := by
  obtain ⟨t, p, s⟩ := ha.ex
  exact .mk ⟨_, pw_or1 p, s⟩
theorem rw_and (ha : RT cn X a ta) (hb : RW cn X (.BoolOp .And (b :: rest) pos) tb) : RW cn X (.BoolOp .And (a :: b :: rest) pos) (mTAnd ta tb) := by
  obtain ⟨t, p, s⟩ := ha.ex
  obtain ⟨t', p', s'⟩ := hb.ex
  refine .mk ⟨_, pw_and p p', fun W h H μ σ Q R S P => ?_⟩
  refine s W h H μ σ _ R S (P.bnd fun x h1 W1 H1 v _ E1 R1 r1 P1 => ?_)
  subst r1
  cases x with
  | true => rw [if_pos rfl]; exact s' W1 h1 H1 μ σ _ R1 (S.ext E1) P1
  | false => rw [if_neg (by decide)]; exact P1.ok R1 rfl
theorem rw_or (ha : RT cn X a ta) (hb : RW cn X (.BoolOp .Or (b :: rest) pos) tb) : RW cn X (.BoolOp .Or (a :: b :: rest) pos) (mTOr ta tb) := by
  obtain ⟨t, p, s⟩ := ha.ex
  obtain ⟨t', p', s'⟩ := hb.ex
  refine .mk ⟨_, pw_or p p', fun W h H μ σ Q R S P => ?_⟩
  refine s W h H μ σ _ R S (P.bnd fun x h1 W1 H1 v _ E1 R1 r1 P1 => ?_)
  subst r1
  cases x with
  | true => rw [if_pos rfl]; exact P1.ok R1 rfl
  | false => rw [if_neg (by decide)]; exact s' W1 h1 H1 μ σ _ R1 (S.ext E1) P1
theorem RW.pt (h : RW cn X a ta) : RT cn X a ta := by
  obtain ⟨t, p, s⟩ := h.ex
  exact .mk ⟨t, p.pt, s⟩
theorem rt_not (ha : RT cn X a ta) : RT cn X (.UnaryOp .Not a pos) (mTNot ta) := by
  obtain ⟨t, p, s⟩ := ha.ex
  refine .mk ⟨_, pt_not p, fun W h H μ σ Q R S P => ?_⟩
  refine s W h H μ σ _ R S (P.bnd fun x h1 W1 H1 v _ E1 R1 r1 P1 => ?_)
  subst r1
  exact P1.ok R1 rfl
/-! ### .. as values -/
def mAnd (a b : ME) : ME := fun μ h => (a μ h).bind fun x h1 => match truthy h1 x with
  | some true => b μ h1
  | some false => .ok x h1
  | none => .bad
def mOr (a b : ME) : ME := fun μ h => (a μ h).bind fun x h1 => match truthy h1 x with
  | some true => .ok x h1
  | some false => b μ h1
  | none => .bad
def mNot (a : ME) : ME := fun μ h => (a μ h).bind fun x h1 => match truthy h1 x with
  | some b => rB (!b) h1
  | none => .bad
theorem re_one {op} (ha : RE cn X a ma) : RE cn X (.BoolOp op [a] pos) ma := by
  obtain ⟨t, p, s⟩ := ha.ex
  exact .mk ⟨_, pe_one p, s⟩
theorem re_and (ha : RE cn X a ma) (hb : RE cn X (.BoolOp .And (b :: rest) pos) mb) : RE cn X (.BoolOp .And (a :: b :: rest) pos) (mAnd ma mb) := by
  obtain ⟨t, p, s⟩ := ha.ex
  obtain ⟨t', p', s'⟩ := hb.ex
  refine .mk ⟨_, pe_andT p p', fun W h H μ σ Q R S P => ?_⟩
  refine s W h H μ σ _ R S (P.bnd fun x h1 W1 H1 v _ E1 R1 r1 P1 => ?_)
  split at P1
  · rename_i e
    refine ⟨true, truthy_ok R1 r1 e, ?_⟩
    rw [if_pos rfl]
    exact s' W1 h1 H1 μ σ _ R1 (S.ext E1) P1
  · rename_i e
    refine ⟨false, truthy_ok R1 r1 e, ?_⟩
    rw [if_neg (by decide)]
    exact P1.ok R1 r1
  · exact P1.elim
theorem re_or (ha : RE cn X a ma) (hb : RE cn X (.BoolOp .Or (b :: rest) pos) mb) : RE cn X (.BoolOp .Or (a :: b :: rest) pos) (mOr ma mb) := by
  obtain ⟨t, p, s⟩ := ha.ex
  obtain ⟨t', p', s'⟩ := hb.ex
  refine .mk ⟨_, pe_orT p p', fun W h H μ σ Q R S P => ?_⟩
  refine s W h H μ σ _ R S (P.bnd fun x h1 W1 H1 v _ E1 R1 r1 P1 => ?_)
  split at P1
  · rename_i e
    refine ⟨true, truthy_ok R1 r1 e, ?_⟩
    rw [if_pos rfl]
    exact P1.ok R1 r1
  · rename_i e
    refine ⟨false, truthy_ok R1 r1 e, ?_⟩
    rw [if_neg (by decide)]
    exact s' W1 h1 H1 μ σ _ R1 (S.ext E1) P1
  · exact P1.elim
theorem re_not (ha : RE cn X a ma) : RE cn X (.UnaryOp .Not a pos) (mNot ma) := by
  obtain ⟨t, p, s⟩ := ha.ex
  refine .mk ⟨_, pe_notT p, fun W h H μ σ Q R S P => ?_⟩
  refine s W h H μ σ _ R S (P.bnd fun x h1 W1 H1 v _ E1 R1 r1 P1 => ?_)
  split at P1
  · rename_i bb e
    exact ⟨bb, truthy_ok R1 r1 e, pB R1 P1⟩
  · exact P1.elim
def mNeg (a : ME) : ME := fun μ h => (a μ h).bind fun x h1 => match x with
  | .d (.int i) => rI (-i) h1
  | _ => .bad
theorem re_neg (ha : RE cn X a ma) : RE cn X (.UnaryOp .USub a pos) (mNeg ma) := by
  obtain ⟨t, p, s⟩ := ha.ex
  refine .mk ⟨_, pe_un un_neg p, fun W h H μ σ Q R S P => ?_⟩
  refine s W h H μ σ _ R S (P.bnd fun x h1 W1 H1 v _ E1 R1 r1 P1 => ?_)
  split at P1
  · exact ⟨_, r1.int_inv, pI R1 P1⟩
  · exact P1.elim
def mIf (t : MT) (a b : ME) : ME := fun μ h => (t μ h).bind fun c h1 => match c with
  | true => a μ h1
  | false => b μ h1
theorem re_if (hc : RT cn X c ta) (ha : RE cn X a ma) (hb : RE cn X b mb) : RE cn X (.IfExp c a b pos) (mIf ta ma mb) := by
  obtain ⟨t, p, s⟩ := hc.ex
  obtain ⟨t1, p1, s1⟩ := ha.ex
  obtain ⟨t2, p2, s2⟩ := hb.ex
  refine .mk ⟨_, pe_ifExp p p1 p2, fun W h H μ σ Q R S P => ?_⟩
  refine s W h H μ σ _ R S (P.bnd fun x h1 W1 H1 v _ E1 R1 r1 P1 => ?_)
  subst r1
  cases x with
  | true => rw [if_pos rfl]; exact s1 W1 h1 H1 μ σ _ R1 (S.ext E1) P1
  | false => rw [if_neg (by decide)]; exact s2 W1 h1 H1 μ σ _ R1 (S.ext E1) P1
end
end Mini
/-! # Mini: subscripts, displays, calls of what is built in -/
namespace Mini
open PySem L2
section
variable {cn : Nat → Str × List Str} {X : Cx} {a b c e : Expr} {es : List Expr} {ma mb mc : ME} {mas : MA} {pos : Pos} {G : Gx}

/-! ### argument lists, displays -/
def mNil : MA := fun _ h => .ok [] h
def mCons (a : ME) (r : MA) : MA := fun μ h => (a μ h).bind fun x h1 => (r μ h1).bind fun xs h2 => .ok (x :: xs) h2
theorem ra_nil : RA cn X [] mNil := .mk ⟨_, pa_nil, fun W h H μ σ Q R S P => P.ok R .nil⟩
theorem sim_cons {G : Gx} {ta : TE} {tr : TA} (sa : SimE G ta ma) (sr : SimA G tr mas) : SimA G (tCons ta tr) (mCons ma mas) := by
  intro W h H μ σ Q R S P
  refine sa W h H μ σ _ R S (P.bnd fun x h1 W1 H1 v _ E1 R1 r1 P1 => ?_)
  refine sr W1 h1 H1 μ σ _ R1 (S.ext E1) (P1.bnd fun xs h2 W2 H2 vs _ E2 R2 r2 P2 => ?_)
  exact P2.ok R2 (.cons (r1.ext E2) r2)
theorem ra_cons (ha : RE cn X e ma) (hr : RA cn X es mas) (hs : starEach (e :: es) X.env = (false, eval e X.env) :: starEach es X.env := by rfl) : RA cn X (e :: es) (mCons ma mas) := by
  obtain ⟨ta, pa, sa⟩ := ha.ex
  obtain ⟨tr, pr, sr⟩ := hr.ex
  exact .mk ⟨_, pa_cons pa pr hs, sim_cons sa sr⟩
def mLst (m : MA) : ME := fun μ h => (m μ h).bind fun l h1 => rL l h1
def mTup (m : MA) : ME := fun μ h => (m μ h).bind fun l h1 => rT l h1
theorem re_lst (h : RA cn X es mas) : RE cn X (.List es pos) (mLst mas) := by
  obtain ⟨t, p, s⟩ := h.ex
  refine .mk ⟨_, pe_lst p, fun W h H μ σ Q R S P => ?_⟩
  exact s W h H μ σ _ R S (P.bnd fun l h1 W1 H1 vs _ E1 R1 r1 P1 => pL R1 r1 P1)
theorem re_tup {x1} (h : RA cn X es mas) : RE cn X (.Tuple es x1 pos) (mTup mas) := by
  obtain ⟨t, p, s⟩ := h.ex
  refine .mk ⟨_, pe_tup p, fun W h H μ σ Q R S P => ?_⟩
  exact s W h H μ σ _ R S (P.bnd fun l h1 W1 H1 vs _ E1 R1 r1 P1 => pT R1 r1 P1)
/-- {}, to be filled with int and text keys; with tuple keys -/
def mDk : ME := fun _ h => .ok (.ref h.length) (h ++ [.dk []])
def mDt : ME := fun _ h => .ok (.ref h.length) (h ++ [.dt []])
theorem last_get {α : Type} {l : List α} {n : Nat} {p : α} (e : l.length = n) : (l ++ [p])[n]? = some p := by subst e; simp
theorem re_dk : RE cn X (.Dict [] [] pos) mDk := by
  refine .mk ⟨_, pe_dnewK, fun W h H μ σ Q R S P p hp => ?_⟩
  obtain ⟨R', E'⟩ := R.push hp (.dK []) (.dk []) fun W' s q => ⟨[], upd_same, rfl, .nil⟩
  exact P.ok' E' R' (.ref (last_get R.len))
theorem re_dt : RE cn X (.Dict [] [] pos) mDt := by
  refine .mk ⟨_, pe_dnewT, fun W h H μ σ Q R S P p hp => ?_⟩
  obtain ⟨R', E'⟩ := R.push hp (.dT []) (.dt []) fun W' s q => ⟨[], upd_same, rfl, .nil⟩
  exact P.ok' E' R' (.ref (last_get R.len))

/-! ### subscripts -/
def fIx (x y : MV) (h : MH) : R MV := match dlook h x y with
  | some (some v) => .ok v h
  | some none => .bad
  | none => match y with
    | .d (.int i) => match lstOf h x with
      | some l => ofO (atI l i) h
      | none => match tupOf x with
        | some l => ofO (atI l i) h
        | none => match x with
          | .d (.str s) => if s.length ≤ szL then ofO ((atI s.cps.toList i).map fun c => .d (.str ⟨#[c]⟩)) h else .bad
          | _ => .bad
    | _ => .bad
def rIxD : R2 := fun x y H Q => ∃ a v, x = .ref a ∧ DGet H a y (some v) ∧ Q v H
def rIxAll (K : PySem.W.Frag) : R2 := fun x y H Q => rIx K x y H Q ∨ rIxD x y H Q
theorem ix_dict (hu : X.A.units + 1 < cLine) : IxR X rIxD := by
  intro value slice pins s σ H x y v u Q I rx ry h hs
  obtain ⟨a, w, rfl, g, q⟩ := h
  cases (show v = Value.ref a from rx)
  exact PyProof.Rows.tail_any (dict_typeIs I g) PySem.F.slot_dict_getitem.lookup (d_getItem hu I g ry fun w' s3 I3 rw' => ⟨w, H, I3, rw', q⟩) hs
theorem atI_rv {W : Wd} {l : List MV} {xs : List V} {i : Int} {m : MV} (r : RVs G W l xs) (e : atI l i = some m) : ∃ v, atI xs i = some v ∧ RV G W m v := by
  unfold atI at e ⊢
  rw [← r.length]
  cases q : ixN l.length i with
  | none => rw [q] at e; cases e
  | some j =>
    rw [q] at e
    obtain ⟨v, h1, h2⟩ := r.get (show l[j]? = some m from e)
    exact ⟨v, h1, h2⟩
theorem om_ix : OpM G (rIxAll G.K) fIx := by
  intro W h H x y v u Q R rx ry P
  unfold fIx at P
  split at P
  · rename_i m e
    obtain ⟨a, o', rfl, g, q⟩ := dlook_ok R rx ry e
    rcases q with ⟨q, _⟩ | ⟨m', v', q1, rfl, r⟩
    · cases q
    · cases q1
      exact .inr ⟨a, v', rfl, g, P.ok R r⟩
  · exact P.elim
  · split at P
    · split at P
      · rename_i l e
        obtain ⟨a, xs, rfl, ha, ra⟩ := lstOf_ok R rx e
        rw [ry.int_inv]
        unfold ofO at P
        split at P
        · rename_i m e2
          obtain ⟨w, e3, rw'⟩ := atI_rv ra e2
          exact .inl (.inl ⟨a, xs, _, w, rfl, rfl, ha, e3, P.ok R rw'⟩)
        · exact P.elim
      · split at P
        · rename_i l e
          obtain ⟨a, xs, rfl, ha, ra⟩ := tupOf_ok R rx e
          rw [ry.int_inv]
          unfold ofO at P
          split at P
          · rename_i m e2
            obtain ⟨w, e3, rw'⟩ := atI_rv ra e2
            exact .inl (.inr (.inl ⟨a, xs, _, w, rfl, rfl, SqT.of ha, e3, P.ok R rw'⟩))
          · exact P.elim
        · split at P
          · split at P
            · rename_i c
              rw [rx.str_inv, ry.int_inv]
              unfold ofO at P
              split at P
              · rename_i m e2
                obtain ⟨ch, e3, e4⟩ := Option.map_eq_some_iff.mp e2
                subst e4
                exact .inl (.inr (.inr ⟨_, _, ch, rfl, rfl, by rw [← szL_eq]; exact c, e3, pS R P⟩))
              · exact P.elim
            · exact P.elim
          · exact P.elim
    · exact P.elim
theorem re_ix (hu : X.A.units + 64 < cLine) (ha : RE cn X a ma) (hb : RE cn X b mb) (hs : PlainIx b) : RE cn X (.Subscript a b pos) (mBin fIx ma mb) := by
  obtain ⟨ta, pa, sa⟩ := ha.ex
  obtain ⟨tb, pb, sb⟩ := hb.ex
  exact .mk ⟨_, pe_ix (ix_seq.or (ix_dict (by omega))) pa pb hs, sim_bin (r := rIxAll X.K) om_ix sa sb⟩

/-! ### slices -/
def cutM {α : Type} (xs : List α) (lo hi : Option Int) : List α := (xs.drop (HT.sIx xs.length 0 lo)).take (HT.sIx xs.length xs.length hi - HT.sIx xs.length 0 lo)
abbrev MO_ := MSt → MH → R (Option Int)
def SimO (G : Gx) (t : TO) (m : MO_) : Prop := ∀ W h H μ σ Q, Rel G W h H → RSl G W μ σ → Po G (fun _ (a b : Option Int) => a = b) W H (m μ h) Q → t σ H Q
def RO_ (cn : Nat → Str × List Str) (X : Cx) (e : Option Expr) (m : MO_) : Prop := ∃ t, PO X e t ∧ SimO (gx X cn) t m
def mNoP : MO_ := fun _ h => .ok none h
def mPart (m : ME) : MO_ := fun μ h => (m μ h).bind fun x h1 => match x with
  | .d (.int i) => .ok (some i) h1
  | _ => .bad
theorem ro_none : RO_ cn X none mNoP := ⟨_, po_none, fun W h H μ σ Q R S P => P.ok R rfl⟩
theorem ro_some (ha : RE cn X a ma) : RO_ cn X (some a) (mPart ma) := by
  obtain ⟨t, p, s⟩ := ha.ex
  refine ⟨_, po_some p, fun W h H μ σ Q R S P => ?_⟩
  refine s W h H μ σ _ R S (P.bnd fun x h1 W1 H1 v _ E1 R1 r1 P1 => ?_)
  split at P1
  · exact ⟨_, r1.int_inv, P1.ok R1 rfl⟩
  · exact P1.elim
def fSl (x : MV) (lo hi : Option Int) (h : MH) : R MV := match lstOf h x with
  | some l => rL (cutM l lo hi) h
  | none => match tupOf x with
    | some l => if HT.sIx l.length 0 lo = 0 ∧ HT.sIx l.length l.length hi = l.length then .ok x h else rT (cutM l lo hi) h
    | none => match x with
      | .d (.str s) => if s.length ≤ szL then rS (cutS s lo hi) h else .bad
      | _ => .bad
def rSlAll (K : PySem.W.Frag) : V → Option Int → Option Int → Hp → VK → Prop := fun x lo hi H Q => rSlL K x lo hi H Q ∨ (rSlA K x lo hi H Q ∨ rSlS x lo hi H Q)
theorem cut_rv {W : Wd} {l : List MV} {xs : List V} {lo hi : Option Int} (r : RVs G W l xs) : RVs G W (cutM l lo hi) (cutV xs lo hi) := by
  unfold cutM cutV
  rw [r.length]
  exact (r.drop _).take _
def mSlice (m : ME) (lo hi : MO_) : ME := fun μ h => (m μ h).bind fun x h1 => (lo μ h1).bind fun l h2 => (hi μ h2).bind fun u h3 => fSl x l u h3
theorem re_slice {lo hi : Option Expr} {ml mh : MO_} {p2 : Pos} (he : RE cn X e ma) (hl : RO_ cn X lo ml) (hh : RO_ cn X hi mh) : RE cn X (.Subscript e (.Slice lo hi none p2) pos) (mSlice ma ml mh) := by
  obtain ⟨t, p, s⟩ := he.ex
  obtain ⟨t1, p1, s1⟩ := hl
  obtain ⟨t2, pp2, s2⟩ := hh
  refine .mk ⟨_, pe_slice (r := rSlAll X.K) (sl_list.or (sl_tupA.or sl_str)) p p1 pp2, fun W h H μ σ Q R S P => ?_⟩
  refine s W h H μ σ _ R S (P.bnd fun x h1 W1 H1 v _ E1 R1 r1 P1 => ?_)
  refine s1 W1 h1 H1 μ σ _ R1 (S.ext E1) (P1.bnd fun l h2 W2 H2 l' _ E2 R2 r2 P2 => ?_)
  subst r2
  refine s2 W2 h2 H2 μ σ _ R2 ((S.ext E1).ext E2) (P2.bnd fun u h3 W3 H3 u' _ E3 R3 r3 P3 => ?_)
  subst r3
  have rx := (r1.ext E2).ext E3
  unfold fSl at P3
  split at P3
  · rename_i l e
    obtain ⟨a, xs, rfl, ha, ra⟩ := lstOf_ok R3 rx e
    exact .inl ⟨a, xs, rfl, ha, (pL R3 (cut_rv ra) P3).2⟩
  · split at P3
    · rename_i l e
      obtain ⟨a, xs, rfl, ha, ra⟩ := tupOf_ok R3 rx e
      refine .inr (.inl ⟨a, xs, rfl, SqT.of ha, fun z => ?_, fun z => ?_⟩)
      · rw [ra.length, if_pos z] at P3
        exact P3.ok R3 rx
      · rw [ra.length, if_neg z] at P3
        exact (pT R3 (cut_rv ra) P3).2
    · split at P3
      · split at P3
        · rename_i c
          rw [rx.str_inv]
          exact .inr (.inr ⟨_, rfl, by rw [← szL_eq]; exact c, pS R3 P3⟩)
        · exact P3.elim
      · exact P3.elim
/-- xs[::-1] of a list -/
def mRev (m : ME) : ME := fun μ h => (m μ h).bind fun x h1 => match lstOf h1 x with
  | some l => rL l.reverse h1
  | none => .bad
theorem re_rev {k : Nat} {p1 p2 p3 : Pos} (he : RE cn X e ma) : RE cn X (.Subscript e (.Slice none none (some (.UnaryOp .USub (.Constant (.int 1) k p1) p2)) p3) pos) (mRev ma) := by
  obtain ⟨t, p, s⟩ := he.ex
  refine .mk ⟨_, pe_revL p, fun W h H μ σ Q R S P => ?_⟩
  refine s W h H μ σ _ R S (P.bnd fun x h1 W1 H1 v _ E1 R1 r1 P1 => ?_)
  split at P1
  · rename_i l e
    obtain ⟨a, xs, rfl, ha, ra⟩ := lstOf_ok R1 r1 e
    exact ⟨a, xs, rfl, ha, (pL R1 ra.rev P1).2⟩
  · exact P1.elim

/-! ### calls of what is built in -/
def CallM (G : Gx) (r : List V → Hp → VK → Prop) (f : List MV → MH → R MV) : Prop := ∀ W h H us vs Q, Rel G W h H → RVs G W us vs → PoE G W H (f us h) Q → r vs H Q
def mCB (f : List MV → MH → R MV) (m : MA) : ME := fun μ h => (m μ h).bind f
theorem sim_cb {G : Gx} {r : List V → Hp → VK → Prop} {f : List MV → MH → R MV} {t : TA} (cm : CallM G r f) (s : SimA G t mas) : SimE G (tCB r t) (mCB f mas) := fun W h H μ σ Q R S P =>
  s W h H μ σ _ R S (P.bnd fun us h1 W1 H1 vs _ E1 R1 r1 P1 => cm W1 h1 H1 us vs Q R1 r1 P1)
theorem re_callB {id : String} {r : List V → Hp → VK → Prop} {f : List MV → MH → R MV} {x : Str} {p : Pos} (hc : CallR X (.builtin id) r) (cm : CallM (gx X cn) r f) (hg : Gl X x) (hm : X.mg x = none) (hv : bootBuiltins x = some (.builtin id)) (ha : RA cn X (e :: es) mas)
    (hn : x ≠ "__name__" := by decide) (hdb : (x == ("__debug__" : Str)) = false := by decide) (he : starEach (e :: es) X.env = (false, eval e X.env) :: starEach es X.env := by rfl) (hpl : (backTo pos (starEach es X.env)).any (·.1) = false := by rfl) :
    RE cn X (.Call (.Name x p) (e :: es) [] pos) (mCB f mas) := by
  obtain ⟨t, pp, s⟩ := ha.ex
  exact .mk ⟨_, pe_callB hc hg hm hv pp hn hdb he hpl, sim_cb cm s⟩
theorem re_callT {T : String} {r : List V → Hp → VK → Prop} {f : List MV → MH → R MV} {x : Str} {p : Pos} (hc : CallR X (.type T) r) (cm : CallM (gx X cn) r f) (hg : Gl X x) (hm : X.mg x = none) (hv : bootBuiltins x = some (.type T)) (ha : RA cn X (e :: es) mas)
    (hn : x ≠ "__name__" := by decide) (hdb : (x == ("__debug__" : Str)) = false := by decide) (he : starEach (e :: es) X.env = (false, eval e X.env) :: starEach es X.env := by rfl) (hpl : (backTo pos (starEach es X.env)).any (·.1) = false := by rfl) :
    RE cn X (.Call (.Name x p) (e :: es) [] pos) (mCB f mas) := by
  obtain ⟨t, pp, s⟩ := ha.ex
  exact .mk ⟨_, pe_callTy hc hg hm hv pp hn hdb he hpl, sim_cb cm s⟩
theorem CallR.or {f : Value} {r r' : List V → Hp → VK → Prop} (h : CallR X f r) (h' : CallR X f r') : CallR X f (fun xs H Q => r xs H Q ∨ r' xs H Q) := by
  intro pins s σ H xs us Q I r q
  rcases q with q | q
  · exact h pins s σ H xs us Q I r q
  · exact h' pins s σ H xs us Q I r q
theorem RVs.one {W : Wd} {m : MV} {vs : List V} (r : RVs G W [m] vs) : ∃ v, vs = [v] ∧ RV G W m v := by
  cases r with | cons a b => cases b; exact ⟨_, rfl, a⟩
theorem RVs.two {W : Wd} {m m2 : MV} {vs : List V} (r : RVs G W [m, m2] vs) : ∃ v v2, vs = [v, v2] ∧ RV G W m v ∧ RV G W m2 v2 := by
  cases r with | cons a b => cases b with | cons c d => cases d; exact ⟨_, _, rfl, a, c⟩
/-- len -/
def fLen (us : List MV) (h : MH) : R MV := match us with
  | [x] => match lstOf h x with
    | some l => rI l.length h
    | none => match tupOf x with
      | some l => rI l.length h
      | none => match x with
        | .d (.str s) => if s.length ≤ szL then rI s.length h else .bad
        | .ref i => match h[i]? with
          | some (.dk kvs) => rI kvs.length h
          | _ => .bad
        | _ => .bad
  | _ => .bad
def rLenAll (K : PySem.W.Frag) : List V → Hp → VK → Prop := fun xs H Q => (∃ x n, xs = [x] ∧ LenV K x H n ∧ Q (.int n) H) ∨ (∃ a kvs, xs = [V.ref a] ∧ H a = some (.dK kvs) ∧ Q (.int kvs.length) H)
theorem call_lenAll : CallR X (.builtin "len") (rLenAll X.K) := CallR.or call_len call_lenD
theorem cm_len : CallM G (rLenAll G.K) fLen := by
  intro W h H us vs Q R rs P
  unfold fLen at P
  split at P
  · obtain ⟨v, rfl, r⟩ := rs.one
    split at P
    · rename_i l e
      obtain ⟨a, xs, rfl, ha, ra⟩ := lstOf_ok R r e
      exact .inl ⟨_, xs.length, rfl, .inl ⟨xs, ha, rfl⟩, by rw [← ra.length]; exact pI R P⟩
    · split at P
      · rename_i l e
        obtain ⟨a, xs, rfl, ha, ra⟩ := tupOf_ok R r e
        exact .inl ⟨_, xs.length, rfl, .inr ⟨xs, SqT.of ha, rfl⟩, by rw [← ra.length]; exact pI R P⟩
      · split at P
        · split at P
          · rename_i c
            rw [r.str_inv]
            exact .inl ⟨_, _, rfl, ⟨by rw [← szL_eq]; exact c, rfl⟩, pI R P⟩
          · exact P.elim
        · split at P
          · rename_i kvs e
            cases r with
            | ref q =>
              obtain ⟨o, ho, ro⟩ := R.ofRef q
              rw [e] at ho; cases ho
              obtain ⟨kvs', hk, r1, r2⟩ := ro
              refine .inr ⟨_, kvs', rfl, hk, ?_⟩
              rw [show kvs'.length = kvs.length by have := congrArg List.length r1; simpa using this.symm]
              exact pI R P
          · exact P.elim
        · exact P.elim
  · exact P.elim
def fAbs (us : List MV) (h : MH) : R MV := match us with
  | [.d (.int i)] => rI (if i < 0 then -i else i) h
  | _ => .bad
theorem cm_abs : CallM G (fun xs H Q => ∃ i, xs = [.int i] ∧ Q (.int (if i < 0 then -i else i)) H) fAbs := by
  intro W h H us vs Q R rs P
  unfold fAbs at P
  split at P
  · obtain ⟨v, rfl, r⟩ := rs.one
    rw [r.int_inv]
    exact ⟨_, rfl, pI R P⟩
  · exact P.elim
def fMax2 (us : List MV) (h : MH) : R MV := match us with
  | [.d (.int i), .d (.int j)] => rI (if j > i then j else i) h
  | _ => .bad
def fMin2 (us : List MV) (h : MH) : R MV := match us with
  | [.d (.int i), .d (.int j)] => rI (if j < i then j else i) h
  | _ => .bad
theorem cm_max2 : CallM G (fun xs H Q => ∃ i j, xs = [.int i, .int j] ∧ Q (.int (if j > i then j else i)) H) fMax2 := by
  intro W h H us vs Q R rs P
  unfold fMax2 at P
  split at P
  · obtain ⟨v, v2, rfl, r, r2⟩ := rs.two
    rw [r.int_inv, r2.int_inv]
    exact ⟨_, _, rfl, pI R P⟩
  · exact P.elim
theorem cm_min2 : CallM G (fun xs H Q => ∃ i j, xs = [.int i, .int j] ∧ Q (.int (if j < i then j else i)) H) fMin2 := by
  intro W h H us vs Q R rs P
  unfold fMin2 at P
  split at P
  · obtain ⟨v, v2, rfl, r, r2⟩ := rs.two
    rw [r.int_inv, r2.int_inv]
    exact ⟨_, _, rfl, pI R P⟩
  · exact P.elim
/-- list(x) of a list or tuple -/
def fListOf (us : List MV) (h : MH) : R MV := match us with
  | [x] => match lstOf h x with
    | some l => rL l h
    | none => match tupOf x with
      | some l => rL l h
      | none => .bad
  | _ => .bad
theorem cm_listOf : CallM G (fun xs H Q => ∃ p ys, xs = [.ref p] ∧ (SqL G.K H p ys ∨ SqT G.K H p ys) ∧ ∀ l, H l = none → Q (.ref l) (upd H l (.lst ys))) fListOf := by
  intro W h H us vs Q R rs P
  unfold fListOf at P
  split at P
  · obtain ⟨v, rfl, r⟩ := rs.one
    split at P
    · rename_i l e
      obtain ⟨a, xs, rfl, ha, ra⟩ := lstOf_ok R r e
      exact ⟨a, xs, rfl, .inl ha, (pL R ra P).2⟩
    · split at P
      · rename_i l e
        obtain ⟨a, xs, rfl, ha, ra⟩ := tupOf_ok R r e
        exact ⟨a, xs, rfl, .inr (SqT.of ha), (pL R ra P).2⟩
      · exact P.elim
  · exact P.elim
/-- tuple(x) of a list or tuple -/
def fTupOf (us : List MV) (h : MH) : R MV := match us with
  | [x] => match lstOf h x with
    | some l => rT l h
    | none => match tupOf x with
      | some l => .ok x h
      | none => .bad
  | _ => .bad
theorem cm_tupOf : CallM G (fun xs H Q => ∃ p ys, xs = [.ref p] ∧ ((SqL G.K H p ys ∧ ∀ l, H l = none → Q (.ref l) (upd H l (.tup ys))) ∨ (SqT G.K H p ys ∧ Q (.ref p) H))) fTupOf := by
  intro W h H us vs Q R rs P
  unfold fTupOf at P
  split at P
  · obtain ⟨v, rfl, r⟩ := rs.one
    split at P
    · rename_i l e
      obtain ⟨a, xs, rfl, ha, ra⟩ := lstOf_ok R r e
      exact ⟨a, xs, rfl, .inl ⟨ha, (pT R ra P).2⟩⟩
    · split at P
      · rename_i l e
        obtain ⟨a, xs, rfl, ha, ra⟩ := tupOf_ok R r e
        exact ⟨a, xs, rfl, .inr ⟨SqT.of ha, P.ok R r⟩⟩
      · exact P.elim
  · exact P.elim
/-- sum, all, any of a list -/
def intsOf : List MV → Option (List Int) := mapO fun m => match m with
  | .d (.int i) => some i
  | _ => none
def boolsOf : List MV → Option (List Bool) := mapO fun m => match m with
  | .d (.bool i) => some i
  | _ => none
theorem intsOf_rv {W : Wd} : ∀ {l : List MV} {vs : List V} {ns : List Int}, RVs G W l vs → intsOf l = some ns → vs = ns.map V.int
  | [], _, _, .nil, e => by cases e; rfl
  | m :: l, _, ns, .cons a b, e => by
    unfold intsOf mapO at e
    split at e
    · rename_i x xs e1 e2
      cases e
      rw [intsOf_rv b e2]
      split at e1
      · cases e1
        rw [a.int_inv]; rfl
      · cases e1
    · cases e
theorem boolsOf_rv {W : Wd} : ∀ {l : List MV} {vs : List V} {ns : List Bool}, RVs G W l vs → boolsOf l = some ns → vs = ns.map V.bl
  | [], _, _, .nil, e => by cases e; rfl
  | m :: l, _, ns, .cons a b, e => by
    unfold boolsOf mapO at e
    split at e
    · rename_i x xs e1 e2
      cases e
      rw [boolsOf_rv b e2]
      split at e1
      · cases e1
        rw [a.bl_inv]; rfl
      · cases e1
    · cases e
def fSum (us : List MV) (h : MH) : R MV := match us with
  | [x] => match (lstOf h x).bind intsOf with
    | some ns => rI ns.sum h
    | none => .bad
  | _ => .bad
def fAll (us : List MV) (h : MH) : R MV := match us with
  | [x] => match (lstOf h x).bind boolsOf with
    | some ns => rB (ns.all id) h
    | none => .bad
  | _ => .bad
def fAny (us : List MV) (h : MH) : R MV := match us with
  | [x] => match (lstOf h x).bind boolsOf with
    | some ns => rB (ns.any id) h
    | none => .bad
  | _ => .bad
theorem cm_sum : CallM G (rSum G.K) fSum := by
  intro W h H us vs Q R rs P
  unfold fSum at P
  split at P
  · obtain ⟨v, rfl, r⟩ := rs.one
    split at P
    · rename_i ns e
      obtain ⟨l, e1, e2⟩ := Option.bind_eq_some_iff.mp e
      obtain ⟨a, xs, rfl, ha, ra⟩ := lstOf_ok R r e1
      exact ⟨a, ns, rfl, by rw [← intsOf_rv ra e2]; exact ha, pI R P⟩
    · exact P.elim
  · exact P.elim
theorem cm_all : CallM G (rAll G.K) fAll := by
  intro W h H us vs Q R rs P
  unfold fAll at P
  split at P
  · obtain ⟨v, rfl, r⟩ := rs.one
    split at P
    · rename_i ns e
      obtain ⟨l, e1, e2⟩ := Option.bind_eq_some_iff.mp e
      obtain ⟨a, xs, rfl, ha, ra⟩ := lstOf_ok R r e1
      exact ⟨a, ns, rfl, by rw [← boolsOf_rv ra e2]; exact ha, pB R P⟩
    · exact P.elim
  · exact P.elim
theorem cm_any : CallM G (rAny G.K) fAny := by
  intro W h H us vs Q R rs P
  unfold fAny at P
  split at P
  · obtain ⟨v, rfl, r⟩ := rs.one
    split at P
    · rename_i ns e
      obtain ⟨l, e1, e2⟩ := Option.bind_eq_some_iff.mp e
      obtain ⟨a, xs, rfl, ha, ra⟩ := lstOf_ok R r e1
      exact ⟨a, ns, rfl, by rw [← boolsOf_rv ra e2]; exact ha, pB R P⟩
    · exact P.elim
  · exact P.elim

/-! ### isinstance of a built-in class -/
def tyName (h : MH) : MV → Option String
  | .d .none => some "NoneType"
  | .d (.bool _) => some "bool"
  | .d (.int _) => some "int"
  | .d (.str _) => some "str"
  | .d (.list _) => some "list"
  | .d (.tuple _) => some "tuple"
  | .tup _ => some "tuple"
  | .ref i => match h[i]? with
    | some (.lst _) => some "list"
    | some (.dk _) => some "dict"
    | some (.dt _) => some "dict"
    | _ => none
  | _ => none
def instB (t u : String) : Bool := t == u || (t == "bool" && u == "int")
theorem kit_all : (["NoneType", "bool", "int", "str", "list", "tuple", "dict"].all fun t => ["bool", "int", "str", "list", "tuple", "dict"].all fun u => kitB t u == some (instB t u)) = true := by decide +kernel
theorem kit_of {K : PySem.W.Frag} {t u : String} (ht : t ∈ ["NoneType", "bool", "int", "str", "list", "tuple", "dict"]) (hu : u ∈ ["bool", "int", "str", "list", "tuple", "dict"]) : PySem.W.kitOne K (.type t) (.type u) = some (instB t u) := by
  have h1 := List.all_eq_true.mp kit_all t ht
  have h2 := List.all_eq_true.mp h1 u hu
  exact kit_ty (by simpa using h2)
theorem tyName_rv {W : Wd} {H : Hp} {h : MH} {m : MV} {v : V} {t : String} (R : Rel G W h H) (r : RV G W m v) (e : tyName h m = some t) : TyX G.K H v (.type t) ∧ t ∈ ["NoneType", "bool", "int", "str", "list", "tuple", "dict"] := by
  cases r with
  | d q =>
    cases q with
    | non => cases e; exact ⟨.base .non, by decide⟩
    | bl => cases e; exact ⟨.base (.bl _), by decide⟩
    | int => cases e; exact ⟨.base (.int _), by decide⟩
    | str => cases e; exact ⟨.base (.str _), by decide⟩
    | lst s t => cases e; exact ⟨.base (.lst (R.sub _ _ s)), by decide⟩
    | tup s t => cases e; exact ⟨.base (.tup (R.sub _ _ s)), by decide⟩
  | tup s t => cases e; exact ⟨.base (.tup (R.sub _ _ s)), by decide⟩
  | ref q =>
    obtain ⟨o, ho, ro⟩ := R.ofRef q
    simp only [tyName, ho] at e
    cases o with
    | lst l => cases e; obtain ⟨_, s, _⟩ := ro; exact ⟨.base (.lst s), by decide⟩
    | dk l => cases e; obtain ⟨_, s, _⟩ := ro; exact ⟨.base (.dK s), by decide⟩
    | dt l => cases e; obtain ⟨_, s, _⟩ := ro; exact ⟨.base (.dT s), by decide⟩
    | _ => cases e
  | _ => cases e
def mIsi (u : String) (m : ME) : ME := fun μ h => (m μ h).bind fun x h1 => match tyName h1 x with
  | some t => rB (instB t u) h1
  | none => .bad
theorem re_isi {u : String} {y : Str} {p p2 : Pos} (hu : u ∈ ["bool", "int", "str", "list", "tuple", "dict"]) (hg : Gl X "isinstance") (hm : X.mg "isinstance" = none) (hgy : Gl X y) (hmy : X.mg y = none) (hby : bootBuiltins y = some (.type u)) (ha : RE cn X a ma)
    (hny : y ≠ "__name__" := by decide) (hdy : (y == ("__debug__" : Str)) = false := by decide)
    (he : starEach (a :: [.Name y p2]) X.env = (false, eval a X.env) :: starEach [.Name y p2] X.env := by rfl) (hpl : (backTo pos (starEach [.Name y p2] X.env)).any (·.1) = false := by rfl) :
    RE cn X (.Call (.Name "isinstance" p) [a, .Name y p2] [] pos) (mIsi u ma) := by
  obtain ⟨t, pp, s⟩ := ha.ex
  refine .mk ⟨_, pe_callB call_isi hg hm PyProof.Rows.boot_isinstance (pa_cons pp (hs := he) (pa_cons (pe_bltn hgy hmy hby (show RelV (.ty u) _ from rfl) hny hdy) pa_nil)) (by decide) (by decide) he hpl, fun W h H μ σ Q R S P => ?_⟩
  refine s W h H μ σ _ R S (P.bnd fun x h1 W1 H1 v _ E1 R1 r1 P1 => ?_)
  split at P1
  · rename_i t e
    obtain ⟨h1, h2⟩ := tyName_rv R1 r1 e
    exact ⟨v, .ty u, .type t, .type u, _, rfl, .ty u, h1, kit_of h2 hu, pB R1 P1⟩
  · exact P1.elim

/-! ### methods of built-in types -/
def MtdM (G : Gx) (T : String) (r : V → List V → Hp → VK → Prop) (f : MV → List MV → MH → R MV) : Prop := ∀ W h H x us v vs Q, Rel G W h H → RV G W x v → RVs G W us vs → PoE G W H (f x us h) Q → r v vs H Q
def isTy (T : String) (h : MH) (m : MV) : Bool := match m with
  | .d (.str _) => T == "str"
  | .d (.list _) => T == "list"
  | .ref i => match h[i]? with
    | some (.lst _) => T == "list"
    | some (.dk _) => T == "dict"
    | some (.dt _) => T == "dict"
    | _ => false
  | _ => false
theorem isTy_ok {T : String} {W : Wd} {H : Hp} {h : MH} {m : MV} {v : V} (R : Rel G W h H) (r : RV G W m v) (e : isTy T h m = true) : tyV G.K T v H := by
  cases r with
  | d q =>
    cases q with
    | str => exact (show T = "str" by simpa [isTy] using e)
    | lst s t => exact .inl ⟨by simpa [isTy] using e, _, SqL.of (R.sub _ _ s)⟩
    | _ => simp [isTy] at e
  | ref q =>
    obtain ⟨o, ho, ro⟩ := R.ofRef q
    simp only [isTy, ho] at e
    cases o with
    | lst l => obtain ⟨_, s, _⟩ := ro; exact .inl ⟨by simpa using e, _, SqL.of s⟩
    | dk l => obtain ⟨_, s, _⟩ := ro; exact .inr (.inr (.inl ⟨by simpa using e, .inl ⟨_, s⟩⟩))
    | dt l => obtain ⟨_, s, _⟩ := ro; exact .inr (.inr (.inl ⟨by simpa using e, .inr ⟨_, s⟩⟩))
    | _ => simp at e
  | _ => simp [isTy] at e
def mBM (T : String) (f : MV → List MV → MH → R MV) (o : ME) (m : MA) : ME := fun μ h => (o μ h).bind fun x h1 => if isTy T h1 x then (m μ h1).bind fun us h2 => f x us h2 else .bad
theorem re_bm {T id : String} {name : Str} {o : Expr} {apos cpos : Pos} {r : V → List V → Hp → VK → Prop} {f : MV → List MV → MH → R MV} {mo : ME} (pa : PlainAttrs T) (slot : Slot T name id) (hty : typeOf (.builtin id) = pure (.type "method_descriptor")) (hm : MtR X id r) (fm : MtdM (gx X cn) T r f) (ho : RE cn X o mo) (ha : RA cn X (e :: es) mas)
    (hbase : attributeBase o name X.env (eval o X.env) = eval o X.env := by rfl)
    (hfew : ((backTo cpos (starEach (e :: es) X.env)).all (fun x => !x.1) && (backToKw cpos (keywordEach [] X.env)).all (fun x => x.1.isSome)
      && decide ((e :: es).length + ([] : List Keyword).length + (if ([] : List Keyword).isEmpty then 0 else 1) < 30)) = true := by rfl)
    (hline : (apos.endLine == cpos.line) = true := by rfl) (hs : starEach (e :: es) X.env = (false, eval e X.env) :: starEach es X.env := by rfl) (hplain : (backTo cpos (starEach es X.env)).any (·.1) = false := by rfl) :
    RE cn X (.Call (.Attribute o name apos) (e :: es) [] cpos) (mBM T f mo mas) := by
  obtain ⟨t1, p1, s1⟩ := ho.ex
  obtain ⟨t2, p2, s2⟩ := ha.ex
  refine .mk ⟨_, pe_bm pa slot hty hm p1 p2 hbase hfew hline hs hplain, fun W h H μ σ Q R S P => ?_⟩
  refine s1 W h H μ σ _ R S (P.bnd fun x h1 W1 H1 v _ E1 R1 r1 P1 => ?_)
  split at P1
  · rename_i c
    refine ⟨isTy_ok R1 r1 c, ?_⟩
    exact s2 W1 h1 H1 μ σ _ R1 (S.ext E1) (P1.bnd fun us h2 W2 H2 vs _ E2 R2 r2 P2 => fm W2 h2 H2 x us v vs Q R2 (r1.ext E2) r2 P2)
  · exact P1.elim
theorem re_bm0 {T id : String} {name : Str} {o : Expr} {apos cpos : Pos} {r : V → List V → Hp → VK → Prop} {f : MV → List MV → MH → R MV} {mo : ME} (pa : PlainAttrs T) (slot : Slot T name id) (hty : typeOf (.builtin id) = pure (.type "method_descriptor")) (hm : MtR X id r) (fm : MtdM (gx X cn) T r f) (ho : RE cn X o mo)
    (hbase : attributeBase o name X.env (eval o X.env) = eval o X.env := by rfl) (hline : (apos.endLine == cpos.line) = true := by rfl) : RE cn X (.Call (.Attribute o name apos) [] [] cpos) (mBM T f mo mNil) := by
  obtain ⟨t1, p1, s1⟩ := ho.ex
  refine .mk ⟨_, pe_bm0 pa slot hty hm p1 hbase hline, fun W h H μ σ Q R S P => ?_⟩
  refine s1 W h H μ σ _ R S (P.bnd fun x h1 W1 H1 v _ E1 R1 r1 P1 => ?_)
  split at P1
  · rename_i c
    exact ⟨isTy_ok R1 r1 c, fm W1 h1 H1 x [] v [] Q R1 r1 .nil P1⟩
  · exact P1.elim
/-- the list that is written: a list of the heap by its number -/
def wlst (h : MH) : MV → Option (Nat × List MV)
  | .ref i => match h[i]? with
    | some (.lst l) => some (i, l)
    | _ => none
  | _ => none
theorem wlst_ok {W : Wd} {H : Hp} {h : MH} {m : MV} {v : V} {i : Nat} {l : List MV} (R : Rel G W h H) (r : RV G W m v) (e : wlst h m = some (i, l)) : ∃ a xs, v = .ref a ∧ W.ρ[i]? = some a ∧ H a = some (.lst xs) ∧ RVs G W l xs := by
  cases r with
  | @ref j a q =>
    obtain ⟨o, ho, ro⟩ := R.ofRef q
    simp only [wlst, ho] at e
    cases o with
    | lst l' => cases e; obtain ⟨xs, s, t⟩ := ro; exact ⟨a, xs, rfl, q, s, t⟩
    | _ => cases e
  | _ => simp [wlst] at e
theorem pW {W : Wd} {H : Hp} {h : MH} {i : Nat} {a : Addr} {l : List MV} {xs : List V} (R : Rel G W h H) (q : W.ρ[i]? = some a) (r : RVs G W l xs) : Rel G W (h.set i (.lst l)) (upd H a (.lst xs)) ∧ Ext W H W (upd H a (.lst xs)) :=
  R.put q (.lst xs) (.lst l) ⟨xs, upd_same, r⟩
def fAppend (x : MV) (us : List MV) (h : MH) : R MV := match wlst h x, us with
  | some (i, l), [y] => if l.length < szL then rN (h.set i (.lst (l ++ [y]))) else .bad
  | _, _ => .bad
theorem mm_append : MtdM G "list" rAppend fAppend := by
  intro W h H x us v vs Q R rx rs P
  unfold fAppend at P
  split at P
  · rename_i i l y e
    obtain ⟨a, xs, rfl, q, s, t⟩ := wlst_ok R rx e
    obtain ⟨w, rfl, ry⟩ := rs.one
    split at P
    · rename_i c
      obtain ⟨R', E'⟩ := pW R q (t.app (.cons ry .nil))
      exact ⟨a, xs, w, rfl, rfl, s, by rw [← t.length, ← szL_eq]; exact c, P.ok' E' R' (.d .non)⟩
    · exact P.elim
  · exact P.elim
def fInsert (x : MV) (us : List MV) (h : MH) : R MV := match wlst h x, us with
  | some (i, l), [.d (.int k), y] => if l.length < szL ∧ 0 ≤ k ∧ k ≤ 100000000 then rN (h.set i (.lst (l.take k.toNat ++ [y] ++ l.drop k.toNat))) else .bad
  | _, _ => .bad
def fPop (x : MV) (us : List MV) (h : MH) : R MV := match wlst h x, us with
  | some (i, l), [] => match l[l.length - 1]? with
    | some y => .ok y (h.set i (.lst l.dropLast))
    | none => .bad
  | _, _ => .bad
theorem mm_insert : MtdM G "list" (fun x vs H Q => ∃ (l : Addr) (xs : List V) (i : Int) (y : V), x = .ref l ∧ vs = [.int i, y] ∧ H l = some (.lst xs) ∧ xs.length < sizeLine ∧ 0 ≤ i ∧ i < 2 ^ 63 ∧
    Q .non (upd H l (.lst (xs.take i.toNat ++ [y] ++ xs.drop i.toNat)))) fInsert := by
  intro W h H x us v vs Q R rx rs P
  unfold fInsert at P
  split at P
  · rename_i i l k y e
    obtain ⟨a, xs, rfl, q, s, t⟩ := wlst_ok R rx e
    obtain ⟨w, w2, rfl, rk, ry⟩ := rs.two
    rw [rk.int_inv]
    split at P
    · rename_i c
      obtain ⟨R', E'⟩ := pW R q (((t.take k.toNat).app (.cons ry .nil)).app (t.drop k.toNat))
      exact ⟨a, xs, k, w2, rfl, rfl, s, by rw [← t.length, ← szL_eq]; exact c.1, c.2.1, by omega, P.ok' E' R' (.d .non)⟩
    · exact P.elim
  · exact P.elim
theorem RVs.dropLast {W : Wd} {l : List MV} {vs : List V} (r : RVs G W l vs) : RVs G W l.dropLast vs.dropLast := by
  rw [List.dropLast_eq_take, List.dropLast_eq_take, r.length]
  exact r.take _
theorem mm_pop : MtdM G "list" rPop fPop := by
  intro W h H x us v vs Q R rx rs P
  unfold fPop at P
  split at P
  · rename_i i l e
    obtain ⟨a, xs, rfl, q, s, t⟩ := wlst_ok R rx e
    cases rs
    split at P
    · rename_i y ey
      obtain ⟨w, ew, rw'⟩ := t.get ey
      obtain ⟨R', E'⟩ := pW R q t.dropLast
      exact ⟨a, xs, w, rfl, rfl, s, by rw [← t.length]; exact ew, P.ok' E' R' rw'⟩
    · exact P.elim
  · exact P.elim
def fPopAt (x : MV) (us : List MV) (h : MH) : R MV := match wlst h x, us with
  | some (i, l), [.d (.int k)] => if 0 ≤ k ∧ k < l.length ∧ l.length < szL then match l[k.toNat]? with
      | some y => .ok y (h.set i (.lst (l.eraseIdx k.toNat)))
      | none => .bad
    else .bad
  | _, _ => .bad
theorem RVs.erase {W : Wd} : ∀ {l : List MV} {vs : List V} (n : Nat), RVs G W l vs → RVs G W (l.eraseIdx n) (vs.eraseIdx n)
  | [], _, _, .nil => by simpa using RVs.nil
  | _ :: _, _, 0, .cons a b => b
  | _ :: _, _, n + 1, .cons a b => .cons a (b.erase n)
theorem mm_popAt : MtdM G "list" rPopAt fPopAt := by
  intro W h H x us v vs Q R rx rs P
  unfold fPopAt at P
  split at P
  · rename_i i l k e
    obtain ⟨a, xs, rfl, q, s, t⟩ := wlst_ok R rx e
    obtain ⟨w, rfl, ry⟩ := rs.one
    rw [ry.int_inv]
    split at P
    · rename_i c
      split at P
      · rename_i y ey
        obtain ⟨w, ew, rw'⟩ := t.get ey
        obtain ⟨R', E'⟩ := pW R q (t.erase k.toNat)
        have hz : szL < 2 ^ 63 := by decide
        refine ⟨a, xs, k, k.toNat, w, rfl, rfl, s, by omega, by omega, ?_, ew, P.ok' E' R' rw'⟩
        rw [← t.length]
        exact PySem.seqIndex_of c.1 c.2.1
      · exact P.elim
    · exact P.elim
  · exact P.elim
def fExtend (x : MV) (us : List MV) (h : MH) : R MV := match wlst h x, us with
  | some (i, l), [y] => match lstOf h y with
    | some k => if isRl y then .bad else if l.length + k.length ≤ szL then rN (h.set i (.lst (l ++ k))) else .bad
    | none => .bad
  | _, _ => .bad
theorem mm_extend : MtdM G "list" rExtend fExtend := by
  intro W h H x us v vs Q R rx rs P
  unfold fExtend at P
  split at P
  · rename_i i l y e
    obtain ⟨a, xs, rfl, q, s, t⟩ := wlst_ok R rx e
    obtain ⟨w, rfl, ry⟩ := rs.one
    split at P
    · rename_i k ek
      split at P
      · exact P.elim
      · rename_i hn
        obtain ⟨b, ys, rfl, hb, rb⟩ := lstOf_trk R ry ek (isRl_no (by simpa using hn))
        split at P
        · rename_i c
          obtain ⟨R', E'⟩ := pW R q (t.app rb)
          exact ⟨a, b, xs, ys, rfl, rfl, s, hb, by rw [← t.length, ← rb.length, ← szL_eq]; exact c, P.ok' E' R' (.d .non)⟩
        · exact P.elim
    · exact P.elim
  · exact P.elim
def fClear (x : MV) (us : List MV) (h : MH) : R MV := match wlst h x, us with
  | some (i, l), [] => rN (h.set i (.lst []))
  | _, _ => .bad
theorem mm_clear : MtdM G "list" rClear fClear := by
  intro W h H x us v vs Q R rx rs P
  unfold fClear at P
  split at P
  · rename_i i l e
    obtain ⟨a, xs, rfl, q, s, t⟩ := wlst_ok R rx e
    cases rs
    obtain ⟨R', E'⟩ := pW R q (.nil : RVs G W [] [])
    exact ⟨a, xs, rfl, rfl, s, P.ok' E' R' (.d .non)⟩
  · exact P.elim
end
end Mini
/-! # Mini: targets, statements, loops, comprehensions -/
namespace Mini
open PySem L2

/-! ## equality of what is written, as a test -/
mutual
def beqP : PyData → PyData → Bool
  | .none, .none => true
  | .bool a, .bool b => a == b
  | .int a, .int b => a == b
  | .str a, .str b => a == b
  | .list a, .list b => beqPs a b
  | .tuple a, .tuple b => beqPs a b
  | .dict a, .dict b => beqPk a b
  | _, _ => false
def beqPs : List PyData → List PyData → Bool
  | [], [] => true
  | a :: l, b :: k => beqP a b && beqPs l k
  | _, _ => false
def beqPk : List (PyData × PyData) → List (PyData × PyData) → Bool
  | [], [] => true
  | (a, a') :: l, (b, b') :: k => beqP a b && beqP a' b' && beqPk l k
  | _, _ => false
end
mutual
def beqM : MV → MV → Bool
  | .d a, .d b => beqP a b
  | .ref a, .ref b => a == b
  | .glb a, .glb b => a == b
  | .tup a, .tup b => beqMs a b
  | .rl a, .rl b => a == b
  | _, _ => false
def beqMs : List MV → List MV → Bool
  | [], [] => true
  | a :: l, b :: k => beqM a b && beqMs l k
  | _, _ => false
end
mutual
theorem beqP_eq : ∀ {a b : PyData}, beqP a b = true → a = b
  | .none, b, h => by cases b <;> simp_all [beqP]
  | .bool a, b, h => by cases b <;> simp_all [beqP]
  | .int a, b, h => by cases b <;> simp_all [beqP]
  | .str a, b, h => by cases b <;> simp_all [beqP]
  | .list a, b, h => by
    cases b with
    | list b => rw [beqPs_eq (a := a) (b := b) (by simpa [beqP] using h)]
    | _ => simp [beqP] at h
  | .tuple a, b, h => by
    cases b with
    | tuple b => rw [beqPs_eq (a := a) (b := b) (by simpa [beqP] using h)]
    | _ => simp [beqP] at h
  | .dict a, b, h => by
    cases b with
    | dict b => rw [beqPk_eq (a := a) (b := b) (by simpa [beqP] using h)]
    | _ => simp [beqP] at h
theorem beqPs_eq : ∀ {a b : List PyData}, beqPs a b = true → a = b
  | [], b, h => by cases b <;> simp_all [beqPs]
  | x :: l, b, h => by
    cases b with
    | nil => simp [beqPs] at h
    | cons y k =>
      have h' : beqP x y = true ∧ beqPs l k = true := by simpa [beqPs] using h
      rw [beqP_eq h'.1, beqPs_eq h'.2]
theorem beqPk_eq : ∀ {a b : List (PyData × PyData)}, beqPk a b = true → a = b
  | [], b, h => by cases b <;> simp_all [beqPk]
  | (x, x') :: l, b, h => by
    cases b with
    | nil => simp [beqPk] at h
    | cons y k =>
      obtain ⟨y, y'⟩ := y
      have h' : (beqP x y = true ∧ beqP x' y' = true) ∧ beqPk l k = true := by simpa [beqPk] using h
      rw [beqP_eq h'.1.1, beqP_eq h'.1.2, beqPk_eq h'.2]
end
mutual
theorem beqP_rfl : ∀ a : PyData, beqP a a = true
  | .none => rfl
  | .bool a => by simp [beqP]
  | .int a => by simp [beqP]
  | .str a => by simp [beqP]
  | .list a => by simp [beqP, beqPs_rfl a]
  | .tuple a => by simp [beqP, beqPs_rfl a]
  | .dict a => by simp [beqP, beqPk_rfl a]
theorem beqPs_rfl : ∀ a : List PyData, beqPs a a = true
  | [] => rfl
  | x :: l => by simp [beqPs, beqP_rfl x, beqPs_rfl l]
theorem beqPk_rfl : ∀ a : List (PyData × PyData), beqPk a a = true
  | [] => rfl
  | (x, y) :: l => by simp [beqPk, beqP_rfl x, beqP_rfl y, beqPk_rfl l]
end
mutual
theorem beqM_eq : ∀ {a b : MV}, beqM a b = true → a = b
  | .d a, b, h => by
    cases b with
    | d b => rw [beqP_eq (a := a) (b := b) (by simpa [beqM] using h)]
    | _ => simp [beqM] at h
  | .ref a, b, h => by cases b <;> simp_all [beqM]
  | .glb a, b, h => by cases b <;> simp_all [beqM]
  | .rl a, b, h => by cases b <;> simp_all [beqM]
  | .tup a, b, h => by
    cases b with
    | tup b => rw [beqMs_eq (a := a) (b := b) (by simpa [beqM] using h)]
    | _ => simp [beqM] at h
theorem beqMs_eq : ∀ {a b : List MV}, beqMs a b = true → a = b
  | [], b, h => by cases b <;> simp_all [beqMs]
  | x :: l, b, h => by
    cases b with
    | nil => simp [beqMs] at h
    | cons y k =>
      have h' : beqM x y = true ∧ beqMs l k = true := by simpa [beqMs] using h
      rw [beqM_eq h'.1, beqMs_eq h'.2]
end
mutual
theorem beqM_rfl : ∀ a : MV, beqM a a = true
  | .d a => by simp [beqM, beqP_rfl a]
  | .ref a => by simp [beqM]
  | .glb a => by simp [beqM]
  | .rl a => by simp [beqM]
  | .tup a => by simp [beqM, beqMs_rfl a]
theorem beqMs_rfl : ∀ a : List MV, beqMs a a = true
  | [] => rfl
  | x :: l => by simp [beqMs, beqM_rfl x, beqMs_rfl l]
end

section
variable {cn : Nat → Str × List Str} {X : Cx} {a b c e : Expr} {es : List Expr} {ma mb mc : ME} {mas : MA} {pos : Pos} {G : Gx} {mg : MG} {mt : MT} {ms mu : MS} {st : Stmt} {rest : List Stmt}

/-! ## targets -/
def gNm (i : Nat) : MG := fun v μ h => .ok (μ.set i (some v)) h
theorem rg_name {i : Nat} {x : Str} (hN : X.N.Nodup) (hi : X.N[i]? = some x) (hx : Loc X.env.scope x) (hf : X.fn x = true ∨ X.env.scope.names.lookup x = some .local := by first | exact .inl rfl | exact .inr rfl | assumption) : RG cn X (.Name x pos) (gNm i) :=
  .mk ⟨_, pg_name hN hi hx hf, fun W h H μ σ v x Q R S r P => P.ok R (S.set r)⟩
abbrev MGs := List MV → MSt → MH → R MSt
def SimGs (G : Gx) (t : TGs) (m : MGs) : Prop := ∀ W h H μ σ v x Q, Rel G W h H → RSl G W μ σ → RVs G W v x → Po G (RSl G) W H (m v μ h) Q → t x σ H Q
def RGs (cn : Nat → Str × List Str) (X : Cx) (tgs : List Expr) (m : MGs) : Prop := ∃ t, PGs X tgs t ∧ SimGs (gx X cn) t m
def gsNil : MGs := fun l μ h => match l with
  | [] => .ok μ h
  | _ => .bad
def gsCons (g : MG) (r : MGs) : MGs := fun l μ h => match l with
  | x :: l => (g x μ h).bind fun μ1 h1 => r l μ1 h1
  | [] => .bad
theorem rgs_nil : RGs cn X [] gsNil := ⟨_, pgs_nil, fun W h H μ σ v x Q R S r P => by
  cases r with
  | nil => exact ⟨rfl, P.ok R S⟩
  | cons a b => exact P.elim⟩
theorem rgs_cons {m : MGs} (h1 : RG cn X e mg) (h2 : RGs cn X es m) (hs : (assignEach (e :: es) X.env).map (·.2) = assign e X.env :: (assignEach es X.env).map (·.2) := by rfl) : RGs cn X (e :: es) (gsCons mg m) := by
  obtain ⟨t1, p1, s1⟩ := h1.ex
  obtain ⟨t2, p2, s2⟩ := h2
  refine ⟨_, pgs_cons p1 p2 hs, fun W h H μ σ v x Q R S r P => ?_⟩
  cases r with
  | nil => exact P.elim
  | cons q r =>
    refine ⟨_, _, rfl, s1 W h H μ σ _ _ _ R S q (P.bnd fun μ1 h1 W1 H1 σ1 _ E1 R1 S1 P1 => ?_)⟩
    exact s2 W1 h1 H1 μ1 σ1 _ _ _ R1 S1 (r.ext E1) P1
def gTp (n : Nat) (m : MGs) : MG := fun v μ h => match tupOf v with
  | some l => if l.length = n then m l μ h else .bad
  | none => .bad
theorem rg_tup {k n : Nat} {m : MGs} (hc : X.calm = true) (h : RGs cn X es m) (hn : (assignEach es X.env).length = n := by rfl) (hst : (assignEach es X.env).findIdx? (·.1) = none := by rfl) : RG cn X (.Tuple es k pos) (gTp n m) := by
  obtain ⟨t, p, s⟩ := h
  refine .mk ⟨_, pg_tup hc p hn hst, fun W h H μ σ v x Q R S r P => ?_⟩
  unfold gTp at P
  split at P
  · rename_i l e
    obtain ⟨a, xs, rfl, ha, ra⟩ := tupOf_ok R r e
    split at P
    · rename_i c
      exact ⟨a, xs, rfl, SqT.of ha, by rw [← ra.length]; exact c, s W h H μ σ _ _ _ R S ra P⟩
    · exact P.elim
  · exact P.elim
/-- o[i] = v: a list of the heap, a dict of the heap -/
def fSet (o i v : MV) (h : MH) : R Unit := match o with
  | .ref j => match h[j]? with
    | some (.lst l) => match i with
      | .d (.int k) => match ixN l.length k with
        | some n => .ok () (h.set j (.lst (l.set n v)))
        | none => .bad
      | _ => .bad
    | some (.dk kvs) => match keyOf i with
      | some k => if kvs.length < szL then .ok () (h.set j (.dk (dput kvs k v))) else .bad
      | none => .bad
    | some (.dt kvs) => match keysOf i with
      | some k => if kvs.length < szL then .ok () (h.set j (.dt (dput kvs k v))) else .bad
      | none => .bad
    | _ => .bad
  | _ => .bad
def rSetAll : TSet := fun o i v H Q => rSetL o i v H Q ∨ ∃ a H4, o = .ref a ∧ DPut H a i v H4 ∧ Q H4
theorem pset_all (hu : X.A.units + 1 < cLine) : PSet X rSetAll := by
  intro pins s σ H o i v ov iv u Q I ro ri rv h
  rcases h with h | ⟨a, H4, rfl, g, q⟩
  · exact set_list pins s σ H o i v ov iv u Q I ro ri rv h
  · cases (show ov = Value.ref a from ro)
    exact d_setItem hu I g ri rv fun s4 I4 => ⟨H4, I4, q⟩
theorem sim_set {W : Wd} {h : MH} {H : Hp} {o i v : MV} {x y z : V} {Q : Hp → Prop} (R : Rel G W h H) (rx : RV G W o x) (ry : RV G W i y) (rz : RV G W v z) (P : Po G (fun _ (_ _ : Unit) => True) W H (fSet o i v h) (fun _ => Q)) : rSetAll x y z H Q := by
  unfold fSet at P
  split at P
  · rename_i j
    cases rx with
    | @ref _ a q =>
      obtain ⟨ob, ho, ro⟩ := R.ofRef q
      rw [ho] at P
      cases ob with
      | lst l =>
        simp only at P
        obtain ⟨xs, s, t⟩ := ro
        split at P
        · rename_i k
          split at P
          · rename_i n en
            rw [ry.int_inv]
            obtain ⟨R', E'⟩ := pW R q (t.set (i := n) rz)
            exact .inl ⟨a, xs, k, n, rfl, rfl, s, by rw [← t.length]; exact en, P.ok' (x := ()) E' R' trivial⟩
          · exact P.elim
        · exact P.elim
      | dk kvs =>
        simp only at P
        obtain ⟨kvs', hk, rk⟩ := ro
        split at P
        · rename_i k ek
          split at P
          · rename_i c
            rw [keyOf_rv ry ek]
            have rk' : RK G W kvs kvs' := ⟨rk.1, rk.2⟩
            have put := rk'.put (k := k) rz
            obtain ⟨R', E'⟩ := R.put q (.dK (putK kvs' k z)) (.dk (dput kvs k v)) ⟨_, upd_same, put.1, put.2⟩
            exact .inr ⟨a, _, rfl, DPut.k hk (by rw [← rk'.length, ← szL_eq]; exact c), P.ok' (x := ()) E' R' trivial⟩
          · exact P.elim
        · exact P.elim
      | dt kvs =>
        simp only at P
        obtain ⟨kvs', hk, rk⟩ := ro
        split at P
        · rename_i k ek
          split at P
          · rename_i c
            obtain ⟨b, rfl, hb⟩ := keysOf_rv R ry ek
            have rk' : RK G W kvs kvs' := ⟨rk.1, rk.2⟩
            have put := rk'.put (k := k) rz
            obtain ⟨R', E'⟩ := R.put q (.dT (putK kvs' k z)) (.dt (dput kvs k v)) ⟨_, upd_same, put.1, put.2⟩
            exact .inr ⟨a, _, rfl, DPut.t hk hb (by rw [← rk'.length, ← szL_eq]; exact c), P.ok' (x := ()) E' R' trivial⟩
          · exact P.elim
        · exact P.elim
      | _ => exact P.elim
  · exact P.elim
def gSb (o i : ME) : MG := fun v μ h => (o μ h).bind fun x h1 => (i μ h1).bind fun y h2 => (fSet x y v h2).bind fun _ h3 => .ok μ h3
theorem rg_sub (hu : X.A.units + 64 < cLine) {o i : Expr} {mo mi : ME} (ho : RE cn X o mo) (hi : RE cn X i mi)
    (ha : ∀ v, assign (.Subscript o i pos) X.env v = (do
      let ov ← holding [v] (eval o X.env)
      let iv ← holding [v, ov] (eval i X.env)
      standAt pos
      holding [v, ov, iv] (setItem ov iv v)
      release [v, ov, iv] []) := by intro _; rfl) : RG cn X (.Subscript o i pos) (gSb mo mi) := by
  obtain ⟨t1, p1, s1⟩ := ho.ex
  obtain ⟨t2, p2, s2⟩ := hi.ex
  refine .mk ⟨_, pg_sub p1 p2 (pset_all (by omega)) ha, fun W h H μ σ v z Q R S r P => ?_⟩
  refine s1 W h H μ σ _ R S (P.bnd fun x h1 W1 H1 w _ E1 R1 r1 P1 => ?_)
  refine s2 W1 h1 H1 μ σ _ R1 (S.ext E1) (P1.bnd fun y h2 W2 H2 w2 _ E2 R2 r2 P2 => ?_)
  refine sim_set (G := gx X cn) R2 (r1.ext E2) r2 ((r.ext E1).ext E2) (P2.bnd fun _ h3 W3 H3 _ _ E3 R3 _ P3 => ?_)
  exact P3.ok R3 ((S.ext E1).ext (E2.trans E3))

/-! ## statements -/
def mNext : MS := fun μ h => .nx μ h
def mSeq (a b : MS) : MS := fun μ h => match a μ h with
  | .nx μ' h' => b μ' h'
  | .rt v h' => .rt v h'
  | .bk μ' h' => .bk μ' h'
  | .ct μ' h' => .ct μ' h'
  | .bad => .bad
def mBreak : MS := fun μ h => .bk μ h
def mCont : MS := fun μ h => .ct μ h
def mNever : MS := fun _ _ => .bad
def mExpr (m : ME) : MS := fun μ h => (m μ h).thn fun _ h1 => .nx μ h1
def mRet (m : ME) : MS := fun μ h => (m μ h).thn fun x h1 => .rt x h1
def mIfS (t : MT) (a b : MS) : MS := fun μ h => (t μ h).thn fun c h1 => match c with
  | true => a μ h1
  | false => b μ h1
def mAsg (m : ME) (g : MG) : MS := fun μ h => (m μ h).thn fun x h1 => (g x μ h1).thn fun μ' h2 => .nx μ' h2
theorem rb_nil : RB cn X [] mNext := .mk ⟨_, pss_nil, fun W h H μ σ D R S P => P W H σ (Ext.refl _ _) R S⟩
theorem PoS.seq {W : Wd} {H : Hp} {D : Ends} {m n : MS} {μ : MSt} {h : MH} {t : TS} (s : SimS G t n) (P : PoS G W H (mSeq m n μ h) D) : PoS G W H (m μ h) { D with nx := t D } := by
  unfold mSeq at P
  cases q : m μ h with
  | nx μ' h' =>
    rw [q] at P
    exact fun W' H' σ E' R' S' => s W' h' H' μ' σ D R' S' (PoS.ext P E')
  | rt v h' => rw [q] at P; exact P
  | bk μ' h' => rw [q] at P; exact P
  | ct μ' h' => rw [q] at P; exact P
  | bad => rw [q] at P; exact P
theorem rb_cons (h1 : RSt cn X st ms) (h2 : RB cn X rest mu) : RB cn X (st :: rest) (mSeq ms mu) := by
  obtain ⟨t1, p1, s1⟩ := h1.ex
  obtain ⟨t2, p2, s2⟩ := h2.ex
  exact .mk ⟨_, pss_cons p1 p2, fun W h H μ σ D R S P => s1 W h H μ σ _ R S (PoS.seq s2 P)⟩
theorem rb_one (h1 : RSt cn X st ms) : RB cn X [st] ms := by
  obtain ⟨t1, p1, s1⟩ := h1.ex
  exact .mk ⟨_, pss_one p1, s1⟩
theorem rb_never : RB cn X rest mNever := .mk ⟨_, pss_never, fun W h H μ σ D R S P => P⟩
theorem rs_never : RSt cn X st mNever := .mk ⟨_, ps_never, fun W h H μ σ D R S P => P⟩
theorem rs_pass : RSt cn X (.Pass pos) mNext := .mk ⟨_, ps_pass, fun W h H μ σ D R S P => P W H σ (Ext.refl _ _) R S⟩
theorem rs_break : RSt cn X (.Break pos) mBreak := .mk ⟨_, ps_break, fun W h H μ σ D R S P => P W H σ (Ext.refl _ _) R S⟩
theorem rs_cont : RSt cn X (.Continue pos) mCont := .mk ⟨_, ps_continue, fun W h H μ σ D R S P => P W H σ (Ext.refl _ _) R S⟩
theorem rs_expr (he : RE cn X e ma) (hs : swapsWith e none pos.line X.env = pure false := by rfl) : RSt cn X (.Expr e pos) (mExpr ma) := by
  obtain ⟨t, p, s⟩ := he.ex
  refine .mk ⟨_, ps_expr p hs, fun W h H μ σ D R S P => ?_⟩
  refine s W h H μ σ _ R S (P.thn fun x h1 W1 H1 v _ E1 R1 r1 P1 => ?_)
  exact P1 W1 H1 σ (Ext.refl _ _) R1 (S.ext E1)
theorem rs_ret (he : RE cn X e ma) : RSt cn X (.Return (some e) pos) (mRet ma) := by
  obtain ⟨t, p, s⟩ := he.ex
  refine .mk ⟨_, ps_ret p, fun W h H μ σ D R S P => ?_⟩
  refine s W h H μ σ _ R S (P.thn fun x h1 W1 H1 v _ E1 R1 r1 P1 => ?_)
  exact P1 W1 H1 v (Ext.refl _ _) R1 r1
theorem rs_retN : RSt cn X (.Return none pos) (mRet (mD .none)) := .mk ⟨_, ps_retN, fun W h H μ σ D R S P => P W H .non (Ext.refl _ _) R (.d .non)⟩
theorem rs_if {xs ys : List Stmt} (hc : RT cn X c mt) (ha : RB cn X xs ms) (hb : RB cn X ys mu) : RSt cn X (.If c xs ys pos) (mIfS mt ms mu) := by
  obtain ⟨t, p, s⟩ := hc.ex
  obtain ⟨t1, p1, s1⟩ := ha.ex
  obtain ⟨t2, p2, s2⟩ := hb.ex
  refine .mk ⟨_, ps_if p p1 p2, fun W h H μ σ D R S P => ?_⟩
  refine s W h H μ σ _ R S (P.thn fun x h1 W1 H1 v _ E1 R1 r1 P1 => ?_)
  subst r1
  cases x with
  | true => rw [if_pos rfl]; exact s1 W1 h1 H1 μ σ D R1 (S.ext E1) P1
  | false => rw [if_neg (by decide)]; exact s2 W1 h1 H1 μ σ D R1 (S.ext E1) P1
theorem rs_asg {tg : Expr} (he : RE cn X e ma) (hg : RG cn X tg mg) (hs : swapsWithSole [tg] e pos.line X.env = pure false := by rfl) (hw : swappedStores [tg] e X.env = pure none := by rfl)
    (h1 : (assignEach [tg] X.env).map (·.2) = [assign tg X.env] := by rfl) : RSt cn X (.Assign [tg] e pos) (mAsg ma mg) := by
  obtain ⟨t, p, s⟩ := he.ex
  obtain ⟨t1, p1, s1⟩ := hg.ex
  refine .mk ⟨_, ps_asg p p1 hs hw h1, fun W h H μ σ D R S P => ?_⟩
  refine s W h H μ σ _ R S (P.thn fun x h1 W1 H1 v _ E1 R1 r1 P1 => ?_)
  refine s1 W1 h1 H1 μ σ x v _ R1 (S.ext E1) r1 (P1.thn fun μ2 h2 W2 H2 σ2 _ E2 R2 S2 P2 => ?_)
  exact P2 W2 H2 σ2 (Ext.refl _ _) R2 S2
/-- a, b = x, y of plain local names -/
def mPar (i j : Nat) (m : MA) : MS := fun μ h => (m μ h).thn fun l h1 => match l with
  | [v, w] => .nx ((μ.set i (some v)).set j (some w)) h1
  | _ => .bad
theorem rs_par {i j : Nat} {x y : Str} {px py pt : Pos} {kt k2 pt2} (hc : X.calm = true) (hN : X.N.Nodup) (hi : X.N[i]? = some x) (hj : X.N[j]? = some y) (hij : i ≠ j)
    (hx : X.env.scope.names.lookup x = some .local) (hy : X.env.scope.names.lookup y = some .local) (ha : RA cn X [a, b] mas)
    (hw : swappedStores [.Tuple [.Name x px, .Name y py] kt pt] (.Tuple [a, b] k2 pt2) X.env = pure (some [x, y]))
    (hs : swapsWithSole [.Tuple [.Name x px, .Name y py] kt pt] (.Tuple [a, b] k2 pt2) pos.line X.env = pure false := by rfl) :
    RSt cn X (.Assign [.Tuple [.Name x px, .Name y py] kt pt] (.Tuple [a, b] k2 pt2) pos) (mPar i j mas) := by
  obtain ⟨t, p, s⟩ := ha.ex
  refine .mk ⟨_, ps_par hc hN hi hj hij hx hy p hw hs, fun W h H μ σ D R S P => ?_⟩
  refine s W h H μ σ _ R S (P.thn fun l h1 W1 H1 vs _ E1 R1 r1 P1 => ?_)
  split at P1
  · obtain ⟨v, w, rfl, rv, rw'⟩ := r1.two
    exact ⟨v, w, rfl, P1 W1 H1 _ (Ext.refl _ _) R1 (((S.ext E1).set rv).set rw')⟩
  · exact P1.elim
/-- x += e of whole numbers -/
def mAug (f : Int → Int → Int) (i : Nat) (m : ME) : MS := fun μ h => match μ[i]? with
  | some (some (.d (.int x))) => (m μ h).thn fun y h1 => match y with
    | .d (.int y) => .nx (μ.set i (some (.d (.int (f x y))))) h1
    | _ => .bad
  | _ => .bad
theorem rs_aug {i : Nat} {x : Str} {op : Operator} {f : Int → Int → Int} {pos' : Pos} (hN : X.N.Nodup) (hi : X.N[i]? = some x) (hx : Loc X.env.scope x) (ho : PIp X op (ipI f)) (he : RE cn X e ma) (hf : X.fn x = true ∨ X.env.scope.names.lookup x = some .local := by first | exact .inl rfl | exact .inr rfl | assumption) :
    RSt cn X (.AugAssign (.Name x pos') op e pos) (mAug f i ma) := by
  obtain ⟨t, p, s⟩ := he.ex
  refine .mk ⟨_, ps_aug hN hi hx p ho hf, fun W h H μ σ D R S P => ?_⟩
  unfold mAug at P
  split at P
  · rename_i x' ex
    obtain ⟨v, ev, rv⟩ := S.get ex
    refine ⟨v, ev, s W h H μ σ _ R S (P.thn fun y h1 W1 H1 w _ E1 R1 r1 P1 => ?_)⟩
    split at P1
    · rw [rv.int_inv, r1.int_inv]
      exact ⟨_, _, rfl, rfl, P1 W1 H1 _ (Ext.refl _ _) R1 ((S.ext E1).set (.d (.int _)))⟩
    · exact P1.elim
  · exact P.elim

/-! ## while -/
def mWhile (t : MT) (b : MS) : Nat → MS
  | 0 => fun _ _ => .bad
  | n + 1 => fun μ h => (t μ h).thn fun c h1 => match c with
    | true => match b μ h1 with
      | .nx μ' h' => mWhile t b n μ' h'
      | .ct μ' h' => mWhile t b n μ' h'
      | .bk μ' h' => .nx μ' h'
      | .rt v h' => .rt v h'
      | .bad => .bad
    | false => .nx μ h1
theorem rs_while (n : Nat) {body : List Stmt} (hp : PassesOwn (model X.prog X.w) X.A X.env X.xe) (hc : RT cn X c mt) (hb : RB cn X body ms) : RSt cn X (.While c body [] pos) (mWhile mt ms n) := by
  obtain ⟨t, p, s⟩ := hc.ex
  obtain ⟨t1, p1, s1⟩ := hb.ex
  refine .mk ⟨_, ps_while hp p p1, fun W h H μ σ D R S P => ?_⟩
  refine ⟨fun m σ' H' => ∃ W' h' μ', Rel (gx X cn) W' h' H' ∧ RSl (gx X cn) W' μ' σ' ∧ PoS (gx X cn) W' H' (mWhile mt ms m μ' h') D, ⟨n, W, h, μ, R, S, P⟩, ?_⟩
  rintro m σ1 H1 ⟨W1, h1, μ1, R1, S1, P1⟩
  cases m with
  | zero => exact P1.elim
  | succ m =>
    refine s W1 h1 H1 μ1 σ1 _ R1 S1 (PoS.thn (show PoS (gx X cn) W1 H1 ((mt μ1 h1).thn _) D from P1) fun x h2 W2 H2 v _ E2 R2 r2 P2 => ?_)
    subst r2
    cases x with
    | false => rw [if_neg (by decide)]; exact P2 W2 H2 σ1 (Ext.refl _ _) R2 (S1.ext E2)
    | true =>
      rw [if_pos rfl]
      refine ⟨fun σ' H' => ∃ W' h' μ', Rel (gx X cn) W' h' H' ∧ RSl (gx X cn) W' μ' σ' ∧ PoS (gx X cn) W' H' (mWhile mt ms m μ' h') D, fun σ' H' q => ⟨m, Nat.lt_succ_self _, q⟩, s1 W2 h2 H2 μ1 σ1 _ R2 (S1.ext E2) ?_⟩
      simp only at P2
      cases q : ms μ1 h2 with
      | nx μ' h' => rw [q] at P2; exact fun W' H' σ' E' R' S' => ⟨W', h', μ', R', S', PoS.ext P2 E'⟩
      | ct μ' h' => rw [q] at P2; exact fun W' H' σ' E' R' S' => ⟨W', h', μ', R', S', PoS.ext P2 E'⟩
      | bk μ' h' => rw [q] at P2; exact P2
      | rt v h' => rw [q] at P2; exact P2
      | bad => rw [q] at P2; exact P2

/-! ## what is walked -/
/-- J gives the values xs, as long as chk is true of the heap -/
structure Le (W W' : Wd) : Prop where
  sub : ∀ a o, W.F a = some o → W'.F a = some o
  pre : W.ρ <+: W'.ρ
theorem Ext.le {W W' : Wd} {H H' : Hp} (e : Ext W H W' H') : Le W W' := ⟨e.sub, e.pre⟩
theorem Le.refl (W : Wd) : Le W W := ⟨fun _ _ z => z, List.prefix_rfl⟩
theorem Le.trans {W W1 W2 : Wd} (a : Le W W1) (b : Le W1 W2) : Le W W2 := ⟨fun x o z => b.sub x o (a.sub x o z), a.pre.trans b.pre⟩
theorem RV.to {W W' : Wd} (e : Le W W') {m : MV} {v : V} (r : RV G W m v) : RV G W' m v := r.le e.sub e.pre
theorem RVs.to {W W' : Wd} (e : Le W W') {m : List MV} {v : List V} (r : RVs G W m v) : RVs G W' m v := r.le e.sub e.pre
theorem RSl.to {W W' : Wd} (e : Le W W') {m : MSt} {v : St} (r : RSl G W m v) : RSl G W' m v := r.le e.sub e.pre
def Pres (G : Gx) (W0 : Wd) (J : It) (xs : List MV) (chk : MH → Bool) : Prop := ∀ (i : Nat) (W : Wd) (h : MH) (H : Hp), Le W0 W → Rel G W h H → chk h = true →
  (∀ m, xs[i]? = some m → J.go i H ∧ ∀ x H', J.yld i H x H' → ∃ W', Ext W H W' H' ∧ Rel G W' h H' ∧ RV G W' m x) ∧ (xs.length ≤ i → J.stop i H)
abbrev MI := MSt → MH → R (List MV × (MH → Bool))
def PoI (G : Gx) (W : Wd) (H : Hp) (r : R (List MV × (MH → Bool))) (Q : It → Hp → Prop) : Prop := match r with
  | .ok p h' => ∀ W' H' J, Ext W H W' H' → Rel G W' h' H' → Pres G W' J p.1 p.2 → Q J H'
  | .bad => False
def SimI (G : Gx) (t : TI) (m : MI) : Prop := ∀ W h H μ σ Q, Rel G W h H → RSl G W μ σ → PoI G W H (m μ h) Q → t σ H Q
def RI (cn : Nat → Str × List Str) (X : Cx) (tg iter : Expr) (m : MI) : Prop := PI X tg iter fun σ H Q => ∃ W h μ, Rel (gx X cn) W h H ∧ RSl (gx X cn) W μ σ ∧ PoI (gx X cn) W H (m μ h) Q
theorem RI.mk {tg iter : Expr} {m : MI} (h : ∃ t, PI X tg iter t ∧ SimI (gx X cn) t m) : RI cn X tg iter m := by
  obtain ⟨t, p, s⟩ := h
  exact ⟨fun pins s0 σ H Q I ⟨W, h, μ, R, S, P⟩ => p.run pins s0 σ H Q I (s W h H μ σ Q R S P)⟩
theorem RI.ex {tg iter : Expr} {m : MI} (h : RI cn X tg iter m) : ∃ t, PI X tg iter t ∧ SimI (gx X cn) t m := ⟨_, h, fun W h H μ σ Q R S P => ⟨W, h, μ, R, S, P⟩⟩
theorem PoI.ext {W W1 : Wd} {H H1 : Hp} {r : R (List MV × (MH → Bool))} {Q : It → Hp → Prop} (p : PoI G W H r Q) (e : Ext W H W1 H1) : PoI G W1 H1 r Q := by
  cases r with
  | ok a h' => exact fun W' H' x e' R' r' => p W' H' x (e.trans e') R' r'
  | bad => exact p
theorem PoI.bnd {α β : Type} {relA : Wd → α → β → Prop} {W : Wd} {H : Hp} {r : R α} {f : α → MH → R (List MV × (MH → Bool))} {Q : It → Hp → Prop} {k : β → Hp → Prop} (p : PoI G W H (r.bind f) Q)
    (hk : ∀ a h1 W1 H1 x, r = .ok a h1 → Ext W H W1 H1 → Rel G W1 h1 H1 → relA W1 a x → PoI G W1 H1 (f a h1) Q → k x H1) : Po G relA W H r k := by
  cases r with
  | ok a h1 => exact fun W1 H1 x e R' ra => hk a h1 W1 H1 x rfl e R' ra (PoI.ext p e)
  | bad => exact p
/-- a list that is walked stays as it is -/
def sameL (v : MV) (l : List MV) (h : MH) : Bool := match v with
  | .ref i => match h[i]? with
    | some (.lst k) => beqMs k l
    | _ => false
  | _ => true
theorem sameL_ok {v : MV} {l : List MV} {h h0 : MH} (e0 : lstOf h0 v = some l) (e : sameL v l h = true) : lstOf h v = some l := by
  unfold sameL at e
  split at e
  · split at e
    · rename_i k ek
      simp only [lstOf, ek]
      rw [beqMs_eq e]
    · cases e
  · rename_i hn
    cases v with
    | ref i => exact absurd rfl (hn i)
    | d p => cases p <;> simpa [lstOf] using e0
    | rl ns => exact e0
    | _ => simp [lstOf] at e0
theorem sameL_ref {i : Nat} {l : List MV} {h : MH} (e : h[i]? = some (.lst l)) : sameL (.ref i) l h = true := by
  simp only [sameL, e]; exact beqMs_rfl l
def mIL (m : ME) : MI := fun μ h => (m μ h).bind fun v h1 => match lstOf h1 v with
  | some l => .ok (l, sameL v l) h1
  | none => .bad
theorem ri_list {tg : Expr} (ha : RE cn X a ma) : RI cn X tg a (mIL ma) := by
  obtain ⟨t, p, s⟩ := ha.ex
  refine .mk ⟨_, pi_list p, fun W h H μ σ Q R S P => ?_⟩
  refine s W h H μ σ _ R S (P.bnd fun x h1 W1 H1 v _ E1 R1 r1 P1 => ?_)
  split at P1
  · rename_i l e
    obtain ⟨a, xs, rfl, hs, ra⟩ := lstOf_ok R1 r1 e
    refine ⟨a, rfl, ⟨xs, hs⟩, P1 W1 H1 _ (Ext.refl _ _) R1 fun i W2 h2 H2 E2 R2 c => ?_⟩
    obtain ⟨a', xs2, ea, hs2, ra2⟩ := lstOf_ok R2 (r1.to E2) (sameL_ok e c)
    cases ea
    refine ⟨fun m hm => ?_, fun hl => ⟨xs2, hs2, by rw [← ra2.length]; exact hl⟩⟩
    obtain ⟨w, hw, rw'⟩ := ra2.get hm
    refine ⟨⟨xs2, w, hs2, hw⟩, fun x H' y => ?_⟩
    obtain ⟨rfl, y⟩ := y
    have := y xs2 hs2
    rw [hw] at this; cases this
    exact ⟨W2, Ext.refl _ _, R2, rw'⟩
  · exact P1.elim
def noChk : MH → Bool := fun _ => true
def mIT (m : ME) : MI := fun μ h => (m μ h).bind fun v h1 => match tupOf v with
  | some l => .ok (l, noChk) h1
  | none => .bad
theorem ri_tup {tg : Expr} (ha : RE cn X a ma) : RI cn X tg a (mIT ma) := by
  obtain ⟨t, p, s⟩ := ha.ex
  refine .mk ⟨_, pi_tup p, fun W h H μ σ Q R S P => ?_⟩
  refine s W h H μ σ _ R S (P.bnd fun x h1 W1 H1 v _ E1 R1 r1 P1 => ?_)
  split at P1
  · rename_i l e
    obtain ⟨a, xs, rfl, hs, ra⟩ := tupOf_ok R1 r1 e
    refine ⟨a, rfl, ⟨xs, SqT.of hs⟩, P1 W1 H1 _ (Ext.refl _ _) R1 fun i W2 h2 H2 E2 R2 c => ?_⟩
    obtain ⟨a', xs2, ea, hs2, ra2⟩ := tupOf_ok R2 (r1.to E2) e
    cases ea
    refine ⟨fun m hm => ?_, fun hl => ⟨xs2, SqT.of hs2, by rw [← ra2.length]; exact hl⟩⟩
    obtain ⟨w, hw, rw'⟩ := ra2.get hm
    refine ⟨⟨xs2, w, SqT.of hs2, hw⟩, fun x H' y => ?_⟩
    obtain ⟨rfl, y⟩ := y
    have := y xs2 (SqT.of hs2)
    rw [hw] at this; cases this
    exact ⟨W2, Ext.refl _ _, R2, rw'⟩
  · exact P1.elim
def chars (s : Str) : List MV := s.cps.toList.map fun c => .d (.str ⟨#[c]⟩)
def mIS (m : ME) : MI := fun μ h => (m μ h).bind fun v h1 => match v with
  | .d (.str s) => .ok (chars s, noChk) h1
  | _ => .bad
theorem ri_str {tg : Expr} (ha : RE cn X a ma) : RI cn X tg a (mIS ma) := by
  obtain ⟨t, p, s⟩ := ha.ex
  refine .mk ⟨_, pi_str p, fun W h H μ σ Q R S P => ?_⟩
  refine s W h H μ σ _ R S (P.bnd fun x h1 W1 H1 v _ E1 R1 r1 P1 => ?_)
  split at P1
  · rename_i z _
    rw [r1.str_inv]
    refine ⟨z, rfl, P1 W1 H1 _ (Ext.refl _ _) R1 fun i W2 h2 H2 E2 R2 c => ?_⟩
    refine ⟨fun m hm => ?_, fun hl => ?_⟩
    · simp only [chars, List.getElem?_map, Array.getElem?_toList] at hm
      cases q : z.cps[i]? with
      | none => rw [q] at hm; cases hm
      | some ch =>
        rw [q] at hm; cases hm
        refine ⟨(Array.getElem?_eq_some_iff.mp q).1, fun x H' y => ?_⟩
        obtain ⟨rfl, ch', e1, rfl⟩ := y
        rw [q] at e1; cases e1
        exact ⟨W2, Ext.refl _ _, R2, .d (.str _)⟩
    · show z.cps.size ≤ i
      simpa [chars] using hl
  · exact P1.elim
def rng (lo : Int) (n : Nat) : List MV := (List.range n).map fun i => .d (.int (lo + (i : Nat)))
theorem pres_rng {W : Wd} {lo : Int} {n : Nat} : Pres G W (Itr lo n) (rng lo n) noChk := by
  intro i W2 h2 H2 E2 R2 c
  refine ⟨fun m hm => ?_, fun hl => (by show n ≤ i; simpa [rng] using hl)⟩
  have hi : i < n := by simpa [rng] using (List.getElem?_eq_some_iff.mp hm).1
  simp only [rng, List.getElem?_map, List.getElem?_range hi, Option.map_some] at hm
  cases hm
  refine ⟨hi, fun x H' y => ?_⟩
  obtain ⟨rfl, rfl⟩ := y
  exact ⟨W2, Ext.refl _ _, R2, .d (.int _)⟩
def mIR1 (m : ME) : MI := fun μ h => (m μ h).bind fun v h1 => match v with
  | .d (.int j) => if -1000000000 ≤ j ∧ j ≤ 1000000000 then .ok (rng 0 j.toNat, noChk) h1 else .bad
  | _ => .bad
theorem ri_range1 {tg : Expr} {p0 : Pos} (hg : Gl X "range") (hm : X.mg "range" = none) (ha : RE cn X a ma) (hs0 : starEach (a :: []) X.env = (false, eval a X.env) :: starEach [] X.env := by rfl) (hs : starEach [a] X.env = [(false, eval a X.env)] := by rfl) : RI cn X tg (.Call (.Name "range" p0) [a] [] pos) (mIR1 ma) := by
  obtain ⟨t, p, s⟩ := ha.ex
  refine .mk ⟨_, pi_range1 hg hm (pa_cons p pa_nil hs0) hs, fun W h H μ σ Q R S P => ?_⟩
  refine s W h H μ σ _ R S (P.bnd fun x h1 W1 H1 v _ E1 R1 r1 P1 => ?_)
  split at P1
  · split at P1
    · rw [r1.int_inv]
      exact ⟨_, rfl, by omega, by omega, P1 W1 H1 _ (Ext.refl _ _) R1 pres_rng⟩
    · exact P1.elim
  · exact P1.elim
def mIR2 (a b : ME) : MI := fun μ h => (a μ h).bind fun v h1 => (b μ h1).bind fun w h2 => match v, w with
  | .d (.int i), .d (.int j) => if (-1000000000 ≤ i ∧ i ≤ 1000000000) ∧ (-1000000000 ≤ j ∧ j ≤ 1000000000) then .ok (rng i (j - i).toNat, noChk) h2 else .bad
  | _, _ => .bad
theorem ri_range2 {tg : Expr} {p0 : Pos} (hg : Gl X "range") (hm : X.mg "range" = none) (ha : RE cn X a ma) (hb : RE cn X b mb) (hs0 : starEach (a :: [b]) X.env = (false, eval a X.env) :: starEach [b] X.env := by rfl) (hs1 : starEach (b :: []) X.env = (false, eval b X.env) :: starEach [] X.env := by rfl)
    (hs : starEach [a, b] X.env = [(false, eval a X.env), (false, eval b X.env)] := by rfl) (hs2 : starEach [b] X.env = [(false, eval b X.env)] := by rfl) : RI cn X tg (.Call (.Name "range" p0) [a, b] [] pos) (mIR2 ma mb) := by
  obtain ⟨t, p, s⟩ := ha.ex
  obtain ⟨t', p', s'⟩ := hb.ex
  refine .mk ⟨_, pi_range2 hg hm (pa_cons p (pa_cons p' pa_nil hs1) hs0) hs hs2, fun W h H μ σ Q R S P => ?_⟩
  refine s W h H μ σ _ R S (P.bnd fun x h1 W1 H1 v _ E1 R1 r1 P1 => ?_)
  refine s' W1 h1 H1 μ σ _ R1 (S.ext E1) (P1.bnd fun y h2 W2 H2 w _ E2 R2 r2 P2 => ?_)
  have r1' := r1.ext E2
  split at P2
  · split at P2
    · rw [r1'.int_inv, r2.int_inv]
      exact ⟨_, _, rfl, by omega, P2 W2 H2 _ (Ext.refl _ _) R2 pres_rng⟩
    · exact P2.elim
  · exact P2.elim

/-! ## for -/
def forGo (chk : MH → Bool) (g : MG) (b : MS) : List MV → MSt → MH → RS
  | [], μ, h => if chk h = true then .nx μ h else .bad
  | x :: r, μ, h => if chk h = true then (g x μ h).thn fun μ1 h1 => match b μ1 h1 with
      | .nx μ' h' => forGo chk g b r μ' h'
      | .ct μ' h' => forGo chk g b r μ' h'
      | .bk μ' h' => .nx μ' h'
      | .rt v h' => .rt v h'
      | .bad => .bad
    else .bad
def mFor (mi : MI) (g : MG) (b : MS) : MS := fun μ h => (mi μ h).thn fun p h1 => forGo p.2 g b p.1 μ h1
theorem rs_for {tg iter : Expr} {body : List Stmt} {mi : MI} (hp : PassesOwn (model X.prog X.w) X.A X.env X.xe) (hc : X.calm = true) (hi : RI cn X tg iter mi) (hg : RG cn X tg mg) (hb : RB cn X body ms)
    (hs : ∀ x, foldedSetIterable iter X.env x = pure x := by intro _; rfl) : RSt cn X (.For tg iter body [] pos) (mFor mi mg ms) := by
  obtain ⟨t, p, s⟩ := hi.ex
  obtain ⟨t1, p1, s1⟩ := hg.ex
  obtain ⟨t2, p2, s2⟩ := hb.ex
  refine .mk ⟨_, ps_for hp hc p p1 p2 hs, fun W h H μ σ D R S P => ?_⟩
  refine s W h H μ σ _ R S ?_
  unfold mFor at P
  cases em : mi μ h with
  | bad => rw [em] at P; exact P.elim
  | ok pr h1 =>
    obtain ⟨xs, chk⟩ := pr
    rw [em] at P
    simp only [Mini.R.thn_ok] at P
    intro W1 H1 J E1 R1 J1
    refine ⟨fun i m σ' H' => m = xs.length - i ∧ i ≤ xs.length ∧ ∃ W' h' μ', Ext W1 H1 W' H' ∧ Rel (gx X cn) W' h' H' ∧ RSl (gx X cn) W' μ' σ' ∧ PoS (gx X cn) W' H' (forGo chk mg ms (xs.drop i) μ' h') D,
      ⟨xs.length, by simp, Nat.zero_le _, W1, h1, μ, Ext.refl _ _, R1, S.ext E1, PoS.ext P E1⟩, ?_⟩
    rintro i m σ2 H2 ⟨rfl, hi, W2, h2, μ2, E2, R2, S2, P2⟩
    by_cases hlt : i < xs.length
    · rw [List.drop_eq_getElem_cons hlt] at P2
      unfold forGo at P2
      split at P2
      · rename_i ck
        obtain ⟨go, _⟩ := J1 i W2 h2 H2 E2.le R2 ck
        obtain ⟨g1, g2⟩ := go xs[i] (List.getElem?_eq_getElem hlt)
        refine .inr ⟨g1, fun σ' H' => ∃ W' h' μ', Ext W1 H1 W' H' ∧ Rel (gx X cn) W' h' H' ∧ RSl (gx X cn) W' μ' σ' ∧ PoS (gx X cn) W' H' (forGo chk mg ms (xs.drop (i + 1)) μ' h') D, fun σ' H' q => ⟨xs.length - (i + 1), by omega, rfl, hlt, q⟩, fun x H3 y => ?_⟩
        obtain ⟨W3, E3, R3, r3⟩ := g2 x H3 y
        refine s1 W3 h2 H3 μ2 σ2 _ x _ R3 (S2.ext E3) r3 (PoS.thn (PoS.ext P2 E3) fun μ4 h4 W4 H4 σ4 _ E4 R4 S4 P4 => ?_)
        refine s2 W4 h4 H4 μ4 σ4 _ R4 S4 ?_
        have e0 := (E2.trans E3).trans E4
        cases q : ms μ4 h4 with
        | nx μ' h' => rw [q] at P4; exact fun W' H' σ' E' R' S' => ⟨W', h', μ', e0.trans E', R', S', PoS.ext P4 E'⟩
        | ct μ' h' => rw [q] at P4; exact fun W' H' σ' E' R' S' => ⟨W', h', μ', e0.trans E', R', S', PoS.ext P4 E'⟩
        | bk μ' h' => rw [q] at P4; exact P4
        | rt v h' => rw [q] at P4; exact P4
        | bad => rw [q] at P4; exact P4
      · exact P2.elim
    · have e : i = xs.length := by omega
      subst e
      rw [List.drop_length] at P2
      unfold forGo at P2
      split at P2
      · rename_i ck
        exact .inl ⟨(J1 _ W2 h2 H2 E2.le R2 ck).2 (Nat.le_refl _), P2 W2 H2 σ2 (Ext.refl _ _) R2 S2⟩
      · exact P2.elim
end
end Mini
/-! # Mini: comprehensions -/
namespace Mini
open PySem L2
def wipeM (μ : MSt) : List Nat → MSt
  | [] => μ
  | v :: vs => (wipeM μ vs).set v none
def mYes : MT := fun _ h => .ok true h
def lcGo (chk : MH → Bool) (g : MG) (tt : MT) (te : ME) (μ0 : MSt) : List MV → List MV → MH → R (List MV)
  | acc, [], h => if chk h = true then .ok acc h else .bad
  | acc, x :: r, h => if chk h = true then (g x μ0 h).bind fun μ2 h2 => (tt μ2 h2).bind fun b h3 => match b with
      | true => (te μ2 h3).bind fun y h4 => if acc.length < szL then lcGo chk g tt te μ0 (acc ++ [y]) r h4 else .bad
      | false => lcGo chk g tt te μ0 acc r h3
    else .bad
def mLc (mi : MI) (g : MG) (tt : MT) (te : ME) (vs : List Nat) : ME := fun μ h => (mi μ h).bind fun p h1 => (lcGo p.2 g tt te (wipeM μ vs) [] p.1 h1).bind fun l h2 => rL l h2
def lc2Go (chk : MH → Bool) (g : MG) (tt : MT) (mi1 : MI) (g1 : MG) (tt1 : MT) (te : ME) (μ0 : MSt) (vs1 : List Nat) : List MV → List MV → MH → R (List MV)
  | acc, [], h => if chk h = true then .ok acc h else .bad
  | acc, x :: r, h => if chk h = true then (g x μ0 h).bind fun μ2 h2 => (tt μ2 h2).bind fun b h3 => match b with
      | true => (mi1 μ2 h3).bind fun p h4 => (lcGo p.2 g1 tt1 te (wipeM μ2 vs1) acc p.1 h4).bind fun acc' h5 => lc2Go chk g tt mi1 g1 tt1 te μ0 vs1 acc' r h5
      | false => lc2Go chk g tt mi1 g1 tt1 te μ0 vs1 acc r h3
    else .bad
def mLc2 (mi : MI) (g : MG) (tt : MT) (mi1 : MI) (g1 : MG) (tt1 : MT) (te : ME) (vs vs1 : List Nat) : ME := fun μ h => (mi μ h).bind fun p h1 => (lc2Go p.2 g tt mi1 g1 tt1 te (wipeM μ vs) vs1 [] p.1 h1).bind fun l h2 => rL l h2
section
variable {cn : Nat → Str × List Str} {X : Cx} {a b c e : Expr} {es : List Expr} {ma mb mc : ME} {mas : MA} {pos : Pos} {G : Gx} {mg : MG} {mt : MT}
/-! ### tests and targets of a clause -/
def RTs (cn : Nat → Str × List Str) (X : Cx) (ifs : List Expr) (m : MT) : Prop := PTs X ifs fun σ H Q => ∃ W h μ, Rel (gx X cn) W h H ∧ RSl (gx X cn) W μ σ ∧ PoT (gx X cn) W H (m μ h) Q
theorem rts_nil : RTs cn X [] mYes := ⟨fun pins s0 σ H Q I ⟨W, h, μ, R, S, P⟩ => pts_nil.run pins s0 σ H Q I (P.ok R rfl)⟩
theorem rts_one (h : RT cn X c mt) : RTs cn X [c] mt := ⟨fun pins s0 σ H Q I q => (pts_one h).run pins s0 σ H Q I q⟩
def RGo (cn : Nat → Str × List Str) (X : Cx) (vs : List Nat) (tg : Expr) (g : MG) : Prop := PG X tg fun x σ H Q => ∃ W h μ v, Rel (gx X cn) W h H ∧ RSl (gx X cn) W μ σ ∧ RV (gx X cn) W v x ∧ Po (gx X cn) (RSl (gx X cn)) W H (g v μ h) fun σ2 H2 => wipe σ2 vs = wipe σ vs → Q σ2 H2
theorem wipe_set {i : Nat} {x : Option V} : ∀ {vs : List Nat} {σ : St}, i ∈ vs → wipe (σ.set i x) vs = wipe σ vs
  | v :: vs, σ, h => by
    show (wipe (σ.set i x) vs).set v none = (wipe σ vs).set v none
    by_cases e : i ∈ vs
    · rw [wipe_set e]
    · have e2 : i = v := by
        rcases List.mem_cons.mp h with q | q
        · exact q
        · exact absurd q e
      subst e2
      have : ∀ {vs : List Nat} {σ : St}, i ∉ vs → wipe (σ.set i x) vs = (wipe σ vs).set i x := by
        intro vs
        induction vs with
        | nil => intro σ _; rfl
        | cons v vs ih =>
          intro σ hn
          have h1 : i ≠ v := fun q => hn (by rw [q]; exact List.mem_cons_self)
          show (wipe (σ.set i x) vs).set v none = ((wipe σ vs).set v none).set i x
          rw [ih (fun q => hn (List.mem_cons_of_mem _ q)), List.set_comm _ _ h1]
      rw [this e, List.set_set]
theorem wipe_idem (vs : List Nat) (σ : St) : wipe (wipe σ vs) vs = wipe σ vs := by
  have sub : ∀ (us : List Nat), (∀ u ∈ us, u ∈ vs) → wipe (wipe σ us) vs = wipe σ vs := by
    intro us
    induction us with
    | nil => intro _; rfl
    | cons u us ih =>
      intro h
      show wipe ((wipe σ us).set u none) vs = _
      rw [wipe_set (h u List.mem_cons_self), ih fun v hv => h v (List.mem_cons_of_mem _ hv)]
  exact sub vs fun _ h => h
theorem rgo_name {vs : List Nat} {i : Nat} {x : Str} (hv : i ∈ vs) (hN : X.N.Nodup) (hi : X.N[i]? = some x) (hx : Loc X.env.scope x) (hf : X.fn x = true ∨ X.env.scope.names.lookup x = some .local := by first | exact .inl rfl | exact .inr rfl | assumption) : RGo cn X vs (.Name x pos) (gNm i) :=
  ⟨fun pins s0 σ H v u Q I r ⟨W, h, μ, m, R, S, rv, P⟩ => (pg_name hN hi hx hf).run pins s0 σ H v u Q I r (P.ok R (S.set rv) (wipe_set hv))⟩
def RGos (cn : Nat → Str × List Str) (X : Cx) (vs : List Nat) (tgs : List Expr) (g : MGs) : Prop := PGs X tgs fun xs σ H Q => ∃ W h μ v, Rel (gx X cn) W h H ∧ RSl (gx X cn) W μ σ ∧ RVs (gx X cn) W v xs ∧ Po (gx X cn) (RSl (gx X cn)) W H (g v μ h) fun σ2 H2 => wipe σ2 vs = wipe σ vs → Q σ2 H2
theorem rgos_nil {vs : List Nat} : RGos cn X vs [] gsNil := ⟨fun pins s0 σ H v u Q I r ⟨W, h, μ, m, R, S, rv, P⟩ => pgs_nil.run pins s0 σ H v u Q I r (by
  cases rv with
  | nil => exact ⟨rfl, P.ok R S rfl⟩
  | cons _ _ => exact P.elim)⟩
theorem rgos_cons {vs : List Nat} {m : MGs} (h1 : RGo cn X vs e mg) (h2 : RGos cn X vs es m) (hs : (assignEach (e :: es) X.env).map (·.2) = assign e X.env :: (assignEach es X.env).map (·.2) := by rfl) : RGos cn X vs (e :: es) (gsCons mg m) :=
  ⟨fun pins s0 σ H v u Q I r ⟨W, h, μ, ms, R, S, rv, P⟩ => (pgs_cons h1 h2 hs).run pins s0 σ H v u Q I r (by
    cases rv with
    | nil => exact P.elim
    | cons q rv =>
      refine ⟨_, _, rfl, W, h, μ, _, R, S, q, P.bnd fun μ1 h1 W1 H1 σ1 _ E1 R1 S1 P1 hw => ?_⟩
      refine ⟨W1, h1, μ1, _, R1, S1, rv.ext E1, ?_⟩
      cases z : m _ μ1 h1 with
      | bad => rw [z] at P1; exact P1
      | ok μ2 h2 =>
        rw [z] at P1
        exact fun W' H' σ2 E' R' S' hw2 => P1 W' H' σ2 E' R' S' (hw2.trans hw))⟩
theorem rgo_tup {vs : List Nat} {k n : Nat} {m : MGs} (hc : X.calm = true) (h : RGos cn X vs es m) (hn : (assignEach es X.env).length = n := by rfl) (hst : (assignEach es X.env).findIdx? (·.1) = none := by rfl) : RGo cn X vs (.Tuple es k pos) (gTp n m) :=
  ⟨fun pins s0 σ H v u Q I r ⟨W, h0, μ, mv, R, S, rv, P⟩ => (pg_tup hc h hn hst).run pins s0 σ H v u Q I r (by
    unfold gTp at P
    split at P
    · rename_i l e
      obtain ⟨a, xs, rfl, ha, ra⟩ := tupOf_ok R rv e
      split at P
      · rename_i c
        exact ⟨a, xs, rfl, SqT.of ha, by rw [← ra.length]; exact c, W, h0, μ, l, R, S, ra, P⟩
      · exact P.elim
    · exact P.elim)⟩
theorem RSl.wipe {W : Wd} {μ : MSt} {σ : St} (S : RSl G W μ σ) : ∀ vs : List Nat, RSl G W (wipeM μ vs) (L2.wipe σ vs)
  | [] => S
  | v :: vs => (S.wipe vs).setN

/-! ### the new list, beside the world -/
structure Dst (G : Gx) (W0 : Wd) (H0 : Hp) (D : Addr) (W : Wd) (h : MH) (H : Hp) (acc : List MV) : Prop where
  ext : Ext W0 H0 W H
  rel : Rel G W h H
  nρ : D ∉ W.ρ
  nF : W.F D = none
  at_ : ∃ xs, H D = some (.lst xs) ∧ RVs G W acc xs
theorem Dst.begin {W0 : Wd} {H0 : Hp} {D : Addr} {h : MH} (R : Rel G W0 h H0) (hD : H0 D = none) : Dst G W0 H0 D W0 h (upd H0 D (.lst [])) [] := by
  obtain ⟨f1, f2⟩ := R.free hD
  have k : ∀ {a : Addr} {v : HO}, H0 a = some v → (upd H0 D (.lst [])) a = some v := fun z => by rw [upd_ne (ne_of_none z hD)]; exact z
  exact ⟨⟨fun _ _ z => z, List.prefix_rfl, fun a o z _ => k z, fun a o z n => ⟨n, id⟩⟩, ⟨fun a o z => k (R.sub a o z), R.dis, R.nd, R.len, fun i o a h1 h2 => (R.obj i o a h1 h2).le (W := W0) (W' := W0) (fun _ _ z => z) List.prefix_rfl fun v z => k z⟩, f2, f1, [], upd_same, .nil⟩
theorem Dst.step {W0 W W' : Wd} {H0 H H' : Hp} {D : Addr} {h h' : MH} {acc : List MV} (d : Dst G W0 H0 D W h H acc) (e : Ext W H W' H') (R : Rel G W' h' H') : Dst G W0 H0 D W' h' H' acc := by
  obtain ⟨xs, hx, rx⟩ := d.at_
  obtain ⟨n1, n2⟩ := e.new D _ hx d.nρ
  exact ⟨d.ext.trans e, R, n1, n2 d.nF, xs, e.frm D _ hx d.nρ, rx.ext e⟩
theorem Dst.app {W0 W : Wd} {H0 H : Hp} {D : Addr} {h : MH} {acc : List MV} {xs : List V} {y : MV} {v : V} (d : Dst G W0 H0 D W h H acc) (hD : H0 D = none) (hx : H D = some (.lst xs)) (r : RV G W y v) : Dst G W0 H0 D W h (upd H D (.lst (xs ++ [v]))) (acc ++ [y]) := by
  obtain ⟨xs', hx', rx⟩ := d.at_
  rw [hx] at hx'; cases hx'
  have k : ∀ {a : Addr} {u : HO}, a ≠ D → H a = some u → (upd H D (.lst (xs ++ [v]))) a = some u := fun n z => by rw [upd_ne n]; exact z
  refine ⟨⟨d.ext.sub, d.ext.pre, fun a o z n => k (ne_of_none z hD) (d.ext.frm a o z n), d.ext.new⟩, ⟨fun a o z => k (ne_of_none z d.nF) (d.rel.sub a o z), d.rel.dis, d.rel.nd, d.rel.len, fun i o a h1 h2 => ?_⟩, d.nρ, d.nF, _, upd_same, rx.app (.cons r .nil)⟩
  have na : a ≠ D := fun q => d.nρ (by rw [← q]; exact List.mem_of_getElem? h2)
  exact (d.rel.obj i o a h1 h2).le (W := W) (W' := W) (fun _ _ z => z) List.prefix_rfl fun v z => k na z
theorem Dst.done {W0 W : Wd} {H0 H : Hp} {D : Addr} {h : MH} {acc : List MV} {Q : VK} (d : Dst G W0 H0 D W h H acc) (hD : H0 D = none) (P : PoE G W0 H0 (rL acc h) Q) : Q (.ref D) H := by
  obtain ⟨xs, hx, rx⟩ := d.at_
  unfold rL at P
  split at P
  · have pre : W.ρ <+: W.ρ ++ [D] := List.prefix_append _ _
    refine P ⟨W.F, W.ρ ++ [D]⟩ H (.ref D) ⟨d.ext.sub, d.ext.pre.trans pre, d.ext.frm, fun a o z n => ⟨fun q => ?_, (d.ext.new a o z n).2⟩⟩ ⟨d.rel.sub, fun a ha => ?_, ?_, by simp [d.rel.len], fun i o a h1 h2 => ?_⟩ (.ref (last_get d.rel.len))
    · rcases List.mem_append.mp q with q | q
      · exact (d.ext.new a o z n).1 q
      · exact ne_of_none z hD (List.mem_singleton.mp q)
    · rcases List.mem_append.mp ha with q | q
      · exact d.rel.dis a q
      · rw [List.mem_singleton.mp q]; exact d.nF
    · exact List.nodup_append.mpr ⟨d.rel.nd, by simp, fun x hx y hy => by
        rw [List.mem_singleton.mp hy]
        exact fun q => d.nρ (by rw [← q]; exact hx)⟩
    · by_cases hi : i < h.length
      · rw [List.getElem?_append_left hi] at h1
        have h2' : (W.ρ ++ [D])[i]? = some a := h2
        rw [List.getElem?_append_left (by rw [d.rel.len]; exact hi)] at h2'
        exact (d.rel.obj i o a h1 h2').le (W := W) (W' := ⟨W.F, W.ρ ++ [D]⟩) (fun _ _ z => z) pre fun v z => z
      · have e1 : i = h.length := by
          have := (List.getElem?_eq_some_iff.mp h1).1
          simp at this; omega
        subst e1
        have h2' : (W.ρ ++ [D])[h.length]? = some a := h2
        rw [last_get d.rel.len] at h2'
        rw [last_get rfl] at h1
        cases h1; cases h2'
        exact ⟨xs, hx, rx.le (W := W) (W' := ⟨W.F, W.ρ ++ [D]⟩) (fun _ _ z => z) pre⟩
  · exact P.elim

/-! ### one clause's loop -/
def cG (G : Gx) (vs : List Nat) (g : MG) : TG := fun x σ H Q => ∃ W h μ v, Rel G W h H ∧ RSl G W μ σ ∧ RV G W v x ∧ Po G (RSl G) W H (g v μ h) fun σ2 H2 => wipe σ2 vs = wipe σ vs → Q σ2 H2
def cT (G : Gx) (m : MT) : TT := fun σ H Q => ∃ W h μ, Rel G W h H ∧ RSl G W μ σ ∧ PoT G W H (m μ h) Q
def cE (G : Gx) (m : ME) : TE := fun σ H Q => ∃ W h μ, Rel G W h H ∧ RSl G W μ σ ∧ PoE G W H (m μ h) Q
def cI (G : Gx) (m : MI) : TI := fun σ H Q => ∃ W h μ, Rel G W h H ∧ RSl G W μ σ ∧ PoI G W H (m μ h) Q
def AccF (G : Gx) (W0 : Wd) (H0 : Hp) (D : Addr) (Wb : Wd) (r : R (List MV)) (Fin : Hp → Prop) : Prop := match r with
  | .ok acc h => ∀ W H, Dst G W0 H0 D W h H acc → Le Wb W → Fin H
  | .bad => False
theorem lc_loop {J : It} {xs : List MV} {chk : MH → Bool} {W0 Wb : Wd} {H0 : Hp} {D : Addr} {g : MG} {tt : MT} {te : ME} {μ0 : MSt} {σ0 : St} {vs : List Nat} {Fin : Hp → Prop} (hD : H0 D = none) (Pr : Pres G Wb J xs chk) (S0 : RSl G Wb μ0 (wipe σ0 vs))
    {Ws : Wd} {hs : MH} {Hs : Hp} {acc0 : List MV} (d0 : Dst G W0 H0 D Ws hs Hs acc0) (l0 : Le Wb Ws) (P0 : AccF G W0 H0 D Wb (lcGo chk g tt te μ0 acc0 xs hs) Fin) :
    ∃ Wi : Nat → Nat → Hp → Prop, (∃ m, Wi 0 m Hs) ∧ ∀ i m H, Wi i m H → (J.stop i H ∧ Fin H) ∨ (J.go i H ∧ ∃ Nx : Hp → Prop, (∀ H', Nx H' → ∃ m', m' < m ∧ Wi (i + 1) m' H') ∧
      ∀ x H', J.yld i H x H' → cG G vs g x (wipe σ0 vs) H' fun σ2 H2 => wipe σ2 vs = wipe σ0 vs ∧ cT G tt σ2 H2 fun b H3 =>
        if b = true then cE G te σ2 H3 fun y H4 => ∃ acc, H4 D = some (.lst acc) ∧ acc.length < sizeLine ∧ Nx (upd H4 D (.lst (acc ++ [y]))) else Nx H3) := by
  refine ⟨fun i m H => m = xs.length - i ∧ i ≤ xs.length ∧ ∃ W h acc, Dst G W0 H0 D W h H acc ∧ Le Wb W ∧ AccF G W0 H0 D Wb (lcGo chk g tt te μ0 acc (xs.drop i) h) Fin, ⟨xs.length, by simp, Nat.zero_le _, Ws, hs, acc0, d0, l0, P0⟩, ?_⟩
  rintro i m H ⟨rfl, hi, W, h, acc, d, l, P⟩
  by_cases hlt : i < xs.length
  · rw [List.drop_eq_getElem_cons hlt] at P
    unfold lcGo at P
    split at P
    · rename_i ck
      obtain ⟨go, _⟩ := Pr i W h H l d.rel ck
      obtain ⟨g1, g2⟩ := go xs[i] (List.getElem?_eq_getElem hlt)
      refine .inr ⟨g1, fun H' => ∃ W h acc, Dst G W0 H0 D W h H' acc ∧ Le Wb W ∧ AccF G W0 H0 D Wb (lcGo chk g tt te μ0 acc (xs.drop (i + 1)) h) Fin, fun H' q => ⟨xs.length - (i + 1), by omega, rfl, hlt, q⟩, fun x H1 y => ?_⟩
      obtain ⟨W1, E1, R1, r1⟩ := g2 x H1 y
      have d1 := d.step E1 R1
      have l1 := l.trans E1.le
      refine ⟨W1, h, μ0, xs[i], R1, S0.to l1, r1, ?_⟩
      cases q2 : g xs[i] μ0 h with
      | bad => rw [q2] at P; exact P
      | ok μ2 h2 =>
        rw [q2] at P
        intro W2 H2 σ2 E2 R2 S2 hw
        have d2 := d1.step E2 R2
        have l2 := l1.trans E2.le
        refine ⟨hw.trans (wipe_idem vs σ0), W2, h2, μ2, R2, S2, ?_⟩
        simp only [Mini.R.bind_ok] at P
        cases q3 : tt μ2 h2 with
        | bad => rw [q3] at P; exact P
        | ok b h3 =>
          rw [q3] at P
          intro W3 H3 b' E3 R3 eb
          subst eb
          have d3 := d2.step E3 R3
          have l3 := l2.trans E3.le
          simp only [Mini.R.bind_ok] at P
          cases b with
          | false =>
            rw [if_neg (by decide)]
            exact ⟨W3, h3, acc, d3, l3, P⟩
          | true =>
            rw [if_pos rfl]
            refine ⟨W3, h3, μ2, R3, S2.ext E3, ?_⟩
            simp only at P
            cases q4 : te μ2 h3 with
            | bad => rw [q4] at P; exact P
            | ok y h4 =>
              rw [q4] at P
              intro W4 H4 v E4 R4 r4
              have d4 := d3.step E4 R4
              have l4 := l3.trans E4.le
              simp only [Mini.R.bind_ok] at P
              split at P
              · rename_i c
                obtain ⟨ys, hy, ry⟩ := d4.at_
                exact ⟨ys, hy, by rw [← ry.length, ← szL_eq]; exact c, W4, h4, acc ++ [y], d4.app hD hy r4, l4, P⟩
              · exact P.elim
    · exact P.elim
  · have e : i = xs.length := by omega
    subst e
    rw [List.drop_length] at P
    unfold lcGo at P
    split at P
    · rename_i ck
      exact .inl ⟨(Pr _ W h H l d.rel ck).2 (Nat.le_refl _), P W H d l⟩
    · exact P.elim
theorem AccF.mono {W0 Wb : Wd} {H0 : Hp} {D : Addr} {r : R (List MV)} {F F' : Hp → Prop} (p : AccF G W0 H0 D Wb r F) (k : ∀ H, F H → F' H) : AccF G W0 H0 D Wb r F' := by
  cases r with
  | ok acc h => exact fun W H d l => k H (p W H d l)
  | bad => exact p
theorem sim_lc {G : Gx} {mi : MI} {g : MG} {tt : MT} {te : ME} {vs : List Nat} : SimE G (tLc (cI G mi) (cG G vs g) (cT G tt) (cE G te) vs) (mLc mi g tt te vs) := by
  intro W h H μ σ Q R S P
  refine ⟨W, h, μ, R, S, ?_⟩
  unfold mLc at P
  cases q1 : mi μ h with
  | bad => rw [q1] at P; exact P
  | ok p h1 =>
    rw [q1] at P
    intro W1 H1 J E1 R1 Pr D hD
    simp only [Mini.R.bind_ok] at P
    have P' := Po.ext P E1
    refine lc_loop (W0 := W1) (Wb := W1) (H0 := H1) (σ0 := σ) (Fin := fun H => Q (.ref D) H) hD Pr ((S.ext E1).wipe vs) (Dst.begin R1 hD) (Le.refl _) ?_
    cases q2 : lcGo p.2 g tt te (wipeM μ vs) [] p.1 h1 with
    | bad => rw [q2] at P'; exact P'
    | ok acc h2 =>
      rw [q2] at P'
      exact fun W2 H2 d _ => d.done hD P'
theorem sim_lc2 {G : Gx} {mi mi1 : MI} {g g1 : MG} {tt tt1 : MT} {te : ME} {vs vs1 : List Nat} : SimE G (tLc2 (cI G mi) (cG G vs g) (cT G tt) (cI G mi1) (cG G vs1 g1) (cT G tt1) (cE G te) vs vs1) (mLc2 mi g tt mi1 g1 tt1 te vs vs1) := by
  intro W h H μ σ Q R S P
  refine ⟨W, h, μ, R, S, ?_⟩
  unfold mLc2 at P
  cases q1 : mi μ h with
  | bad => rw [q1] at P; exact P
  | ok p h1 =>
    rw [q1] at P
    intro Wb Hb J E1 R1 Pr D hD
    simp only [Mini.R.bind_ok] at P
    have P' := Po.ext P E1
    have S0 := (S.ext E1).wipe vs
    have fin : AccF G Wb Hb D Wb (lc2Go p.2 g tt mi1 g1 tt1 te (wipeM μ vs) vs1 [] p.1 h1) fun H => Q (.ref D) H := by
      cases q2 : lc2Go p.2 g tt mi1 g1 tt1 te (wipeM μ vs) vs1 [] p.1 h1 with
      | bad => rw [q2] at P'; exact P'
      | ok acc h2 =>
        rw [q2] at P'
        exact fun W2 H2 d _ => d.done hD P'
    obtain ⟨xs, chk⟩ := p
    generalize wipeM μ vs = μ0 at S0 fin
    refine ⟨fun i m H => m = xs.length - i ∧ i ≤ xs.length ∧ ∃ W h acc, Dst G Wb Hb D W h H acc ∧ Le Wb W ∧ AccF G Wb Hb D Wb (lc2Go chk g tt mi1 g1 tt1 te μ0 vs1 acc (xs.drop i) h) (fun H => Q (.ref D) H), ⟨xs.length, by simp, Nat.zero_le _, Wb, h1, [], Dst.begin R1 hD, Le.refl _, fin⟩, ?_⟩
    rintro i m H ⟨rfl, hi, W, h, acc, d, l, P⟩
    by_cases hlt : i < xs.length
    · rw [List.drop_eq_getElem_cons hlt] at P
      unfold lc2Go at P
      split at P
      · rename_i ck
        obtain ⟨go, _⟩ := Pr i W h H l d.rel ck
        obtain ⟨g1', g2⟩ := go xs[i] (List.getElem?_eq_getElem hlt)
        refine .inr ⟨g1', fun H' => ∃ W h acc, Dst G Wb Hb D W h H' acc ∧ Le Wb W ∧ AccF G Wb Hb D Wb (lc2Go chk g tt mi1 g1 tt1 te μ0 vs1 acc (xs.drop (i + 1)) h) (fun H => Q (.ref D) H), fun H' q => ⟨xs.length - (i + 1), by omega, rfl, hlt, q⟩, fun x H1 y => ?_⟩
        obtain ⟨W1, E1, R1, r1⟩ := g2 x H1 y
        have d1 := d.step E1 R1
        have l1 := l.trans E1.le
        refine ⟨W1, h, μ0, xs[i], R1, S0.to l1, r1, ?_⟩
        cases q2 : g xs[i] μ0 h with
        | bad => rw [q2] at P; exact P
        | ok μ2 h2 =>
          rw [q2] at P
          intro W2 H2 σ2 E2 R2 S2 hw
          have d2 := d1.step E2 R2
          have l2 := l1.trans E2.le
          refine ⟨hw.trans (wipe_idem vs σ), W2, h2, μ2, R2, S2, ?_⟩
          simp only [Mini.R.bind_ok] at P
          cases q3 : tt μ2 h2 with
          | bad => rw [q3] at P; exact P
          | ok b h3 =>
            rw [q3] at P
            intro W3 H3 b' E3 R3 eb
            subst eb
            have d3 := d2.step E3 R3
            have l3 := l2.trans E3.le
            simp only [Mini.R.bind_ok] at P
            cases b with
            | false =>
              rw [if_neg (by decide)]
              exact ⟨W3, h3, acc, d3, l3, P⟩
            | true =>
              rw [if_pos rfl]
              refine ⟨W3, h3, μ2, R3, S2.ext E3, ?_⟩
              simp only at P
              cases q4 : mi1 μ2 h3 with
              | bad => rw [q4] at P; exact P
              | ok p4 h4 =>
                rw [q4] at P
                intro W4 H4 J4 E4 R4 Pr4
                have d4 := d3.step E4 R4
                have l4 := l3.trans E4.le
                simp only [Mini.R.bind_ok] at P
                refine lc_loop (W0 := Wb) (Wb := W4) (H0 := Hb) (σ0 := σ2) hD Pr4 (((S2.ext E3).ext E4).wipe vs1) d4 (Le.refl _) ?_
                cases q5 : lcGo p4.2 g1 tt1 te (wipeM μ2 vs1) acc p4.1 h4 with
                | bad => rw [q5] at P; exact P
                | ok acc5 h5 =>
                  rw [q5] at P
                  exact fun W5 H5 d5 l5 => ⟨W5, h5, acc5, d5, l4.trans l5, P⟩
      · exact P.elim
    · have e : i = xs.length := by omega
      subst e
      rw [List.drop_length] at P
      unfold lc2Go at P
      split at P
      · rename_i ck
        exact .inl ⟨(Pr _ W h H l d.rel ck).2 (Nat.le_refl _), P W H d l⟩
      · exact P.elim
theorem re_lc {elt tg iter : Expr} {ifs : List Expr} {scope : Scope} {own : List (Str × Nat)} {mi : MI} {g : MG} {tt : MT} {te : ME} (hc : X.calm = true) (hN : X.N.Nodup) (hi : RI cn X tg iter mi) (ok : BlkOk X.N X.env.scope scope own)
    (hg : ∀ (s : Shared) (H : Hp) (C : Addr) (cl : List (Str × Addr)) (fp : List Addr), RGo cn (X.blk s H scope (compEnvC scope cl C X.env) fp) (own.map (·.2)) tg g) (ht : ∀ (s : Shared) (H : Hp) (C : Addr) (cl : List (Str × Addr)) (fp : List Addr), RTs cn (X.blk s H scope (compEnvC scope cl C X.env) fp) ifs tt)
    (he : ∀ (s : Shared) (H : Hp) (C : Addr) (cl : List (Str × Addr)) (fp : List Addr), RE cn (X.blk s H scope (compEnvC scope cl C X.env) fp) elt te) (hs : ∀ x, foldedSetIterable iter X.env x = pure x := by intro _; rfl) :
    RE cn X (.ListComp elt [⟨tg, iter, ifs, 0⟩] scope pos) (mLc mi g tt te (own.map (·.2))) :=
  .mk ⟨_, pe_lc (wi := cI (gx X cn) mi) (g := cG (gx X cn) (own.map fun p : Str × Nat => p.2) g) (tt := cT (gx X cn) tt) (te := cE (gx X cn) te) hc hN hi ok hg ht he hs, sim_lc⟩
theorem rs_setLc {i : Nat} {y : Str} {py spos : Pos} {elt tg iter : Expr} {ifs : List Expr} {scope : Scope} {own : List (Str × Nat)} {mi : MI} {g : MG} {tt : MT} {te : ME} (hc : X.calm = true) (hN : X.N.Nodup) (hy : X.N[i]? = some y) (hyl : X.env.scope.names.lookup y = some .local)
    (hsw : swapsWith (.ListComp elt [⟨tg, iter, ifs, 0⟩] scope pos) (some (.Name y py)) spos.line X.env = pure true) (hi : RI cn X tg iter mi) (ok : BlkOk X.N X.env.scope scope own)
    (hg : ∀ (s : Shared) (H : Hp) (C : Addr) (cl : List (Str × Addr)) (fp : List Addr), RGo cn (X.blk s H scope (compEnvC scope cl C X.env) fp) (own.map (·.2)) tg g) (ht : ∀ (s : Shared) (H : Hp) (C : Addr) (cl : List (Str × Addr)) (fp : List Addr), RTs cn (X.blk s H scope (compEnvC scope cl C X.env) fp) ifs tt)
    (he : ∀ (s : Shared) (H : Hp) (C : Addr) (cl : List (Str × Addr)) (fp : List Addr), RE cn (X.blk s H scope (compEnvC scope cl C X.env) fp) elt te) (hs : ∀ x, foldedSetIterable iter X.env x = pure x := by intro _; rfl) :
    RSt cn X (.Assign [.Name y py] (.ListComp elt [⟨tg, iter, ifs, 0⟩] scope pos) spos) (mAsg (mLc mi g tt te (own.map (·.2))) (gNm i)) := by
  refine .mk ⟨_, ps_setLc (wi := cI (gx X cn) mi) (g := cG (gx X cn) (own.map fun p : Str × Nat => p.2) g) (tt := cT (gx X cn) tt) (te := cE (gx X cn) te) hc hN hy hyl hsw hi ok hg ht he hs, fun W h H μ σ D R S P => ?_⟩
  refine sim_lc (G := gx X cn) W h H μ σ _ R S (P.thn fun x h1 W1 H1 v _ E1 R1 r1 P1 => ?_)
  exact P1 W1 H1 _ (Ext.refl _ _) R1 ((S.ext E1).set r1)
theorem re_lc2 {elt tg iter tg1 iter1 : Expr} {ifs ifs1 : List Expr} {scope : Scope} {own : List (Str × Nat)} {vs1 : List Nat} {mi mi1 : MI} {g g1 : MG} {tt tt1 : MT} {te : ME} (hc : X.calm = true) (hN : X.N.Nodup) (hi : RI cn X tg iter mi) (ok : BlkOk X.N X.env.scope scope own) (hv : ∀ i ∈ vs1, i ∈ own.map (·.2))
    (hg : ∀ (s : Shared) (H : Hp) (C : Addr) (cl : List (Str × Addr)) (fp : List Addr), RGo cn (X.blk s H scope (compEnvC scope cl C X.env) fp) (own.map (·.2)) tg g) (ht : ∀ (s : Shared) (H : Hp) (C : Addr) (cl : List (Str × Addr)) (fp : List Addr), RTs cn (X.blk s H scope (compEnvC scope cl C X.env) fp) ifs tt)
    (hi1 : ∀ (s : Shared) (H : Hp) (C : Addr) (cl : List (Str × Addr)) (fp : List Addr), RI cn (X.blk s H scope (compEnvC scope cl C X.env) fp) tg1 iter1 mi1)
    (hg1 : ∀ (s : Shared) (H : Hp) (C : Addr) (cl : List (Str × Addr)) (fp : List Addr), RGo cn (X.blk s H scope (compEnvC scope cl C X.env) fp) vs1 tg1 g1) (ht1 : ∀ (s : Shared) (H : Hp) (C : Addr) (cl : List (Str × Addr)) (fp : List Addr), RTs cn (X.blk s H scope (compEnvC scope cl C X.env) fp) ifs1 tt1)
    (he : ∀ (s : Shared) (H : Hp) (C : Addr) (cl : List (Str × Addr)) (fp : List Addr), RE cn (X.blk s H scope (compEnvC scope cl C X.env) fp) elt te) (hs : ∀ x, foldedSetIterable iter X.env x = pure x := by intro _; rfl) (hs1 : ∀ env x, foldedSetIterable iter1 env x = pure x := by intro _ _; rfl) :
    RE cn X (.ListComp elt [⟨tg, iter, ifs, 0⟩, ⟨tg1, iter1, ifs1, 0⟩] scope pos) (mLc2 mi g tt mi1 g1 tt1 te (own.map (·.2)) vs1) :=
  .mk ⟨_, pe_lc2 (wi := cI (gx X cn) mi) (g := cG (gx X cn) (own.map fun p : Str × Nat => p.2) g) (tt := cT (gx X cn) tt) (wi1 := cI (gx X cn) mi1) (g1 := cG (gx X cn) vs1 g1) (tt1 := cT (gx X cn) tt1) (te := cE (gx X cn) te) hc hN hi ok hv hg ht hi1 hg1 ht1 he hs hs1, sim_lc2⟩

/-! ### more sources -/
def mIZ (a b : ME) : MI := fun μ h => (a μ h).bind fun v h1 => (b μ h1).bind fun w h2 => match lstOf h2 v, lstOf h2 w with
  | some l, some k => .ok ((l.zip k).map fun p => mkTup [p.1, p.2], fun h => sameL v l h && sameL w k h) h2
  | _, _ => .bad
theorem ri_zip {kk : Nat} {tpos p0 : Pos} (hg : Gl X "zip") (hm : X.mg "zip" = none) (ha : RE cn X a ma) (hb : RE cn X b mb) (hs0 : starEach (a :: [b]) X.env = (false, eval a X.env) :: starEach [b] X.env := by rfl) (hs1 : starEach (b :: []) X.env = (false, eval b X.env) :: starEach [] X.env := by rfl)
    (hpl : (backTo pos (starEach [b] X.env)).any (·.1) = false := by rfl) : RI cn X (.Tuple es kk tpos) (.Call (.Name "zip" p0) [a, b] [] pos) (mIZ ma mb) := by
  obtain ⟨t, p, s⟩ := ha.ex
  obtain ⟨t', p', s'⟩ := hb.ex
  refine .mk ⟨_, pi_zip hg hm (pa_cons p (pa_cons p' pa_nil hs1) hs0) hs0 hpl, fun W h H μ σ Q R S P => ?_⟩
  refine s W h H μ σ _ R S (P.bnd fun x h1 W1 H1 v _ E1 R1 r1 P1 => ?_)
  refine s' W1 h1 H1 μ σ _ R1 (S.ext E1) (P1.bnd fun y h2 W2 H2 w _ E2 R2 r2 P2 => ?_)
  have r1' := r1.ext E2
  split at P2
  · rename_i l k e1 e2
    obtain ⟨a', xs, rfl, hs, ra⟩ := lstOf_ok R2 r1' e1
    obtain ⟨b', ys, rfl, hs', rb⟩ := lstOf_ok R2 r2 e2
    refine ⟨a', b', xs, ys, rfl, hs, hs', P2 W2 H2 _ (Ext.refl _ _) R2 fun i W3 h3 H3 E3 R3 c => ?_⟩
    rw [Bool.and_eq_true] at c
    obtain ⟨a2, xs2, ea, hs2, ra2⟩ := lstOf_ok R3 (r1'.to E3) (sameL_ok e1 c.1)
    obtain ⟨b2, ys2, eb, hs3, rb2⟩ := lstOf_ok R3 (r2.to E3) (sameL_ok e2 c.2)
    cases ea; cases eb
    refine ⟨fun m hm => ?_, fun hl => ⟨xs2, ys2, hs2, hs3, ?_⟩⟩
    · simp only [List.getElem?_map, List.getElem?_zip_eq_some, Option.map_eq_some_iff] at hm
      obtain ⟨⟨m1, m2⟩, ⟨h1, h2⟩, rfl⟩ := hm
      obtain ⟨w1, hw1, rw1⟩ := ra2.get h1
      obtain ⟨w2, hw2, rw2⟩ := rb2.get h2
      refine ⟨⟨xs2, ys2, w1, w2, hs2, hs3, hw1, hw2⟩, fun x H' y => ?_⟩
      obtain ⟨T, x1, x2, rfl, hT, rfl, y1, y2⟩ := y
      have e1 := y1 xs2 hs2
      have e2 := y2 ys2 hs3
      rw [hw1] at e1; rw [hw2] at e2
      cases e1; cases e2
      obtain ⟨R', E'⟩ := R3.frozen hT (.tup [w1, w2])
      exact ⟨_, E', R', mkTup_rv (W := ⟨upd W3.F T (.tup [w1, w2]), W3.ρ⟩) upd_same (.cons (rw1.ext E') (.cons (rw2.ext E') .nil))⟩
    · simp only [List.length_map, List.length_zip] at hl
      rw [← ra2.length, ← rb2.length]
      omega
  · exact P2.elim
def mIE (a : ME) : MI := fun μ h => (a μ h).bind fun v h1 => match lstOf h1 v with
  | some l => .ok (l.zipIdx.map fun p => mkTup [.d (.int (p.2 : Nat)), p.1], sameL v l) h1
  | _ => .bad
theorem ri_enum {kk : Nat} {tpos p0 : Pos} (hg : Gl X "enumerate") (hm : X.mg "enumerate" = none) (ha : RE cn X a ma) (hs0 : starEach (a :: []) X.env = (false, eval a X.env) :: starEach [] X.env := by rfl) (hs : starEach [a] X.env = [(false, eval a X.env)] := by rfl) :
    RI cn X (.Tuple es kk tpos) (.Call (.Name "enumerate" p0) [a] [] pos) (mIE ma) := by
  obtain ⟨t, p, s⟩ := ha.ex
  refine .mk ⟨_, pi_enum hg hm (pa_cons p pa_nil hs0) hs, fun W h H μ σ Q R S P => ?_⟩
  refine s W h H μ σ _ R S (P.bnd fun x h1 W1 H1 v _ E1 R1 r1 P1 => ?_)
  split at P1
  · rename_i l e1
    obtain ⟨a', xs, rfl, hs, ra⟩ := lstOf_ok R1 r1 e1
    refine ⟨a', xs, rfl, hs, P1 W1 H1 _ (Ext.refl _ _) R1 fun i W3 h3 H3 E3 R3 c => ?_⟩
    obtain ⟨a2, xs2, ea, hs2, ra2⟩ := lstOf_ok R3 (r1.to E3) (sameL_ok e1 c)
    cases ea
    refine ⟨fun m hm => ?_, fun hl => ⟨xs2, hs2, ?_⟩⟩
    · simp only [List.getElem?_map, List.getElem?_zipIdx, Option.map_eq_some_iff] at hm
      obtain ⟨⟨m1, j⟩, ⟨m2, h1, h2⟩, rfl⟩ := hm
      injection h2 with h2a h2b
      subst h2a h2b
      obtain ⟨w1, hw1, rw1⟩ := ra2.get h1
      refine ⟨⟨xs2, w1, hs2, hw1⟩, fun x H' y => ?_⟩
      obtain ⟨T, x1, rfl, hT, rfl, y1⟩ := y
      have e1 := y1 xs2 hs2
      rw [hw1] at e1
      cases e1
      obtain ⟨R', E'⟩ := R3.frozen hT (.tup [.int ((i : Nat) : Int), w1])
      refine ⟨_, E', R', ?_⟩
      have e0 : 0 + i = i := Nat.zero_add i
      show RV _ _ (mkTup [.d (.int ((0 + i : Nat) : Int)), _]) _
      rw [e0]
      exact mkTup_rv (W := ⟨upd W3.F T (.tup [.int ((i : Nat) : Int), w1]), W3.ρ⟩) upd_same (.cons (.d (.int _)) (.cons (rw1.ext E') .nil))
    · simp only [List.length_map, List.length_zipIdx] at hl
      rw [← ra2.length]
      exact hl
  · exact P1.elim
end
end Mini
/-! # Mini: defs, calls, classes -/
namespace Mini
open PySem PySem.Spec PyProof.Rows L2
/-- how a def's machine is made of its body: n parameters, N slots -/
def mDef (n N : Nat) (body : MS) (us : List MV) (h : MH) : R MV := if us.length = n then match body (us.map some ++ List.replicate (N - us.length) none) h with
    | .nx _ h' => .ok (.d .none) h'
    | .rt v h' => .ok v h'
    | _ => .bad
  else .bad
/-- def f(a, .., *v): n parameters ahead of the star -/
def mStar (n N : Nat) (body : MS) (us : List MV) (h : MH) : R MV := if n ≤ us.length ∧ us.length ≤ 10000 then mDef (n + 1) N body (us.take n ++ [mkTup (us.drop n)]) h else .bad
abbrev MF := List MV → MH → R MV
def spM (G : Gx) (m : MF) : Sp := fun vs H Q _ => ∃ W h us, Rel G W h H ∧ RVs G W us vs ∧ PoE G W H (m us h) Q
/-- a promise where no guard is under way -/
def FnG (P : Program) (w : World) (G : Gx) (base : Heap) (k : Nat) (f : Addr) (sp : Sp) : Prop :=
  ∀ (A : Around) (outer : List Env) (s : Shared) (H : Hp) (us : List Value) (vs : List V) (Q : VK) (E : XK), A.guards = some [] → Room k A → Env0 P w G.K G.mg base A outer s H → Vals vs us → sp vs H Q E →
    codeAny (model P w) A (.call (.ref f) ⟨us, []⟩) (CR CX0 outer P w H s Q E) s
section
variable {P : Program} {w : World} {G : Gx} {base : Heap} {j k : Nat} {f : Addr} {sp sp' : Sp}
theorem FnG.mono (F : FnG P w G base k f sp) (h : k ≤ j) : FnG P w G base j f sp := fun A outer s H us vs Q E hG hr => F A outer s H us vs Q E hG (hr.mono h)
theorem FnG.imp (F : FnG P w G base k f sp) (h : ∀ vs H Q E, sp' vs H Q E → sp vs H Q E) : FnG P w G base k f sp' := fun A outer s H us vs Q E hG hr e0 r hs => F A outer s H us vs Q E hG hr e0 r (h _ _ _ _ hs)
theorem fnG_of {cn : Nat → Str × List Str} {K : PySem.W.Frag} {mg : Str → Option Value} {x qual : Str} {st : Stmt} {fd : FuncData} {N ps : List Str} {body : MS} (F : Fun K x qual st f fd) (S : FnScope N ps (defScope st))
    (hb : ∀ (kV doc pm : Value) (an : Option Addr) (cdv ct : Value) (us : List Value), us.length = ps.length → bindArgs (PySem.W.fnOf x qual (defArgs st) (defBody st) (defScope st) .none kV doc pm an cdv ct) ⟨us, []⟩ = pure (ps.zip us))
    (hbody : ∀ (cdv : Value) (A : Around) (outer : List Env) (s : Shared) (H : Hp) (E : XK), A.guards = some [] → Room k (A.deeper (envOfC qual (defScope st) s.heap.objs.size f cdv)) →
      RB cn (cxOf CX0 P w K mg base N qual (defScope st) f cdv A outer s H E).nox (defBody st) body) :
    FnG P w ⟨K, mg, cn⟩ base (k + 1) f (spM ⟨K, mg, cn⟩ (mDef ps.length N.length body)) := by
  intro A outer s H us vs Q E hG hr e0 r hs
  obtain ⟨W, h, ms, R, rs, Pq⟩ := hs
  obtain ⟨oc, od, kV, doc, pm, an, cdv, ct, osl, rfl, lk, hcd⟩ := F.ex
  unfold mDef at Pq
  split at Pq
  · rename_i hl
    have hl' : vs.length = ps.length := by rw [← rs.length]; exact hl
    have hlu : us.length = ps.length := by rw [← r.length]; exact hl'
    refine StX.run_bnd (CX := CX0) lk hcd S hr e0 (G := fun xs H2 => xs = vs ∧ H2 = H) (fun A' Ex Q' hq => ?_) fun s2 H2 xs ⟨e1, e2⟩ hr' => ?_
    · rw [hb kV doc pm an cdv ct us hlu]
      exact wpAny_pure (hq s H vs us e0 Un.refl rfl (fun _ _ z => z) r hl' ⟨rfl, rfl⟩)
    · subst e1 e2
      refine ⟨_, PSs.nox (hbody cdv A outer s2 H2 E hG hr'), W, h, ms.map some ++ List.replicate (N.length - ms.length) none, R, ?_, ?_⟩
      · have := RSl.ofVs (G := ⟨K, mg, cn⟩) (N.length - ms.length) rs
        have e : L2.start N xs = xs.map some ++ List.replicate (N.length - ms.length) none := by
          unfold L2.start
          rw [rs.length]
        rw [e]
        exact this
      · generalize body (ms.map some ++ List.replicate (N.length - ms.length) none) h = z at Pq
        cases z with
        | nx μ h' => exact fun W' H' σ E' R' S' => Pq W' H' .non E' R' (.d .non)
        | rt v h' => exact Pq
        | bk μ h' => exact Pq.elim
        | ct μ h' => exact Pq.elim
        | bad => exact Pq.elim
  · exact Pq.elim
/-- def f(a, .., *v) -/
theorem fnG_star {cn : Nat → Str × List Str} {K : PySem.W.Frag} {mg : Str → Option Value} {x qual pv : Str} {st : Stmt} {fd : FuncData} {N ps : List Str} {body : MS} (F : Fun K x qual st f fd) (S : FnScope N (ps ++ [pv]) (defScope st))
    (hb : ∀ (kV doc pm : Value) (an : Option Addr) (cdv ct : Value) (us rest : List Value), us.length = ps.length → bindArgs (PySem.W.fnOf x qual (defArgs st) (defBody st) (defScope st) .none kV doc pm an cdv ct) ⟨us ++ rest, []⟩ = (newTuple rest >>= fun t => pure (ps.zip us ++ [(pv, t)])))
    (hbody : ∀ (cdv : Value) (A : Around) (outer : List Env) (s : Shared) (H : Hp) (E : XK), A.guards = some [] → Room k (A.deeper (envOfC qual (defScope st) s.heap.objs.size f cdv)) →
      RB cn (cxOf CX0 P w K mg base N qual (defScope st) f cdv A outer s H E).nox (defBody st) body) :
    FnG P w ⟨K, mg, cn⟩ base (k + 1) f (spM ⟨K, mg, cn⟩ (mStar ps.length N.length body)) := by
  intro A outer s H us0 vs0 Q E hG hr e0 r hs
  obtain ⟨W, h, ms, R, rs, Pq⟩ := hs
  obtain ⟨oc, od, kV, doc, pm, an, cdv, ct, osl, rfl, lk, hcd⟩ := F.ex
  unfold mStar at Pq
  split at Pq
  · rename_i hc
    obtain ⟨hl0, hl9⟩ := hc
    have hlv : ps.length ≤ vs0.length := by rw [← rs.length]; exact hl0
    have ev : vs0 = vs0.take ps.length ++ vs0.drop ps.length := (List.take_append_drop _ _).symm
    have rw1 := rs.take ps.length
    have rw2 := rs.drop ps.length
    generalize hw : vs0.take ps.length = ws at ev rw1
    generalize hre : vs0.drop ps.length = rest at ev rw2
    have hl : ws.length = ps.length := by rw [← hw, List.length_take]; omega
    subst ev
    obtain ⟨u1, u2, eu, r1, r2⟩ := StX.vals_split r
    subst eu
    have hz : rest.length ≤ sizeLine := by
      have : rest.length ≤ ms.length := by rw [rs.length, List.length_append]; omega
      rw [sizeLine_eq]; omega
    have hn : H s.heap.objs.size = Option.none := e0.hok.fresh (Nat.le_refl _)
    have hl1 : u1.length = ps.length := by rw [← r1.length]; exact hl
    have hl2 : u2.length ≤ sizeLine := by rw [← r2.length]; exact hz
    refine StX.run_bnd (CX := CX0) lk hcd S hr e0 (G := fun xs H2 => ∃ p, H p = Option.none ∧ xs = ws ++ [V.ref p] ∧ H2 = upd H p (.tup rest)) (fun A' Ex Q' hq => ?_) fun s2 H2 xs ⟨p, hp, ex, eH⟩ hr' => ?_
    · rw [hb kV doc pm an cdv ct u1 u2 hl1]
      refine wpAny_bind (wpAny_newTuple (wpAny_pure ?_) hl2)
      have new : ObjOk P w (upd H s.heap.objs.size (.tup rest)) (s.heap.push ({ cls := .type "tuple", data := .seq u2.toArray } : Obj)) s.heap.objs.size (.tup rest) := ⟨hz, u2, r2, ⟨_, Heap.get?_push_size _ rfl, rfl, _, rfl⟩⟩
      have un := StX.un_laid (fs := frs outer) (s := s) (o := ({ cls := .type "tuple", data := .seq u2.toArray } : Obj)) (u := .tup rest) hn
      have z := hq _ _ (ws ++ [V.ref s.heap.objs.size]) (u1 ++ [Value.ref s.heap.objs.size]) (StX.env0_laid e0 new) un rfl (fun e s' q => q.elim) (r1.append (.cons rfl .nil))
        (by rw [List.length_append, List.length_append, hl] <;> rfl) ⟨_, hn, rfl, rfl⟩
      rw [List.zip_append hl1.symm] at z
      exact z
    · subst ex eH
      obtain ⟨R', E'⟩ := R.frozen hp (.tup rest)
      have rt : RVs ⟨K, mg, cn⟩ ⟨upd W.F p (.tup rest), W.ρ⟩ (ms.take ps.length ++ [mkTup (ms.drop ps.length)]) (ws ++ [V.ref p]) :=
        (rw1.ext E').app (.cons (mkTup_rv (W := ⟨upd W.F p (.tup rest), W.ρ⟩) upd_same (rw2.ext E')) .nil)
      have Pq' := Po.ext Pq E'
      unfold mDef at Pq'
      split at Pq'
      · refine ⟨_, PSs.nox (hbody cdv A outer s2 _ E hG hr'), _, h, (ms.take ps.length ++ [mkTup (ms.drop ps.length)]).map some ++ List.replicate (N.length - (ms.take ps.length ++ [mkTup (ms.drop ps.length)]).length) none, R', ?_, ?_⟩
        · have := RSl.ofVs (G := ⟨K, mg, cn⟩) (N.length - (ms.take ps.length ++ [mkTup (ms.drop ps.length)]).length) rt
          have e : L2.start N (ws ++ [V.ref p]) = (ws ++ [V.ref p]).map some ++ List.replicate (N.length - (ms.take ps.length ++ [mkTup (ms.drop ps.length)]).length) none := by
            unfold L2.start
            rw [rt.length]
          rw [e]
          exact this
        · generalize body ((ms.take ps.length ++ [mkTup (ms.drop ps.length)]).map some ++ List.replicate (N.length - (ms.take ps.length ++ [mkTup (ms.drop ps.length)]).length) none) h = z at Pq'
          cases z with
          | nx μ h' => exact fun W' H' σ E' R' S' => Pq' W' H' .non E' R' (.d .non)
          | rt v h' => exact Pq'
          | bk μ h' => exact Pq'.elim
          | ct μ h' => exact Pq'.elim
          | bad => exact Pq'.elim
      · exact Pq'.elim
  · exact Pq.elim
end

/-! ## calls -/
section
variable {cn : Nat → Str × List Str} {X : Cx} {a b c e o : Expr} {es : List Expr} {ma mb mc mo : ME} {mas : MA} {pos p apos : Pos} {G : Gx} {m : MF} {j k : Nat} {x name : Str}
theorem run_fnG {pins : List (Addr × Obj)} {σ : L2.St} {H : Hp} {s : Shared} {f : Addr} {sp : Sp} {E : XK} {Q : VK} {us : List Value} {vs : List V} (F : FnG X.prog X.w (gx X cn) X.base k f sp) (hG : X.A.guards = some []) (hr : Room k X.A) (I : Inv X pins σ H s) (r : Vals vs us) (h : sp vs H Q E) :
    codeAny (model X.prog X.w) X.A (.call (.ref f) ⟨us, []⟩) (fun r s' => match r with | .ok (.ret v) => EP X pins σ Q v s' | .ok _ => False | .error e => X.xe e s') s := by
  refine codeAny_mono (F X.A X.stack s H us vs Q E hG hr I.env0 r h) fun r s' hq => ?_
  cases r with
  | error e => exact hq.elim
  | ok fl =>
    cases fl with
    | ret u => exact I.after hq
    | next => exact False.elim hq
    | brk => exact False.elim hq
    | cont => exact False.elim hq
theorem run_fnG1 {pins : List (Addr × Obj)} {σ : L2.St} {H : Hp} {s : Shared} {f : Addr} {sp : Sp} {E : XK} {Q : VK} {us : List Value} {vs : List V} {Ex : Value → Shared → Prop} (F : FnG X.prog X.w (gx X cn) X.base k f sp) (hG : X.A.guards = some []) (hr : Room (k + 1) X.A) (I : Inv X pins σ H s) (r : Vals vs us) (h : sp vs H Q E) :
    wpAny (model X.prog X.w) X.A.in1 (call (.ref f) us) (EP X pins σ Q) Ex s := by
  refine wpAny_call (codeAny_mono (F X.A.in1 X.stack s H us vs Q E hG hr.in1 I.env0.in1 r h) fun r s' hq => ?_)
  cases r with
  | error e => exact hq.elim
  | ok fl =>
    cases fl with
    | ret u => exact I.after hq
    | next => exact False.elim hq
    | brk => exact False.elim hq
    | cont => exact False.elim hq
/-- a def of the module -/
def CalG (P : Program) (w : World) (G : Gx) (base : Heap) (k : Nat) (x : Str) (m : MF) : Prop := ∃ f, G.mg x = some (.ref f) ∧ PySem.W.keepIn G.K (.ref f) = true ∧ FnG P w G base k f (spM G m)
theorem spM_of {W : Wd} {h : MH} {H : Hp} {us : List MV} {vs : List V} {Q : VK} {E : XK} (R : Rel G W h H) (r : RVs G W us vs) (P : PoE G W H (m us h) Q) : spM G m vs H Q E := ⟨W, h, us, R, r, P⟩
theorem re_call (c : CalG X.prog X.w (gx X cn) X.base k x m) (hG : X.A.guards = some []) (hr : Room j X.A) (hk : k ≤ j) (hg : Gl X x) (ha : RA cn X (e :: es) mas) (hdb : (x == ("__debug__" : Str)) = false := by decide)
    (he : starEach (e :: es) X.env = (false, eval e X.env) :: starEach es X.env := by rfl) (hpl : (backTo pos (starEach es X.env)).any (·.1) = false := by rfl) : RE cn X (.Call (.Name x p) (e :: es) [] pos) (mCB m mas) := by
  obtain ⟨f, hm, hkp, F⟩ := c
  obtain ⟨t, pa, sa⟩ := ha.ex
  refine ⟨fun pins s σ H Q I ⟨W, h, μ, R, S, P⟩ => ?_⟩
  refine wpAny_Call_Name_kw (ld_glob I hg hm ?_ hdb)
  refine PySem.W.callWith_K (h₀ := X.base) I.ok.mod.kin hkp (thn (pa.run pos pins s σ H _ I (sa W h H μ σ _ R S (P.bnd fun us h1 W1 H1 vs _ E1 R1 r1 P1 => spM_of (E := E0) R1 r1 P1))) fun us s1 ⟨vs, H1, I1, r, q⟩ => ⟨I1.kIn, ?_⟩) he hpl
  exact wpAny_call (run_fnG F hG (hr.mono hk) I1 r q)
theorem re_call0 (c : CalG X.prog X.w (gx X cn) X.base k x m) (hG : X.A.guards = some []) (hr : Room j X.A) (hk : k ≤ j) (hg : Gl X x) (hdb : (x == ("__debug__" : Str)) = false := by decide) : RE cn X (.Call (.Name x p) [] [] pos) (mCB m mNil) := by
  obtain ⟨f, hm, hkp, F⟩ := c
  refine ⟨fun pins s σ H Q I ⟨W, h, μ, R, S, P⟩ => ?_⟩
  refine wpAny_Call_Name_kw (ld_glob I hg hm ?_ hdb)
  exact PySem.W.callWith_K0 I.kIn hkp (wpAny_call (run_fnG (us := []) F hG (hr.mono hk) I .nil (spM_of (E := E0) R .nil P)))

/-! ## instances -/
/-- a class of the text by its number -/
structure ClsG (G : Gx) (c : Nat) (C : Addr) : Prop where
  mg : G.mg (G.cn c).1 = some (.ref C)
  cls : Cls G.K C
  nat : ∀ f ∈ (G.cn c).2, NoAttr G.K C f
  nd : (G.cn c).2.Nodup
  few : (G.cn c).2.length < 1000
def insOf (c : Nat) (h : MH) : MV → Option (Nat × List MV)
  | .ref i => match h[i]? with
    | some (.ins c' fs) => if c' = c then some (i, fs) else none
    | _ => none
  | _ => none
theorem insOf_ok {c i : Nat} {C : Addr} {W : Wd} {H : Hp} {h : MH} {m : MV} {v : V} {fs : List MV} (K : ClsG G c C) (R : Rel G W h H) (r : RV G W m v) (e : insOf c h m = some (i, fs)) :
    ∃ a dx fs', v = .ref a ∧ W.ρ[i]? = some a ∧ H a = some (.ins C dx fs') ∧ fs'.map (·.1) = (G.cn c).2.take fs.length ∧ fs.length ≤ (G.cn c).2.length ∧ RVs G W fs (fs'.map (·.2)) := by
  cases r with
  | @ref i' a q =>
    obtain ⟨o, ho, ro⟩ := R.ofRef q
    simp only [insOf, ho] at e
    cases o with
    | ins c' fs0 =>
      simp only at e
      split at e
      · rename_i ec
        cases e
        subst ec
        obtain ⟨C', dx, fs', hm, hi, hn, hz, hv⟩ := ro
        rw [K.mg] at hm; cases hm
        exact ⟨a, dx, fs', rfl, q, hi, hn, hz, hv⟩
      · cases e
    | _ => simp at e
  | _ => simp [insOf] at e
theorem lookup_take : ∀ {ns : List Str} {fs : List (Str × V)} {j n : Nat} {f : Str} {v : V}, ns.Nodup → fs.map (·.1) = ns.take n → ns[j]? = some f → (fs.map (·.2))[j]? = some v → fs.lookup f = some v
  | ns, [], j, n, f, v, _, _, _, h => by simp at h
  | [], (g, x) :: r, j, n, f, v, _, h, _, _ => by simp at h
  | k :: ns, (g, x) :: r, 0, n, f, v, nd, hn, hf, hv => by
    cases n with
    | zero => simp at hn
    | succ n =>
      simp at hn hf hv
      obtain ⟨e1, e2⟩ := hn
      subst e1 hf hv
      simp [List.lookup]
  | k :: ns, (g, x) :: r, j + 1, n, f, v, nd, hn, hf, hv => by
    cases n with
    | zero => simp at hn
    | succ n =>
      simp at hn hf hv
      obtain ⟨e1, e2⟩ := hn
      subst e1
      have hne : (f == g) = false := by
        rw [beq_eq_false_iff_ne]
        intro e
        subst e
        exact (List.nodup_cons.mp nd).1 (List.mem_of_getElem? hf)
      simp only [List.lookup, hne]
      exact lookup_take (j := j) (n := n) (List.nodup_cons.mp nd).2 e2 hf (by simpa using hv)
theorem lookup_out : ∀ {fs : List (Str × V)} {f : Str}, f ∉ fs.map (·.1) → fs.lookup f = none
  | [], _, _ => rfl
  | (g, x) :: r, f, h => by
    have hne : (f == g) = false := by
      rw [beq_eq_false_iff_ne]
      intro e
      exact h (by simp [e])
    simp only [List.lookup, hne]
    exact lookup_out fun q => h (by simp; simp at q; exact .inr q)
def mFld (c j : Nat) (o : ME) : ME := fun μ h => (o μ h).bind fun x h1 => match insOf c h1 x with
  | some (_, fs) => ofO fs[j]? h1
  | none => .bad
theorem re_fld {cid jj : Nat} {C : Addr} {f : Str} (K : ClsG (gx X cn) cid C) (hf : (cn cid).2[jj]? = some f) (ho : RE cn X o mo) (hb : attributeBase o f X.env (eval o X.env) = eval o X.env := by rfl) : RE cn X (.Attribute o f pos) (mFld cid jj mo) := by
  obtain ⟨t, pp, s⟩ := ho.ex
  refine .mk ⟨_, pe_fld pp hb, fun W h H μ σ Q R S P => ?_⟩
  refine s W h H μ σ _ R S (P.bnd fun x h1 W1 H1 v _ E1 R1 r1 P1 => ?_)
  split at P1
  · rename_i i fs e
    obtain ⟨a, dx, fs', rfl, q, hi, hn, hz, hv⟩ := insOf_ok K R1 r1 e
    unfold ofO at P1
    split at P1
    · rename_i y ey
      obtain ⟨w, ew, rw'⟩ := hv.get ey
      exact ⟨a, C, dx, fs', w, rfl, hi, K.cls, K.nat f (List.mem_of_getElem? hf), lookup_take K.nd hn hf ew, P1.ok R1 rw'⟩
    · exact P1.elim
  · exact P1.elim
/-- o.f = e; a field is made in the order of the table -/
def sSetF (c j : Nat) (o e : ME) : MS := fun μ h => (e μ h).thn fun y h1 => (o μ h1).thn fun x h2 => match insOf c h2 x with
  | some (i, fs) => if j < fs.length then .nx μ (h2.set i (.ins c (fs.set j y))) else if j = fs.length then .nx μ (h2.set i (.ins c (fs ++ [y]))) else .bad
  | none => .bad
theorem putF_in : ∀ {ns : List Str} {fs : List (Str × V)} {j n : Nat} {f : Str} {v : V}, ns.Nodup → fs.map (·.1) = ns.take n → ns[j]? = some f → j < fs.length → (putF f v fs).map (·.1) = fs.map (·.1) ∧ (putF f v fs).map (·.2) = (fs.map (·.2)).set j v
  | ns, [], j, n, f, v, _, _, _, h => by simp at h
  | [], (g, x) :: r, j, n, f, v, _, h, _, _ => by simp at h
  | k :: ns, (g, x) :: r, 0, n, f, v, nd, hn, hf, hv => by
    cases n with
    | zero => simp at hn
    | succ n =>
      simp at hn hf
      obtain ⟨e1, e2⟩ := hn
      subst e1 hf
      simp [putF]
  | k :: ns, (g, x) :: r, j + 1, n, f, v, nd, hn, hf, hv => by
    cases n with
    | zero => simp at hn
    | succ n =>
      simp at hn hf hv
      obtain ⟨e1, e2⟩ := hn
      subst e1
      have hne : ¬ g = f := by
        intro e
        subst e
        exact (List.nodup_cons.mp nd).1 (List.mem_of_getElem? hf)
      obtain ⟨i1, i2⟩ := putF_in (j := j) (n := n) (v := v) (List.nodup_cons.mp nd).2 e2 hf hv
      simp [putF, hne, i1, i2]
theorem putF_out : ∀ {fs : List (Str × V)} {f : Str} {v : V}, f ∉ fs.map (·.1) → putF f v fs = fs ++ [(f, v)]
  | [], _, _, _ => rfl
  | (g, x) :: r, f, v, h => by
    have hne : ¬ g = f := fun e => h (by simp [e])
    simp only [putF, if_neg hne]
    rw [putF_out fun q => h (by simp; simp at q; exact .inr q)]
    rfl
theorem rs_fld {cid jj : Nat} {C : Addr} {f : Str} {pos' : Pos} (K : ClsG (gx X cn) cid C) (hf : (cn cid).2[jj]? = some f) (ho : RE cn X o mo) (he : RE cn X e ma) (hs : swapsWith e (some (.Attribute o f pos')) pos.line X.env = pure false := by rfl) :
    RSt cn X (.Assign [.Attribute o f pos'] e pos) (sSetF cid jj mo ma) := by
  obtain ⟨t, pp, s⟩ := ho.ex
  obtain ⟨t1, p1, s1⟩ := he.ex
  refine .mk ⟨_, ps_fld pp p1 hs, fun W h H μ σ D R S P => ?_⟩
  refine s1 W h H μ σ _ R S (P.thn fun y h1 W1 H1 v _ E1 R1 r1 P1 => ?_)
  refine s W1 h1 H1 μ σ _ R1 (S.ext E1) (P1.thn fun x h2 W2 H2 v2 _ E2 R2 r2 P2 => ?_)
  split at P2
  · rename_i i fs e
    obtain ⟨a, dx, fs', rfl, q, hi, hn, hz, hv⟩ := insOf_ok K R2 r2 e
    have hfl : fs'.length = fs.length := by simpa using hv.length.symm
    refine ⟨a, C, dx, fs', rfl, hi, K.cls, K.nat f (List.mem_of_getElem? hf), by rw [hfl]; exact Nat.lt_of_le_of_lt hz K.few, ?_⟩
    have r1' := r1.ext E2
    split at P2
    · rename_i hj
      obtain ⟨i1, i2⟩ := putF_in (v := v) K.nd hn hf (by rw [hfl]; exact hj)
      obtain ⟨R', E'⟩ := R2.put q (.ins C dx (putF f v fs')) (.ins cid (fs.set jj y)) ⟨C, dx, _, K.mg, upd_same, by rw [i1, hn, List.length_set], by rw [List.length_set]; exact hz, by rw [i2]; exact hv.set r1'⟩
      exact P2 W2 _ σ E' R' ((S.ext E1).ext E2)
    · split at P2
      · rename_i hj
        subst hj
        have hnot : f ∉ fs'.map (·.1) := by
          rw [hn]
          intro z
          obtain ⟨i', hi', ei'⟩ := List.getElem_of_mem z
          rw [List.length_take] at hi'
          have h3 : ((cn cid).2)[i']? = some f := by
            have h4 : ((cn cid).2.take fs.length)[i']? = some f := by rw [List.getElem?_eq_getElem (by rw [List.length_take]; exact hi')]; exact congrArg some ei'
            rw [List.getElem?_take_of_lt (by omega)] at h4
            exact h4
          have := L2.nd_ix K.nd h3 hf
          omega
        have hlt : fs.length < (cn cid).2.length := (List.getElem?_eq_some_iff.mp hf).1
        have hfe : (cn cid).2[fs.length]'hlt = f := (List.getElem?_eq_some_iff.mp hf).2
        obtain ⟨R', E'⟩ := R2.put q (.ins C dx (putF f v fs')) (.ins cid (fs ++ [y])) ⟨C, dx, _, K.mg, upd_same, by
            rw [putF_out hnot, List.map_append, hn, List.length_append]
            show (cn cid).2.take fs.length ++ [f] = (cn cid).2.take (fs.length + 1)
            rw [List.take_add_one, hf]; rfl, by rw [List.length_append]; exact hlt, by
            rw [putF_out hnot, List.map_append]
            exact hv.app (.cons r1' .nil)⟩
        exact P2 W2 _ σ E' R' ((S.ext E1).ext E2)
      · exact P2.elim
  · exact P2.elim
/-- a method of the class -/
def MetG (P : Program) (w : World) (G : Gx) (base : Heap) (k : Nat) (c : Nat) (C : Addr) (name : Str) (m : MF) : Prop := ∃ f, Meth G.K C name f ∧ (G.cn c).2.contains name = false ∧ FnG P w G base k f (spM G m)
def mMeth (c : Nat) (m : MF) (o : ME) (args : MA) : ME := fun μ h => (o μ h).bind fun x h1 => match insOf c h1 x with
  | some _ => (args μ h1).bind fun us h2 => m (x :: us) h2
  | none => .bad
theorem lookup_field {c : Nat} {fs : List MV} {fs' : List (Str × V)} (hn : fs'.map (·.1) = (G.cn c).2.take fs.length) (hc : (G.cn c).2.contains name = false) : fs'.lookup name = none := by
  refine lookup_out ?_
  rw [hn]
  intro z
  have := List.mem_of_mem_take z
  have h2 : (G.cn c).2.contains name = true := by simpa using this
  rw [hc] at h2; cases h2
theorem re_meth {cid : Nat} {C : Addr} {pl : Sem Bool} (K : ClsG (gx X cn) cid C) (M : MetG X.prog X.w (gx X cn) X.base k cid C name m) (hG : X.A.guards = some []) (hr : Room j X.A) (hk : k ≤ j) (ho : RE cn X o mo) (ha : RA cn X (e :: es) mas)
    (hst : starEach (e :: es) X.env = (false, eval e X.env) :: starEach es X.env := by rfl) (hpl : (backTo pos (starEach es X.env)).any (·.1) = false := by rfl)
    (ht : eval (.Call (.Attribute o name apos) (e :: es) [] pos) X.env = (do
      let ov ← eval o X.env
      standAt apos.atName
      let (f, first) ← holding [ov] (getMethod ov name pl)
      callWith pos f first (backTo pos (starEach (e :: es) X.env)) (backToKw pos (keywordEach [] X.env))) := by rfl) :
    RE cn X (.Call (.Attribute o name apos) (e :: es) [] pos) (mMeth cid m mo mas) := by
  obtain ⟨f, hm, hc, F⟩ := M
  obtain ⟨t, pp, so⟩ := ho.ex
  obtain ⟨t2, pa, sa⟩ := ha.ex
  refine ⟨fun pins s σ H Q I ⟨W, h, μ, R, S, P⟩ => ?_⟩
  have q0 := so W h H μ σ (fun v H1 => ∃ W1 h1 x fs i, v = v ∧ Rel (gx X cn) W1 h1 H1 ∧ RSl (gx X cn) W1 μ σ ∧ RV (gx X cn) W1 x v ∧ insOf cid h1 x = some (i, fs) ∧ PoE (gx X cn) W1 H1 ((mas μ h1).bind fun us h2 => m (x :: us) h2) Q) R S (P.bnd fun x h1 W1 H1 v _ E1 R1 r1 P1 => by
    split at P1
    · rename_i q eq
      exact ⟨W1, h1, x, q.2, q.1, rfl, R1, S.ext E1, r1, eq, P1⟩
    · exact P1.elim)
  refine PySem.W.methodCall_KW (pl := pl) (thn (pp.run pins s σ H _ I q0) fun u s1 ⟨v, H1, I1, rx, W1, h1, x, fs, i, _, R1, S1, r1, eq, P1⟩ => ?_) ht
  obtain ⟨a, dx, fs', rfl, q, hi, hn, hz, hv⟩ := insOf_ok K R1 r1 eq
  obtain rfl : u = Value.ref a := rx
  refine getmeth_ok I1 hi K.cls hm (lookup_field hn hc) ?_
  refine PySem.W.callWith_K (first := [.ref a]) (h₀ := X.base) I.ok.mod.kin hm.kp (thn (pa.run pos pins s1 σ H1 _ I1 (sa W1 h1 H1 μ σ _ R1 S1 (P1.bnd fun us h2 W2 H2 vs _ E2 R2 r2 P2 => spM_of (E := E0) R2 (.cons (r1.ext E2) r2) P2))) fun us s2 ⟨vs, H2, I2, r, q2⟩ => ⟨I2.kIn, ?_⟩) hst hpl
  exact wpAny_call (run_fnG (us := .ref a :: us) F hG (hr.mono hk) I2 (Paired.cons (show L2.RelV (V.ref a) (Value.ref a) from rfl) r) q2)
theorem re_meth0 {cid : Nat} {C : Addr} {pl : Sem Bool} (K : ClsG (gx X cn) cid C) (M : MetG X.prog X.w (gx X cn) X.base k cid C name m) (hG : X.A.guards = some []) (hr : Room j X.A) (hk : k ≤ j) (ho : RE cn X o mo)
    (ht : eval (.Call (.Attribute o name apos) [] [] pos) X.env = (do
      let ov ← eval o X.env
      standAt apos.atName
      let (f, first) ← holding [ov] (getMethod ov name pl)
      callWith pos f first (backTo pos (starEach [] X.env)) (backToKw pos (keywordEach [] X.env))) := by rfl) :
    RE cn X (.Call (.Attribute o name apos) [] [] pos) (mMeth cid m mo mNil) := by
  obtain ⟨f, hm, hc, F⟩ := M
  obtain ⟨t, pp, so⟩ := ho.ex
  refine ⟨fun pins s σ H Q I ⟨W, h, μ, R, S, P⟩ => ?_⟩
  have q0 := so W h H μ σ (fun v H1 => ∃ W1 h1 x fs i, v = v ∧ Rel (gx X cn) W1 h1 H1 ∧ RV (gx X cn) W1 x v ∧ insOf cid h1 x = some (i, fs) ∧ PoE (gx X cn) W1 H1 (m [x] h1) Q) R S (P.bnd fun x h1 W1 H1 v _ E1 R1 r1 P1 => by
    split at P1
    · rename_i q eq
      exact ⟨W1, h1, x, q.2, q.1, rfl, R1, r1, eq, P1⟩
    · exact P1.elim)
  refine PySem.W.methodCall_KW (pl := pl) (thn (pp.run pins s σ H _ I q0) fun u s1 ⟨v, H1, I1, rx, W1, h1, x, fs, i, _, R1, r1, eq, P1⟩ => ?_) ht
  obtain ⟨a, dx, fs', rfl, q, hi, hn, hz, hv⟩ := insOf_ok K R1 r1 eq
  obtain rfl : u = Value.ref a := rx
  refine getmeth_ok I1 hi K.cls hm (lookup_field hn hc) ?_
  exact PySem.W.callWith_K0 (first := [.ref a]) I1.kIn hm.kp (wpAny_call (run_fnG (us := [.ref a]) F hG (hr.mono hk) I1 (Paired.cons (show L2.RelV (V.ref a) (Value.ref a) from rfl) .nil) (spM_of (E := E0) R1 (.cons r1 .nil) P1)))
/-- what is tracked beside the world -/
theorem Rel.junk {W : Wd} {h : MH} {H : Hp} {q : Addr} {u : HO} (R : Rel G W h H) (e : H q = none) : Rel G W h (upd H q u) ∧ Ext W H W (upd H q u) := by
  obtain ⟨f1, f2⟩ := R.free e
  have kk : ∀ {a : Addr} {v : HO}, H a = some v → (upd H q u) a = some v := fun z => by rw [upd_ne (ne_of_none z e)]; exact z
  exact ⟨⟨fun a o z => kk (R.sub a o z), R.dis, R.nd, R.len, fun i o a h1 h2 => (R.obj i o a h1 h2).le (W := W) (W' := W) (fun _ _ z => z) List.prefix_rfl fun v z => kk z⟩, ⟨fun _ _ z => z, List.prefix_rfl, fun a o z _ => kk z, fun a o z n => ⟨n, id⟩⟩⟩
/-- C(..) -/
def MakG (P : Program) (w : World) (G : Gx) (base : Heap) (k : Nat) (c : Nat) (C : Addr) (m : MF) : Prop := ∃ f, Mk G.K C f ∧ FnG P w G base k f (spM G m)
def fMake (c : Nat) (m : MF) (us : List MV) (h : MH) : R MV := (m (.ref h.length :: us) (h ++ [.ins c []])).bind fun v h2 => match v with
  | .d .none => .ok (.ref h.length) h2
  | _ => .bad
theorem guards_make {A : Around} {C : Addr} {us : List Value} {kw : List (Str × Value)} (hG : A.guards = some []) : (A.under (.builtin "type.__call__" ⟨.ref C :: us, kw⟩)).guards = some [] := by
  show pushGuards (Code.guards (.builtin "type.__call__" ⟨.ref C :: us, kw⟩)) A.guards = some []
  rw [hG]
  first
    | rfl
    | decide
    | simp [pushGuards, Code.guards, Code.isGuard, guardIds]
theorem make_x {pins : List (Addr × Obj)} {σ : L2.St} {H : Hp} {s : Shared} {cid : Nat} {C : Addr} {W : Wd} {h : MH} {ms : List MV} {Q : VK} {us : List Value} {vs : List V} (K : ClsG (gx X cn) cid C) (M : MakG X.prog X.w (gx X cn) X.base k cid C m) (hG : X.A.guards = some []) (hr : Room (k + 1) X.A)
    (I : Inv X pins σ H s) (r : Vals vs us) (R : Rel (gx X cn) W h H) (rs : RVs (gx X cn) W ms vs) (P : PoE (gx X cn) W H (fMake cid m ms h) Q) : wpAny (model X.prog X.w) X.A (call (.ref C) us) (EP X pins σ Q) X.xe s := by
  obtain ⟨f, M, F⟩ := M
  have hx : H (s.heap.objs.size + 1) = none := I.hok.fresh (Nat.le_succ _)
  have hdx : H s.heap.objs.size = none := I.hok.fresh (Nat.le_refl _)
  have hne : s.heap.objs.size ≠ s.heap.objs.size + 1 := Nat.ne_of_lt (Nat.lt_succ_self _)
  have I2 := Inv.made (C := C) I
  have r2 : Vals (V.ref (s.heap.objs.size + 1) :: vs) (Value.ref (s.heap.objs.size + 1) :: us) := .cons rfl r
  obtain ⟨Ra, Ea⟩ := R.junk (u := .own (s.heap.objs.size + 1)) hdx
  have hx2 : (upd H s.heap.objs.size (.own (s.heap.objs.size + 1))) (s.heap.objs.size + 1) = none := by rw [upd_ne (Ne.symm hne)]; exact hx
  obtain ⟨Rb, Eb⟩ := Ra.push hx2 (.ins C s.heap.objs.size []) (.ins cid []) fun W' s' q => ⟨C, _, [], K.mg, upd_same, rfl, Nat.zero_le _, .nil⟩
  have E' := Ea.trans Eb
  have sp : spM (gx X cn) m (V.ref (s.heap.objs.size + 1) :: vs) (upd (upd H s.heap.objs.size (.own (s.heap.objs.size + 1))) (s.heap.objs.size + 1) (.ins C s.heap.objs.size [])) (fun v H2 => v = .non ∧ Q (.ref (s.heap.objs.size + 1)) H2) E0 := by
    refine spM_of Rb (.cons (.ref (last_get R.len)) (rs.ext E')) ?_
    unfold fMake at P
    refine Po.bnd (Po.ext P E') fun v h2 W2 H2 y _ E2 R2 r2 P2 => ?_
    split at P2
    · refine ⟨r2.non_inv, P2.ok R2 (.ref ?_)⟩
      exact pre_get E2.pre (last_get R.len)
    · exact P2.elim
  refine wpAny_call (make_map (f := f) I.kIn M.makes M.init (beq_iff_eq.mp M.fn) (codeAny_mono (F _ X.stack _ _ (Value.ref (s.heap.objs.size + 1) :: us) _ _ E0 (guards_make hG) (hr.make C us []) (I2.env0.make C us []) r2 sp) fun r s' hq' => ?_))
  cases r with
  | error e => exact hq'.elim
  | ok fl =>
    cases fl with
    | ret u =>
      obtain ⟨v, H', I3, rv, ev, q3⟩ := I2.after hq'
      subst ev
      exact ⟨rv, ⟨V.ref (s.heap.objs.size + 1), H', I3, rfl, q3⟩⟩
    | next => exact False.elim hq'
    | brk => exact False.elim hq'
    | cont => exact False.elim hq'
end
end Mini
/-! # Mini: own classes further, repr -/
namespace Mini
open PySem PySem.Spec PyProof.Rows L2
section
variable {cn : Nat → Str × List Str} {X : Cx} {a b c e o : Expr} {es : List Expr} {ma mb mc mo : ME} {mas : MA} {pos p apos : Pos} {G : Gx} {m : MF} {j k : Nat} {x name : Str}
/-! ### C(..) -/
theorem re_make {cid : Nat} {C : Addr} (K : ClsG (gx X cn) cid C) (M : MakG X.prog X.w (gx X cn) X.base k cid C m) (hG : X.A.guards = some []) (hr : Room j X.A) (hk : k + 1 ≤ j) (hx : (cn cid).1 = x) (hg : Gl X x) (ha : RA cn X (e :: es) mas) (hdb : (x == ("__debug__" : Str)) = false := by decide)
    (he : starEach (e :: es) X.env = (false, eval e X.env) :: starEach es X.env := by rfl) (hpl : (backTo pos (starEach es X.env)).any (·.1) = false := by rfl) : RE cn X (.Call (.Name x p) (e :: es) [] pos) (mCB (fMake cid m) mas) := by
  obtain ⟨t, pa, sa⟩ := ha.ex
  have hm : X.mg x = some (.ref C) := by rw [← hx]; exact K.mg
  refine ⟨fun pins s σ H Q I ⟨W, h, μ, R, S, P⟩ => ?_⟩
  refine wpAny_Call_Name_kw (ld_glob I hg hm ?_ hdb)
  obtain ⟨f, Mm, F⟩ := id M
  refine PySem.W.callWith_K (h₀ := X.base) I.ok.mod.kin Mm.kp (thn (pa.run pos pins s σ H (fun vs H1 => ∃ W1 h1 us, Rel (gx X cn) W1 h1 H1 ∧ RVs (gx X cn) W1 us vs ∧ PoE (gx X cn) W1 H1 (fMake cid m us h1) Q) I (sa W h H μ σ _ R S (P.bnd fun us h1 W1 H1 vs _ E1 R1 r1 P1 => ⟨W1, h1, us, R1, r1, P1⟩))) fun us s1 ⟨vs, H1, I1, r, W1, h1, ms, R1, r1, P1⟩ => ⟨I1.kIn, ?_⟩) he hpl
  exact make_x K M hG (hr.mono hk) I1 r R1 r1 P1
theorem re_make0 {cid : Nat} {C : Addr} (K : ClsG (gx X cn) cid C) (M : MakG X.prog X.w (gx X cn) X.base k cid C m) (hG : X.A.guards = some []) (hr : Room j X.A) (hk : k + 1 ≤ j) (hx : (cn cid).1 = x) (hg : Gl X x) (hdb : (x == ("__debug__" : Str)) = false := by decide) : RE cn X (.Call (.Name x p) [] [] pos) (mCB (fMake cid m) mNil) := by
  have hm : X.mg x = some (.ref C) := by rw [← hx]; exact K.mg
  refine ⟨fun pins s σ H Q I ⟨W, h, μ, R, S, P⟩ => ?_⟩
  refine wpAny_Call_Name_kw (ld_glob I hg hm ?_ hdb)
  obtain ⟨f, Mm, F⟩ := id M
  exact PySem.W.callWith_K0 I.kIn Mm.kp (make_x (us := []) K M hG (hr.mono hk) I .nil R .nil P)
/-- f(*xs), f a name that holds the class -/
def mMakeStar (c : Nat) (cname : Str) (m : MF) (f xs : ME) : ME := fun μ h => (f μ h).bind fun v h1 => match v with
  | .glb y => if y = cname then (xs μ h1).bind fun w h2 => match lstOf h2 w with
      | some l => fMake c m l h2
      | none => .bad
    else .bad
  | _ => .bad
theorem re_makeStar {cid : Nat} {C : Addr} {y : Str} {sp_ : Pos} (K : ClsG (gx X cn) cid C) (M : MakG X.prog X.w (gx X cn) X.base k cid C m) (hG : X.A.guards = some []) (hr : Room j X.A) (hk : k + 1 ≤ j) (hx : (cn cid).1 = y) (hf : RE cn X (.Name x p) ma) (he : RE cn X e mb)
    (hst : starEach [.Starred e sp_] X.env = [(true, eval e X.env)] := by rfl) : RE cn X (.Call (.Name x p) [.Starred e sp_] [] pos) (mMakeStar cid y m ma mb) := by
  have hm : X.mg y = some (.ref C) := by rw [← hx]; exact K.mg
  obtain ⟨t, pf, sf⟩ := hf.ex
  obtain ⟨t2, pe, se⟩ := he.ex
  obtain ⟨f, Mm, F⟩ := id M
  refine ⟨fun pins s σ H Q I ⟨W, h, μ, R, S, P⟩ => ?_⟩
  have q0 := sf W h H μ σ (fun v H1 => v = .ref C ∧ ∃ W1 h1, Rel (gx X cn) W1 h1 H1 ∧ RSl (gx X cn) W1 μ σ ∧ PoE (gx X cn) W1 H1 ((mb μ h1).bind fun w h2 => match lstOf h2 w with
      | some l => fMake cid m l h2
      | none => .bad) Q) R S (P.bnd fun x h1 W1 H1 v _ E1 R1 r1 P1 => by
    split at P1
    · split at P1
      · rename_i ey
        subst ey
        cases r1 with
        | glb q =>
          rw [show (gx X cn).mg = X.mg from rfl, hm] at q
          cases q
          exact ⟨rfl, W1, h1, R1, S.ext E1, P1⟩
      · exact P1.elim
    · exact P1.elim)
  refine wpAny_Call_Name_kw (thn (pf.run pins s σ H _ I q0) fun u s1 ⟨v, H1, I1, r1, ev, W1, h1, R1, S1, P1⟩ => ?_)
  subst ev
  obtain rfl : u = Value.ref C := r1
  have q1 := se W1 h1 H1 μ σ (fun v H2 => ∃ W2 h2 l a xs, v = V.ref a ∧ SqL X.K H2 a xs ∧ Rel (gx X cn) W2 h2 H2 ∧ RVs (gx X cn) W2 l xs ∧ PoE (gx X cn) W2 H2 (fMake cid m l h2) Q) R1 S1 (P1.bnd fun x h2 W2 H2 v _ E2 R2 r2 P2 => by
    split at P2
    · rename_i l el
      obtain ⟨a, xs, rfl, hs, ra⟩ := lstOf_ok R2 r2 el
      exact ⟨W2, h2, l, a, xs, rfl, hs, R2, ra, P2⟩
    · exact P2.elim)
  refine PySem.W.callWith_S (h₀ := X.base) I.ok.mod.kin Mm.kp (thn (pe.run pins s1 σ H1 _ I1 q1) fun v s2 ⟨z, H2, I2, rz, W2, h2, l, a, xs, ez, hs, R2, ra, P2⟩ => ?_) hst
  subst ez
  obtain rfl : v = Value.ref a := rz
  exact StX.star_any I2 (.inr hs) fun us s3 I3 rv => ⟨I3.kIn, make_x K M hG (hr.mono hk) I3 rv R2 ra P2⟩
/-! ### constants and classmethods, read off the class -/
def CvG (K : PySem.W.Frag) (C : Addr) (f : Str) (i : Int) : Prop := ∃ mc u, ClX.CRead K C mc ∧ ClX.CVal K C mc f (.int i) u
theorem re_cval {cid : Nat} {C : Addr} {f : Str} {i : Int} (K : ClsG (gx X cn) cid C) (V : CvG X.K C f i) (hx : (cn cid).1 = x) (hg : Gl X x) (hdb : (x == ("__debug__" : Str)) = false := by decide)
    (hb : attributeBase (.Name x p) f X.env (eval (.Name x p) X.env) = eval (.Name x p) X.env := by rfl) : RE cn X (.Attribute (.Name x p) f pos) (mD (.int i)) := by
  have hm : X.mg x = some (.ref C) := by rw [← hx]; exact K.mg
  obtain ⟨mc, u, hr, hv⟩ := V
  obtain ⟨t, pp, s⟩ := (re_glb (cn := cn) (pos := p) hm hg hdb).ex
  refine .mk ⟨_, ClX.pe_cval pp hb, fun W h H μ σ Q R S P => ?_⟩
  refine s W h H μ σ _ R S fun W1 H1 v E1 R1 r1 => ?_
  cases r1 with
  | glb q =>
    rw [show (gx X cn).mg = X.mg from rfl, hm] at q
    cases q
    exact ⟨C, mc, .int i, u, rfl, hr, hv, P W1 H1 (.int i) E1 R1 (.d (.int i))⟩
def CmtG (P : Program) (w : World) (G : Gx) (base : Heap) (k : Nat) (C : Addr) (name : Str) (m : MF) : Prop := ∃ mc p g, ClX.CRead G.K C mc ∧ ClX.CMet G.K C mc name p g ∧ FnG P w G base k g (spM G m)
def mCM (x : Str) (m : MF) (args : MA) : ME := fun μ h => (args μ h).bind fun us h1 => m (.glb x :: us) h1
theorem re_cmeth {cid : Nat} {C : Addr} {pl : Sem Bool} {p2 : Pos} (K : ClsG (gx X cn) cid C) (M : CmtG X.prog X.w (gx X cn) X.base k C name m) (hG : X.A.guards = some []) (hr : Room j X.A) (hk : k ≤ j) (hx : (cn cid).1 = x) (hg : Gl X x) (ha : RA cn X (e :: es) mas) (hdb : (x == ("__debug__" : Str)) = false := by decide)
    (hst : starEach (e :: es) X.env = (false, eval e X.env) :: starEach es X.env := by rfl) (hpl : (backTo pos (starEach es X.env)).any (·.1) = false := by rfl)
    (ht : eval (.Call (.Attribute (.Name x p2) name apos) (e :: es) [] pos) X.env = (do
      let ov ← eval (.Name x p2) X.env
      standAt apos.atName
      let (f, first) ← holding [ov] (getMethod ov name pl)
      callWith pos f first (backTo pos (starEach (e :: es) X.env)) (backToKw pos (keywordEach [] X.env))) := by rfl) :
    RE cn X (.Call (.Attribute (.Name x p2) name apos) (e :: es) [] pos) (mCM x m mas) := by
  have hm : X.mg x = some (.ref C) := by rw [← hx]; exact K.mg
  obtain ⟨mc, q, g, hc, hp, F⟩ := M
  obtain ⟨t, pa, sa⟩ := ha.ex
  refine ⟨fun pins s σ H Q I ⟨W, h, μ, R, S, P⟩ => ?_⟩
  refine PySem.W.methodCall_KW (pl := pl) (ld_glob I hg hm ?_ hdb) ht
  refine ClX.getmethcm_ok I hc hp fun s2 I2 => ?_
  refine ClX.callwith_cm I2 (ClX.base_none I (Nat.le_refl _)) hp.fi (thn (pa.run pos _ s2 σ H _ I2 (sa W h H μ σ _ R S (P.bnd fun us h1 W1 H1 vs _ E1 R1 r1 P1 => spM_of (m := m) (us := .glb x :: us) (vs := .ref C :: vs) (E := E0) R1 (.cons (.glb hm) r1) P1))) fun us s3 ⟨vs, H2, I3, rv, q2⟩ => ⟨⟨ClX.pin_at I3, I3.kIn⟩, ?_⟩) hst hpl
  have z : wpAny (model X.prog X.w) X.A (call (.ref s.heap.objs.size) us) (EP X ((s.heap.objs.size, PySem.W.methodObj (.ref g) (.ref C)) :: pins) σ Q) X.xe s3 :=
    wpAny_call (PySem.W.method_call (ClX.pin_at I3) (run_fnG (us := .ref C :: us) (vs := .ref C :: vs) F hG (hr.mono hk) I3 (Paired.cons (show L2.RelV (V.ref C) (Value.ref C) from rfl) rv) q2))
  exact thn z fun _ _ y => ClX.unpinE y
/-! ### a property -/
def PrpG (P : Program) (w : World) (G : Gx) (base : Heap) (k : Nat) (c : Nat) (C : Addr) (name : Str) (m : MF) : Prop := ∃ p g, PropOf G.K C name p g ∧ FnG P w G base k g (spM G m)
theorem re_prop {cid : Nat} {C : Addr} {f : Str} (K : ClsG (gx X cn) cid C) (M : PrpG X.prog X.w (gx X cn) X.base k cid C f m) (hG : X.A.guards = some []) (hr : Room j X.A) (hk : k + 1 ≤ j) (ho : RE cn X e mo) (hab : attributeBase e f X.env (eval e X.env) = eval e X.env := by rfl) :
    RE cn X (.Attribute e f pos) (mMeth cid m mo mNil) := by
  obtain ⟨p, g, hp, F⟩ := M
  obtain ⟨t, pp, so⟩ := ho.ex
  refine ⟨fun pins s σ H Q I ⟨W, h, μ, R, S, P⟩ => ?_⟩
  have q0 := so W h H μ σ (fun v H1 => ∃ W1 h1 x fs i, Rel (gx X cn) W1 h1 H1 ∧ RV (gx X cn) W1 x v ∧ insOf cid h1 x = some (i, fs) ∧ PoE (gx X cn) W1 H1 (m [x] h1) Q) R S (P.bnd fun x h1 W1 H1 v _ E1 R1 r1 P1 => by
    split at P1
    · rename_i q eq
      exact ⟨W1, h1, x, q.2, q.1, R1, r1, eq, P1⟩
    · exact P1.elim)
  refine attr_of hab (thn (pp.run pins s σ H _ I q0) fun u s1 ⟨v, H1, I1, rx, W1, h1, x, fs, i, R1, r1, eq, P1⟩ => ?_)
  obtain ⟨a, dx, fs', rfl, q, hi, hn, hz, hv⟩ := insOf_ok K R1 r1 eq
  obtain rfl : u = Value.ref a := rx
  obtain ⟨mA, O, _, _, _, _⟩ := ins_get I1.hok hi
  obtain ⟨od, J, _⟩ := O.look
  obtain ⟨rest, hrec⟩ := hp.rec_
  have I2 := I1.tok (s1.toks + 1)
  have hc : (PySem.W.clsIn X.K C).isSome = true := by
    obtain ⟨cd, hc, _⟩ := PySem.W.any_some K.cls.hd
    rw [hc]
    rfl
  refine PySem.W.get_bind I1.kIn J (PySem.W.plainGet_of (K.cls.get f)).1 (PySem.W.findObj_data hc hp.at_ hp.get hp.tak) (PySem.W.plainGet_of (K.cls.get f)).2 (wpAny_call (PySem.W.prop_get (s := { s1 with toks := s1.toks + 1 }) I1.kIn hrec ?_))
  refine codeAny_mono (F X.A.in1 X.stack { s1 with toks := s1.toks + 1 } H1 [.ref a] [.ref a] Q E0 hG (hr.mono hk).in1 I2.env0.in1 (Paired.cons (show L2.RelV (V.ref a) (Value.ref a) from rfl) .nil) (spM_of R1 (.cons r1 .nil) P1)) fun r s' hq => ?_
  cases r with
  | error er => exact False.elim hq
  | ok fl =>
    cases fl with
    | ret u =>
      obtain ⟨v, H', I3, rv, q3⟩ := I2.after hq
      show wpAny _ _ (handedOut u) _ _ _
      rw [PySem.W.handedOut_of (handed_of rv)]
      exact wpAny_pure ⟨v, H', I3, rv, q3⟩
    | next => exact False.elim hq
    | brk => exact False.elim hq
    | cont => exact False.elim hq
/-! ### len(x) -/
def fLenI (c : Nat) (m : MF) (us : List MV) (h : MH) : R MV := match us with
  | [x] => match insOf c h x with
    | some _ => (m [x] h).bind fun v h2 => match v with
      | .d (.int n) => if 0 ≤ n ∧ n < 9223372036854775808 then .ok v h2 else .bad
      | _ => .bad
    | none => fLen us h
  | _ => .bad
def mLenI (c : Nat) (m : MF) (a : ME) : ME := mCB (fLenI c m) (mCons a mNil)
/-- a special method's function -/
def SpcG (P : Program) (w : World) (G : Gx) (base : Heap) (k : Nat) (C : Addr) (name : Str) (m : MF) : Prop := ∃ f, PySem.W.findIn G.K (.ref C) name = some (some (.ref f)) ∧ PySem.W.isFn G.K (.ref f) = true ∧ FnG P w G base k f (spM G m)
theorem inst_at {pins : List (Addr × Obj)} {σ : L2.St} {H : Hp} {s : Shared} {a C dx : Addr} {fs : List (Str × V)} (I : Inv X pins σ H s) (hi : H a = some (.ins C dx fs)) : ∃ ox od, PySem.W.InstAt s.heap a ox C od := by
  obtain ⟨mA, O, _⟩ := ins_get I.hok hi
  obtain ⟨od, J, _⟩ := O.look
  exact ⟨_, _, J⟩
theorem call_lenI {cid : Nat} {C : Addr} (K : ClsG (gx X cn) cid C) (M : SpcG X.prog X.w (gx X cn) X.base k C "__len__" m) (hG : X.A.guards = some []) (hr : Room j X.A) (hk : k + 1 ≤ j) :
    CallR X (.builtin "len") (fun vs H Q => (∃ W h x a dx fs, vs = [V.ref a] ∧ H a = some (.ins C dx fs) ∧ Rel (gx X cn) W h H ∧ RV (gx X cn) W x (.ref a) ∧ PoE (gx X cn) W H (m [x] h) (fun v H' => ∃ n : Int, v = .int n ∧ (0 ≤ n ∧ n < 9223372036854775808) ∧ Q v H')) ∨ rLenAll X.K vs H Q) := by
  refine CallR.or ?_ call_lenAll
  intro pins s σ H vs us Q I r ⟨W, h, x, a, dx, fs, ev, hi, R, rx, P⟩
  subst ev
  obtain ⟨u, rfl, ru⟩ := vals1 r
  obtain rfl : u = Value.ref a := ru
  obtain ⟨f, hf, hfn, F⟩ := M
  obtain ⟨ox, od, J⟩ := inst_at I hi
  obtain ⟨m', hF⟩ := I.fr
  refine PySem.W.len_K hF I.ok.mod.kin J hf hfn ?_
  refine wpAny_mono (run_fnG1 (us := [.ref a]) (vs := [.ref a]) F hG (hr.mono hk) I (Paired.cons (show L2.RelV (V.ref a) (Value.ref a) from rfl) .nil) (spM_of (E := E0) R (.cons rx .nil) P)) (fun v s' q => ?_) fun _ _ y => y
  obtain ⟨v', H', I', rv, n, en, hn, q⟩ := q
  subst en
  obtain ⟨t, rfl⟩ : ∃ t, v = Value.int n t := rv
  exact ⟨⟨hn.1, hn.2⟩, ⟨.int n, H', I'.tok _, ⟨_, rfl⟩, q⟩⟩
theorem re_lenI {cid : Nat} {C : Addr} (K : ClsG (gx X cn) cid C) (M : SpcG X.prog X.w (gx X cn) X.base k C "__len__" m) (hG : X.A.guards = some []) (hr : Room j X.A) (hk : k + 1 ≤ j) (hg : Gl X "len") (hm : X.mg "len" = none) (ha : RE cn X a ma)
    (he : starEach (a :: []) X.env = (false, eval a X.env) :: starEach [] X.env := by rfl) (hpl : (backTo pos (starEach [] X.env)).any (·.1) = false := by rfl) : RE cn X (.Call (.Name "len" p) [a] [] pos) (mLenI cid m ma) := by
  refine re_callB (call_lenI K M hG hr hk) (fun W h H us vs Q R rs P => ?_) hg hm boot_len (ra_cons ha ra_nil he) (by decide) (by decide) he hpl
  unfold fLenI at P
  split at P
  · rename_i x
    obtain ⟨v, rfl, r⟩ := rs.one
    split at P
    · rename_i q eq
      obtain ⟨a, dx, fs', rfl, q, hi, hn, hz, hv⟩ := insOf_ok K R r (show insOf cid h x = some (q.1, q.2) from eq)
      refine .inl ⟨W, h, x, a, dx, fs', rfl, hi, R, r, ?_⟩
      refine Po.bnd P fun v h2 W2 H2 y _ E2 R2 r2 P2 => ?_
      split at P2
      · split at P2
        · rename_i n _ hn
          have := r2.int_inv
          subst this
          exact ⟨n, rfl, hn, P2.ok R2 (.d (.int n))⟩
        · exact P2.elim
      · exact P2.elim
    · exact .inr (cm_len W h H _ _ Q R (.cons r .nil) P)
  · exact P.elim
/-! ### x in o -/
theorem contains_own {pins : List (Addr × Obj)} {σ : L2.St} {H : Hp} {s : Shared} {a C dx f : Addr} {fs : List (Str × V)} {u : Value} {v : V} {Q : Bool → Shared → Prop} {A : Around} {E : Value → Shared → Prop} (I : Inv X pins σ H s) (hi : H a = some (.ins C dx fs)) (hs : PySem.W.findIn X.K (.ref C) "__contains__" = some (some (.ref f))) (hf : PySem.W.isFn X.K (.ref f) = true) (r : RelV v u)
    (h : wpAny (model X.prog X.w) A (call (.ref f) [.ref a, u]) (fun z s' => ∃ y, z = Value.bool y ∧ Q y s') E s) : wpAny (model X.prog X.w) A (PySem.contains (.ref a) u) Q E s := by
  obtain ⟨ox, od, J⟩ := inst_at I hi
  have X₀ := I.kIn
  unfold PySem.contains
  refine wpAny_holding ?_
  have e1 : stdlibNamesSay? (.ref a) u = none := rfl
  simp only [e1]
  refine wpAny_bind (wpAny_bind (J.type.here ((PySem.W.looks_findIn X₀ hs).here ?_)))
  have e2 : ((some (Value.ref f) : Option Value) == some Value.none) = false := by rfl
  simp only [e2, Bool.false_eq_true, if_false]
  refine wpAny_bind ?_
  unfold callSpecialUnlessNone?
  refine wpAny_bind (wpAny_bind (J.type.here ((PySem.W.looks_findIn X₀ hs).here ?_)))
  refine wpAny_holding (wpAny_bind ((PySem.W.bind_fn X₀ _ (beq_iff_eq.mp hf)).here ?_))
  have e3 : (Value.ref f == Value.none) = false := by rfl
  simp only [e3, Bool.false_eq_true, if_false]
  refine wpAny_bind (wpAny_mono h (fun z s' q => ?_) fun _ _ y => y)
  obtain ⟨y, rfl, q⟩ := q
  exact wpAny_pure (wpAny_truthy_bool q)
def fHas (neg : Bool) (c : Nat) (m : MF) (x y : MV) (h : MH) : R MV := match insOf c h y with
  | some _ => (m [y, x] h).bind fun v h2 => match v with
    | .d (.bool z) => rB (if neg then !z else z) h2
    | _ => .bad
  | none => .bad
def mHas (neg : Bool) (c : Nat) (m : MF) (a b : ME) : ME := mBin (fHas neg c m) a b
section
variable {W : Wd} {h : MH} {H : Hp}
def rContI (G : Gx) (C : Addr) (m : MF) (neg : Bool) : R2 := fun x y H Q => ∃ W h mx my a dx fs, y = V.ref a ∧ H a = some (.ins C dx fs) ∧ Rel G W h H ∧ RV G W mx x ∧ RV G W my y ∧ PoE G W H (m [my, mx] h) (fun v H' => ∃ z : Bool, v = .bl z ∧ Q (.bl (if neg then !z else z)) H')
theorem om_cont {cid : Nat} {C : Addr} (neg : Bool) (K : ClsG G cid C) : OpM G (rContI G C m neg) (fHas neg cid m) := by
  intro W h H x y v u Q R rx ry P
  unfold fHas at P
  split at P
  · rename_i q eq
    obtain ⟨a, dx, fs', rfl, q', hi, hn, hz, hv⟩ := insOf_ok K R ry (show insOf cid h y = some (q.1, q.2) from eq)
    refine ⟨W, h, x, y, a, dx, fs', rfl, hi, R, rx, ry, ?_⟩
    refine Po.bnd P fun v h2 W2 H2 y _ E2 R2 r2 P2 => ?_
    split at P2
    · rename_i z _
      have := r2.bl_inv
      subst this
      exact ⟨z, rfl, pB R2 P2⟩
    · exact P2.elim
  · exact P.elim
theorem op_cont {C : Addr} (M : SpcG X.prog X.w (gx X cn) X.base k C "__contains__" m) (hG : X.A.guards = some []) (hr : Room j X.A) (hk : k ≤ j) : OpR X (compareOp .In) (rContI (gx X cn) C m false) := by
  intro pins s σ H x y u v Q I rx ry ⟨W, h, mx, my, a, dx, fs, ey, hi, R, r1, r2, P⟩
  subst ey
  obtain rfl : v = Value.ref a := ry
  obtain ⟨f, hf, hfn, F⟩ := M
  show wpAny _ _ (PySem.contains (Value.ref a) u >>= fun z => pure (Value.bool z)) _ _ _
  refine wpAny_bind (contains_own I hi hf hfn rx ?_)
  refine wpAny_mono (wpAny_call (run_fnG (us := [.ref a, u]) (vs := [.ref a, x]) F hG (hr.mono hk) I (Paired.cons (show L2.RelV (V.ref a) (Value.ref a) from rfl) (.cons rx .nil)) (spM_of (E := E0) R (.cons r2 (.cons r1 .nil)) P))) (fun w s' q => ?_) fun _ _ y => y
  obtain ⟨v', H', I', rv, z, en, q⟩ := q
  subst en
  obtain rfl : w = Value.bool z := rv
  exact ⟨z, rfl, wpAny_pure ⟨.bl z, H', I', rfl, q⟩⟩
theorem op_contN {C : Addr} (M : SpcG X.prog X.w (gx X cn) X.base k C "__contains__" m) (hG : X.A.guards = some []) (hr : Room j X.A) (hk : k ≤ j) : OpR X (compareOp .NotIn) (rContI (gx X cn) C m true) := by
  intro pins s σ H x y u v Q I rx ry ⟨W, h, mx, my, a, dx, fs, ey, hi, R, r1, r2, P⟩
  subst ey
  obtain rfl : v = Value.ref a := ry
  obtain ⟨f, hf, hfn, F⟩ := M
  show wpAny _ _ (PySem.contains (Value.ref a) u >>= fun z => pure (Value.bool (!z))) _ _ _
  refine wpAny_bind (contains_own I hi hf hfn rx ?_)
  refine wpAny_mono (wpAny_call (run_fnG (us := [.ref a, u]) (vs := [.ref a, x]) F hG (hr.mono hk) I (Paired.cons (show L2.RelV (V.ref a) (Value.ref a) from rfl) (.cons rx .nil)) (spM_of (E := E0) R (.cons r2 (.cons r1 .nil)) P))) (fun w s' q => ?_) fun _ _ y => y
  obtain ⟨v', H', I', rv, z, en, q⟩ := q
  subst en
  obtain rfl : w = Value.bool z := rv
  exact ⟨z, rfl, wpAny_pure ⟨.bl (!z), H', I', rfl, q⟩⟩
end
theorem re_cont {cid : Nat} {C : Addr} (K : ClsG (gx X cn) cid C) (M : SpcG X.prog X.w (gx X cn) X.base k C "__contains__" m) (hG : X.A.guards = some []) (hr : Room j X.A) (hk : k ≤ j) (ha : RE cn X a ma) (hb : RE cn X b mb) (hm : behindInMarks .In b = false := by rfl) : RE cn X (.Compare a [.In] [b] pos) (mHas false cid m ma mb) :=
  re_cmp (op_cont M hG hr hk) (om_cont false K) ha hb hm
theorem re_contN {cid : Nat} {C : Addr} (K : ClsG (gx X cn) cid C) (M : SpcG X.prog X.w (gx X cn) X.base k C "__contains__" m) (hG : X.A.guards = some []) (hr : Room j X.A) (hk : k ≤ j) (ha : RE cn X a ma) (hb : RE cn X b mb) (hm : behindInMarks .NotIn b = false := by rfl) : RE cn X (.Compare a [.NotIn] [b] pos) (mHas true cid m ma mb) :=
  re_cmp (op_contN M hG hr hk) (om_cont true K) ha hb hm
theorem rt_cont {cid : Nat} {C : Addr} (K : ClsG (gx X cn) cid C) (M : SpcG X.prog X.w (gx X cn) X.base k C "__contains__" m) (hG : X.A.guards = some []) (hr : Room j X.A) (hk : k ≤ j) (ha : RE cn X a ma) (hb : RE cn X b mb) (hm : behindInMarks .In b = false := by rfl) : RT cn X (.Compare a [.In] [b] pos) (mTB (mHas false cid m ma mb)) :=
  rt_cmp (op_cont M hG hr hk) (om_cont false K) ha hb hm
theorem rt_contN {cid : Nat} {C : Addr} (K : ClsG (gx X cn) cid C) (M : SpcG X.prog X.w (gx X cn) X.base k C "__contains__" m) (hG : X.A.guards = some []) (hr : Room j X.A) (hk : k ≤ j) (ha : RE cn X a ma) (hb : RE cn X b mb) (hm : behindInMarks .NotIn b = false := by rfl) : RT cn X (.Compare a [.NotIn] [b] pos) (mTB (mHas true cid m ma mb)) :=
  rt_cmp (op_contN M hG hr hk) (om_cont true K) ha hb hm
/-! ### a == b of instances of one class -/
def fEqI (neg : Bool) (c : Nat) (m : MF) (x y : MV) (h : MH) : R MV := match insOf c h x, insOf c h y with
  | some _, some _ => (m [x, y] h).bind fun v h2 => match v with
    | .d (.bool z) => if neg then .bad else rB z h2
    | _ => .bad
  | _, _ => .bad
def mEqI (neg : Bool) (c : Nat) (m : MF) (a b : ME) : ME := mBin (fEqI neg c m) a b
def rEqI (G : Gx) (C : Addr) (m : MF) : R2 := fun x y H Q => ∃ W h mx my a dx fs b dy gs, x = V.ref a ∧ H a = some (.ins C dx fs) ∧ y = V.ref b ∧ H b = some (.ins C dy gs) ∧ Rel G W h H ∧ RV G W mx x ∧ RV G W my y ∧ PoE G W H (m [mx, my] h) (fun v H' => ∃ z : Bool, v = .bl z ∧ Q (.bl z) H')
theorem om_eqI {cid : Nat} {C : Addr} (K : ClsG G cid C) : OpM G (rEqI G C m) (fEqI false cid m) := by
  intro W h H x y v u Q R rx ry P
  unfold fEqI at P
  split at P
  · rename_i q q2 eq eq2
    obtain ⟨a, dx, fs', rfl, q', hi, hn, hz, hv⟩ := insOf_ok K R rx (show insOf cid h x = some (q.1, q.2) from eq)
    obtain ⟨b, dy, gs', rfl, q3, hi2, hn2, hz2, hv2⟩ := insOf_ok K R ry (show insOf cid h y = some (q2.1, q2.2) from eq2)
    refine ⟨W, h, x, y, a, dx, fs', b, dy, gs', rfl, hi, rfl, hi2, R, rx, ry, ?_⟩
    refine Po.bnd P fun v h2 W2 H2 y _ E2 R2 r2 P2 => ?_
    split at P2
    · rename_i z _
      have := r2.bl_inv
      subst this
      exact ⟨z, rfl, pB R2 P2⟩
    · exact P2.elim
  · exact P.elim
theorem op_eqI {cid : Nat} {C : Addr} (K : ClsG (gx X cn) cid C) (M : SpcG X.prog X.w (gx X cn) X.base k C "__eq__" m) (hG : X.A.guards = some []) (hr : Room j X.A) (hk : k ≤ j) : OpR X (compareOp .Eq) (rEqI (gx X cn) C m) := by
  intro pins s σ H x y u v Q I rx ry ⟨W, h, mx, my, a, dx, fs, b, dy, gs, ex, hi, ey, hi2, R, r1, r2, P⟩
  subst ex ey
  obtain rfl : u = Value.ref a := rx
  obtain rfl : v = Value.ref b := ry
  obtain ⟨f, hf, hfn, F⟩ := M
  obtain ⟨ox, od, J⟩ := inst_at I hi
  obtain ⟨ox', od', J'⟩ := inst_at I hi2
  obtain ⟨m', hF⟩ := I.fr
  show wpAny _ _ (richCompare .Eq (.ref a) (.ref b)) _ _ _
  refine PySem.W.cmp_K (op := .Eq) (tb := .ref C) hr.units0 hF I.ok.mod.kin J J'.type (by simp [PySem.W.notFirst]) hf hfn ?_
  refine wpAny_mono (wpAny_call (run_fnG (us := [.ref a, .ref b]) (vs := [.ref a, .ref b]) F hG (hr.mono hk) I (Paired.cons (show L2.RelV (V.ref a) (Value.ref a) from rfl) (Paired.cons (show L2.RelV (V.ref b) (Value.ref b) from rfl) .nil)) (spM_of (E := E0) R (.cons r1 (.cons r2 .nil)) P))) (fun w s' q => ?_) fun _ _ y => y
  obtain ⟨v', H', I', rv, z, en, q⟩ := q
  subst en
  obtain rfl : w = Value.bool z := rv
  exact ⟨.bl z, H', I', rfl, q⟩
theorem re_eqI {cid : Nat} {C : Addr} (K : ClsG (gx X cn) cid C) (M : SpcG X.prog X.w (gx X cn) X.base k C "__eq__" m) (hG : X.A.guards = some []) (hr : Room j X.A) (hk : k ≤ j) (ha : RE cn X a ma) (hb : RE cn X b mb) (hm : behindInMarks .Eq b = false := by exact nomark _) : RE cn X (.Compare a [.Eq] [b] pos) (mEqI false cid m ma mb) :=
  re_cmp (op_eqI K M hG hr hk) (om_eqI K) ha hb hm
theorem rt_eqI {cid : Nat} {C : Addr} (K : ClsG (gx X cn) cid C) (M : SpcG X.prog X.w (gx X cn) X.base k C "__eq__" m) (hG : X.A.guards = some []) (hr : Room j X.A) (hk : k ≤ j) (ha : RE cn X a ma) (hb : RE cn X b mb) (hm : behindInMarks .Eq b = false := by exact nomark _) : RT cn X (.Compare a [.Eq] [b] pos) (mTB (mEqI false cid m ma mb)) :=
  rt_cmp (op_eqI K M hG hr hk) (om_eqI K) ha hb hm
/-! ### isinstance(x, C) -/
structure IsiG (K : PySem.W.Frag) (C : Addr) : Prop where
  ty : ∀ t ∈ ["NoneType", "bool", "int", "str", "list", "tuple", "dict"], PySem.W.kitOne K (.type t) (.ref C) = some false
  own : PySem.W.kitOne K (.ref C) (.ref C) = some true
  cl : PySem.W.findIn K (.ref C) "__class__" = some (some (.builtin "object.__class__"))
  hn : PySem.W.specialIn K (.builtin "object.__class__") "__get__" = some (some (.builtin "getset_descriptor.__get__"))
  tk : PySem.W.takesIn K (.builtin "object.__class__") = some true
  mr : PySem.W.mroIn K C (.type "object") = some true
def mIsiC (c : Nat) (m : ME) : ME := fun μ h => (m μ h).bind fun x h1 => match insOf c h1 x with
  | some _ => rB true h1
  | none => match tyName h1 x with
    | some _ => rB false h1
    | none => .bad
theorem re_isiC {cid : Nat} {C : Addr} {y : Str} {p p2 : Pos} (K : ClsG (gx X cn) cid C) (J : IsiG X.K C) (hy : (cn cid).1 = y) (hg : Gl X "isinstance") (hm : X.mg "isinstance" = none) (hgy : Gl X y) (ha : RE cn X a ma)
    (hdy : (y == ("__debug__" : Str)) = false := by decide) (he : starEach (a :: [.Name y p2]) X.env = (false, eval a X.env) :: starEach [.Name y p2] X.env := by rfl) (hpl : (backTo pos (starEach [.Name y p2] X.env)).any (·.1) = false := by rfl) :
    RE cn X (.Call (.Name "isinstance" p) [a, .Name y p2] [] pos) (mIsiC cid ma) := by
  have hmy : X.mg y = some (.ref C) := by rw [← hy]; exact K.mg
  obtain ⟨t, pp, s⟩ := ha.ex
  obtain ⟨t2, p2', s2⟩ := (re_glb (cn := cn) (pos := p2) hmy hgy hdy).ex
  refine .mk ⟨_, pe_callB call_isi hg hm PyProof.Rows.boot_isinstance (pa_cons pp (hs := he) (pa_cons p2' pa_nil)) (by decide) (by decide) he hpl, fun W h H μ σ Q R S P => ?_⟩
  refine s W h H μ σ _ R S (P.bnd fun x h1 W1 H1 v _ E1 R1 r1 P1 => ?_)
  refine s2 W1 h1 H1 μ σ _ R1 (S.ext E1) fun W2 H2 v2 E2 R2 r2 => ?_
  cases r2 with
  | glb q =>
    rw [show (gx X cn).mg = X.mg from rfl, hmy] at q
    cases q
    have r1' := r1.ext E2
    have P2 := Po.ext P1 E2
    split at P2
    · rename_i q eq
      obtain ⟨a, dx, fs', rfl, q', hi, hn, hz, hv⟩ := insOf_ok K R2 r1' (show insOf cid h1 x = some (q.1, q.2) from eq)
      exact ⟨_, _, _, _, _, rfl, .own C, .base (.ins hi K.cls J.cl J.hn J.tk J.mr), J.own, pB R2 P2⟩
    · split at P2
      · rename_i t e
        obtain ⟨h3, h4⟩ := tyName_rv R2 r1' e
        exact ⟨v, _, .type t, _, _, rfl, .own C, h3, J.ty t h4, pB R2 P2⟩
      · exact P2.elim
/-! ### repr(x) of nested data -/
def mRepr (m : ME) : ME := fun μ h => (m μ h).bind fun x h1 => match toD 40 h1 x with
  | some (.list l) => if (PyData.list l).showable = true ∧ (PyData.list l).hasDict = false ∧ (PyData.list l).depth ≤ 60 ∧ (PyData.list l).shown.length ≤ 16777216 then .ok (.d (.str (PyData.list l).shown)) h1 else .bad
  | _ => .bad
theorem re_repr (hG : X.A.guards = some []) (hr : Room j X.A) (hg : Gl X "repr") (hm : X.mg "repr" = none) (ha : RE cn X a ma)
    (he : starEach (a :: []) X.env = (false, eval a X.env) :: starEach [] X.env := by rfl) (hpl : (backTo pos (starEach [] X.env)).any (·.1) = false := by rfl) : RE cn X (.Call (.Name "repr" p) [a] [] pos) (mRepr ma) := by
  obtain ⟨t, pp, s⟩ := ha.ex
  have hc : CallR X (.builtin "repr") (fun vs H Q => ∃ v l, vs = [v] ∧ Dp X.K H v (.list l) ∧ ((PyData.list l).showable = true ∧ (PyData.list l).hasDict = false ∧ (PyData.list l).depth ≤ 60 ∧ (PyData.list l).shown.length ≤ 16777216) ∧ Q (.str (PyData.list l).shown) H) := by
    intro pins s σ H vs us Q I r ⟨v, l, ev, d, ⟨c1, c2, c3, c4⟩, q⟩
    subst ev
    obtain ⟨u, rfl, ru⟩ := vals1 r
    obtain ⟨as, rd⟩ := Dp.reads I _ _ _ d ru
    cases d with
    | @lst a xs ds hs hd =>
      obtain rfl : u = Value.ref a := ru
      refine repr_of_reads' rd c1 (fun z => by rw [c2] at z; cases z) hG (by have := hr.un; omega) (fun _ _ z => z) (fun h' u tk hk => ?_) (by rw [sizeLine_eq]; exact c4)
      exact ⟨.str (PyData.list l).shown, H, I.kept (t' := tk) hk, ⟨u, rfl⟩, q⟩
  refine .mk ⟨_, pe_callB hc hg hm PyProof.Rows.boot_repr (pa_cons pp (hs := he) pa_nil) (by decide) (by decide) he hpl, fun W h H μ σ Q R S P => ?_⟩
  refine s W h H μ σ _ R S (P.bnd fun x h1 W1 H1 v _ E1 R1 r1 P1 => ?_)
  split at P1
  · rename_i l el
    split at P1
    · rename_i c
      exact ⟨v, l, rfl, toD_ok R1 40 x v _ r1 el, c, P1.ok R1 (.d (.str _))⟩
    · exact P1.elim
  · exact P1.elim
end
end Mini
/-! # Mini: dicts further, sources by kind -/
namespace Mini
open PySem PySem.Spec PyProof.Rows L2
section
variable {cn : Nat → Str × List Str} {X : Cx} {a b c e o : Expr} {es : List Expr} {ma mb mc mo : ME} {mas : MA} {pos p apos : Pos} {G : Gx} {m : MF} {j k : Nat} {x name : Str}
theorem bad_ref {i : Nat} {f : MV → R MV} (h : ∀ v, f v = .bad) (v : MV) (x : R MV) (e : x = f v) : x = .bad := by rw [e, h]
def dkOf (h : MH) : MV → Option (List (Key × MV))
  | .ref i => match h[i]? with
    | some (.dk kvs) => some kvs
    | _ => none
  | _ => none
theorem dkOf_ok {W : Wd} {H : Hp} {h : MH} {m : MV} {v : V} {kvs : List (Key × MV)} (R : Rel G W h H) (r : RV G W m v) (e : dkOf h m = some kvs) : ∃ a kvs', v = .ref a ∧ H a = some (.dK kvs') ∧ RK G W kvs kvs' := by
  cases r with
  | @ref i a q =>
    obtain ⟨o, ho, ro⟩ := R.ofRef q
    simp only [dkOf, ho] at e
    cases o with
    | dk l => cases e; obtain ⟨kvs', h1, h2, h3⟩ := ro; exact ⟨a, kvs', rfl, h1, h2, h3⟩
    | _ => simp at e
  | _ => simp [dkOf] at e
/-! ### dict(d), list(d) -/
def fDictOf (us : List MV) (h : MH) : R MV := match us with
  | [x] => match dkOf h x with
    | some kvs => .ok (.ref h.length) (h ++ [.dk kvs])
    | none => .bad
  | _ => .bad
theorem cm_dictOf : CallM G (fun xs H Q => ∃ (a : Addr) (kvs : List (Key × V)), xs = [.ref a] ∧ Rd H a (.dK kvs) ∧ ∀ p, H p = none → Q (.ref p) (upd H p (.dK kvs))) fDictOf := by
  intro W h H us vs Q R rs P
  unfold fDictOf at P
  split at P
  · obtain ⟨v, rfl, r⟩ := rs.one
    split at P
    · rename_i kvs e
      obtain ⟨a, kvs', rfl, ha, rk⟩ := dkOf_ok R r e
      refine ⟨a, kvs', rfl, .inl ha, fun p hp => ?_⟩
      obtain ⟨R', E'⟩ := R.push hp (.dK kvs') (.dk kvs) fun W' s' q => ⟨kvs', upd_same, rk.1, rk.2.le s' q⟩
      exact P _ _ _ E' R' (.ref (last_get R.len))
    · exact P.elim
  · exact P.elim
theorem re_dictOf {p : Pos} (hg : Gl X "dict") (hm : X.mg "dict" = none) (ha : RA cn X [a] mas) (he : starEach (a :: []) X.env = (false, eval a X.env) :: starEach [] X.env := by rfl) (hpl : (backTo pos (starEach [] X.env)).any (·.1) = false := by rfl) :
    RE cn X (.Call (.Name "dict" p) [a] [] pos) (mCB fDictOf mas) := re_callT call_dictD cm_dictOf hg hm boot_dict ha (by decide) (by decide) he hpl
def keyMV : Key → MV
  | .inl i => .d (.int i)
  | .inr s => .d (.str s)
theorem keyMV_rv {W : Wd} (k : Key) : RV G W (keyMV k) (kV k) := by cases k with
  | inl i => exact .d (.int i)
  | inr s => exact .d (.str s)
theorem keys_rv {W : Wd} : ∀ {kvs : List (Key × MV)} {kvs' : List (Key × V)}, kvs.map (·.1) = kvs'.map (·.1) → RVs G W (kvs.map fun kv => keyMV kv.1) (kvs'.map fun kv => kV kv.1)
  | [], [], _ => .nil
  | (k, m) :: t, (k', v) :: t', e => by
    simp only [List.map_cons, List.cons.injEq] at e
    obtain ⟨rfl, e⟩ := e
    exact .cons (keyMV_rv k) (keys_rv e)
  | [], _ :: _, e => by simp at e
  | _ :: _, [], e => by simp at e
def fKeys (us : List MV) (h : MH) : R MV := match us with
  | [x] => match dkOf h x with
    | some kvs => .ok (.ref h.length) (h ++ [.lst (kvs.map fun kv => keyMV kv.1)])
    | none => .bad
  | _ => .bad
theorem cm_keys : CallM G (fun xs H Q => ∃ (a : Addr) (kvs : List (Key × V)), xs = [.ref a] ∧ Rd H a (.dK kvs) ∧ ∀ p, H p = none → Q (.ref p) (upd H p (.lst (kvs.map fun kv => kV kv.1)))) fKeys := by
  intro W h H us vs Q R rs P
  unfold fKeys at P
  split at P
  · obtain ⟨v, rfl, r⟩ := rs.one
    split at P
    · rename_i kvs e
      obtain ⟨a, kvs', rfl, ha, rk⟩ := dkOf_ok R r e
      refine ⟨a, kvs', rfl, .inl ha, fun p hp => ?_⟩
      obtain ⟨R', E'⟩ := R.push hp (.lst (kvs'.map fun kv => kV kv.1)) (.lst (kvs.map fun kv => keyMV kv.1)) fun W' s' q => ⟨_, upd_same, keys_rv rk.1⟩
      exact P _ _ _ E' R' (.ref (last_get R.len))
    · exact P.elim
  · exact P.elim
theorem re_keys {p : Pos} (hC : X.calm = true) (hg : Gl X "list") (hm : X.mg "list" = none) (ha : RA cn X [a] mas) (he : starEach (a :: []) X.env = (false, eval a X.env) :: starEach [] X.env := by rfl) (hpl : (backTo pos (starEach [] X.env)).any (·.1) = false := by rfl) :
    RE cn X (.Call (.Name "list" p) [a] [] pos) (mCB fKeys mas) := re_callT (call_listD hC) cm_keys hg hm boot_list ha (by decide) (by decide) he hpl
/-! ### d == e, d != e of dicts with plain values, alike -/
def flatD : MV → MV → Bool
  | .d .none, .d .none => true
  | .d (.bool a), .d (.bool b) => a == b
  | .d (.int a), .d (.int b) => decide (a = b)
  | .d (.str a), .d (.str b) => decide (a = b)
  | _, _ => false
theorem flatD_ok {W : Wd} {x y : MV} {v w : V} (e : flatD x y = true) (r : RV G W x v) (q : RV G W y w) : v = w ∧ flatB v = true := by
  unfold flatD at e
  split at e
  · rw [r.non_inv, q.non_inv]; exact ⟨rfl, rfl⟩
  · rw [r.bl_inv, q.bl_inv, eq_of_beq e]; exact ⟨rfl, rfl⟩
  · rw [r.int_inv, q.int_inv, of_decide_eq_true e]; exact ⟨rfl, rfl⟩
  · rw [r.str_inv, q.str_inv, of_decide_eq_true e]; exact ⟨rfl, rfl⟩
  · cases e
def fDEq (neg : Bool) (x y : MV) (h : MH) : R MV := match dkOf h x, dkOf h y with
  | some ks, some ls => if ks.length = ls.length ∧ (ks.all fun p => match dget ls p.1 with
      | some m => flatD p.2 m
      | none => false) = true then rB (!neg) h else .bad
  | _, _ => .bad
theorem deq_all {W : Wd} {ls : List (Key × MV)} {ls' : List (Key × V)} (rl : RK G W ls ls') : ∀ {ks : List (Key × MV)} {ks' : List (Key × V)}, RK G W ks ks' → (ks.all fun p => match dget ls p.1 with
      | some m => flatD p.2 m
      | none => false) = true → ∀ p ∈ ks', valV ls' p.1 = some p.2 ∧ flatB p.2 = true
  | [], ks', r, _ => by rw [r.nil_inv]; intro p hp; cases hp
  | (k, m) :: t, ks', r, e => by
    obtain ⟨v, t', rfl, a, b⟩ := r.cons_inv
    rw [List.all_cons, Bool.and_eq_true] at e
    obtain ⟨e1, e2⟩ := e
    intro p hp
    rcases List.mem_cons.mp hp with hp | hp
    · subst hp
      rcases rl.get (k := k) with q | ⟨m2, v2, q1, q2, q3⟩
      · rw [show dget ls (k, m).1 = none from q.1] at e1; cases e1
      · rw [show dget ls (k, m).1 = some m2 from q1] at e1
        obtain ⟨z1, z2⟩ := flatD_ok e1 a q3
        exact ⟨by rw [z1]; exact q2, z2⟩
    · exact deq_all rl b e2 p hp
theorem om_dEq : OpM G rEqDA (fDEq false) := by
  intro W h H x y v u Q R rx ry P
  unfold fDEq at P
  split at P
  · rename_i ks ls e1 e2
    obtain ⟨a, ks', rfl, ha, rk⟩ := dkOf_ok R rx e1
    obtain ⟨b, ls', rfl, hb, rl⟩ := dkOf_ok R ry e2
    split at P
    · rename_i c
      exact ⟨a, b, ks', ls', rfl, rfl, ha, hb, by rw [← rk.length, ← rl.length]; exact c.1, deq_all rl rk c.2, pB R P⟩
    · exact P.elim
  · exact P.elim
theorem om_dNe : OpM G rNeDA (fDEq true) := by
  intro W h H x y v u Q R rx ry P
  unfold fDEq at P
  split at P
  · rename_i ks ls e1 e2
    obtain ⟨a, ks', rfl, ha, rk⟩ := dkOf_ok R rx e1
    obtain ⟨b, ls', rfl, hb, rl⟩ := dkOf_ok R ry e2
    split at P
    · rename_i c
      exact ⟨a, b, ks', ls', rfl, rfl, ha, hb, by rw [← rk.length, ← rl.length]; exact c.1, deq_all rl rk c.2, pB R P⟩
    · exact P.elim
  · exact P.elim
/-! ### for x in e, e a list, a tuple or the keys of a dict -/
def mIA (m : ME) : MI := fun μ h => (m μ h).bind fun v h1 => match lstOf h1 v with
  | some l => .ok (l, sameL v l) h1
  | none => match tupOf v with
    | some l => .ok (l, noChk) h1
    | none => .bad
theorem ri_any {tg : Expr} (ha : RE cn X a ma) : RI cn X tg a (mIA ma) := ⟨fun pins s0 σ H Q I ⟨W, h, μ, R, S, P⟩ => by
  unfold mIA at P
  cases e : ma μ h with
  | bad => rw [e] at P; exact P.elim
  | ok v h1 =>
    cases el : lstOf h1 v with
    | some l =>
      refine (ri_list ha).run pins s0 σ H Q I ⟨W, h, μ, R, S, ?_⟩
      unfold mIL
      rw [e] at P ⊢
      simp only [Mini.R.bind_ok, el] at P ⊢
      exact P
    | none =>
      refine (ri_tup ha).run pins s0 σ H Q I ⟨W, h, μ, R, S, ?_⟩
      unfold mIT
      rw [e] at P ⊢
      simp only [Mini.R.bind_ok, el] at P ⊢
      exact P⟩
/-! ### a result that stands by itself is plain data from then on -/
mutual
def clV (n : Nat) : MV → Bool
  | .d _ => true
  | .ref i => decide (i < n)
  | .glb _ => true
  | .tup l => clVs n l
  | .rl _ => true
def clVs (n : Nat) : List MV → Bool
  | [] => true
  | m :: l => clV n m && clVs n l
end
def clO (n : Nat) : MO → Bool
  | .lst l => clVs n l
  | .dk kvs => clVs n (kvs.map (·.2))
  | .dt kvs => clVs n (kvs.map (·.2))
  | .ins _ fs => clVs n fs
def toF (n : Nat) : Nat → MH → MV → Option PyData
  | 0, _, _ => none
  | f + 1, h, m => match m with
    | .d p => some p
    | .ref i => if i < n then none else match h[i]? with
      | some (.lst l) => (mapO (toF n f h) l).map PyData.list
      | _ => none
    | .tup l => (mapO (toF n f h) l).map PyData.tuple
    | _ => none
def frzV (n : Nat) (h : MH) (v : MV) : Option MV := if clV n v = true then some v else (toF n 40 h v).map MV.d
def mFrz (m : MF) : MF := fun us h => match m us h with
  | .ok v h' => match frzV h.length h' v with
    | some v' => if h.all (clO h.length) = true → (h'.take h.length).all (clO h.length) = true then .ok v' (h'.take h.length) else .ok v h'
    | none => .ok v h'
  | .bad => .bad
section
variable {W W' : Wd} {H H' : Hp} {h h' : MH}
/-- the world where what is new is only read -/
def frzW (W' : Wd) (H' : Hp) (n : Nat) : Wd := ⟨fun a => if a ∈ W'.ρ.drop n then H' a else W'.F a, W'.ρ.take n⟩
theorem frz_sub (R : Rel G W' h' H') (n : Nat) : ∀ a o, W'.F a = some o → (frzW W' H' n).F a = some o := fun a o z => by
  have : a ∉ W'.ρ.drop n := fun q => by rw [R.dis a (List.mem_of_mem_drop q)] at z; cases z
  show (if a ∈ W'.ρ.drop n then H' a else W'.F a) = some o
  rw [if_neg this]; exact z
theorem frz_at {n i : Nat} {a : Addr} (hi : n ≤ i) (e : W'.ρ[i]? = some a) : (frzW W' H' n).F a = H' a := by
  have : a ∈ W'.ρ.drop n := by
    refine List.mem_of_getElem? (i := i - n) ?_
    rw [List.getElem?_drop, show n + (i - n) = i by omega]; exact e
  show (if a ∈ W'.ρ.drop n then H' a else W'.F a) = H' a
  rw [if_pos this]
mutual
theorem cl_rv (R : Rel G W' h' H') (n : Nat) : ∀ {m : MV} {v : V}, clV n m = true → RV G W' m v → RV G (frzW W' H' n) m v
  | .d _, _, _, .d x => .d (x.sub (frz_sub R n))
  | .ref i, _, c, .ref x => by
    have hi : i < n := by simpa [clV] using c
    exact .ref (by show (W'.ρ.take n)[i]? = _; rw [List.getElem?_take_of_lt hi]; exact x)
  | .glb _, _, _, .glb x => .glb x
  | .tup _, _, c, .tup x y => .tup (frz_sub R n _ _ x) (cl_rvs R n (by simpa [clV] using c) y)
  | .rl _, _, _, .rl x => .rl (sqL_sub (frz_sub R n) x)
theorem cl_rvs (R : Rel G W' h' H') (n : Nat) : ∀ {l : List MV} {vs : List V}, clVs n l = true → RVs G W' l vs → RVs G (frzW W' H' n) l vs
  | [], _, _, .nil => .nil
  | m :: l, _, c, .cons a b => by
    simp only [clVs, Bool.and_eq_true] at c
    exact .cons (cl_rv R n c.1 a) (cl_rvs R n c.2 b)
end
theorem cl_ro (R : Rel G W' h' H') (n : Nat) {a : Addr} {o : MO} (c : clO n o = true) (r : RO G W' H' a o) : RO G (frzW W' H' n) H' a o := by
  cases o with
  | lst l => obtain ⟨xs, q, s⟩ := r; exact ⟨xs, q, cl_rvs R n c s⟩
  | dk kvs => obtain ⟨xs, q, s, t⟩ := r; exact ⟨xs, q, s, cl_rvs R n c t⟩
  | dt kvs => obtain ⟨xs, q, s, t⟩ := r; exact ⟨xs, q, s, cl_rvs R n c t⟩
  | ins cc fs => obtain ⟨C, dx, fs', m, q, n', z, t⟩ := r; exact ⟨C, dx, fs', m, q, n', z, cl_rvs R n c t⟩
theorem toF_ok (R : Rel G W' h' H') (n : Nat) : ∀ (f : Nat) (m : MV) (v : V) (p : PyData), RV G W' m v → toF n f h' m = some p → Dq (frzW W' H' n).F v p := by
  intro f
  induction f with
  | zero => intro m v p r e; simp [toF] at e
  | succ f ih =>
    have all : ∀ (l : List MV) (vs : List V) (ps : List PyData), RVs G W' l vs → mapO (toF n f h') l = some ps → Dqs (frzW W' H' n).F vs ps := by
      intro l
      induction l with
      | nil => intro vs ps r e; cases r; simp [mapO] at e; subst e; exact .nil
      | cons m l ihl =>
        intro vs ps r e
        cases r with
        | cons a b =>
          unfold mapO at e
          split at e
          · rename_i y ys e1 e2
            cases e
            exact .cons (ih _ _ _ a e1) (ihl _ _ b e2)
          · cases e
    intro m v p r e
    cases r with
    | d x => simp [toF] at e; subst e; exact x.sub (frz_sub R n)
    | @ref i a q =>
      simp only [toF] at e
      split at e
      · cases e
      · rename_i hi
        obtain ⟨o, ho, ro⟩ := R.ofRef q
        rw [ho] at e
        cases o with
        | lst l =>
          obtain ⟨ps, e1, e2⟩ := Option.map_eq_some_iff.mp e
          subst e2
          obtain ⟨xs, hx, rx⟩ := ro
          exact .lst (by rw [frz_at (by omega) q]; exact hx) (all _ _ _ rx e1)
        | _ => simp at e
    | tup x y =>
      simp only [toF] at e
      obtain ⟨ps, e1, e2⟩ := Option.map_eq_some_iff.mp e
      subst e2
      exact .tup (frz_sub R n _ _ x) (all _ _ _ y e1)
    | _ => simp [toF] at e
theorem rel_frz (R : Rel G W' h' H') (n : Nat) (c : ((h'.take n).all (clO n)) = true) : Rel G (frzW W' H' n) (h'.take n) H' := by
  refine ⟨fun a o z => ?_, fun a ha => ?_, List.Nodup.sublist (List.take_sublist _ _) R.nd, by show (W'.ρ.take n).length = _; rw [List.length_take, List.length_take, R.len], fun i o a h1 h2 => ?_⟩
  · have z' : (if a ∈ W'.ρ.drop n then H' a else W'.F a) = some o := z
    split at z'
    · exact z'
    · exact R.sub a o z'
  · show (if a ∈ W'.ρ.drop n then H' a else W'.F a) = none
    have ha' : a ∈ W'.ρ.take n := ha
    have hn : a ∉ W'.ρ.drop n := fun q => by
      have nd := R.nd
      rw [← List.take_append_drop n W'.ρ] at nd
      exact (List.nodup_append.mp nd).2.2 a ha' a q rfl
    rw [if_neg hn]
    exact R.dis a (List.mem_of_mem_take ha')
  · have hi : i < n := by
      have := (List.getElem?_eq_some_iff.mp h1).1
      rw [List.length_take] at this; omega
    have h2' : (W'.ρ.take n)[i]? = some a := h2
    rw [List.getElem?_take_of_lt hi] at h2'
    have h1' : h'[i]? = some o := by rw [List.getElem?_take_of_lt hi] at h1; exact h1
    exact cl_ro R n (List.all_eq_true.mp c o (List.mem_of_getElem? h1)) (R.obj i o a h1' h2')
theorem ext_frz (R0 : Rel G W h H) (E : Ext W H W' H') (R : Rel G W' h' H') : Ext W H (frzW W' H' h.length) H' := by
  refine ⟨fun a o z => frz_sub R _ a o (E.sub a o z), ?_, E.frm, fun a o z n => ?_⟩
  · show W.ρ <+: W'.ρ.take h.length
    rw [← R0.len]
    obtain ⟨t, e⟩ := E.pre
    rw [← e, List.take_left' rfl]
    exact List.prefix_rfl
  · obtain ⟨n1, n2⟩ := E.new a o z n
    refine ⟨fun q => n1 (List.mem_of_mem_take q), fun q => ?_⟩
    show (if a ∈ W'.ρ.drop _ then H' a else W'.F a) = none
    rw [if_neg fun q => n1 (List.mem_of_mem_drop q)]
    exact n2 q
mutual
theorem rv_cl : ∀ {m : MV} {v : V}, RV G W m v → clV W.ρ.length m = true
  | .d _, _, .d _ => rfl
  | .ref i, _, .ref x => by simpa [clV] using (List.getElem?_eq_some_iff.mp x).1
  | .glb _, _, .glb _ => rfl
  | .tup _, _, .tup _ y => by simpa [clV] using rvs_cl y
  | .rl _, _, .rl _ => rfl
theorem rvs_cl : ∀ {l : List MV} {vs : List V}, RVs G W l vs → clVs W.ρ.length l = true
  | [], _, .nil => rfl
  | _ :: _, _, .cons a b => by simp [clVs, rv_cl a, rvs_cl b]
end
theorem rel_cl (R : Rel G W h H) : h.all (clO h.length) = true := by
  rw [List.all_eq_true]
  intro o ho
  obtain ⟨i, hi, e⟩ := List.getElem_of_mem ho
  obtain ⟨a, _, _, r⟩ := R.at (i := i) (o := o) (by rw [List.getElem?_eq_getElem hi, e])
  rw [← R.len]
  cases o with
  | lst l => obtain ⟨xs, q, s⟩ := r; exact rvs_cl s
  | dk kvs => obtain ⟨xs, q, s, t⟩ := r; exact rvs_cl t
  | dt kvs => obtain ⟨xs, q, s, t⟩ := r; exact rvs_cl t
  | ins cc fs => obtain ⟨C, dx, fs', m, q, n', z, t⟩ := r; exact rvs_cl t
theorem frz_po {us : List MV} {Q : VK} (R0 : Rel G W h H) (P : PoE G W H (mFrz m us h) Q) : PoE G W H (m us h) Q := by
  unfold mFrz at P
  cases e : m us h with
  | bad => rw [e] at P; exact P
  | ok v h' =>
    rw [e] at P
    simp only at P
    split at P
    · rename_i v' ev
      split at P
      · rename_i c
        intro W' H' x E' R' r'
        refine P (frzW W' H' h.length) H' x (ext_frz R0 E' R') (rel_frz R' _ (c (rel_cl R0))) ?_
        unfold frzV at ev
        split at ev
        · rename_i cv
          cases ev
          exact cl_rv R' _ cv r'
        · obtain ⟨p, e1, e2⟩ := Option.map_eq_some_iff.mp ev
          subst e2
          exact .d (toF_ok R' _ 40 v x p r' e1)
      · exact P
    · exact P
end
theorem FnG.frz {P : Program} {w : World} {base : Heap} {f : Addr} (F : FnG P w G base k f (spM G m)) : FnG P w G base k f (spM G (mFrz m)) :=
  F.imp fun vs H Q E ⟨W, h, us, R, rs, Pq⟩ => ⟨W, h, us, R, rs, frz_po R Pq⟩
end
end Mini
/-! # Mini: the facts of the head, the law's end -/
namespace Mini
open PySem PySem.Spec PyProof.Rows L2
/-! ### what is looked at behind the top -/
structure DefM where
  adr : PySem.W.Frag → Addr
  name : Str
  qual : Str
  st : Stmt
abbrev FnY : Type := Option (Str × Str × Arguments × FuncBody × Scope × Addr × List (Str × Addr) × Value × Addr)
def fnY (K : PySem.W.Frag) (a : Addr) : FnY := match K.lookup a with
  | some ⟨_, _, .func fd, _⟩ => some (fd.name, fd.qualname, fd.params, fd.body, fd.scope, fd.globals, fd.closure, fd.defaults, fd.builtins)
  | _ => none
def DefM.val (d : DefM) : FnY := some (d.name, d.qual, defArgs d.st, .stmts (defBody d.st), defScope d.st, mainGlobals, [], .none, builtinsNs)
def DefM.ok (K : PySem.W.Frag) (d : DefM) : Bool := PySem.W.keepIn K (.ref (d.adr K)) && (match K.lookup (d.adr K) with
  | some ⟨_, _, .func fd, _⟩ => PySem.W.codeIn K fd.code d.qual
  | _ => false)
theorem DefM.fun_ {K : PySem.W.Frag} {d : DefM} (e : fnY K (d.adr K) = d.val) (c : d.ok K = true) : ∃ fd, Fun K d.name d.qual d.st (d.adr K) fd := by
  unfold DefM.ok at c
  rw [Bool.and_eq_true] at c
  obtain ⟨kp, c⟩ := c
  unfold fnY DefM.val at e
  cases q : K.lookup (d.adr K) with
  | none => rw [q] at c; cases c
  | some o =>
    obtain ⟨oc, od, dt, sl⟩ := o
    rw [q] at c e
    cases dt with
    | func fd =>
      obtain ⟨n1, n2, n3, n4, n5, n6, n7, n8, n9, n10, n11, n12, n13, n14, n15⟩ := fd
      simp only [Option.some.injEq, Prod.mk.injEq] at e
      obtain ⟨h1, h2, h3, h4, h5, h6, h7, h8, h9⟩ := e
      subst h1 h2 h3 h4 h5 h6 h7 h8 h9
      exact ⟨_, ⟨oc, od, n9, n10, n11, n12, n13, n14, sl, rfl, q, c⟩, kp⟩
    | _ => cases c
def asM (g : Addr → Option Obj) : Nat → List Addr
  | 0 => [mainGlobals, cStatics]
  | n + 1 => He.growD g (asM g n)
abbrev AlM : Type := List Bool × List FnY
def obsM (bf : List (PySem.W.Frag → Bool)) (fn : List DefM) (K : PySem.W.Frag) : AlM := ((bf.map fun f => f K) ++ fn.map fun d => d.ok K, fn.map fun d => fnY K (d.adr K))
def valM (bf : List (PySem.W.Frag → Bool)) (fn : List DefM) : AlM := ((bf.map fun _ => true) ++ fn.map fun _ => true, fn.map DefM.val)
def SaysM (bf : List (PySem.W.Frag → Bool)) (fn : List DefM) (K : PySem.W.Frag) : Prop := obsM bf fn K = valM bf fn
def obsMG (n : Nat) (bf : List (PySem.W.Frag → Bool)) (fn : List DefM) (g : Addr → Option Obj) : AlM := obsM bf fn (He.frG g (asM g n))
def hookM (n : Nat) (bf : List (PySem.W.Frag → Bool)) (fn : List DefM) : PySem.W.Hook where
  α := AlM
  obs := fun s => obsMG n bf fn s.heap.get?
  val := fun _ => valM bf fn
  says := fun _ h => ∃ K : PySem.W.Frag, K.In h ∧ SaysM bf fn K
  of := fun _ _ e => ⟨_, He.frG_in, e⟩
  keeps := fun _ _ _ ⟨K, hK, c⟩ k => ⟨K, PySem.W.Frag.In.keeps hK k, c⟩
theorem obsMG_eq {n : Nat} {bf : List (PySem.W.Frag → Bool)} {fn : List DefM} {g : Addr → Option Obj} {s : Shared} (h : ∀ a, g a = s.heap.get? a) : obsMG n bf fn g = (hookM n bf fn).obs s := by
  have e : g = s.heap.get? := funext h
  rw [e] <;> rfl
section
variable {bf : List (PySem.W.Frag → Bool)} {fn : List DefM} {K : PySem.W.Frag}
theorem SaysM.bools (c : SaysM bf fn K) : (bf.map fun f => f K) = (bf.map fun _ => true) ∧ (fn.map fun d => d.ok K) = fn.map fun _ => true := by
  have e : (bf.map fun f => f K) ++ (fn.map fun d => d.ok K) = (bf.map fun _ => true) ++ fn.map fun _ => true := congrArg (fun z : AlM => z.1) c
  exact List.append_inj e (by simp)
theorem map_true {α : Type} {l : List α} {f : α → Bool} (e : l.map f = l.map fun _ => true) (i : Nat) {a : α} (h : l[i]? = some a) : f a = true := by
  have e2 : (l.map f)[i]? = (l.map fun _ => true)[i]? := by rw [e]
  rw [List.getElem?_map, List.getElem?_map, h] at e2
  exact Option.some.inj e2
theorem SaysM.fact (c : SaysM bf fn K) (i : Nat) {f : PySem.W.Frag → Bool} (h : bf[i]? = some f := by rfl) : f K = true := map_true c.bools.1 i h
theorem SaysM.def_ (c : SaysM bf fn K) (i : Nat) {d : DefM} (h : fn[i]? = some d := by rfl) : ∃ fd, Fun K d.name d.qual d.st (d.adr K) fd := by
  have e : fn.map (fun d => fnY K (d.adr K)) = fn.map DefM.val := congrArg (fun z : AlM => z.2) c
  have e2 : (fn.map fun d => fnY K (d.adr K))[i]? = (fn.map DefM.val)[i]? := by rw [e]
  rw [List.getElem?_map, List.getElem?_map, h] at e2
  exact DefM.fun_ (Option.some.inj e2) (map_true c.bools.2 i h)
end
/-! ### facts of classes -/
def recAd (K : PySem.W.Frag) (p : Addr) (T : String) : Addr := match PySem.W.recIn K p T with
  | some (.ref g :: _) => g
  | _ => 0
theorem recAd_ok {K : PySem.W.Frag} {p g : Addr} {T : String} (h : (match PySem.W.recIn K p T with
  | some (.ref _ :: _) => true
  | _ => false) = true) (e : recAd K p T = g) : ∃ rest, PySem.W.recIn K p T = some (.ref g :: rest) := by
  unfold recAd at e
  split at h
  · rename_i a r q
    rw [q] at e
    exact ⟨r, by rw [q, ← e]⟩
  · cases h
section
variable {K : PySem.W.Frag} {h : Heap} {mg : Str → Option Value} {cn : Nat → Str × List Str}
/-- a class with its fields -/
def clsB (x : Str) (fs : List Str) (K : PySem.W.Frag) : Bool := (He.Fa.glo x).ok K && ((He.Fa.cls x).ok K && fs.all fun f => (He.Fa.noat x f).ok K)
theorem clsB_ok {x : Str} {fs : List Str} {c : Nat} (X : K.In h) (G : h.Ns mainGlobals mg) (e : cn c = (x, fs)) (hd : fs.Nodup) (hf : fs.length < 1000) (b : clsB x fs K = true) : ClsG ⟨K, mg, cn⟩ c (He.ga K x) := by
  unfold clsB at b
  rw [Bool.and_eq_true, Bool.and_eq_true] at b
  obtain ⟨b1, b2, b3⟩ := b
  exact ⟨by show mg (cn c).1 = _; rw [e]; exact He.glo_ok X G b1, He.cls_ok b2, fun f hf => He.noat_ok (List.all_eq_true.mp b3 f (by have hf2 : f ∈ (cn c).2 := hf; rw [e] at hf2; exact hf2)), by show (cn c).2.Nodup; rw [e]; exact hd, by show (cn c).2.length < 1000; rw [e]; exact hf⟩
def isiB (x : Str) (K : PySem.W.Frag) : Bool := (["NoneType", "bool", "int", "str", "list", "tuple", "dict"].all fun t => decide (PySem.W.kitOne K (.type t) (.ref (He.ga K x)) = some false)) && (decide (PySem.W.kitOne K (.ref (He.ga K x)) (.ref (He.ga K x)) = some true) &&
  (He.eqO (PySem.W.findIn K (.ref (He.ga K x)) "__class__") (some (some (.builtin "object.__class__"))) && (He.eqO (PySem.W.specialIn K (.builtin "object.__class__") "__get__") (some (some (.builtin "getset_descriptor.__get__"))) &&
  (decide (PySem.W.takesIn K (.builtin "object.__class__") = some true) && decide (PySem.W.mroIn K (He.ga K x) (.type "object") = some true)))))
theorem isiB_ok {x : Str} (b : isiB x K = true) : IsiG K (He.ga K x) := by
  unfold isiB at b
  simp only [Bool.and_eq_true, decide_eq_true_eq] at b
  obtain ⟨b1, b2, b3, b4, b5, b6⟩ := b
  exact ⟨fun t ht => of_decide_eq_true (List.all_eq_true.mp b1 t ht), b2, He.eqO_ok b3, He.eqO_ok b4, b5, b6⟩
def readB (C : Addr) (K : PySem.W.Frag) : Bool := PySem.W.readsIn K C (.type "type") && He.eqO (PySem.W.specialIn K (.ref C) "__getattribute__") (some (some (.builtin "type.__getattribute__")))
theorem readB_ok {C : Addr} (b : readB C K = true) : ClX.CRead K C (.type "type") := by
  unfold readB at b
  rw [Bool.and_eq_true] at b
  exact ⟨b.1, He.eqO_ok b.2⟩
def cvB (x f : Str) (i : Int) (K : PySem.W.Frag) : Bool := readB (He.ga K x) K && (match PySem.W.findCls K (.ref (He.ga K x)) (.type "type") f with
  | some (.val (.int j _)) => decide (j = i)
  | _ => false)
theorem cvB_ok {x f : Str} {i : Int} (b : cvB x f i K = true) : CvG K (He.ga K x) f i := by
  unfold cvB at b
  rw [Bool.and_eq_true] at b
  obtain ⟨b1, b2⟩ := b
  split at b2
  · rename_i j t e
    exact ⟨_, _, readB_ok b1, e, ⟨t, by rw [of_decide_eq_true b2]⟩⟩
  · cases b2
/-- a classmethod's def -/
def cmAd (x m : Str) (K : PySem.W.Frag) : Addr := recAd K (He.ma K (He.ga K x) m) "classmethod"
def cmB (x m : Str) (K : PySem.W.Frag) : Bool := readB (He.ga K x) K && ((match PySem.W.findCls K (.ref (He.ga K x)) (.type "type") m with
  | some (.get (.builtin g) (.ref p) .none (.ref c)) => decide (g = "classmethod.__get__") && (decide (p = He.ma K (He.ga K x) m) && decide (c = He.ga K x))
  | _ => false) && ((match PySem.W.recIn K (He.ma K (He.ga K x) m) "classmethod" with
  | some (.ref _ :: _) => true
  | _ => false) && PySem.W.fnIn K (cmAd x m K)))
theorem cmB_ok {P : Program} {w : World} {base : Heap} {k : Nat} {x m : Str} {f : MF} (b : cmB x m K = true) (F : FnG P w ⟨K, mg, cn⟩ base k (cmAd x m K) (spM ⟨K, mg, cn⟩ f)) : CmtG P w ⟨K, mg, cn⟩ base k (He.ga K x) m f := by
  unfold cmB at b
  simp only [Bool.and_eq_true] at b
  obtain ⟨b1, b2, b3, b4⟩ := b
  refine ⟨_, He.ma K (He.ga K x) m, _, readB_ok b1, ⟨?_, recAd_ok b3 rfl, b4⟩, F⟩
  split at b2
  · rename_i g p c e
    simp only [Bool.and_eq_true, decide_eq_true_eq] at b2
    obtain ⟨rfl, rfl, rfl⟩ := b2
    exact e
  · cases b2
/-- a property's def -/
def prAd (x m : Str) (K : PySem.W.Frag) : Addr := recAd K (He.ma K (He.ga K x) m) "property"
def prB (x m : Str) (K : PySem.W.Frag) : Bool := He.eqO (PySem.W.findIn K (.ref (He.ga K x)) m) (some (some (.ref (He.ma K (He.ga K x) m)))) && (He.eqO (PySem.W.specialIn K (.ref (He.ma K (He.ga K x) m)) "__get__") (some (some (.builtin "property.__get__"))) &&
  (decide (PySem.W.takesIn K (.ref (He.ma K (He.ga K x) m)) = some true) && (match PySem.W.recIn K (He.ma K (He.ga K x) m) "property" with
  | some (.ref _ :: _) => true
  | _ => false)))
theorem prB_ok {P : Program} {w : World} {base : Heap} {k c : Nat} {x m : Str} {f : MF} (b : prB x m K = true) (F : FnG P w ⟨K, mg, cn⟩ base k (prAd x m K) (spM ⟨K, mg, cn⟩ f)) : PrpG P w ⟨K, mg, cn⟩ base k c (He.ga K x) m f := by
  unfold prB at b
  simp only [Bool.and_eq_true, decide_eq_true_eq] at b
  obtain ⟨b1, b2, b3, b4⟩ := b
  exact ⟨He.ma K (He.ga K x) m, _, ⟨He.eqO_ok b1, He.eqO_ok b2, b3, recAd_ok b4 rfl⟩, F⟩
/-- a method's def -/
def meAd (x m : Str) (K : PySem.W.Frag) : Addr := He.ma K (He.ga K x) m
theorem meth_okG {P : Program} {w : World} {base : Heap} {k c : Nat} {x m : Str} {f : MF} (hc : (cn c).2.contains m = false) (b : (He.Fa.meth x m).ok K = true) (F : FnG P w ⟨K, mg, cn⟩ base k (meAd x m K) (spM ⟨K, mg, cn⟩ f)) : MetG P w ⟨K, mg, cn⟩ base k c (He.ga K x) m f := ⟨_, He.meth_ok b, hc, F⟩
theorem spc_okG {P : Program} {w : World} {base : Heap} {k : Nat} {x m : Str} {f : MF} (b : (He.Fa.meth x m).ok K = true) (F : FnG P w ⟨K, mg, cn⟩ base k (meAd x m K) (spM ⟨K, mg, cn⟩ f)) : SpcG P w ⟨K, mg, cn⟩ base k (He.ga K x) m f := by
  have M := He.meth_ok b
  exact ⟨_, M.at_, M.fn, F⟩
theorem make_okG {P : Program} {w : World} {base : Heap} {k c : Nat} {x : Str} {f : MF} (b : (He.Fa.mkr x).ok K = true) (F : FnG P w ⟨K, mg, cn⟩ base k (meAd x "__init__" K) (spM ⟨K, mg, cn⟩ f)) : MakG P w ⟨K, mg, cn⟩ base k c (He.ga K x) f := ⟨_, He.mkr_ok b, F⟩
def glAd (x : Str) (K : PySem.W.Frag) : Addr := He.ga K x
theorem cal_okG {P : Program} {w : World} {base : Heap} {k : Nat} {x qual : Str} {st : Stmt} {fd : FuncData} {m : MF} (X : K.In h) (G : h.Ns mainGlobals mg) (b : (He.Fa.glo x).ok K = true) (Fu : Fun K x qual st (glAd x K) fd) (F : FnG P w ⟨K, mg, cn⟩ base k (glAd x K) (spM ⟨K, mg, cn⟩ m)) : CalG P w ⟨K, mg, cn⟩ base k x m :=
  ⟨_, He.glo_ok X G b, Fu.kp, F⟩
end
/-! ### the end -/
/-- the law's call at the heap behind the top -/
theorem end_call {P : Program} {w : World} {K : PySem.W.Frag} {mg mb : Str → Option Value} {cn : Nat → Str × List Str} {k : Nat} {fa a : Addr} {m : MF} {s₁ : Shared} {vs : List Value} {ns : List Int}
    (KX : K.In s₁.heap) (hns : s₁.heap.Ns mainGlobals mg) (hb : s₁.heap.Ns builtinsNs mb) (hbb : ∀ x : Str, x ≠ "__name__" → mb x = bootBuiltins x) (hlim : s₁.heap.NoLimit) (hg : s₁.gens = #[])
    (ha : s₁.heap.get? a = some { cls := .type "list", data := .seq vs.toArray }) (hi : IntsAre vs ns) (hl : ns.length ≤ sizeLine) (hr : Room k callerA)
    (F : ∀ base : Heap, K.In base → base.Ns mainGlobals mg → FnG P w ⟨K, mg, cn⟩ base k fa (spM ⟨K, mg, cn⟩ m)) (hm : ∃ h', m [.rl ns] [] = .ok (.d (.bool true)) h') :
    codeAny (model P w) callerA (.call (.ref fa) ⟨[.ref a], []⟩) (fun r s' => r = .ok (.ret (.bool true)) ∧ OldK s₁.heap s'.heap ∧ s'.os = s₁.os ∧ AllBare s'.gens) s₁ := by
  have rv := vals_ints hi
  have lenV := hi.length
  have core : ∀ H : Hp, Only H → SqL K H a (ns.map V.int) → HOk P w H s₁.heap → (∀ b, H b ≠ none → b = a) → (H a ≠ none → K.lookup a = none) →
      codeAny (model P w) callerA (.call (.ref fa) ⟨[.ref a], []⟩) (fun r s' => r = .ok (.ret (.bool true)) ∧ OldK s₁.heap s'.heap ∧ s'.os = s₁.os ∧ AllBare s'.gens) s₁ := by
    intro H hO hS hok hA hK
    have noA : ∀ {b : Addr} {o : Obj} {es : Array DictEntry} {ep : Nat}, s₁.heap.get? b = some o → o.data = .dict es ep → H b = none := fun {b o es ep} e d => by
      cases q : H b with
      | none => rfl
      | some u =>
        have e' := hA b (by rw [q]; simp)
        subst e'
        rw [ha] at e
        cases e
        exact (nomatch (show Data.seq vs.toArray _ = Data.dict es ep from d))
    have nsK : ∀ {b : Addr} {m : Str → Option Value}, s₁.heap.Ns b m → (hidT s₁.heap H).Ns b m := fun {b m} ⟨o, es, ep, e, d, r⟩ => ⟨o, es, ep, hidT_get e (noA e d), d, r⟩
    have hKb : K.In (hidT s₁.heap H) := fun b o e => hidT_get (KX b o e) (by
      cases q : H b with
      | none => rfl
      | some u =>
        have e' := hA b (by rw [q]; simp)
        subst e'
        rw [hK (by rw [q]; simp)] at e
        cases e)
    have hM : Mod K mg (hidT s₁.heap H) := ⟨hKb, nsK hns, ⟨mb, nsK hb, hbb⟩, let ⟨mc, h1, h2⟩ := hlim; ⟨mc, nsK h1, h2⟩⟩
    have e0 : Env0 P w K mg (hidT s₁.heap H) callerA [] s₁ H := ⟨rfl, hM, fun b o e => of_hidT e, Nat.le_of_eq (hidT_size _ _), trivial, fun b hb => absurd (show b ∈ ([] : List Addr) from hb) (by simp), hok, .of_eq hg⟩
    have R0 : Rel ⟨K, mg, cn⟩ ⟨H, []⟩ [] H := ⟨fun _ _ z => z, fun _ z => by simp at z, by simp, rfl, fun i o a z => by simp at z⟩
    obtain ⟨h', em⟩ := hm
    have sp : spM ⟨K, mg, cn⟩ m [.ref a] H (fun v _ => v = .bl true) E0 := ⟨⟨H, []⟩, [], [.rl ns], R0, .cons (.rl hS) .nil, by
      rw [em]
      exact fun W' H' x E' R' r' => r'.bl_inv⟩
    refine codeAny_mono (F _ hKb (nsK hns) callerA [] s₁ H [.ref a] [.ref a] _ E0 rfl hr e0 (Paired.cons (show L2.RelV (V.ref a) (Value.ref a) from rfl) .nil) sp) fun r s' q => ?_
    cases r with
    | error e => exact q.elim
    | ok fl =>
      cases fl with
      | next => exact False.elim q
      | brk => exact False.elim q
      | cont => exact False.elim q
      | ret u =>
        obtain ⟨v, H', os, bare, un, hok', r', q⟩ := q
        have q' : v = .bl true := q
        subst q'
        obtain rfl : u = Value.bool true := r'
        refine ⟨rfl, OldK.of_keep fun b o e => ?_, os, bare⟩
        cases q : H b with
        | none => exact un.keep b o e q (by intro z; exact absurd (show b ∈ ([] : List Addr) from z) (by simp)) (by simp)
        | some u =>
          rcases hO b with z | ⟨ob, xs, z⟩
          · rw [q] at z; cases z
          · obtain ⟨e1, _⟩ := hok b _ z
            obtain ⟨e2, _⟩ := hok' b _ (un.frzs b ob _ z)
            rw [e] at e1
            cases e1
            exact e2
  cases hk : K.lookup a with
  | some o =>
    have e := KX a o hk
    rw [ha] at e
    cases e
    exact core (fun _ => none) (fun _ => .inl rfl) (.inr ⟨_, vs.toArray, _, hk, rfl, rfl, rfl, by rw [List.size_toArray, lenV]; exact hl, by simpa using rv⟩) (fun b u z => nomatch (show (none : Option HO) = some u from z)) (fun b z => absurd rfl z) fun z => absurd rfl z
  | none =>
    refine core (fun b => if b = a then some (.frz { cls := .type "list", data := .seq vs.toArray } (.lst (ns.map V.int))) else none) (fun b => ?_) (.inl (.inr ⟨{ cls := .type "list", data := .seq vs.toArray }, if_pos rfl⟩)) (fun b u z => ?_) (fun b z => ?_) fun _ => hk
    · by_cases hb : b = a
      · exact .inr ⟨_, _, if_pos hb⟩
      · exact .inl (if_neg hb)
    · by_cases hb : b = a
      · cases (if_pos hb).symm.trans z
        subst hb
        exact ⟨ha, by rw [List.length_map]; exact hl, vs, _, rv, ha⟩
      · cases (if_neg hb).symm.trans z
    · by_cases hb : b = a
      · exact hb
      · exact absurd (if_neg hb) z
/-- scripts as the statement has them -/
def GoodS (ns : List Int) : Prop := ns.length ≤ 63 ∧ ∀ z ∈ ns, Builtin.Int.intBits z ≤ 1048576
theorem walk_end {l : PySem.W.OpenLaw} {k : Nat} {q : Program} {loose : List Str} {XP : (Str → Option Value) → Heap → Prop} {YP : World → Heap → Prop} {d : DefRec} {cn : Nat → Str × List Str} {m : MF}
    (hn : l.most = some 63) (hdf : d.params.defaults = []) (hr : Room k callerA)
    (F : ∀ (w : World) (mg : Str → Option Value) (fa : Addr) (h : Heap), YP w h → h.Ns mainGlobals mg → mg d.name = some (.ref fa) → ∃ K : PySem.W.Frag, K.In h ∧ ∀ base : Heap, K.In base → base.Ns mainGlobals mg → FnG l.prog w ⟨K, mg, cn⟩ base k fa (spM ⟨K, mg, cn⟩ m))
    (hm : ∀ ns, GoodS ns → ∃ h', m [.rl ns] [] = .ok (.d (.bool true)) h') :
    PySem.W.WalkO q loose XP YP l.row.toRowW d [] (fun f vs => PySem.call f vs) := by
  refine Att.attach_callB hn hdf fun w s₀ s₁ mg mb fa o pm cd doc a vs ns G Y ho hd hcd hmg hobj hints hlen hbits hg => ?_
  obtain ⟨K, KX, hF⟩ := F w mg fa _ Y G.T.g hmg
  exact end_call KX G.T.g G.T.b G.T.builtins G.T.nolimit hg hobj hints (Nat.le_trans hlen (by decide)) hr hF (hm ns ⟨hlen, hbits⟩)
end Mini
/-! # Mini: one name for each word -/
namespace Mini
open PySem PySem.Spec PyProof.Rows L2
theorem z_len : bootBuiltins "len" = some (.builtin "len") := by decide +kernel
theorem z_abs : bootBuiltins "abs" = some (.builtin "abs") := by decide +kernel
theorem z_max : bootBuiltins "max" = some (.builtin "max") := by decide +kernel
theorem z_min : bootBuiltins "min" = some (.builtin "min") := by decide +kernel
theorem z_sum : bootBuiltins "sum" = some (.builtin "sum") := by decide +kernel
theorem z_all : bootBuiltins "all" = some (.builtin "all") := by decide +kernel
theorem z_any : bootBuiltins "any" = some (.builtin "any") := by decide +kernel
theorem z_list : bootBuiltins "list" = some (.type "list") := by decide +kernel
theorem z_tuple : bootBuiltins "tuple" = some (.type "tuple") := by decide +kernel
theorem z_int : bootBuiltins "int" = some (.type "int") := by decide +kernel
theorem z_bool : bootBuiltins "bool" = some (.type "bool") := by decide +kernel
theorem z_str : bootBuiltins "str" = some (.type "str") := by decide +kernel
theorem z_dict : bootBuiltins "dict" = some (.type "dict") := by decide +kernel
section
variable {X : Cx} {cn : Nat → Str × List Str}
theorem w_append : MtR X "list.append" rAppend := mt_append
theorem w_pop : MtR X "list.pop" rPop := mt_pop
theorem w_popAt : MtR X "list.pop" rPopAt := mt_popAt
theorem w_extend : MtR X "list.extend" rExtend := mt_extend
theorem w_clear : MtR X "list.clear" rClear := mt_clear
/-- == of two texts -/
def fEqS (neg : Bool) (x y : MV) (h : MH) : R MV := match x, y with
  | .d (.str a), .d (.str b) => rB (neg != decide (a = b)) h
  | _, _ => .bad
theorem om_eqS {G : Gx} : OpM G rEq (fEqS false) := by
  intro W h H x y v u Q R rx ry P
  unfold fEqS at P
  split at P
  · rename_i a b
    rw [rx.str_inv, ry.str_inv]
    refine ⟨rfl, ?_⟩
    have e : decide (V.str a = V.str b) = (false != decide (a = b)) := by
      by_cases c : a = b
      · subst c; simp
      · simp [c]
    rw [e]
    exact pB R P
  · exact P.elim
theorem om_neS {G : Gx} : OpM G rNe (fEqS true) := by
  intro W h H x y v u Q R rx ry P
  unfold fEqS at P
  split at P
  · rename_i a b
    rw [rx.str_inv, ry.str_inv]
    refine ⟨rfl, ?_⟩
    have e : (!decide (V.str a = V.str b)) = (true != decide (a = b)) := by
      by_cases c : a = b
      · subst c; simp
      · simp [c]
    rw [e]
    exact pB R P
  · exact P.elim
end
end Mini
namespace Law
open PySem PySem.Spec PyProof.Rows L2 Mini
def top (i : Nat) : Stmt := PySem.Challenge.pw_ringlists_k74_heaps_filled.main.body.getD i (.Pass ⟨0, 0, 0, 0⟩)
def cnT : Nat → Str × List Str
  | 0 => ("Heap", ["lists"])
  | _ => ("", [])
/-! ### what the defs do -/
def b_law_bag : MS := (mSeq (mAsg (mTup (mCons (mD (.int 2147483647)) (mCons (mD (.int 2147483629)) (mCons (mD (.int 2147483587)) (mCons (mD (.int 2147483579)) (mCons (mD (.int 2147483563)) (mCons (mD (.int 2147483549)) (mCons (mD (.int 2147483543)) mNil)))))))) (gNm 2))
    (mSeq (mAsg (mIf (mTB (mBin fLt (mVar 1) (mCB fLen (mCons (mVar 0) mNil)))) (mBin fIx (mVar 0) (mVar 1)) (mD (.int 0))) (gNm 3))
    (mSeq (mAsg (mIf (mTB (mBin fGe (mCB fAbs (mCons (mVar 3) mNil)) (mBin fPow (mD (.int 10)) (mD (.int 18))))) (mCB fAbs (mCons (mVar 3) mNil)) (mD (.int 0))) (gNm 4))
    (mSeq (mAsg (mBin fMod (mBin fPow (mBin fAdd (mBin fAdd (mBin fMod (mVar 3) (mD (.int 2305843009213693951))) (mBin fMul (mD (.int 77003)) (mVar 1))) (mD (.int 23))) (mD (.int 3))) (mBin fIx (mVar 2) (mBin fMod (mVar 1) (mD (.int 7))))) (gNm 5))
    (mRet (mLst (mCons (mVar 4) (mCons (mBin fAdd (mBin fMod (mBin fMul (mVar 5) (mBin fAdd (mBin fAdd (mBin fDiv (mVar 5) (mD (.int 7))) (mBin fMul (mD (.int 5)) (mVar 1))) (mD (.int 13)))) (mBin fIx (mVar 2) (mBin fMod (mBin fAdd (mVar 1) (mD (.int 3))) (mD (.int 7))))) (mD (.int 1))) mNil))))))))
def m_law_bag : MF := mDef 2 6 b_law_bag
def b_law_take : MS := (mSeq (mIfS (mTB (mBin fGt (mBin fIx (mVar 0) (mD (.int 0))) (mD (.int 0)))) (mSeq (mAsg (mBin fMod (mBin fIx (mVar 0) (mD (.int 0))) (mVar 1)) (gNm 2))
    (mSeq (mAsg (mBin fDiv (mBin fIx (mVar 0) (mD (.int 0))) (mVar 1)) (gSb (mVar 0) (mD (.int 0))))
    (mRet (mVar 2)))) mNext)
    (mSeq (mAsg (mBin fMod (mBin fMul (mBin fIx (mVar 0) (mD (.int 1))) (mD (.int 48271))) (mD (.int 2147483647))) (gSb (mVar 0) (mD (.int 1))))
    (mRet (mBin fMod (mBin fDiv (mBin fMod (mBin fMul (mBin fIx (mVar 0) (mD (.int 1))) (mD (.int 69621))) (mD (.int 2147483629))) (mBin fPow (mD (.int 16)) (mD (.int 2)))) (mVar 1)))))
def m_law_take : MF := mFrz (mDef 2 3 b_law_take)
def b_law_leaf : MS := (mSeq (mAsg (mLst (mCons (mD (.int 0)) (mCons (mD (.int 1)) (mCons (mD (.int 2)) (mCons (mD (.str "a")) (mCons (mD (.str "b")) (mCons (mD (.str "")) (mCons (mNeg (mD (.int 1))) (mCons (mBin fPow (mD (.int 10)) (mD (.int 39))) (mCons (mD (.str "abcdefgh")) (mCons (mNeg (mBin fPow (mD (.int 10)) (mD (.int 20)))) mNil))))))))))) (gNm 1))
    (mRet (mBin fIx (mVar 1) (mBin fIx (mLst (mCons (mD (.int 0)) (mCons (mD (.int 1)) (mCons (mD (.int 1)) (mCons (mD (.int 2)) (mCons (mD (.int 3)) (mCons (mD (.int 3)) (mCons (mD (.int 4)) (mCons (mD (.int 5)) (mCons (mD (.int 6)) (mCons (mD (.int 7)) (mCons (mD (.int 8)) (mCons (mD (.int 9)) mNil))))))))))))) (mCB m_law_take (mCons (mVar 0) (mCons (mD (.int 12)) mNil)))))))
def m_law_leaf : MF := mFrz (mDef 1 2 b_law_leaf)
def b_law_contents : MS := (mSeq (mPar 2 3 (mCons (mBin fAdd (mD (.int 1)) (mCB m_law_take (mCons (mVar 0) (mCons (mVar 1) mNil)))) (mCons (mLst mNil) mNil)))
    (mSeq (mFor (mIR1 (mVar 2)) (gNm 4) (mSeq (mAsg (mLst mNil) (gNm 5))
    (mSeq (mFor (mIR1 (mCB m_law_take (mCons (mVar 0) (mCons (mD (.int 4)) mNil)))) (gNm 6) (mExpr (mBM "list" fAppend (mVar 5) (mCons (mIf (mTB (mBin fGt (mCB m_law_take (mCons (mVar 0) (mCons (mD (.int 3)) mNil))) (mD (.int 0)))) (mTup (mCons (mD (.str "box")) (mCons (mCB m_law_take (mCons (mVar 0) (mCons (mVar 2) mNil))) mNil))) (mCB m_law_leaf (mCons (mVar 0) mNil))) mNil))))
    (mExpr (mBM "list" fAppend (mVar 3) (mCons (mVar 5) mNil))))))
    (mRet (mVar 3))))
def m_law_contents : MF := mFrz (mDef 2 7 b_law_contents)
def b_law_twofold : MS := (mSeq (mAsg (mCB m_law_contents (mCons (mVar 0) (mCons (mVar 1) mNil))) (gNm 2))
    (mSeq (mPar 3 4 (mCons (mCB fLen (mCons (mVar 2) mNil)) (mCons (mLst mNil) mNil)))
    (mSeq (mFor (mIA (mVar 2)) (gNm 5) (mSeq (mAsg (mLst mNil) (gNm 6))
    (mSeq (mFor (mIA (mVar 5)) (gNm 7) (mSeq (mIfS (mTAnd (mTru (mIsi "tuple" (mVar 7))) (mTB (mBin fGt (mCB m_law_take (mCons (mVar 0) (mCons (mD (.int 8)) mNil))) (mD (.int 0))))) (mAsg (mTup (mCons (mD (.str "box")) (mCons (mBin fAdd (mBin fIx (mVar 7) (mD (.int 1))) (mVar 3)) mNil))) (gNm 7)) mNext)
    (mExpr (mBM "list" fAppend (mVar 6) (mCons (mVar 7) mNil)))))
    (mExpr (mBM "list" fAppend (mVar 4) (mCons (mVar 6) mNil))))))
    (mSeq (mAsg (mBin fIx (mVar 4) (mCB m_law_take (mCons (mVar 0) (mCons (mVar 3) mNil)))) (gNm 8))
    (mSeq (mIfS (mTAnd (mTB (mBin (fEq true) (mVar 8) (mLst mNil))) (mTB (mBin (fEq false) (mCB m_law_take (mCons (mVar 0) (mCons (mD (.int 2)) mNil))) (mD (.int 0))))) (mAsg (mCB m_law_leaf (mCons (mVar 0) mNil)) (gSb (mVar 8) (mCB m_law_take (mCons (mVar 0) (mCons (mCB fLen (mCons (mVar 8) mNil)) mNil))))) mNext)
    (mRet (mBin fAdd (mVar 2) (mVar 4))))))))
def m_law_twofold : MF := mFrz (mDef 2 9 b_law_twofold)
def b_law_ringed : MS := (mSeq (mIfS (mTB (mBin fGt (mCB m_law_take (mCons (mVar 0) (mCons (mD (.int 3)) mNil))) (mD (.int 0)))) (mRet (mCB m_law_twofold (mCons (mVar 0) (mCons (mBin fDiv (mBin fAdd (mVar 1) (mD (.int 1))) (mD (.int 2))) mNil)))) mNext)
    (mSeq (mAsg (mTup (mCons (mLst mNil) (mCons (mD (.int 0)) mNil))) (gTp 2 (gsCons (gNm 2) (gsCons (gNm 3) gsNil))))
    (mSeq (mFor (mIR1 (mD (.int 2))) (gNm 4) (mSeq (mAsg (mBin fAdd (mD (.int 1)) (mCB m_law_take (mCons (mVar 0) (mCons (mCB fMax2 (mCons (mD (.int 1)) (mCons (mBin fDiv (mVar 1) (mD (.int 2))) mNil))) mNil)))) (gNm 5))
    (mSeq (mAsg (mBin fAdd (mVar 2) (mLc (mIR1 (mVar 5)) (gNm 6) mYes (mLst (mCons (mD (.str "a")) (mCons (mTup (mCons (mD (.str "box")) (mCons (mBin fAdd (mVar 3) (mBin fMod (mBin fAdd (mVar 6) (mD (.int 1))) (mVar 5))) mNil))) mNil))) [6])) (gNm 2))
    (mAsg (mBin fAdd (mVar 3) (mVar 5)) (gNm 3)))))
    (mRet (mIf (mTB (mBin fLe (mVar 3) (mVar 1))) (mSlice (mVar 2) mNoP (mPart (mVar 1))) (mCB m_law_contents (mCons (mVar 0) (mCons (mVar 1) mNil))))))))
def m_law_ringed : MF := mFrz (mDef 2 7 b_law_ringed)
def b_is_integer : MS := (mRet (mAnd (mIsi "int" (mVar 0)) (mNot (mIsi "bool" (mVar 0)))))
def m_is_integer : MF := mFrz (mDef 1 1 b_is_integer)
def b_is_word : MS := (mRet (mAnd (mIsi "str" (mVar 0)) (mAnd (mBin fLe (mCB fLen (mCons (mVar 0) mNil)) (mD (.int 8))) (mCB fAll (mCons (mLc (mIS (mVar 0)) (gNm 1) mYes (mBin (fIn false) (mVar 1) (mD (.str "abcdefghijklmnopqrstuvwxyz"))) [1]) mNil)))))
def m_is_word : MF := mFrz (mDef 1 2 b_is_word)
def b_is_leaf : MS := (mRet (mOr (mCB m_is_integer (mCons (mVar 0) mNil)) (mCB m_is_word (mCons (mVar 0) mNil))))
def m_is_leaf : MF := mFrz (mDef 1 1 b_is_leaf)
def b_is_within : MS := (mRet (mAnd (mCB m_is_integer (mCons (mVar 0) mNil)) (mChain fLe fLe (mVar 1) (mVar 0) (mVar 2))))
def m_is_within : MF := mFrz (mDef 3 3 b_is_within)
def b_is_reference : MS := (mSeq (mIfS (mTOr (mTNot (mTru (mIsi "tuple" (mVar 0)))) (mTOr (mTB (mBin (fEq true) (mCB fLen (mCons (mVar 0) mNil)) (mD (.int 2)))) (mTOr (mTNot (mTru (mIsi "str" (mBin fIx (mVar 0) (mD (.int 0)))))) (mTB (mBin (fEq true) (mBin fIx (mVar 0) (mD (.int 0))) (mD (.str "box"))))))) (mRet (mD (.bool false))) mNext)
    (mRet (mCB m_is_within (mCons (mBin fIx (mVar 0) (mD (.int 1))) (mCons (mD (.int 0)) (mCons (mBin fSub (mVar 1) (mD (.int 1))) mNil))))))
def m_is_reference : MF := mFrz (mDef 2 2 b_is_reference)
def b_is_item : MS := (mRet (mOr (mCB m_is_leaf (mCons (mVar 0) mNil)) (mCB m_is_reference (mCons (mVar 0) (mCons (mVar 1) mNil)))))
def m_is_item : MF := mFrz (mDef 2 2 b_is_item)
def b_Heap_len : MS := (mRet (mCB fLen (mCons (mLc2 (mIA (mFld 0 0 (mVar 0))) (gNm 1) mYes (mIA (mVar 1)) (gNm 2) mYes (mVar 2) [1, 2] [2]) mNil)))
def m_Heap_len : MF := mFrz (mDef 1 3 b_Heap_len)
def b_Heap_need_room : MS := (mSeq (mIfS (mTB (mBin fGt (mBin fAdd (mCB fLen (mCons (mFld 0 0 (mVar 0)) mNil)) (mVar 1)) (mD (.int 60)))) mNever mNext)
    (mIfS (mTB (mBin fGt (mBin fAdd (mLenI 0 m_Heap_len (mVar 0)) (mVar 2)) (mD (.int 300)))) mNever mNext))
def m_Heap_need_room : MF := mFrz (mDef 3 3 b_Heap_need_room)
def b_Heap_init : MS := (mSeq (mFor (mIA (mVar 1)) (gNm 2) (mSeq (mIfS (mTNot (mTru (mIsi "list" (mVar 2)))) mNever mNext)
    (mFor (mIA (mVar 2)) (gNm 3) (mIfS (mTNot (mTru (mCB m_is_item (mCons (mVar 3) (mCons (mCB fLen (mCons (mVar 1) mNil)) mNil))))) mNever mNext))))
    (mSeq (sSetF 0 0 (mVar 0) (mLc (mIA (mVar 1)) (gNm 2) mYes (mCB fListOf (mCons (mVar 2) mNil)) [2]))
    (mExpr (mMeth 0 m_Heap_need_room (mVar 0) (mCons (mD (.int 0)) (mCons (mD (.int 0)) mNil))))))
def m_Heap_init : MF := mStar 1 4 b_Heap_init
def b_Heap_of : MS := (mRet (mMakeStar 0 "Heap" m_Heap_init (mVar 0) (mVar 1)))
def m_Heap_of : MF := mDef 2 2 b_Heap_of
def b_law_heap : MS := (mRet (mCM "Heap" m_Heap_of (mCons (mLc (mIA (mVar 0)) (gNm 1) mYes (mCB fListOf (mCons (mVar 1) mNil)) [1]) mNil)))
def m_law_heap : MF := mDef 1 2 b_law_heap
def b_Heap_contents : MS := (mRet (mLc (mIA (mFld 0 0 (mVar 0))) (gNm 1) mYes (mCB fListOf (mCons (mVar 1) mNil)) [1]))
def m_Heap_contents : MF := mFrz (mDef 1 2 b_Heap_contents)
def b_filled : MS := (mRet (mCM "Heap" m_Heap_of (mCons (mLc (mIA (mMeth 0 m_Heap_contents (mVar 0) mNil)) (gNm 2) mYes (mLc (mIA (mVar 2)) (gNm 3) mYes (mIf (mTru (mCB m_is_word (mCons (mVar 3) mNil))) (mBin fIx (mVar 1) (mVar 3)) (mVar 3)) [3]) [2]) mNil)))
def m_filled : MF := mDef 2 4 b_filled
def b_Heap_contains : MS := (mRet (mCB m_is_within (mCons (mVar 1) (mCons (mD (.int 0)) (mCons (mBin fSub (mCB fLen (mCons (mFld 0 0 (mVar 0)) mNil)) (mD (.int 1))) mNil)))))
def m_Heap_contains : MF := mFrz (mDef 2 2 b_Heap_contains)
def b_Heap_need_box : MS := (mIfS (mTB (mHas true 0 m_Heap_contains (mVar 1) (mVar 0))) mNever mNext)
def m_Heap_need_box : MF := mFrz (mDef 2 2 b_Heap_need_box)
def b_Heap_need_place : MS := (mIfS (mTNot (mTru (mCB m_is_within (mCons (mVar 2) (mCons (mD (.int 0)) (mCons (mBin fAdd (mBin fSub (mCB fLen (mCons (mBin fIx (mFld 0 0 (mVar 0)) (mVar 1)) mNil)) (mD (.int 1))) (mVar 3)) mNil)))))) mNever mNext)
def m_Heap_need_place : MF := mFrz (mDef 4 4 b_Heap_need_place)
def b_Heap_need_item : MS := (mIfS (mTNot (mTru (mCB m_is_item (mCons (mVar 1) (mCons (mBin fAdd (mCB fLen (mCons (mFld 0 0 (mVar 0)) mNil)) (mVar 2)) mNil))))) mNever mNext)
def m_Heap_need_item : MF := mFrz (mDef 3 3 b_Heap_need_item)
def b_Heap_add_at : MS := (mSeq (mExpr (mMeth 0 m_Heap_need_box (mVar 0) (mCons (mVar 1) mNil)))
    (mSeq (mExpr (mMeth 0 m_Heap_need_place (mVar 0) (mCons (mVar 1) (mCons (mVar 2) (mCons (mD (.int 1)) mNil)))))
    (mSeq (mExpr (mMeth 0 m_Heap_need_item (mVar 0) (mCons (mVar 3) (mCons (mD (.int 0)) mNil))))
    (mSeq (mExpr (mMeth 0 m_Heap_need_room (mVar 0) (mCons (mD (.int 0)) (mCons (mD (.int 1)) mNil))))
    (mExpr (mBM "list" fInsert (mBin fIx (mFld 0 0 (mVar 0)) (mVar 1)) (mCons (mVar 2) (mCons (mVar 3) mNil))))))))
def m_Heap_add_at : MF := mDef 4 4 b_Heap_add_at
def b_Heap_add_last : MS := (mSeq (mExpr (mMeth 0 m_Heap_need_box (mVar 0) (mCons (mVar 1) mNil)))
    (mExpr (mMeth 0 m_Heap_add_at (mVar 0) (mCons (mVar 1) (mCons (mCB fLen (mCons (mBin fIx (mFld 0 0 (mVar 0)) (mVar 1)) mNil)) (mCons (mVar 2) mNil))))))
def m_Heap_add_last : MF := mDef 3 3 b_Heap_add_last
def b_Heap_new : MS := (mSeq (mFor (mIA (mVar 1)) (gNm 2) (mExpr (mMeth 0 m_Heap_need_item (mVar 0) (mCons (mVar 2) (mCons (mD (.int 1)) mNil)))))
    (mSeq (mExpr (mMeth 0 m_Heap_need_room (mVar 0) (mCons (mD (.int 1)) (mCons (mCB fLen (mCons (mVar 1) mNil)) mNil))))
    (mSeq (mExpr (mBM "list" fAppend (mFld 0 0 (mVar 0)) (mCons (mCB fListOf (mCons (mVar 1) mNil)) mNil)))
    (mRet (mBin fSub (mCB fLen (mCons (mFld 0 0 (mVar 0)) mNil)) (mD (.int 1)))))))
def m_Heap_new : MF := mStar 1 3 b_Heap_new
def b_Heap_eq : MS := (mRet (mAnd (mIsiC 0 (mVar 1)) (mBin (fEq false) (mFld 0 0 (mVar 0)) (mFld 0 0 (mVar 1)))))
def m_Heap_eq : MF := mFrz (mDef 2 2 b_Heap_eq)
def b_law_right : MS := (mSeq (mAsg (mCB m_law_ringed (mCons (mVar 0) (mCons (mD (.int 10)) mNil))) (gNm 1))
    (mSeq (mAsg (mTup (mCons (mCB m_law_heap (mCons (mVar 1) mNil)) (mCons mDk mNil))) (gTp 2 (gsCons (gNm 2) (gsCons (gNm 3) gsNil))))
    (mSeq (mFor (mIA (mLst (mCons (mD (.str "a")) (mCons (mD (.str "b")) (mCons (mD (.str "")) (mCons (mD (.str "abcdefgh")) (mCons (mD (.str "zz")) mNil))))))) (gNm 4) (mSeq (mAsg (mLst (mCons (mBin fSub (mCB m_law_take (mCons (mVar 0) (mCons (mD (.int 9)) mNil))) (mD (.int 4))) (mCons (mCB m_law_take (mCons (mVar 0) (mCons (mBin fPow (mD (.int 10)) (mD (.int 40))) mNil))) (mCons (mBin fSub (mD (.int 0)) (mCB m_law_take (mCons (mVar 0) (mCons (mBin fPow (mD (.int 10)) (mD (.int 39))) mNil)))) mNil)))) (gNm 5))
    (mAsg (mBin fIx (mVar 5) (mCB m_law_take (mCons (mVar 0) (mCons (mD (.int 3)) mNil)))) (gSb (mVar 3) (mVar 4)))))
    (mSeq (mAsg (mLc (mIA (mVar 1)) (gNm 11) mYes (mLc (mIA (mVar 11)) (gNm 12) mYes (mIf (mTru (mIsi "str" (mVar 12))) (mBin fIx (mVar 3) (mVar 12)) (mVar 12)) [12]) [11]) (gNm 6))
    (mSeq (mAsg (mCB fDictOf (mCons (mVar 3) mNil)) (gNm 7))
    (mSeq (mAsg (mCB m_filled (mCons (mVar 2) (mCons (mVar 7) mNil))) (gNm 8))
    (mSeq (mIfS (mTOr (mTNot (mTru (mIsiC 0 (mVar 8)))) (mTOr (mTB (mBin (fEqS true) (mRepr (mMeth 0 m_Heap_contents (mVar 8) mNil)) (mRepr (mVar 6)))) (mTB (mBin (fDEq true) (mVar 7) (mVar 3))))) (mRet (mD (.bool false))) mNext)
    (mSeq (mAsg mDk (gNm 9))
    (mSeq (mFor (mIA (mRev (mCB fKeys (mCons (mVar 3) mNil)))) (gNm 4) (mAsg (mBin fIx (mVar 3) (mVar 4)) (gSb (mVar 9) (mVar 4))))
    (mSeq (mIfS (mTOr (mTB (mBin (fEqS true) (mRepr (mMeth 0 m_Heap_contents (mCB m_filled (mCons (mVar 2) (mCons (mVar 9) mNil))) mNil)) (mRepr (mVar 6)))) (mTB (mBin (fEq true) (mCB fKeys (mCons (mVar 9) mNil)) (mRev (mCB fKeys (mCons (mVar 3) mNil)))))) (mRet (mD (.bool false))) mNext)
    (mSeq (mAsg (mCB m_filled (mCons (mVar 8) (mCons mDk mNil))) (gNm 10))
    (mSeq (mExpr (mMeth 0 m_Heap_add_last (mVar 8) (mCons (mD (.int 0)) (mCons (mD (.int 7)) mNil))))
    (mSeq (mExpr (mMeth 0 m_Heap_new (mVar 8) mNil))
    (mRet (mAnd (mBin (fEq false) (mMeth 0 m_Heap_contents (mVar 10) mNil) (mVar 6)) (mAnd (mBin (fEq false) (mMeth 0 m_Heap_contents (mVar 2) mNil) (mVar 1)) (mEqI false 0 m_Heap_eq (mCB m_filled (mCons (mVar 2) (mCons (mVar 7) mNil))) (mVar 10))))))))))))))))))
def m_law_right : MF := mFrz (mDef 1 13 b_law_right)
def b_law : MS := (mSeq (mFor (mIR1 (mCB fMax2 (mCons (mD (.int 2)) (mCons (mCB fMin2 (mCons (mD (.int 4)) (mCons (mCB fLen (mCons (mVar 0) mNil)) mNil))) mNil)))) (gNm 1) (mSeq (mAsg (mCB m_law_bag (mCons (mVar 0) (mCons (mVar 1) mNil))) (gNm 2))
    (mFor (mIR1 (mD (.int 8))) (gNm 3) (mIfS (mTNot (mTru (mCB m_law_right (mCons (mVar 2) mNil)))) (mRet (mD (.bool false))) mNext))))
    (mRet (mD (.bool true))))
def m_law : MF := mFrz (mDef 1 4 b_law)
/-! ### the text by places -/
abbrev s_law_bag : Stmt := top 22
abbrev s_law_take : Stmt := top 23
abbrev s_law_leaf : Stmt := top 24
abbrev s_law_contents : Stmt := top 25
abbrev s_law_twofold : Stmt := top 26
abbrev s_law_ringed : Stmt := top 28
abbrev s_is_integer : Stmt := top 11
abbrev s_is_word : Stmt := top 13
abbrev s_is_leaf : Stmt := top 14
abbrev s_is_within : Stmt := top 12
abbrev s_is_reference : Stmt := top 15
abbrev s_is_item : Stmt := top 16
abbrev s_Heap_len : Stmt := inClass (top 18) 5
abbrev s_Heap_need_room : Stmt := inClass (top 18) 12
abbrev s_Heap_init : Stmt := inClass (top 18) 2
abbrev s_Heap_of : Stmt := inClass (top 18) 3
abbrev s_law_heap : Stmt := top 27
abbrev s_Heap_contents : Stmt := inClass (top 18) 20
abbrev s_filled : Stmt := top 20
abbrev s_Heap_contains : Stmt := inClass (top 18) 7
abbrev s_Heap_need_box : Stmt := inClass (top 18) 9
abbrev s_Heap_need_place : Stmt := inClass (top 18) 10
abbrev s_Heap_need_item : Stmt := inClass (top 18) 11
abbrev s_Heap_add_at : Stmt := inClass (top 18) 15
abbrev s_Heap_add_last : Stmt := inClass (top 18) 16
abbrev s_Heap_new : Stmt := inClass (top 18) 13
abbrev s_Heap_eq : Stmt := inClass (top 18) 4
abbrev s_law_right : Stmt := top 29
abbrev s_law : Stmt := top 30
structure Txt (K : PySem.W.Frag) (mg : Str → Option Value) : Prop where
  g_BOX : ∃ t, mg "BOX" = some (.str "box" t)
  g_LETTERS : ∃ t, mg "LETTERS" = some (.str "abcdefghijklmnopqrstuvwxyz" t)
  g_MOST_LETTERS : ∃ t, mg "MOST_LETTERS" = some (.int 8 t)
  v_Heap_MOST_BOXES : CvG K (He.ga K "Heap") "MOST_BOXES" 60
  v_Heap_MOST_ITEMS : CvG K (He.ga K "Heap") "MOST_ITEMS" 300
  z_abs : mg "abs" = none
  z_all : mg "all" = none
  z_bool : mg "bool" = none
  z_dict : mg "dict" = none
  z_int : mg "int" = none
  z_isinstance : mg "isinstance" = none
  z_len : mg "len" = none
  z_list : mg "list" = none
  z_max : mg "max" = none
  z_min : mg "min" = none
  z_range : mg "range" = none
  z_repr : mg "repr" = none
  z_str : mg "str" = none
  z_tuple : mg "tuple" = none
  K_Heap : ClsG ⟨K, mg, cnT⟩ 0 (He.ga K "Heap")
  I_Heap : IsiG K (He.ga K "Heap")
section
variable {K : PySem.W.Frag} {mg : Str → Option Value} {P : Program} {w : World} {base : Heap}
theorem sc_law_bag : FnScope (["_law_script", "_law_at", "_law_primes", "_law_cell", "_law_large", "_law_mixed"] : List Str) (["_law_script", "_law_at"] : List Str) (defScope s_law_bag) := ⟨rfl, rfl, rfl, by decide +kernel, rfl, by decide +kernel, by decide +kernel⟩
theorem ok_law_bag {f : Addr} {fd : FuncData} (T : Txt K mg) (F : Fun K "_law_bag" "_law_bag" s_law_bag f fd)  : FnG P w ⟨K, mg, cnT⟩ base 2 f (spM ⟨K, mg, cnT⟩ m_law_bag) := by
  refine (fnG_of (ps := ["_law_script", "_law_at"]) (N := ["_law_script", "_law_at", "_law_primes", "_law_cell", "_law_large", "_law_mixed"]) (body := b_law_bag) F sc_law_bag (fun _ _ _ _ _ _ us hl => match us, hl with | [_, _], _ => rfl) (fun cdv A outer s H E hG' hr => ?_))
  have hC : (cxOf CX0 P w K mg base (["_law_script", "_law_at", "_law_primes", "_law_cell", "_law_large", "_law_mixed"] : List Str) "_law_bag" (defScope s_law_bag) f cdv A outer s H E).nox.calm = true := rfl
  have hN := sc_law_bag.nd
  have hG : (cxOf CX0 P w K mg base (["_law_script", "_law_at", "_law_primes", "_law_cell", "_law_large", "_law_mixed"] : List Str) "_law_bag" (defScope s_law_bag) f cdv A outer s H E).nox.A.guards = some [] := hG'
  have hu : (cxOf CX0 P w K mg base (["_law_script", "_law_at", "_law_primes", "_law_cell", "_law_large", "_law_mixed"] : List Str) "_law_bag" (defScope s_law_bag) f cdv A outer s H E).nox.A.units + 64 < cLine := hr.units
  have hu65 : (cxOf CX0 P w K mg base (["_law_script", "_law_at", "_law_primes", "_law_cell", "_law_large", "_law_mixed"] : List Str) "_law_bag" (defScope s_law_bag) f cdv A outer s H E).nox.A.units + 65 < cLine := by have := hr.un; show (A.deeper _).units + 65 < cLine; omega
  have hu0 : (cxOf CX0 P w K mg base (["_law_script", "_law_at", "_law_primes", "_law_cell", "_law_large", "_law_mixed"] : List Str) "_law_bag" (defScope s_law_bag) f cdv A outer s H E).nox.A.units < cLine := hr.units0
  exact (rb_cons (rs_asg (re_tup (ra_cons re_int (ra_cons re_int (ra_cons re_int (ra_cons re_int (ra_cons re_int (ra_cons re_int (ra_cons re_int ra_nil)))))))) (rg_name (i := 2) hN rfl (by first | exact Or.inl rfl | exact Or.inr rfl)))
    (rb_cons (rs_asg (re_if (rt_cmp op_lt2 om_lt (re_var 1 rfl (by first | exact Or.inl rfl | exact Or.inr (Or.inl rfl) | exact Or.inr (Or.inr rfl))) (re_callB call_lenAll cm_len rfl T.z_len z_len (ra_cons (re_var 0 rfl (by first | exact Or.inl rfl | exact Or.inr (Or.inl rfl) | exact Or.inr (Or.inr rfl))) ra_nil)) (nomark _)) (re_ix hu (re_var 0 rfl (by first | exact Or.inl rfl | exact Or.inr (Or.inl rfl) | exact Or.inr (Or.inr rfl))) (re_var 1 rfl (by first | exact Or.inl rfl | exact Or.inr (Or.inl rfl) | exact Or.inr (Or.inr rfl))) (fun _ _ => rfl)) re_int) (rg_name (i := 3) hN rfl (by first | exact Or.inl rfl | exact Or.inr rfl)))
    (rb_cons (rs_asg (re_if (rt_cmp op_ge2 om_ge (re_callB call_abs cm_abs rfl T.z_abs z_abs (ra_cons (re_var 3 rfl (by first | exact Or.inl rfl | exact Or.inr (Or.inl rfl) | exact Or.inr (Or.inr rfl))) ra_nil)) (re_op op_pow om_pow re_int re_int) (nomark _)) (re_callB call_abs cm_abs rfl T.z_abs z_abs (ra_cons (re_var 3 rfl (by first | exact Or.inl rfl | exact Or.inr (Or.inl rfl) | exact Or.inr (Or.inr rfl))) ra_nil)) re_int) (rg_name (i := 4) hN rfl (by first | exact Or.inl rfl | exact Or.inr rfl)))
    (rb_cons (rs_asg (re_op op_mod om_mod (re_op op_pow om_pow (re_op op_addAll om_add (re_op op_addAll om_add (re_op op_mod om_mod (re_var 3 rfl (by first | exact Or.inl rfl | exact Or.inr (Or.inl rfl) | exact Or.inr (Or.inr rfl))) re_int) (re_op op_mulAll om_mul re_int (re_var 1 rfl (by first | exact Or.inl rfl | exact Or.inr (Or.inl rfl) | exact Or.inr (Or.inr rfl))))) re_int) re_int) (re_ix hu (re_var 2 rfl (by first | exact Or.inl rfl | exact Or.inr (Or.inl rfl) | exact Or.inr (Or.inr rfl))) (re_op op_mod om_mod (re_var 1 rfl (by first | exact Or.inl rfl | exact Or.inr (Or.inl rfl) | exact Or.inr (Or.inr rfl))) re_int) (fun _ _ => rfl))) (rg_name (i := 5) hN rfl (by first | exact Or.inl rfl | exact Or.inr rfl)))
    (rb_one (rs_ret (re_lst (ra_cons (re_var 4 rfl (by first | exact Or.inl rfl | exact Or.inr (Or.inl rfl) | exact Or.inr (Or.inr rfl))) (ra_cons (re_op op_addAll om_add (re_op op_mod om_mod (re_op op_mulAll om_mul (re_var 5 rfl (by first | exact Or.inl rfl | exact Or.inr (Or.inl rfl) | exact Or.inr (Or.inr rfl))) (re_op op_addAll om_add (re_op op_addAll om_add (re_op op_fdivW om_div (re_var 5 rfl (by first | exact Or.inl rfl | exact Or.inr (Or.inl rfl) | exact Or.inr (Or.inr rfl))) re_int) (re_op op_mulAll om_mul re_int (re_var 1 rfl (by first | exact Or.inl rfl | exact Or.inr (Or.inl rfl) | exact Or.inr (Or.inr rfl))))) re_int)) (re_ix hu (re_var 2 rfl (by first | exact Or.inl rfl | exact Or.inr (Or.inl rfl) | exact Or.inr (Or.inr rfl))) (re_op op_mod om_mod (re_op op_addAll om_add (re_var 1 rfl (by first | exact Or.inl rfl | exact Or.inr (Or.inl rfl) | exact Or.inr (Or.inr rfl))) re_int) re_int) (fun _ _ => rfl))) re_int) ra_nil)))))))))
theorem sc_law_take : FnScope (["_law_bag_here", "_law_many", "_law_digit"] : List Str) (["_law_bag_here", "_law_many"] : List Str) (defScope s_law_take) := ⟨rfl, rfl, rfl, by decide +kernel, rfl, by decide +kernel, by decide +kernel⟩
theorem ok_law_take {f : Addr} {fd : FuncData} (T : Txt K mg) (F : Fun K "_law_take" "_law_take" s_law_take f fd)  : FnG P w ⟨K, mg, cnT⟩ base 2 f (spM ⟨K, mg, cnT⟩ m_law_take) := by
  refine (fnG_of (ps := ["_law_bag_here", "_law_many"]) (N := ["_law_bag_here", "_law_many", "_law_digit"]) (body := b_law_take) F sc_law_take (fun _ _ _ _ _ _ us hl => match us, hl with | [_, _], _ => rfl) (fun cdv A outer s H E hG' hr => ?_)).frz
  have hC : (cxOf CX0 P w K mg base (["_law_bag_here", "_law_many", "_law_digit"] : List Str) "_law_take" (defScope s_law_take) f cdv A outer s H E).nox.calm = true := rfl
  have hN := sc_law_take.nd
  have hG : (cxOf CX0 P w K mg base (["_law_bag_here", "_law_many", "_law_digit"] : List Str) "_law_take" (defScope s_law_take) f cdv A outer s H E).nox.A.guards = some [] := hG'
  have hu : (cxOf CX0 P w K mg base (["_law_bag_here", "_law_many", "_law_digit"] : List Str) "_law_take" (defScope s_law_take) f cdv A outer s H E).nox.A.units + 64 < cLine := hr.units
  have hu65 : (cxOf CX0 P w K mg base (["_law_bag_here", "_law_many", "_law_digit"] : List Str) "_law_take" (defScope s_law_take) f cdv A outer s H E).nox.A.units + 65 < cLine := by have := hr.un; show (A.deeper _).units + 65 < cLine; omega
  have hu0 : (cxOf CX0 P w K mg base (["_law_bag_here", "_law_many", "_law_digit"] : List Str) "_law_take" (defScope s_law_take) f cdv A outer s H E).nox.A.units < cLine := hr.units0
  exact (rb_cons (rs_if (rt_cmp op_gt2 om_gt (re_ix hu (re_var 0 rfl (by first | exact Or.inl rfl | exact Or.inr (Or.inl rfl) | exact Or.inr (Or.inr rfl))) re_int (fun _ _ => rfl)) re_int (nomark _)) (rb_cons (rs_asg (re_op op_mod om_mod (re_ix hu (re_var 0 rfl (by first | exact Or.inl rfl | exact Or.inr (Or.inl rfl) | exact Or.inr (Or.inr rfl))) re_int (fun _ _ => rfl)) (re_var 1 rfl (by first | exact Or.inl rfl | exact Or.inr (Or.inl rfl) | exact Or.inr (Or.inr rfl)))) (rg_name (i := 2) hN rfl (by first | exact Or.inl rfl | exact Or.inr rfl)))
    (rb_cons (rs_asg (re_op op_fdivW om_div (re_ix hu (re_var 0 rfl (by first | exact Or.inl rfl | exact Or.inr (Or.inl rfl) | exact Or.inr (Or.inr rfl))) re_int (fun _ _ => rfl)) (re_var 1 rfl (by first | exact Or.inl rfl | exact Or.inr (Or.inl rfl) | exact Or.inr (Or.inr rfl)))) (rg_sub hu (re_var 0 rfl (by first | exact Or.inl rfl | exact Or.inr (Or.inl rfl) | exact Or.inr (Or.inr rfl))) re_int))
    (rb_one (rs_ret (re_var 2 rfl (by first | exact Or.inl rfl | exact Or.inr (Or.inl rfl) | exact Or.inr (Or.inr rfl))))))) rb_nil)
    (rb_cons (rs_asg (re_op op_mod om_mod (re_op op_mulAll om_mul (re_ix hu (re_var 0 rfl (by first | exact Or.inl rfl | exact Or.inr (Or.inl rfl) | exact Or.inr (Or.inr rfl))) re_int (fun _ _ => rfl)) re_int) re_int) (rg_sub hu (re_var 0 rfl (by first | exact Or.inl rfl | exact Or.inr (Or.inl rfl) | exact Or.inr (Or.inr rfl))) re_int))
    (rb_one (rs_ret (re_op op_mod om_mod (re_op op_fdivW om_div (re_op op_mod om_mod (re_op op_mulAll om_mul (re_ix hu (re_var 0 rfl (by first | exact Or.inl rfl | exact Or.inr (Or.inl rfl) | exact Or.inr (Or.inr rfl))) re_int (fun _ _ => rfl)) re_int) re_int) (re_op op_pow om_pow re_int re_int)) (re_var 1 rfl (by first | exact Or.inl rfl | exact Or.inr (Or.inl rfl) | exact Or.inr (Or.inr rfl))))))))
theorem sc_law_leaf : FnScope (["_law_bag_here", "_law_some"] : List Str) (["_law_bag_here"] : List Str) (defScope s_law_leaf) := ⟨rfl, rfl, rfl, by decide +kernel, rfl, by decide +kernel, by decide +kernel⟩
theorem ok_law_leaf {f : Addr} {fd : FuncData} (T : Txt K mg) (F : Fun K "_law_leaf" "_law_leaf" s_law_leaf f fd) (c_law_take : CalG P w ⟨K, mg, cnT⟩ base 2 "_law_take" m_law_take) : FnG P w ⟨K, mg, cnT⟩ base 4 f (spM ⟨K, mg, cnT⟩ m_law_leaf) := by
  refine (fnG_of (ps := ["_law_bag_here"]) (N := ["_law_bag_here", "_law_some"]) (body := b_law_leaf) F sc_law_leaf (fun _ _ _ _ _ _ us hl => match us, hl with | [_], _ => rfl) (fun cdv A outer s H E hG' hr => ?_)).frz
  have hC : (cxOf CX0 P w K mg base (["_law_bag_here", "_law_some"] : List Str) "_law_leaf" (defScope s_law_leaf) f cdv A outer s H E).nox.calm = true := rfl
  have hN := sc_law_leaf.nd
  have hG : (cxOf CX0 P w K mg base (["_law_bag_here", "_law_some"] : List Str) "_law_leaf" (defScope s_law_leaf) f cdv A outer s H E).nox.A.guards = some [] := hG'
  have hu : (cxOf CX0 P w K mg base (["_law_bag_here", "_law_some"] : List Str) "_law_leaf" (defScope s_law_leaf) f cdv A outer s H E).nox.A.units + 64 < cLine := hr.units
  have hu65 : (cxOf CX0 P w K mg base (["_law_bag_here", "_law_some"] : List Str) "_law_leaf" (defScope s_law_leaf) f cdv A outer s H E).nox.A.units + 65 < cLine := by have := hr.un; show (A.deeper _).units + 65 < cLine; omega
  have hu0 : (cxOf CX0 P w K mg base (["_law_bag_here", "_law_some"] : List Str) "_law_leaf" (defScope s_law_leaf) f cdv A outer s H E).nox.A.units < cLine := hr.units0
  exact (rb_cons (rs_asg (re_lst (ra_cons re_int (ra_cons re_int (ra_cons re_int (ra_cons re_str (ra_cons re_str (ra_cons re_str (ra_cons (re_neg re_int) (ra_cons (re_op op_pow om_pow re_int re_int) (ra_cons re_str (ra_cons (re_neg (re_op op_pow om_pow re_int re_int)) ra_nil))))))))))) (rg_name (i := 1) hN rfl (by first | exact Or.inl rfl | exact Or.inr rfl)))
    (rb_one (rs_ret (re_ix hu (re_var 1 rfl (by first | exact Or.inl rfl | exact Or.inr (Or.inl rfl) | exact Or.inr (Or.inr rfl))) (re_ix hu (re_lst (ra_cons re_int (ra_cons re_int (ra_cons re_int (ra_cons re_int (ra_cons re_int (ra_cons re_int (ra_cons re_int (ra_cons re_int (ra_cons re_int (ra_cons re_int (ra_cons re_int (ra_cons re_int ra_nil))))))))))))) (re_call c_law_take hG hr (by decide) rfl (ra_cons (re_var 0 rfl (by first | exact Or.inl rfl | exact Or.inr (Or.inl rfl) | exact Or.inr (Or.inr rfl))) (ra_cons re_int ra_nil))) (fun _ _ => rfl)) (fun _ _ => rfl)))))
theorem sc_law_contents : FnScope (["_law_bag_here", "_law_most", "_law_total", "_law_found", "_law_k", "_law_row", "_law_turn"] : List Str) (["_law_bag_here", "_law_most"] : List Str) (defScope s_law_contents) := ⟨rfl, rfl, rfl, by decide +kernel, rfl, by decide +kernel, by decide +kernel⟩
theorem ok_law_contents {f : Addr} {fd : FuncData} (T : Txt K mg) (F : Fun K "_law_contents" "_law_contents" s_law_contents f fd) (c_law_take : CalG P w ⟨K, mg, cnT⟩ base 2 "_law_take" m_law_take) (c_law_leaf : CalG P w ⟨K, mg, cnT⟩ base 4 "_law_leaf" m_law_leaf) : FnG P w ⟨K, mg, cnT⟩ base 6 f (spM ⟨K, mg, cnT⟩ m_law_contents) := by
  refine (fnG_of (ps := ["_law_bag_here", "_law_most"]) (N := ["_law_bag_here", "_law_most", "_law_total", "_law_found", "_law_k", "_law_row", "_law_turn"]) (body := b_law_contents) F sc_law_contents (fun _ _ _ _ _ _ us hl => match us, hl with | [_, _], _ => rfl) (fun cdv A outer s H E hG' hr => ?_)).frz
  have hC : (cxOf CX0 P w K mg base (["_law_bag_here", "_law_most", "_law_total", "_law_found", "_law_k", "_law_row", "_law_turn"] : List Str) "_law_contents" (defScope s_law_contents) f cdv A outer s H E).nox.calm = true := rfl
  have hN := sc_law_contents.nd
  have hG : (cxOf CX0 P w K mg base (["_law_bag_here", "_law_most", "_law_total", "_law_found", "_law_k", "_law_row", "_law_turn"] : List Str) "_law_contents" (defScope s_law_contents) f cdv A outer s H E).nox.A.guards = some [] := hG'
  have hu : (cxOf CX0 P w K mg base (["_law_bag_here", "_law_most", "_law_total", "_law_found", "_law_k", "_law_row", "_law_turn"] : List Str) "_law_contents" (defScope s_law_contents) f cdv A outer s H E).nox.A.units + 64 < cLine := hr.units
  have hu65 : (cxOf CX0 P w K mg base (["_law_bag_here", "_law_most", "_law_total", "_law_found", "_law_k", "_law_row", "_law_turn"] : List Str) "_law_contents" (defScope s_law_contents) f cdv A outer s H E).nox.A.units + 65 < cLine := by have := hr.un; show (A.deeper _).units + 65 < cLine; omega
  have hu0 : (cxOf CX0 P w K mg base (["_law_bag_here", "_law_most", "_law_total", "_law_found", "_law_k", "_law_row", "_law_turn"] : List Str) "_law_contents" (defScope s_law_contents) f cdv A outer s H E).nox.A.units < cLine := hr.units0
  exact (rb_cons (rs_par (i := 2) (j := 3) hC hN rfl rfl (by decide) rfl rfl (ra_cons (re_op op_addAll om_add re_int (re_call c_law_take hG hr (by decide) rfl (ra_cons (re_var 0 rfl (by first | exact Or.inl rfl | exact Or.inr (Or.inl rfl) | exact Or.inr (Or.inr rfl))) (ra_cons (re_var 1 rfl (by first | exact Or.inl rfl | exact Or.inr (Or.inl rfl) | exact Or.inr (Or.inr rfl))) ra_nil)))) (ra_cons (re_lst ra_nil) ra_nil)) rfl)
    (rb_cons (rs_for PassesOwn.never hC (ri_range1 rfl T.z_range (re_var 2 rfl (by first | exact Or.inl rfl | exact Or.inr (Or.inl rfl) | exact Or.inr (Or.inr rfl)))) (rg_name (i := 4) hN rfl (by first | exact Or.inl rfl | exact Or.inr rfl)) (rb_cons (rs_asg (re_lst ra_nil) (rg_name (i := 5) hN rfl (by first | exact Or.inl rfl | exact Or.inr rfl)))
    (rb_cons (rs_for PassesOwn.never hC (ri_range1 rfl T.z_range (re_call c_law_take hG hr (by decide) rfl (ra_cons (re_var 0 rfl (by first | exact Or.inl rfl | exact Or.inr (Or.inl rfl) | exact Or.inr (Or.inr rfl))) (ra_cons re_int ra_nil)))) (rg_name (i := 6) hN rfl (by first | exact Or.inl rfl | exact Or.inr rfl)) (rb_one (rs_expr (re_bm PySem.F.plainAttrs_list PySem.F.slot_list_append PySem.F.type_list_append w_append mm_append (re_var 5 rfl (by first | exact Or.inl rfl | exact Or.inr (Or.inl rfl) | exact Or.inr (Or.inr rfl))) (ra_cons (re_if (rt_cmp op_gt2 om_gt (re_call c_law_take hG hr (by decide) rfl (ra_cons (re_var 0 rfl (by first | exact Or.inl rfl | exact Or.inr (Or.inl rfl) | exact Or.inr (Or.inr rfl))) (ra_cons re_int ra_nil))) re_int (nomark _)) (re_tup (ra_cons re_str (ra_cons (re_call c_law_take hG hr (by decide) rfl (ra_cons (re_var 0 rfl (by first | exact Or.inl rfl | exact Or.inr (Or.inl rfl) | exact Or.inr (Or.inr rfl))) (ra_cons (re_var 2 rfl (by first | exact Or.inl rfl | exact Or.inr (Or.inl rfl) | exact Or.inr (Or.inr rfl))) ra_nil))) ra_nil))) (re_call c_law_leaf hG hr (by decide) rfl (ra_cons (re_var 0 rfl (by first | exact Or.inl rfl | exact Or.inr (Or.inl rfl) | exact Or.inr (Or.inr rfl))) ra_nil))) ra_nil)))))
    (rb_one (rs_expr (re_bm PySem.F.plainAttrs_list PySem.F.slot_list_append PySem.F.type_list_append w_append mm_append (re_var 3 rfl (by first | exact Or.inl rfl | exact Or.inr (Or.inl rfl) | exact Or.inr (Or.inr rfl))) (ra_cons (re_var 5 rfl (by first | exact Or.inl rfl | exact Or.inr (Or.inl rfl) | exact Or.inr (Or.inr rfl))) ra_nil)))))))
    (rb_one (rs_ret (re_var 3 rfl (by first | exact Or.inl rfl | exact Or.inr (Or.inl rfl) | exact Or.inr (Or.inr rfl)))))))
theorem sc_law_twofold : FnScope (["_law_bag_here", "_law_most", "_law_first", "_law_total", "_law_second", "_law_row", "_law_again", "_law_part", "_law_spot"] : List Str) (["_law_bag_here", "_law_most"] : List Str) (defScope s_law_twofold) := ⟨rfl, rfl, rfl, by decide +kernel, rfl, by decide +kernel, by decide +kernel⟩
theorem ok_law_twofold {f : Addr} {fd : FuncData} (T : Txt K mg) (F : Fun K "_law_twofold" "_law_twofold" s_law_twofold f fd) (c_law_contents : CalG P w ⟨K, mg, cnT⟩ base 6 "_law_contents" m_law_contents) (c_law_take : CalG P w ⟨K, mg, cnT⟩ base 2 "_law_take" m_law_take) (c_law_leaf : CalG P w ⟨K, mg, cnT⟩ base 4 "_law_leaf" m_law_leaf) : FnG P w ⟨K, mg, cnT⟩ base 8 f (spM ⟨K, mg, cnT⟩ m_law_twofold) := by
  refine (fnG_of (ps := ["_law_bag_here", "_law_most"]) (N := ["_law_bag_here", "_law_most", "_law_first", "_law_total", "_law_second", "_law_row", "_law_again", "_law_part", "_law_spot"]) (body := b_law_twofold) F sc_law_twofold (fun _ _ _ _ _ _ us hl => match us, hl with | [_, _], _ => rfl) (fun cdv A outer s H E hG' hr => ?_)).frz
  have hC : (cxOf CX0 P w K mg base (["_law_bag_here", "_law_most", "_law_first", "_law_total", "_law_second", "_law_row", "_law_again", "_law_part", "_law_spot"] : List Str) "_law_twofold" (defScope s_law_twofold) f cdv A outer s H E).nox.calm = true := rfl
  have hN := sc_law_twofold.nd
  have hG : (cxOf CX0 P w K mg base (["_law_bag_here", "_law_most", "_law_first", "_law_total", "_law_second", "_law_row", "_law_again", "_law_part", "_law_spot"] : List Str) "_law_twofold" (defScope s_law_twofold) f cdv A outer s H E).nox.A.guards = some [] := hG'
  have hu : (cxOf CX0 P w K mg base (["_law_bag_here", "_law_most", "_law_first", "_law_total", "_law_second", "_law_row", "_law_again", "_law_part", "_law_spot"] : List Str) "_law_twofold" (defScope s_law_twofold) f cdv A outer s H E).nox.A.units + 64 < cLine := hr.units
  have hu65 : (cxOf CX0 P w K mg base (["_law_bag_here", "_law_most", "_law_first", "_law_total", "_law_second", "_law_row", "_law_again", "_law_part", "_law_spot"] : List Str) "_law_twofold" (defScope s_law_twofold) f cdv A outer s H E).nox.A.units + 65 < cLine := by have := hr.un; show (A.deeper _).units + 65 < cLine; omega
  have hu0 : (cxOf CX0 P w K mg base (["_law_bag_here", "_law_most", "_law_first", "_law_total", "_law_second", "_law_row", "_law_again", "_law_part", "_law_spot"] : List Str) "_law_twofold" (defScope s_law_twofold) f cdv A outer s H E).nox.A.units < cLine := hr.units0
  exact (rb_cons (rs_asg (re_call c_law_contents hG hr (by decide) rfl (ra_cons (re_var 0 rfl (by first | exact Or.inl rfl | exact Or.inr (Or.inl rfl) | exact Or.inr (Or.inr rfl))) (ra_cons (re_var 1 rfl (by first | exact Or.inl rfl | exact Or.inr (Or.inl rfl) | exact Or.inr (Or.inr rfl))) ra_nil))) (rg_name (i := 2) hN rfl (by first | exact Or.inl rfl | exact Or.inr rfl)))
    (rb_cons (rs_par (i := 3) (j := 4) hC hN rfl rfl (by decide) rfl rfl (ra_cons (re_callB call_lenAll cm_len rfl T.z_len z_len (ra_cons (re_var 2 rfl (by first | exact Or.inl rfl | exact Or.inr (Or.inl rfl) | exact Or.inr (Or.inr rfl))) ra_nil)) (ra_cons (re_lst ra_nil) ra_nil)) rfl)
    (rb_cons (rs_for PassesOwn.never hC (ri_any (re_var 2 rfl (by first | exact Or.inl rfl | exact Or.inr (Or.inl rfl) | exact Or.inr (Or.inr rfl)))) (rg_name (i := 5) hN rfl (by first | exact Or.inl rfl | exact Or.inr rfl)) (rb_cons (rs_asg (re_lst ra_nil) (rg_name (i := 6) hN rfl (by first | exact Or.inl rfl | exact Or.inr rfl)))
    (rb_cons (rs_for PassesOwn.never hC (ri_any (re_var 5 rfl (by first | exact Or.inl rfl | exact Or.inr (Or.inl rfl) | exact Or.inr (Or.inr rfl)))) (rg_name (i := 7) hN rfl (by first | exact Or.inl rfl | exact Or.inr rfl)) (rb_cons (rs_if (RW.pt (rw_and (rt_truth (re_isi (by decide) rfl T.z_isinstance rfl T.z_tuple z_tuple (re_var 7 rfl (by first | exact Or.inl rfl | exact Or.inr (Or.inl rfl) | exact Or.inr (Or.inr rfl)))) (fun _ => rfl)) (rw_and1 (rt_cmp op_gt2 om_gt (re_call c_law_take hG hr (by decide) rfl (ra_cons (re_var 0 rfl (by first | exact Or.inl rfl | exact Or.inr (Or.inl rfl) | exact Or.inr (Or.inr rfl))) (ra_cons re_int ra_nil))) re_int (nomark _))))) (rb_one (rs_asg (re_tup (ra_cons re_str (ra_cons (re_op op_addAll om_add (re_ix hu (re_var 7 rfl (by first | exact Or.inl rfl | exact Or.inr (Or.inl rfl) | exact Or.inr (Or.inr rfl))) re_int (fun _ _ => rfl)) (re_var 3 rfl (by first | exact Or.inl rfl | exact Or.inr (Or.inl rfl) | exact Or.inr (Or.inr rfl)))) ra_nil))) (rg_name (i := 7) hN rfl (by first | exact Or.inl rfl | exact Or.inr rfl)))) rb_nil)
    (rb_one (rs_expr (re_bm PySem.F.plainAttrs_list PySem.F.slot_list_append PySem.F.type_list_append w_append mm_append (re_var 6 rfl (by first | exact Or.inl rfl | exact Or.inr (Or.inl rfl) | exact Or.inr (Or.inr rfl))) (ra_cons (re_var 7 rfl (by first | exact Or.inl rfl | exact Or.inr (Or.inl rfl) | exact Or.inr (Or.inr rfl))) ra_nil))))))
    (rb_one (rs_expr (re_bm PySem.F.plainAttrs_list PySem.F.slot_list_append PySem.F.type_list_append w_append mm_append (re_var 4 rfl (by first | exact Or.inl rfl | exact Or.inr (Or.inl rfl) | exact Or.inr (Or.inr rfl))) (ra_cons (re_var 6 rfl (by first | exact Or.inl rfl | exact Or.inr (Or.inl rfl) | exact Or.inr (Or.inr rfl))) ra_nil)))))))
    (rb_cons (rs_asg (re_ix hu (re_var 4 rfl (by first | exact Or.inl rfl | exact Or.inr (Or.inl rfl) | exact Or.inr (Or.inr rfl))) (re_call c_law_take hG hr (by decide) rfl (ra_cons (re_var 0 rfl (by first | exact Or.inl rfl | exact Or.inr (Or.inl rfl) | exact Or.inr (Or.inr rfl))) (ra_cons (re_var 3 rfl (by first | exact Or.inl rfl | exact Or.inr (Or.inl rfl) | exact Or.inr (Or.inr rfl))) ra_nil))) (fun _ _ => rfl)) (rg_name (i := 8) hN rfl (by first | exact Or.inl rfl | exact Or.inr rfl)))
    (rb_cons (rs_if (RW.pt (rw_and (rt_cmp (op_neD hu) om_ne (re_var 8 rfl (by first | exact Or.inl rfl | exact Or.inr (Or.inl rfl) | exact Or.inr (Or.inr rfl))) (re_lst ra_nil) (nomark _)) (rw_and1 (rt_cmp (op_eqD hu) om_eq (re_call c_law_take hG hr (by decide) rfl (ra_cons (re_var 0 rfl (by first | exact Or.inl rfl | exact Or.inr (Or.inl rfl) | exact Or.inr (Or.inr rfl))) (ra_cons re_int ra_nil))) re_int (nomark _))))) (rb_one (rs_asg (re_call c_law_leaf hG hr (by decide) rfl (ra_cons (re_var 0 rfl (by first | exact Or.inl rfl | exact Or.inr (Or.inl rfl) | exact Or.inr (Or.inr rfl))) ra_nil)) (rg_sub hu (re_var 8 rfl (by first | exact Or.inl rfl | exact Or.inr (Or.inl rfl) | exact Or.inr (Or.inr rfl))) (re_call c_law_take hG hr (by decide) rfl (ra_cons (re_var 0 rfl (by first | exact Or.inl rfl | exact Or.inr (Or.inl rfl) | exact Or.inr (Or.inr rfl))) (ra_cons (re_callB call_lenAll cm_len rfl T.z_len z_len (ra_cons (re_var 8 rfl (by first | exact Or.inl rfl | exact Or.inr (Or.inl rfl) | exact Or.inr (Or.inr rfl))) ra_nil)) ra_nil)))))) rb_nil)
    (rb_one (rs_ret (re_op op_addAll om_add (re_var 2 rfl (by first | exact Or.inl rfl | exact Or.inr (Or.inl rfl) | exact Or.inr (Or.inr rfl))) (re_var 4 rfl (by first | exact Or.inl rfl | exact Or.inr (Or.inl rfl) | exact Or.inr (Or.inr rfl)))))))))))
theorem sc_law_ringed : FnScope (["_law_bag_here", "_law_most", "_law_found", "_law_total", "_law_turn", "_law_size", "_law_k"] : List Str) (["_law_bag_here", "_law_most"] : List Str) (defScope s_law_ringed) := ⟨rfl, rfl, rfl, by decide +kernel, rfl, by decide +kernel, by decide +kernel⟩
theorem ok_law_ringed {f : Addr} {fd : FuncData} (T : Txt K mg) (F : Fun K "_law_ringed" "_law_ringed" s_law_ringed f fd) (c_law_take : CalG P w ⟨K, mg, cnT⟩ base 2 "_law_take" m_law_take) (c_law_twofold : CalG P w ⟨K, mg, cnT⟩ base 8 "_law_twofold" m_law_twofold) (c_law_contents : CalG P w ⟨K, mg, cnT⟩ base 6 "_law_contents" m_law_contents) : FnG P w ⟨K, mg, cnT⟩ base 10 f (spM ⟨K, mg, cnT⟩ m_law_ringed) := by
  refine (fnG_of (ps := ["_law_bag_here", "_law_most"]) (N := ["_law_bag_here", "_law_most", "_law_found", "_law_total", "_law_turn", "_law_size", "_law_k"]) (body := b_law_ringed) F sc_law_ringed (fun _ _ _ _ _ _ us hl => match us, hl with | [_, _], _ => rfl) (fun cdv A outer s H E hG' hr => ?_)).frz
  have hC : (cxOf CX0 P w K mg base (["_law_bag_here", "_law_most", "_law_found", "_law_total", "_law_turn", "_law_size", "_law_k"] : List Str) "_law_ringed" (defScope s_law_ringed) f cdv A outer s H E).nox.calm = true := rfl
  have hN := sc_law_ringed.nd
  have hG : (cxOf CX0 P w K mg base (["_law_bag_here", "_law_most", "_law_found", "_law_total", "_law_turn", "_law_size", "_law_k"] : List Str) "_law_ringed" (defScope s_law_ringed) f cdv A outer s H E).nox.A.guards = some [] := hG'
  have hu : (cxOf CX0 P w K mg base (["_law_bag_here", "_law_most", "_law_found", "_law_total", "_law_turn", "_law_size", "_law_k"] : List Str) "_law_ringed" (defScope s_law_ringed) f cdv A outer s H E).nox.A.units + 64 < cLine := hr.units
  have hu65 : (cxOf CX0 P w K mg base (["_law_bag_here", "_law_most", "_law_found", "_law_total", "_law_turn", "_law_size", "_law_k"] : List Str) "_law_ringed" (defScope s_law_ringed) f cdv A outer s H E).nox.A.units + 65 < cLine := by have := hr.un; show (A.deeper _).units + 65 < cLine; omega
  have hu0 : (cxOf CX0 P w K mg base (["_law_bag_here", "_law_most", "_law_found", "_law_total", "_law_turn", "_law_size", "_law_k"] : List Str) "_law_ringed" (defScope s_law_ringed) f cdv A outer s H E).nox.A.units < cLine := hr.units0
  exact (rb_cons (rs_if (rt_cmp op_gt2 om_gt (re_call c_law_take hG hr (by decide) rfl (ra_cons (re_var 0 rfl (by first | exact Or.inl rfl | exact Or.inr (Or.inl rfl) | exact Or.inr (Or.inr rfl))) (ra_cons re_int ra_nil))) re_int (nomark _)) (rb_one (rs_ret (re_call c_law_twofold hG hr (by decide) rfl (ra_cons (re_var 0 rfl (by first | exact Or.inl rfl | exact Or.inr (Or.inl rfl) | exact Or.inr (Or.inr rfl))) (ra_cons (re_op op_fdivW om_div (re_op op_addAll om_add (re_var 1 rfl (by first | exact Or.inl rfl | exact Or.inr (Or.inl rfl) | exact Or.inr (Or.inr rfl))) re_int) re_int) ra_nil))))) rb_nil)
    (rb_cons (rs_asg (re_tup (ra_cons (re_lst ra_nil) (ra_cons re_int ra_nil))) (rg_tup hC (rgs_cons (rg_name (i := 2) hN rfl (by first | exact Or.inl rfl | exact Or.inr rfl)) (rgs_cons (rg_name (i := 3) hN rfl (by first | exact Or.inl rfl | exact Or.inr rfl)) rgs_nil))))
    (rb_cons (rs_for PassesOwn.never hC (ri_range1 rfl T.z_range re_int) (rg_name (i := 4) hN rfl (by first | exact Or.inl rfl | exact Or.inr rfl)) (rb_cons (rs_asg (re_op op_addAll om_add re_int (re_call c_law_take hG hr (by decide) rfl (ra_cons (re_var 0 rfl (by first | exact Or.inl rfl | exact Or.inr (Or.inl rfl) | exact Or.inr (Or.inr rfl))) (ra_cons (re_callB (call_max2 hC) cm_max2 rfl T.z_max z_max (ra_cons re_int (ra_cons (re_op op_fdivW om_div (re_var 1 rfl (by first | exact Or.inl rfl | exact Or.inr (Or.inl rfl) | exact Or.inr (Or.inr rfl))) re_int) ra_nil))) ra_nil)))) (rg_name (i := 5) hN rfl (by first | exact Or.inl rfl | exact Or.inr rfl)))
    (rb_cons (rs_asg (re_op op_addAll om_add (re_var 2 rfl (by first | exact Or.inl rfl | exact Or.inr (Or.inl rfl) | exact Or.inr (Or.inr rfl))) (re_lc (own := [("_law_k", 6)]) hC hN (ri_range1 rfl T.z_range (re_var 5 rfl (by first | exact Or.inl rfl | exact Or.inr (Or.inl rfl) | exact Or.inr (Or.inr rfl)))) (blkOk_by (by kernel_rfl)) (fun _ _ _ _ _ => (rgo_name (i := 6) (by decide) hN rfl (by first | exact Or.inl rfl | exact Or.inr rfl))) (fun _ _ _ _ _ => rts_nil) (fun _ _ _ _ _ => (re_lst (ra_cons re_str (ra_cons (re_tup (ra_cons re_str (ra_cons (re_op op_addAll om_add (re_var 3 rfl (by first | exact Or.inl rfl | exact Or.inr (Or.inl rfl) | exact Or.inr (Or.inr rfl))) (re_op op_mod om_mod (re_op op_addAll om_add (re_var 6 rfl (by first | exact Or.inl rfl | exact Or.inr (Or.inl rfl) | exact Or.inr (Or.inr rfl))) re_int) (re_var 5 rfl (by first | exact Or.inl rfl | exact Or.inr (Or.inl rfl) | exact Or.inr (Or.inr rfl))))) ra_nil))) ra_nil)))))) (rg_name (i := 2) hN rfl (by first | exact Or.inl rfl | exact Or.inr rfl)))
    (rb_one (rs_asg (re_op op_addAll om_add (re_var 3 rfl (by first | exact Or.inl rfl | exact Or.inr (Or.inl rfl) | exact Or.inr (Or.inr rfl))) (re_var 5 rfl (by first | exact Or.inl rfl | exact Or.inr (Or.inl rfl) | exact Or.inr (Or.inr rfl)))) (rg_name (i := 3) hN rfl (by first | exact Or.inl rfl | exact Or.inr rfl)))))))
    (rb_one (rs_ret (re_if (rt_cmp op_le2 om_le (re_var 3 rfl (by first | exact Or.inl rfl | exact Or.inr (Or.inl rfl) | exact Or.inr (Or.inr rfl))) (re_var 1 rfl (by first | exact Or.inl rfl | exact Or.inr (Or.inl rfl) | exact Or.inr (Or.inr rfl))) (nomark _)) (re_slice (re_var 2 rfl (by first | exact Or.inl rfl | exact Or.inr (Or.inl rfl) | exact Or.inr (Or.inr rfl))) ro_none (ro_some (re_var 1 rfl (by first | exact Or.inl rfl | exact Or.inr (Or.inl rfl) | exact Or.inr (Or.inr rfl))))) (re_call c_law_contents hG hr (by decide) rfl (ra_cons (re_var 0 rfl (by first | exact Or.inl rfl | exact Or.inr (Or.inl rfl) | exact Or.inr (Or.inr rfl))) (ra_cons (re_var 1 rfl (by first | exact Or.inl rfl | exact Or.inr (Or.inl rfl) | exact Or.inr (Or.inr rfl))) ra_nil)))))))))
theorem sc_is_integer : FnScope (["thing"] : List Str) (["thing"] : List Str) (defScope s_is_integer) := ⟨rfl, rfl, rfl, by decide +kernel, rfl, by decide +kernel, by decide +kernel⟩
theorem ok_is_integer {f : Addr} {fd : FuncData} (T : Txt K mg) (F : Fun K "is_integer" "is_integer" s_is_integer f fd)  : FnG P w ⟨K, mg, cnT⟩ base 2 f (spM ⟨K, mg, cnT⟩ m_is_integer) := by
  refine (fnG_of (ps := ["thing"]) (N := ["thing"]) (body := b_is_integer) F sc_is_integer (fun _ _ _ _ _ _ us hl => match us, hl with | [_], _ => rfl) (fun cdv A outer s H E hG' hr => ?_)).frz
  have hC : (cxOf CX0 P w K mg base (["thing"] : List Str) "is_integer" (defScope s_is_integer) f cdv A outer s H E).nox.calm = true := rfl
  have hN := sc_is_integer.nd
  have hG : (cxOf CX0 P w K mg base (["thing"] : List Str) "is_integer" (defScope s_is_integer) f cdv A outer s H E).nox.A.guards = some [] := hG'
  have hu : (cxOf CX0 P w K mg base (["thing"] : List Str) "is_integer" (defScope s_is_integer) f cdv A outer s H E).nox.A.units + 64 < cLine := hr.units
  have hu65 : (cxOf CX0 P w K mg base (["thing"] : List Str) "is_integer" (defScope s_is_integer) f cdv A outer s H E).nox.A.units + 65 < cLine := by have := hr.un; show (A.deeper _).units + 65 < cLine; omega
  have hu0 : (cxOf CX0 P w K mg base (["thing"] : List Str) "is_integer" (defScope s_is_integer) f cdv A outer s H E).nox.A.units < cLine := hr.units0
  exact (rb_one (rs_ret (re_and (re_isi (by decide) rfl T.z_isinstance rfl T.z_int z_int (re_var 0 rfl (by first | exact Or.inl rfl | exact Or.inr (Or.inl rfl) | exact Or.inr (Or.inr rfl)))) (re_one (re_not (re_isi (by decide) rfl T.z_isinstance rfl T.z_bool z_bool (re_var 0 rfl (by first | exact Or.inl rfl | exact Or.inr (Or.inl rfl) | exact Or.inr (Or.inr rfl)))))))))
theorem sc_is_word : FnScope (["thing", "sign"] : List Str) (["thing"] : List Str) (defScope s_is_word) := ⟨rfl, rfl, rfl, by decide +kernel, rfl, by decide +kernel, by decide +kernel⟩
theorem ok_is_word {f : Addr} {fd : FuncData} (T : Txt K mg) (F : Fun K "is_word" "is_word" s_is_word f fd)  : FnG P w ⟨K, mg, cnT⟩ base 2 f (spM ⟨K, mg, cnT⟩ m_is_word) := by
  refine (fnG_of (ps := ["thing"]) (N := ["thing", "sign"]) (body := b_is_word) F sc_is_word (fun _ _ _ _ _ _ us hl => match us, hl with | [_], _ => rfl) (fun cdv A outer s H E hG' hr => ?_)).frz
  have hC : (cxOf CX0 P w K mg base (["thing", "sign"] : List Str) "is_word" (defScope s_is_word) f cdv A outer s H E).nox.calm = true := rfl
  have hN := sc_is_word.nd
  have hG : (cxOf CX0 P w K mg base (["thing", "sign"] : List Str) "is_word" (defScope s_is_word) f cdv A outer s H E).nox.A.guards = some [] := hG'
  have hu : (cxOf CX0 P w K mg base (["thing", "sign"] : List Str) "is_word" (defScope s_is_word) f cdv A outer s H E).nox.A.units + 64 < cLine := hr.units
  have hu65 : (cxOf CX0 P w K mg base (["thing", "sign"] : List Str) "is_word" (defScope s_is_word) f cdv A outer s H E).nox.A.units + 65 < cLine := by have := hr.un; show (A.deeper _).units + 65 < cLine; omega
  have hu0 : (cxOf CX0 P w K mg base (["thing", "sign"] : List Str) "is_word" (defScope s_is_word) f cdv A outer s H E).nox.A.units < cLine := hr.units0
  exact (rb_one (rs_ret (re_and (re_isi (by decide) rfl T.z_isinstance rfl T.z_str z_str (re_var 0 rfl (by first | exact Or.inl rfl | exact Or.inr (Or.inl rfl) | exact Or.inr (Or.inr rfl)))) (re_and (re_cmp op_le2 om_le (re_callB call_lenAll cm_len rfl T.z_len z_len (ra_cons (re_var 0 rfl (by first | exact Or.inl rfl | exact Or.inr (Or.inl rfl) | exact Or.inr (Or.inr rfl))) ra_nil)) (re_gI (T.g_MOST_LETTERS).choose_spec rfl) (nomark _)) (re_one (re_callB (cr_all hC) cm_all rfl T.z_all z_all (ra_cons (re_lc (own := [("sign", 1)]) hC hN (ri_str (re_var 0 rfl (by first | exact Or.inl rfl | exact Or.inr (Or.inl rfl) | exact Or.inr (Or.inr rfl)))) (blkOk_by (by kernel_rfl)) (fun _ _ _ _ _ => (rgo_name (i := 1) (by decide) hN rfl (by first | exact Or.inl rfl | exact Or.inr rfl))) (fun _ _ _ _ _ => rts_nil) (fun _ _ _ _ _ => (re_cmp (op_inAll hu65) om_in (re_var 1 rfl (by first | exact Or.inl rfl | exact Or.inr (Or.inl rfl) | exact Or.inr (Or.inr rfl))) (re_gS (T.g_LETTERS).choose_spec rfl) rfl))) ra_nil)))))))
theorem sc_is_leaf : FnScope (["thing"] : List Str) (["thing"] : List Str) (defScope s_is_leaf) := ⟨rfl, rfl, rfl, by decide +kernel, rfl, by decide +kernel, by decide +kernel⟩
theorem ok_is_leaf {f : Addr} {fd : FuncData} (T : Txt K mg) (F : Fun K "is_leaf" "is_leaf" s_is_leaf f fd) (c_is_integer : CalG P w ⟨K, mg, cnT⟩ base 2 "is_integer" m_is_integer) (c_is_word : CalG P w ⟨K, mg, cnT⟩ base 2 "is_word" m_is_word) : FnG P w ⟨K, mg, cnT⟩ base 4 f (spM ⟨K, mg, cnT⟩ m_is_leaf) := by
  refine (fnG_of (ps := ["thing"]) (N := ["thing"]) (body := b_is_leaf) F sc_is_leaf (fun _ _ _ _ _ _ us hl => match us, hl with | [_], _ => rfl) (fun cdv A outer s H E hG' hr => ?_)).frz
  have hC : (cxOf CX0 P w K mg base (["thing"] : List Str) "is_leaf" (defScope s_is_leaf) f cdv A outer s H E).nox.calm = true := rfl
  have hN := sc_is_leaf.nd
  have hG : (cxOf CX0 P w K mg base (["thing"] : List Str) "is_leaf" (defScope s_is_leaf) f cdv A outer s H E).nox.A.guards = some [] := hG'
  have hu : (cxOf CX0 P w K mg base (["thing"] : List Str) "is_leaf" (defScope s_is_leaf) f cdv A outer s H E).nox.A.units + 64 < cLine := hr.units
  have hu65 : (cxOf CX0 P w K mg base (["thing"] : List Str) "is_leaf" (defScope s_is_leaf) f cdv A outer s H E).nox.A.units + 65 < cLine := by have := hr.un; show (A.deeper _).units + 65 < cLine; omega
  have hu0 : (cxOf CX0 P w K mg base (["thing"] : List Str) "is_leaf" (defScope s_is_leaf) f cdv A outer s H E).nox.A.units < cLine := hr.units0
  exact (rb_one (rs_ret (re_or (re_call c_is_integer hG hr (by decide) rfl (ra_cons (re_var 0 rfl (by first | exact Or.inl rfl | exact Or.inr (Or.inl rfl) | exact Or.inr (Or.inr rfl))) ra_nil)) (re_one (re_call c_is_word hG hr (by decide) rfl (ra_cons (re_var 0 rfl (by first | exact Or.inl rfl | exact Or.inr (Or.inl rfl) | exact Or.inr (Or.inr rfl))) ra_nil))))))
theorem sc_is_within : FnScope (["thing", "low", "high"] : List Str) (["thing", "low", "high"] : List Str) (defScope s_is_within) := ⟨rfl, rfl, rfl, by decide +kernel, rfl, by decide +kernel, by decide +kernel⟩
theorem ok_is_within {f : Addr} {fd : FuncData} (T : Txt K mg) (F : Fun K "is_within" "is_within" s_is_within f fd) (c_is_integer : CalG P w ⟨K, mg, cnT⟩ base 2 "is_integer" m_is_integer) : FnG P w ⟨K, mg, cnT⟩ base 4 f (spM ⟨K, mg, cnT⟩ m_is_within) := by
  refine (fnG_of (ps := ["thing", "low", "high"]) (N := ["thing", "low", "high"]) (body := b_is_within) F sc_is_within (fun _ _ _ _ _ _ us hl => match us, hl with | [_, _, _], _ => rfl) (fun cdv A outer s H E hG' hr => ?_)).frz
  have hC : (cxOf CX0 P w K mg base (["thing", "low", "high"] : List Str) "is_within" (defScope s_is_within) f cdv A outer s H E).nox.calm = true := rfl
  have hN := sc_is_within.nd
  have hG : (cxOf CX0 P w K mg base (["thing", "low", "high"] : List Str) "is_within" (defScope s_is_within) f cdv A outer s H E).nox.A.guards = some [] := hG'
  have hu : (cxOf CX0 P w K mg base (["thing", "low", "high"] : List Str) "is_within" (defScope s_is_within) f cdv A outer s H E).nox.A.units + 64 < cLine := hr.units
  have hu65 : (cxOf CX0 P w K mg base (["thing", "low", "high"] : List Str) "is_within" (defScope s_is_within) f cdv A outer s H E).nox.A.units + 65 < cLine := by have := hr.un; show (A.deeper _).units + 65 < cLine; omega
  have hu0 : (cxOf CX0 P w K mg base (["thing", "low", "high"] : List Str) "is_within" (defScope s_is_within) f cdv A outer s H E).nox.A.units < cLine := hr.units0
  exact (rb_one (rs_ret (re_and (re_call c_is_integer hG hr (by decide) rfl (ra_cons (re_var 0 rfl (by first | exact Or.inl rfl | exact Or.inr (Or.inl rfl) | exact Or.inr (Or.inr rfl))) ra_nil)) (re_one (re_chain op_le2 om_le op_le2 om_le (re_var 1 rfl (by first | exact Or.inl rfl | exact Or.inr (Or.inl rfl) | exact Or.inr (Or.inr rfl))) (re_var 0 rfl (by first | exact Or.inl rfl | exact Or.inr (Or.inl rfl) | exact Or.inr (Or.inr rfl))) (re_var 2 rfl (by first | exact Or.inl rfl | exact Or.inr (Or.inl rfl) | exact Or.inr (Or.inr rfl))))))))
theorem sc_is_reference : FnScope (["thing", "size"] : List Str) (["thing", "size"] : List Str) (defScope s_is_reference) := ⟨rfl, rfl, rfl, by decide +kernel, rfl, by decide +kernel, by decide +kernel⟩
theorem ok_is_reference {f : Addr} {fd : FuncData} (T : Txt K mg) (F : Fun K "is_reference" "is_reference" s_is_reference f fd) (c_is_within : CalG P w ⟨K, mg, cnT⟩ base 4 "is_within" m_is_within) : FnG P w ⟨K, mg, cnT⟩ base 6 f (spM ⟨K, mg, cnT⟩ m_is_reference) := by
  refine (fnG_of (ps := ["thing", "size"]) (N := ["thing", "size"]) (body := b_is_reference) F sc_is_reference (fun _ _ _ _ _ _ us hl => match us, hl with | [_, _], _ => rfl) (fun cdv A outer s H E hG' hr => ?_)).frz
  have hC : (cxOf CX0 P w K mg base (["thing", "size"] : List Str) "is_reference" (defScope s_is_reference) f cdv A outer s H E).nox.calm = true := rfl
  have hN := sc_is_reference.nd
  have hG : (cxOf CX0 P w K mg base (["thing", "size"] : List Str) "is_reference" (defScope s_is_reference) f cdv A outer s H E).nox.A.guards = some [] := hG'
  have hu : (cxOf CX0 P w K mg base (["thing", "size"] : List Str) "is_reference" (defScope s_is_reference) f cdv A outer s H E).nox.A.units + 64 < cLine := hr.units
  have hu65 : (cxOf CX0 P w K mg base (["thing", "size"] : List Str) "is_reference" (defScope s_is_reference) f cdv A outer s H E).nox.A.units + 65 < cLine := by have := hr.un; show (A.deeper _).units + 65 < cLine; omega
  have hu0 : (cxOf CX0 P w K mg base (["thing", "size"] : List Str) "is_reference" (defScope s_is_reference) f cdv A outer s H E).nox.A.units < cLine := hr.units0
  exact (rb_cons (rs_if (RW.pt (rw_or (rt_not (rt_truth (re_isi (by decide) rfl T.z_isinstance rfl T.z_tuple z_tuple (re_var 0 rfl (by first | exact Or.inl rfl | exact Or.inr (Or.inl rfl) | exact Or.inr (Or.inr rfl)))) (fun _ => rfl))) (rw_or (rt_cmp (op_neD hu) om_ne (re_callB call_lenAll cm_len rfl T.z_len z_len (ra_cons (re_var 0 rfl (by first | exact Or.inl rfl | exact Or.inr (Or.inl rfl) | exact Or.inr (Or.inr rfl))) ra_nil)) re_int (nomark _)) (rw_or (rt_not (rt_truth (re_isi (by decide) rfl T.z_isinstance rfl T.z_str z_str (re_ix hu (re_var 0 rfl (by first | exact Or.inl rfl | exact Or.inr (Or.inl rfl) | exact Or.inr (Or.inr rfl))) re_int (fun _ _ => rfl))) (fun _ => rfl))) (rw_or1 (rt_cmp (op_neD hu) om_ne (re_ix hu (re_var 0 rfl (by first | exact Or.inl rfl | exact Or.inr (Or.inl rfl) | exact Or.inr (Or.inr rfl))) re_int (fun _ _ => rfl)) (re_gS (T.g_BOX).choose_spec rfl) (nomark _))))))) (rb_one (rs_ret re_bl)) rb_nil)
    (rb_one (rs_ret (re_call c_is_within hG hr (by decide) rfl (ra_cons (re_ix hu (re_var 0 rfl (by first | exact Or.inl rfl | exact Or.inr (Or.inl rfl) | exact Or.inr (Or.inr rfl))) re_int (fun _ _ => rfl)) (ra_cons re_int (ra_cons (re_op op_sub om_sub (re_var 1 rfl (by first | exact Or.inl rfl | exact Or.inr (Or.inl rfl) | exact Or.inr (Or.inr rfl))) re_int) ra_nil)))))))
theorem sc_is_item : FnScope (["thing", "size"] : List Str) (["thing", "size"] : List Str) (defScope s_is_item) := ⟨rfl, rfl, rfl, by decide +kernel, rfl, by decide +kernel, by decide +kernel⟩
theorem ok_is_item {f : Addr} {fd : FuncData} (T : Txt K mg) (F : Fun K "is_item" "is_item" s_is_item f fd) (c_is_leaf : CalG P w ⟨K, mg, cnT⟩ base 4 "is_leaf" m_is_leaf) (c_is_reference : CalG P w ⟨K, mg, cnT⟩ base 6 "is_reference" m_is_reference) : FnG P w ⟨K, mg, cnT⟩ base 8 f (spM ⟨K, mg, cnT⟩ m_is_item) := by
  refine (fnG_of (ps := ["thing", "size"]) (N := ["thing", "size"]) (body := b_is_item) F sc_is_item (fun _ _ _ _ _ _ us hl => match us, hl with | [_, _], _ => rfl) (fun cdv A outer s H E hG' hr => ?_)).frz
  have hC : (cxOf CX0 P w K mg base (["thing", "size"] : List Str) "is_item" (defScope s_is_item) f cdv A outer s H E).nox.calm = true := rfl
  have hN := sc_is_item.nd
  have hG : (cxOf CX0 P w K mg base (["thing", "size"] : List Str) "is_item" (defScope s_is_item) f cdv A outer s H E).nox.A.guards = some [] := hG'
  have hu : (cxOf CX0 P w K mg base (["thing", "size"] : List Str) "is_item" (defScope s_is_item) f cdv A outer s H E).nox.A.units + 64 < cLine := hr.units
  have hu65 : (cxOf CX0 P w K mg base (["thing", "size"] : List Str) "is_item" (defScope s_is_item) f cdv A outer s H E).nox.A.units + 65 < cLine := by have := hr.un; show (A.deeper _).units + 65 < cLine; omega
  have hu0 : (cxOf CX0 P w K mg base (["thing", "size"] : List Str) "is_item" (defScope s_is_item) f cdv A outer s H E).nox.A.units < cLine := hr.units0
  exact (rb_one (rs_ret (re_or (re_call c_is_leaf hG hr (by decide) rfl (ra_cons (re_var 0 rfl (by first | exact Or.inl rfl | exact Or.inr (Or.inl rfl) | exact Or.inr (Or.inr rfl))) ra_nil)) (re_one (re_call c_is_reference hG hr (by decide) rfl (ra_cons (re_var 0 rfl (by first | exact Or.inl rfl | exact Or.inr (Or.inl rfl) | exact Or.inr (Or.inr rfl))) (ra_cons (re_var 1 rfl (by first | exact Or.inl rfl | exact Or.inr (Or.inl rfl) | exact Or.inr (Or.inr rfl))) ra_nil)))))))
theorem sc_Heap_len : FnScope (["self", "one", "item"] : List Str) (["self"] : List Str) (defScope s_Heap_len) := ⟨rfl, rfl, rfl, by decide +kernel, rfl, by decide +kernel, by decide +kernel⟩
theorem ok_Heap_len {f : Addr} {fd : FuncData} (T : Txt K mg) (F : Fun K "__len__" "Heap.__len__" s_Heap_len f fd)  : FnG P w ⟨K, mg, cnT⟩ base 2 f (spM ⟨K, mg, cnT⟩ m_Heap_len) := by
  refine (fnG_of (ps := ["self"]) (N := ["self", "one", "item"]) (body := b_Heap_len) F sc_Heap_len (fun _ _ _ _ _ _ us hl => match us, hl with | [_], _ => rfl) (fun cdv A outer s H E hG' hr => ?_)).frz
  have hC : (cxOf CX0 P w K mg base (["self", "one", "item"] : List Str) "Heap.__len__" (defScope s_Heap_len) f cdv A outer s H E).nox.calm = true := rfl
  have hN := sc_Heap_len.nd
  have hG : (cxOf CX0 P w K mg base (["self", "one", "item"] : List Str) "Heap.__len__" (defScope s_Heap_len) f cdv A outer s H E).nox.A.guards = some [] := hG'
  have hu : (cxOf CX0 P w K mg base (["self", "one", "item"] : List Str) "Heap.__len__" (defScope s_Heap_len) f cdv A outer s H E).nox.A.units + 64 < cLine := hr.units
  have hu65 : (cxOf CX0 P w K mg base (["self", "one", "item"] : List Str) "Heap.__len__" (defScope s_Heap_len) f cdv A outer s H E).nox.A.units + 65 < cLine := by have := hr.un; show (A.deeper _).units + 65 < cLine; omega
  have hu0 : (cxOf CX0 P w K mg base (["self", "one", "item"] : List Str) "Heap.__len__" (defScope s_Heap_len) f cdv A outer s H E).nox.A.units < cLine := hr.units0
  exact (rb_one (rs_ret (re_callB call_lenAll cm_len rfl T.z_len z_len (ra_cons (re_lc2 (own := [("one", 1), ("item", 2)]) hC hN (ri_any (re_fld T.K_Heap rfl (re_var 0 rfl (by first | exact Or.inl rfl | exact Or.inr (Or.inl rfl) | exact Or.inr (Or.inr rfl))))) (blkOk_by (by kernel_rfl)) (by decide) (fun _ _ _ _ _ => (rgo_name (i := 1) (by decide) hN rfl (by first | exact Or.inl rfl | exact Or.inr rfl))) (fun _ _ _ _ _ => rts_nil) (fun _ _ _ _ _ => (ri_any (re_var 1 rfl (by first | exact Or.inl rfl | exact Or.inr (Or.inl rfl) | exact Or.inr (Or.inr rfl))))) (fun _ _ _ _ _ => (rgo_name (i := 2) (by decide) hN rfl (by first | exact Or.inl rfl | exact Or.inr rfl))) (fun _ _ _ _ _ => rts_nil) (fun _ _ _ _ _ => (re_var 2 rfl (by first | exact Or.inl rfl | exact Or.inr (Or.inl rfl) | exact Or.inr (Or.inr rfl))))) ra_nil))))
theorem sc_Heap_need_room : FnScope (["self", "boxes", "items"] : List Str) (["self", "boxes", "items"] : List Str) (defScope s_Heap_need_room) := ⟨rfl, rfl, rfl, by decide +kernel, rfl, by decide +kernel, by decide +kernel⟩
theorem ok_Heap_need_room {f : Addr} {fd : FuncData} (T : Txt K mg) (F : Fun K "need_room" "Heap.need_room" s_Heap_need_room f fd) (c_Heap_len : SpcG P w ⟨K, mg, cnT⟩ base 2 (He.ga K "Heap") "__len__" m_Heap_len) : FnG P w ⟨K, mg, cnT⟩ base 4 f (spM ⟨K, mg, cnT⟩ m_Heap_need_room) := by
  refine (fnG_of (ps := ["self", "boxes", "items"]) (N := ["self", "boxes", "items"]) (body := b_Heap_need_room) F sc_Heap_need_room (fun _ _ _ _ _ _ us hl => match us, hl with | [_, _, _], _ => rfl) (fun cdv A outer s H E hG' hr => ?_)).frz
  have hC : (cxOf CX0 P w K mg base (["self", "boxes", "items"] : List Str) "Heap.need_room" (defScope s_Heap_need_room) f cdv A outer s H E).nox.calm = true := rfl
  have hN := sc_Heap_need_room.nd
  have hG : (cxOf CX0 P w K mg base (["self", "boxes", "items"] : List Str) "Heap.need_room" (defScope s_Heap_need_room) f cdv A outer s H E).nox.A.guards = some [] := hG'
  have hu : (cxOf CX0 P w K mg base (["self", "boxes", "items"] : List Str) "Heap.need_room" (defScope s_Heap_need_room) f cdv A outer s H E).nox.A.units + 64 < cLine := hr.units
  have hu65 : (cxOf CX0 P w K mg base (["self", "boxes", "items"] : List Str) "Heap.need_room" (defScope s_Heap_need_room) f cdv A outer s H E).nox.A.units + 65 < cLine := by have := hr.un; show (A.deeper _).units + 65 < cLine; omega
  have hu0 : (cxOf CX0 P w K mg base (["self", "boxes", "items"] : List Str) "Heap.need_room" (defScope s_Heap_need_room) f cdv A outer s H E).nox.A.units < cLine := hr.units0
  exact (rb_cons (rs_if (rt_cmp op_gt2 om_gt (re_op op_addAll om_add (re_callB call_lenAll cm_len rfl T.z_len z_len (ra_cons (re_fld T.K_Heap rfl (re_var 0 rfl (by first | exact Or.inl rfl | exact Or.inr (Or.inl rfl) | exact Or.inr (Or.inr rfl)))) ra_nil)) (re_var 1 rfl (by first | exact Or.inl rfl | exact Or.inr (Or.inl rfl) | exact Or.inr (Or.inr rfl)))) (re_cval T.K_Heap (T.v_Heap_MOST_BOXES) rfl rfl) (nomark _)) rb_never rb_nil)
    (rb_one (rs_if (rt_cmp op_gt2 om_gt (re_op op_addAll om_add (re_lenI T.K_Heap c_Heap_len hG hr (by decide) rfl T.z_len (re_var 0 rfl (by first | exact Or.inl rfl | exact Or.inr (Or.inl rfl) | exact Or.inr (Or.inr rfl)))) (re_var 2 rfl (by first | exact Or.inl rfl | exact Or.inr (Or.inl rfl) | exact Or.inr (Or.inr rfl)))) (re_cval T.K_Heap (T.v_Heap_MOST_ITEMS) rfl rfl) (nomark _)) rb_never rb_nil)))
theorem sc_Heap_init : FnScope (["self", "contents", "one", "item"] : List Str) ((["self"] : List Str) ++ (["contents"] : List Str) : List Str) (defScope s_Heap_init) := ⟨rfl, rfl, rfl, by decide +kernel, rfl, by decide +kernel, by decide +kernel⟩
theorem ok_Heap_init {f : Addr} {fd : FuncData} (T : Txt K mg) (F : Fun K "__init__" "Heap.__init__" s_Heap_init f fd) (c_is_item : CalG P w ⟨K, mg, cnT⟩ base 8 "is_item" m_is_item) (c_Heap_need_room : MetG P w ⟨K, mg, cnT⟩ base 4 0 (He.ga K "Heap") "need_room" m_Heap_need_room) : FnG P w ⟨K, mg, cnT⟩ base 10 f (spM ⟨K, mg, cnT⟩ m_Heap_init) := by
  refine (fnG_star (ps := ["self"]) (pv := "contents") (N := ["self", "contents", "one", "item"]) (body := b_Heap_init) F sc_Heap_init (fun _ _ _ _ _ _ us rest hl => match us, hl with | [_], _ => by first | rfl | (cases rest <;> rfl)) (fun cdv A outer s H E hG' hr => ?_))
  have hC : (cxOf CX0 P w K mg base (["self", "contents", "one", "item"] : List Str) "Heap.__init__" (defScope s_Heap_init) f cdv A outer s H E).nox.calm = true := rfl
  have hN := sc_Heap_init.nd
  have hG : (cxOf CX0 P w K mg base (["self", "contents", "one", "item"] : List Str) "Heap.__init__" (defScope s_Heap_init) f cdv A outer s H E).nox.A.guards = some [] := hG'
  have hu : (cxOf CX0 P w K mg base (["self", "contents", "one", "item"] : List Str) "Heap.__init__" (defScope s_Heap_init) f cdv A outer s H E).nox.A.units + 64 < cLine := hr.units
  have hu65 : (cxOf CX0 P w K mg base (["self", "contents", "one", "item"] : List Str) "Heap.__init__" (defScope s_Heap_init) f cdv A outer s H E).nox.A.units + 65 < cLine := by have := hr.un; show (A.deeper _).units + 65 < cLine; omega
  have hu0 : (cxOf CX0 P w K mg base (["self", "contents", "one", "item"] : List Str) "Heap.__init__" (defScope s_Heap_init) f cdv A outer s H E).nox.A.units < cLine := hr.units0
  exact (rb_cons (rs_for PassesOwn.never hC (ri_any (re_var 1 rfl (by first | exact Or.inl rfl | exact Or.inr (Or.inl rfl) | exact Or.inr (Or.inr rfl)))) (rg_name (i := 2) hN rfl (by first | exact Or.inl rfl | exact Or.inr rfl)) (rb_cons (rs_if (rt_not (rt_truth (re_isi (by decide) rfl T.z_isinstance rfl T.z_list z_list (re_var 2 rfl (by first | exact Or.inl rfl | exact Or.inr (Or.inl rfl) | exact Or.inr (Or.inr rfl)))) (fun _ => rfl))) rb_never rb_nil)
    (rb_one (rs_for PassesOwn.never hC (ri_any (re_var 2 rfl (by first | exact Or.inl rfl | exact Or.inr (Or.inl rfl) | exact Or.inr (Or.inr rfl)))) (rg_name (i := 3) hN rfl (by first | exact Or.inl rfl | exact Or.inr rfl)) (rb_one (rs_if (rt_not (rt_truth (re_call c_is_item hG hr (by decide) rfl (ra_cons (re_var 3 rfl (by first | exact Or.inl rfl | exact Or.inr (Or.inl rfl) | exact Or.inr (Or.inr rfl))) (ra_cons (re_callB call_lenAll cm_len rfl T.z_len z_len (ra_cons (re_var 1 rfl (by first | exact Or.inl rfl | exact Or.inr (Or.inl rfl) | exact Or.inr (Or.inr rfl))) ra_nil)) ra_nil))) (fun _ => rfl))) rb_never rb_nil))))))
    (rb_cons (rs_fld T.K_Heap rfl (re_var 0 rfl (by first | exact Or.inl rfl | exact Or.inr (Or.inl rfl) | exact Or.inr (Or.inr rfl))) (re_lc (own := [("one", 2)]) hC hN (ri_any (re_var 1 rfl (by first | exact Or.inl rfl | exact Or.inr (Or.inl rfl) | exact Or.inr (Or.inr rfl)))) (blkOk_by (by kernel_rfl)) (fun _ _ _ _ _ => (rgo_name (i := 2) (by decide) hN rfl (by first | exact Or.inl rfl | exact Or.inr rfl))) (fun _ _ _ _ _ => rts_nil) (fun _ _ _ _ _ => (re_callT call_list_of cm_listOf rfl T.z_list z_list (ra_cons (re_var 2 rfl (by first | exact Or.inl rfl | exact Or.inr (Or.inl rfl) | exact Or.inr (Or.inr rfl))) ra_nil)))))
    (rb_one (rs_expr (re_meth T.K_Heap c_Heap_need_room hG hr (by decide) (re_var 0 rfl (by first | exact Or.inl rfl | exact Or.inr (Or.inl rfl) | exact Or.inr (Or.inr rfl))) (ra_cons re_int (ra_cons re_int ra_nil)))))))
theorem sc_Heap_of : FnScope (["cls", "contents"] : List Str) (["cls", "contents"] : List Str) (defScope s_Heap_of) := ⟨rfl, rfl, rfl, by decide +kernel, rfl, by decide +kernel, by decide +kernel⟩
theorem ok_Heap_of {f : Addr} {fd : FuncData} (T : Txt K mg) (F : Fun K "of" "Heap.of" s_Heap_of f fd) (c_Heap_init : MakG P w ⟨K, mg, cnT⟩ base 10 0 (He.ga K "Heap") m_Heap_init) : FnG P w ⟨K, mg, cnT⟩ base 12 f (spM ⟨K, mg, cnT⟩ m_Heap_of) := by
  refine (fnG_of (ps := ["cls", "contents"]) (N := ["cls", "contents"]) (body := b_Heap_of) F sc_Heap_of (fun _ _ _ _ _ _ us hl => match us, hl with | [_, _], _ => rfl) (fun cdv A outer s H E hG' hr => ?_))
  have hC : (cxOf CX0 P w K mg base (["cls", "contents"] : List Str) "Heap.of" (defScope s_Heap_of) f cdv A outer s H E).nox.calm = true := rfl
  have hN := sc_Heap_of.nd
  have hG : (cxOf CX0 P w K mg base (["cls", "contents"] : List Str) "Heap.of" (defScope s_Heap_of) f cdv A outer s H E).nox.A.guards = some [] := hG'
  have hu : (cxOf CX0 P w K mg base (["cls", "contents"] : List Str) "Heap.of" (defScope s_Heap_of) f cdv A outer s H E).nox.A.units + 64 < cLine := hr.units
  have hu65 : (cxOf CX0 P w K mg base (["cls", "contents"] : List Str) "Heap.of" (defScope s_Heap_of) f cdv A outer s H E).nox.A.units + 65 < cLine := by have := hr.un; show (A.deeper _).units + 65 < cLine; omega
  have hu0 : (cxOf CX0 P w K mg base (["cls", "contents"] : List Str) "Heap.of" (defScope s_Heap_of) f cdv A outer s H E).nox.A.units < cLine := hr.units0
  exact (rb_one (rs_ret (re_makeStar T.K_Heap c_Heap_init hG hr (by decide) rfl (re_var 0 rfl (by first | exact Or.inl rfl | exact Or.inr (Or.inl rfl) | exact Or.inr (Or.inr rfl))) (re_var 1 rfl (by first | exact Or.inl rfl | exact Or.inr (Or.inl rfl) | exact Or.inr (Or.inr rfl))))))
theorem sc_law_heap : FnScope (["_law_contents_here", "_law_row"] : List Str) (["_law_contents_here"] : List Str) (defScope s_law_heap) := ⟨rfl, rfl, rfl, by decide +kernel, rfl, by decide +kernel, by decide +kernel⟩
theorem ok_law_heap {f : Addr} {fd : FuncData} (T : Txt K mg) (F : Fun K "_law_heap" "_law_heap" s_law_heap f fd) (c_Heap_of : CmtG P w ⟨K, mg, cnT⟩ base 12 (He.ga K "Heap") "of" m_Heap_of) : FnG P w ⟨K, mg, cnT⟩ base 14 f (spM ⟨K, mg, cnT⟩ m_law_heap) := by
  refine (fnG_of (ps := ["_law_contents_here"]) (N := ["_law_contents_here", "_law_row"]) (body := b_law_heap) F sc_law_heap (fun _ _ _ _ _ _ us hl => match us, hl with | [_], _ => rfl) (fun cdv A outer s H E hG' hr => ?_))
  have hC : (cxOf CX0 P w K mg base (["_law_contents_here", "_law_row"] : List Str) "_law_heap" (defScope s_law_heap) f cdv A outer s H E).nox.calm = true := rfl
  have hN := sc_law_heap.nd
  have hG : (cxOf CX0 P w K mg base (["_law_contents_here", "_law_row"] : List Str) "_law_heap" (defScope s_law_heap) f cdv A outer s H E).nox.A.guards = some [] := hG'
  have hu : (cxOf CX0 P w K mg base (["_law_contents_here", "_law_row"] : List Str) "_law_heap" (defScope s_law_heap) f cdv A outer s H E).nox.A.units + 64 < cLine := hr.units
  have hu65 : (cxOf CX0 P w K mg base (["_law_contents_here", "_law_row"] : List Str) "_law_heap" (defScope s_law_heap) f cdv A outer s H E).nox.A.units + 65 < cLine := by have := hr.un; show (A.deeper _).units + 65 < cLine; omega
  have hu0 : (cxOf CX0 P w K mg base (["_law_contents_here", "_law_row"] : List Str) "_law_heap" (defScope s_law_heap) f cdv A outer s H E).nox.A.units < cLine := hr.units0
  exact (rb_one (rs_ret (re_cmeth T.K_Heap c_Heap_of hG hr (by decide) rfl rfl (ra_cons (re_lc (own := [("_law_row", 1)]) hC hN (ri_any (re_var 0 rfl (by first | exact Or.inl rfl | exact Or.inr (Or.inl rfl) | exact Or.inr (Or.inr rfl)))) (blkOk_by (by kernel_rfl)) (fun _ _ _ _ _ => (rgo_name (i := 1) (by decide) hN rfl (by first | exact Or.inl rfl | exact Or.inr rfl))) (fun _ _ _ _ _ => rts_nil) (fun _ _ _ _ _ => (re_callT call_list_of cm_listOf rfl T.z_list z_list (ra_cons (re_var 1 rfl (by first | exact Or.inl rfl | exact Or.inr (Or.inl rfl) | exact Or.inr (Or.inr rfl))) ra_nil)))) ra_nil))))
theorem sc_Heap_contents : FnScope (["self", "one"] : List Str) (["self"] : List Str) (defScope s_Heap_contents) := ⟨rfl, rfl, rfl, by decide +kernel, rfl, by decide +kernel, by decide +kernel⟩
theorem ok_Heap_contents {f : Addr} {fd : FuncData} (T : Txt K mg) (F : Fun K "contents" "Heap.contents" s_Heap_contents f fd)  : FnG P w ⟨K, mg, cnT⟩ base 2 f (spM ⟨K, mg, cnT⟩ m_Heap_contents) := by
  refine (fnG_of (ps := ["self"]) (N := ["self", "one"]) (body := b_Heap_contents) F sc_Heap_contents (fun _ _ _ _ _ _ us hl => match us, hl with | [_], _ => rfl) (fun cdv A outer s H E hG' hr => ?_)).frz
  have hC : (cxOf CX0 P w K mg base (["self", "one"] : List Str) "Heap.contents" (defScope s_Heap_contents) f cdv A outer s H E).nox.calm = true := rfl
  have hN := sc_Heap_contents.nd
  have hG : (cxOf CX0 P w K mg base (["self", "one"] : List Str) "Heap.contents" (defScope s_Heap_contents) f cdv A outer s H E).nox.A.guards = some [] := hG'
  have hu : (cxOf CX0 P w K mg base (["self", "one"] : List Str) "Heap.contents" (defScope s_Heap_contents) f cdv A outer s H E).nox.A.units + 64 < cLine := hr.units
  have hu65 : (cxOf CX0 P w K mg base (["self", "one"] : List Str) "Heap.contents" (defScope s_Heap_contents) f cdv A outer s H E).nox.A.units + 65 < cLine := by have := hr.un; show (A.deeper _).units + 65 < cLine; omega
  have hu0 : (cxOf CX0 P w K mg base (["self", "one"] : List Str) "Heap.contents" (defScope s_Heap_contents) f cdv A outer s H E).nox.A.units < cLine := hr.units0
  exact (rb_one (rs_ret (re_lc (own := [("one", 1)]) hC hN (ri_any (re_fld T.K_Heap rfl (re_var 0 rfl (by first | exact Or.inl rfl | exact Or.inr (Or.inl rfl) | exact Or.inr (Or.inr rfl))))) (blkOk_by (by kernel_rfl)) (fun _ _ _ _ _ => (rgo_name (i := 1) (by decide) hN rfl (by first | exact Or.inl rfl | exact Or.inr rfl))) (fun _ _ _ _ _ => rts_nil) (fun _ _ _ _ _ => (re_callT call_list_of cm_listOf rfl T.z_list z_list (ra_cons (re_var 1 rfl (by first | exact Or.inl rfl | exact Or.inr (Or.inl rfl) | exact Or.inr (Or.inr rfl))) ra_nil))))))
theorem sc_filled : FnScope (["heap", "filling", "one", "item"] : List Str) (["heap", "filling"] : List Str) (defScope s_filled) := ⟨rfl, rfl, rfl, by decide +kernel, rfl, by decide +kernel, by decide +kernel⟩
theorem ok_filled {f : Addr} {fd : FuncData} (T : Txt K mg) (F : Fun K "filled" "filled" s_filled f fd) (c_Heap_of : CmtG P w ⟨K, mg, cnT⟩ base 12 (He.ga K "Heap") "of" m_Heap_of) (c_Heap_contents : MetG P w ⟨K, mg, cnT⟩ base 2 0 (He.ga K "Heap") "contents" m_Heap_contents) (c_is_word : CalG P w ⟨K, mg, cnT⟩ base 2 "is_word" m_is_word) : FnG P w ⟨K, mg, cnT⟩ base 14 f (spM ⟨K, mg, cnT⟩ m_filled) := by
  refine (fnG_of (ps := ["heap", "filling"]) (N := ["heap", "filling", "one", "item"]) (body := b_filled) F sc_filled (fun _ _ _ _ _ _ us hl => match us, hl with | [_, _], _ => rfl) (fun cdv A outer s H E hG' hr => ?_))
  have hC : (cxOf CX0 P w K mg base (["heap", "filling", "one", "item"] : List Str) "filled" (defScope s_filled) f cdv A outer s H E).nox.calm = true := rfl
  have hN := sc_filled.nd
  have hG : (cxOf CX0 P w K mg base (["heap", "filling", "one", "item"] : List Str) "filled" (defScope s_filled) f cdv A outer s H E).nox.A.guards = some [] := hG'
  have hu : (cxOf CX0 P w K mg base (["heap", "filling", "one", "item"] : List Str) "filled" (defScope s_filled) f cdv A outer s H E).nox.A.units + 64 < cLine := hr.units
  have hu65 : (cxOf CX0 P w K mg base (["heap", "filling", "one", "item"] : List Str) "filled" (defScope s_filled) f cdv A outer s H E).nox.A.units + 65 < cLine := by have := hr.un; show (A.deeper _).units + 65 < cLine; omega
  have hu0 : (cxOf CX0 P w K mg base (["heap", "filling", "one", "item"] : List Str) "filled" (defScope s_filled) f cdv A outer s H E).nox.A.units < cLine := hr.units0
  exact (rb_one (rs_ret (re_cmeth T.K_Heap c_Heap_of hG hr (by decide) rfl rfl (ra_cons (re_lc (own := [("one", 2)]) hC hN (ri_any (re_meth0 T.K_Heap c_Heap_contents hG hr (by decide) (re_var 0 rfl (by first | exact Or.inl rfl | exact Or.inr (Or.inl rfl) | exact Or.inr (Or.inr rfl))))) (blkOk_by (by kernel_rfl)) (fun _ _ _ _ _ => (rgo_name (i := 2) (by decide) hN rfl (by first | exact Or.inl rfl | exact Or.inr rfl))) (fun _ _ _ _ _ => rts_nil) (fun _ _ _ _ _ => (re_lc (own := [("item", 3)]) hC hN (ri_any (re_var 2 rfl (by first | exact Or.inl rfl | exact Or.inr (Or.inl rfl) | exact Or.inr (Or.inr rfl)))) (blkOk_by (by kernel_rfl)) (fun _ _ _ _ _ => (rgo_name (i := 3) (by decide) hN rfl (by first | exact Or.inl rfl | exact Or.inr rfl))) (fun _ _ _ _ _ => rts_nil) (fun _ _ _ _ _ => (re_if (rt_truth (re_call c_is_word hG hr (by decide) rfl (ra_cons (re_var 3 rfl (by first | exact Or.inl rfl | exact Or.inr (Or.inl rfl) | exact Or.inr (Or.inr rfl))) ra_nil)) (fun _ => rfl)) (re_ix hu (re_var 1 rfl (by first | exact Or.inl rfl | exact Or.inr (Or.inl rfl) | exact Or.inr (Or.inr rfl))) (re_var 3 rfl (by first | exact Or.inl rfl | exact Or.inr (Or.inl rfl) | exact Or.inr (Or.inr rfl))) (fun _ _ => rfl)) (re_var 3 rfl (by first | exact Or.inl rfl | exact Or.inr (Or.inl rfl) | exact Or.inr (Or.inr rfl)))))))) ra_nil))))
theorem sc_Heap_contains : FnScope (["self", "number"] : List Str) (["self", "number"] : List Str) (defScope s_Heap_contains) := ⟨rfl, rfl, rfl, by decide +kernel, rfl, by decide +kernel, by decide +kernel⟩
theorem ok_Heap_contains {f : Addr} {fd : FuncData} (T : Txt K mg) (F : Fun K "__contains__" "Heap.__contains__" s_Heap_contains f fd) (c_is_within : CalG P w ⟨K, mg, cnT⟩ base 4 "is_within" m_is_within) : FnG P w ⟨K, mg, cnT⟩ base 6 f (spM ⟨K, mg, cnT⟩ m_Heap_contains) := by
  refine (fnG_of (ps := ["self", "number"]) (N := ["self", "number"]) (body := b_Heap_contains) F sc_Heap_contains (fun _ _ _ _ _ _ us hl => match us, hl with | [_, _], _ => rfl) (fun cdv A outer s H E hG' hr => ?_)).frz
  have hC : (cxOf CX0 P w K mg base (["self", "number"] : List Str) "Heap.__contains__" (defScope s_Heap_contains) f cdv A outer s H E).nox.calm = true := rfl
  have hN := sc_Heap_contains.nd
  have hG : (cxOf CX0 P w K mg base (["self", "number"] : List Str) "Heap.__contains__" (defScope s_Heap_contains) f cdv A outer s H E).nox.A.guards = some [] := hG'
  have hu : (cxOf CX0 P w K mg base (["self", "number"] : List Str) "Heap.__contains__" (defScope s_Heap_contains) f cdv A outer s H E).nox.A.units + 64 < cLine := hr.units
  have hu65 : (cxOf CX0 P w K mg base (["self", "number"] : List Str) "Heap.__contains__" (defScope s_Heap_contains) f cdv A outer s H E).nox.A.units + 65 < cLine := by have := hr.un; show (A.deeper _).units + 65 < cLine; omega
  have hu0 : (cxOf CX0 P w K mg base (["self", "number"] : List Str) "Heap.__contains__" (defScope s_Heap_contains) f cdv A outer s H E).nox.A.units < cLine := hr.units0
  exact (rb_one (rs_ret (re_call c_is_within hG hr (by decide) rfl (ra_cons (re_var 1 rfl (by first | exact Or.inl rfl | exact Or.inr (Or.inl rfl) | exact Or.inr (Or.inr rfl))) (ra_cons re_int (ra_cons (re_op op_sub om_sub (re_callB call_lenAll cm_len rfl T.z_len z_len (ra_cons (re_fld T.K_Heap rfl (re_var 0 rfl (by first | exact Or.inl rfl | exact Or.inr (Or.inl rfl) | exact Or.inr (Or.inr rfl)))) ra_nil)) re_int) ra_nil))))))
theorem sc_Heap_need_box : FnScope (["self", "number"] : List Str) (["self", "number"] : List Str) (defScope s_Heap_need_box) := ⟨rfl, rfl, rfl, by decide +kernel, rfl, by decide +kernel, by decide +kernel⟩
theorem ok_Heap_need_box {f : Addr} {fd : FuncData} (T : Txt K mg) (F : Fun K "need_box" "Heap.need_box" s_Heap_need_box f fd) (c_Heap_contains : SpcG P w ⟨K, mg, cnT⟩ base 6 (He.ga K "Heap") "__contains__" m_Heap_contains) : FnG P w ⟨K, mg, cnT⟩ base 8 f (spM ⟨K, mg, cnT⟩ m_Heap_need_box) := by
  refine (fnG_of (ps := ["self", "number"]) (N := ["self", "number"]) (body := b_Heap_need_box) F sc_Heap_need_box (fun _ _ _ _ _ _ us hl => match us, hl with | [_, _], _ => rfl) (fun cdv A outer s H E hG' hr => ?_)).frz
  have hC : (cxOf CX0 P w K mg base (["self", "number"] : List Str) "Heap.need_box" (defScope s_Heap_need_box) f cdv A outer s H E).nox.calm = true := rfl
  have hN := sc_Heap_need_box.nd
  have hG : (cxOf CX0 P w K mg base (["self", "number"] : List Str) "Heap.need_box" (defScope s_Heap_need_box) f cdv A outer s H E).nox.A.guards = some [] := hG'
  have hu : (cxOf CX0 P w K mg base (["self", "number"] : List Str) "Heap.need_box" (defScope s_Heap_need_box) f cdv A outer s H E).nox.A.units + 64 < cLine := hr.units
  have hu65 : (cxOf CX0 P w K mg base (["self", "number"] : List Str) "Heap.need_box" (defScope s_Heap_need_box) f cdv A outer s H E).nox.A.units + 65 < cLine := by have := hr.un; show (A.deeper _).units + 65 < cLine; omega
  have hu0 : (cxOf CX0 P w K mg base (["self", "number"] : List Str) "Heap.need_box" (defScope s_Heap_need_box) f cdv A outer s H E).nox.A.units < cLine := hr.units0
  exact (rb_one (rs_if (rt_contN T.K_Heap c_Heap_contains hG hr (by decide) (re_var 1 rfl (by first | exact Or.inl rfl | exact Or.inr (Or.inl rfl) | exact Or.inr (Or.inr rfl))) (re_var 0 rfl (by first | exact Or.inl rfl | exact Or.inr (Or.inl rfl) | exact Or.inr (Or.inr rfl)))) rb_never rb_nil))
theorem sc_Heap_need_place : FnScope (["self", "box", "place", "more"] : List Str) (["self", "box", "place", "more"] : List Str) (defScope s_Heap_need_place) := ⟨rfl, rfl, rfl, by decide +kernel, rfl, by decide +kernel, by decide +kernel⟩
theorem ok_Heap_need_place {f : Addr} {fd : FuncData} (T : Txt K mg) (F : Fun K "need_place" "Heap.need_place" s_Heap_need_place f fd) (c_is_within : CalG P w ⟨K, mg, cnT⟩ base 4 "is_within" m_is_within) : FnG P w ⟨K, mg, cnT⟩ base 6 f (spM ⟨K, mg, cnT⟩ m_Heap_need_place) := by
  refine (fnG_of (ps := ["self", "box", "place", "more"]) (N := ["self", "box", "place", "more"]) (body := b_Heap_need_place) F sc_Heap_need_place (fun _ _ _ _ _ _ us hl => match us, hl with | [_, _, _, _], _ => rfl) (fun cdv A outer s H E hG' hr => ?_)).frz
  have hC : (cxOf CX0 P w K mg base (["self", "box", "place", "more"] : List Str) "Heap.need_place" (defScope s_Heap_need_place) f cdv A outer s H E).nox.calm = true := rfl
  have hN := sc_Heap_need_place.nd
  have hG : (cxOf CX0 P w K mg base (["self", "box", "place", "more"] : List Str) "Heap.need_place" (defScope s_Heap_need_place) f cdv A outer s H E).nox.A.guards = some [] := hG'
  have hu : (cxOf CX0 P w K mg base (["self", "box", "place", "more"] : List Str) "Heap.need_place" (defScope s_Heap_need_place) f cdv A outer s H E).nox.A.units + 64 < cLine := hr.units
  have hu65 : (cxOf CX0 P w K mg base (["self", "box", "place", "more"] : List Str) "Heap.need_place" (defScope s_Heap_need_place) f cdv A outer s H E).nox.A.units + 65 < cLine := by have := hr.un; show (A.deeper _).units + 65 < cLine; omega
  have hu0 : (cxOf CX0 P w K mg base (["self", "box", "place", "more"] : List Str) "Heap.need_place" (defScope s_Heap_need_place) f cdv A outer s H E).nox.A.units < cLine := hr.units0
  exact (rb_one (rs_if (rt_not (rt_truth (re_call c_is_within hG hr (by decide) rfl (ra_cons (re_var 2 rfl (by first | exact Or.inl rfl | exact Or.inr (Or.inl rfl) | exact Or.inr (Or.inr rfl))) (ra_cons re_int (ra_cons (re_op op_addAll om_add (re_op op_sub om_sub (re_callB call_lenAll cm_len rfl T.z_len z_len (ra_cons (re_ix hu (re_fld T.K_Heap rfl (re_var 0 rfl (by first | exact Or.inl rfl | exact Or.inr (Or.inl rfl) | exact Or.inr (Or.inr rfl)))) (re_var 1 rfl (by first | exact Or.inl rfl | exact Or.inr (Or.inl rfl) | exact Or.inr (Or.inr rfl))) (fun _ _ => rfl)) ra_nil)) re_int) (re_var 3 rfl (by first | exact Or.inl rfl | exact Or.inr (Or.inl rfl) | exact Or.inr (Or.inr rfl)))) ra_nil)))) (fun _ => rfl))) rb_never rb_nil))
theorem sc_Heap_need_item : FnScope (["self", "item", "more"] : List Str) (["self", "item", "more"] : List Str) (defScope s_Heap_need_item) := ⟨rfl, rfl, rfl, by decide +kernel, rfl, by decide +kernel, by decide +kernel⟩
theorem ok_Heap_need_item {f : Addr} {fd : FuncData} (T : Txt K mg) (F : Fun K "need_item" "Heap.need_item" s_Heap_need_item f fd) (c_is_item : CalG P w ⟨K, mg, cnT⟩ base 8 "is_item" m_is_item) : FnG P w ⟨K, mg, cnT⟩ base 10 f (spM ⟨K, mg, cnT⟩ m_Heap_need_item) := by
  refine (fnG_of (ps := ["self", "item", "more"]) (N := ["self", "item", "more"]) (body := b_Heap_need_item) F sc_Heap_need_item (fun _ _ _ _ _ _ us hl => match us, hl with | [_, _, _], _ => rfl) (fun cdv A outer s H E hG' hr => ?_)).frz
  have hC : (cxOf CX0 P w K mg base (["self", "item", "more"] : List Str) "Heap.need_item" (defScope s_Heap_need_item) f cdv A outer s H E).nox.calm = true := rfl
  have hN := sc_Heap_need_item.nd
  have hG : (cxOf CX0 P w K mg base (["self", "item", "more"] : List Str) "Heap.need_item" (defScope s_Heap_need_item) f cdv A outer s H E).nox.A.guards = some [] := hG'
  have hu : (cxOf CX0 P w K mg base (["self", "item", "more"] : List Str) "Heap.need_item" (defScope s_Heap_need_item) f cdv A outer s H E).nox.A.units + 64 < cLine := hr.units
  have hu65 : (cxOf CX0 P w K mg base (["self", "item", "more"] : List Str) "Heap.need_item" (defScope s_Heap_need_item) f cdv A outer s H E).nox.A.units + 65 < cLine := by have := hr.un; show (A.deeper _).units + 65 < cLine; omega
  have hu0 : (cxOf CX0 P w K mg base (["self", "item", "more"] : List Str) "Heap.need_item" (defScope s_Heap_need_item) f cdv A outer s H E).nox.A.units < cLine := hr.units0
  exact (rb_one (rs_if (rt_not (rt_truth (re_call c_is_item hG hr (by decide) rfl (ra_cons (re_var 1 rfl (by first | exact Or.inl rfl | exact Or.inr (Or.inl rfl) | exact Or.inr (Or.inr rfl))) (ra_cons (re_op op_addAll om_add (re_callB call_lenAll cm_len rfl T.z_len z_len (ra_cons (re_fld T.K_Heap rfl (re_var 0 rfl (by first | exact Or.inl rfl | exact Or.inr (Or.inl rfl) | exact Or.inr (Or.inr rfl)))) ra_nil)) (re_var 2 rfl (by first | exact Or.inl rfl | exact Or.inr (Or.inl rfl) | exact Or.inr (Or.inr rfl)))) ra_nil))) (fun _ => rfl))) rb_never rb_nil))
theorem sc_Heap_add_at : FnScope (["self", "box", "place", "item"] : List Str) (["self", "box", "place", "item"] : List Str) (defScope s_Heap_add_at) := ⟨rfl, rfl, rfl, by decide +kernel, rfl, by decide +kernel, by decide +kernel⟩
theorem ok_Heap_add_at {f : Addr} {fd : FuncData} (T : Txt K mg) (F : Fun K "add_at" "Heap.add_at" s_Heap_add_at f fd) (c_Heap_need_box : MetG P w ⟨K, mg, cnT⟩ base 8 0 (He.ga K "Heap") "need_box" m_Heap_need_box) (c_Heap_need_place : MetG P w ⟨K, mg, cnT⟩ base 6 0 (He.ga K "Heap") "need_place" m_Heap_need_place) (c_Heap_need_item : MetG P w ⟨K, mg, cnT⟩ base 10 0 (He.ga K "Heap") "need_item" m_Heap_need_item) (c_Heap_need_room : MetG P w ⟨K, mg, cnT⟩ base 4 0 (He.ga K "Heap") "need_room" m_Heap_need_room) : FnG P w ⟨K, mg, cnT⟩ base 12 f (spM ⟨K, mg, cnT⟩ m_Heap_add_at) := by
  refine (fnG_of (ps := ["self", "box", "place", "item"]) (N := ["self", "box", "place", "item"]) (body := b_Heap_add_at) F sc_Heap_add_at (fun _ _ _ _ _ _ us hl => match us, hl with | [_, _, _, _], _ => rfl) (fun cdv A outer s H E hG' hr => ?_))
  have hC : (cxOf CX0 P w K mg base (["self", "box", "place", "item"] : List Str) "Heap.add_at" (defScope s_Heap_add_at) f cdv A outer s H E).nox.calm = true := rfl
  have hN := sc_Heap_add_at.nd
  have hG : (cxOf CX0 P w K mg base (["self", "box", "place", "item"] : List Str) "Heap.add_at" (defScope s_Heap_add_at) f cdv A outer s H E).nox.A.guards = some [] := hG'
  have hu : (cxOf CX0 P w K mg base (["self", "box", "place", "item"] : List Str) "Heap.add_at" (defScope s_Heap_add_at) f cdv A outer s H E).nox.A.units + 64 < cLine := hr.units
  have hu65 : (cxOf CX0 P w K mg base (["self", "box", "place", "item"] : List Str) "Heap.add_at" (defScope s_Heap_add_at) f cdv A outer s H E).nox.A.units + 65 < cLine := by have := hr.un; show (A.deeper _).units + 65 < cLine; omega
  have hu0 : (cxOf CX0 P w K mg base (["self", "box", "place", "item"] : List Str) "Heap.add_at" (defScope s_Heap_add_at) f cdv A outer s H E).nox.A.units < cLine := hr.units0
  exact (rb_cons (rs_expr (re_meth T.K_Heap c_Heap_need_box hG hr (by decide) (re_var 0 rfl (by first | exact Or.inl rfl | exact Or.inr (Or.inl rfl) | exact Or.inr (Or.inr rfl))) (ra_cons (re_var 1 rfl (by first | exact Or.inl rfl | exact Or.inr (Or.inl rfl) | exact Or.inr (Or.inr rfl))) ra_nil)))
    (rb_cons (rs_expr (re_meth T.K_Heap c_Heap_need_place hG hr (by decide) (re_var 0 rfl (by first | exact Or.inl rfl | exact Or.inr (Or.inl rfl) | exact Or.inr (Or.inr rfl))) (ra_cons (re_var 1 rfl (by first | exact Or.inl rfl | exact Or.inr (Or.inl rfl) | exact Or.inr (Or.inr rfl))) (ra_cons (re_var 2 rfl (by first | exact Or.inl rfl | exact Or.inr (Or.inl rfl) | exact Or.inr (Or.inr rfl))) (ra_cons re_int ra_nil)))))
    (rb_cons (rs_expr (re_meth T.K_Heap c_Heap_need_item hG hr (by decide) (re_var 0 rfl (by first | exact Or.inl rfl | exact Or.inr (Or.inl rfl) | exact Or.inr (Or.inr rfl))) (ra_cons (re_var 3 rfl (by first | exact Or.inl rfl | exact Or.inr (Or.inl rfl) | exact Or.inr (Or.inr rfl))) (ra_cons re_int ra_nil))))
    (rb_cons (rs_expr (re_meth T.K_Heap c_Heap_need_room hG hr (by decide) (re_var 0 rfl (by first | exact Or.inl rfl | exact Or.inr (Or.inl rfl) | exact Or.inr (Or.inr rfl))) (ra_cons re_int (ra_cons re_int ra_nil))))
    (rb_one (rs_expr (re_bm PySem.F.plainAttrs_list PySem.F.slot_list_insert PySem.F.type_list_insert L2.mt_insert mm_insert (re_ix hu (re_fld T.K_Heap rfl (re_var 0 rfl (by first | exact Or.inl rfl | exact Or.inr (Or.inl rfl) | exact Or.inr (Or.inr rfl)))) (re_var 1 rfl (by first | exact Or.inl rfl | exact Or.inr (Or.inl rfl) | exact Or.inr (Or.inr rfl))) (fun _ _ => rfl)) (ra_cons (re_var 2 rfl (by first | exact Or.inl rfl | exact Or.inr (Or.inl rfl) | exact Or.inr (Or.inr rfl))) (ra_cons (re_var 3 rfl (by first | exact Or.inl rfl | exact Or.inr (Or.inl rfl) | exact Or.inr (Or.inr rfl))) ra_nil)))))))))
theorem sc_Heap_add_last : FnScope (["self", "box", "item"] : List Str) (["self", "box", "item"] : List Str) (defScope s_Heap_add_last) := ⟨rfl, rfl, rfl, by decide +kernel, rfl, by decide +kernel, by decide +kernel⟩
theorem ok_Heap_add_last {f : Addr} {fd : FuncData} (T : Txt K mg) (F : Fun K "add_last" "Heap.add_last" s_Heap_add_last f fd) (c_Heap_need_box : MetG P w ⟨K, mg, cnT⟩ base 8 0 (He.ga K "Heap") "need_box" m_Heap_need_box) (c_Heap_add_at : MetG P w ⟨K, mg, cnT⟩ base 12 0 (He.ga K "Heap") "add_at" m_Heap_add_at) : FnG P w ⟨K, mg, cnT⟩ base 14 f (spM ⟨K, mg, cnT⟩ m_Heap_add_last) := by
  refine (fnG_of (ps := ["self", "box", "item"]) (N := ["self", "box", "item"]) (body := b_Heap_add_last) F sc_Heap_add_last (fun _ _ _ _ _ _ us hl => match us, hl with | [_, _, _], _ => rfl) (fun cdv A outer s H E hG' hr => ?_))
  have hC : (cxOf CX0 P w K mg base (["self", "box", "item"] : List Str) "Heap.add_last" (defScope s_Heap_add_last) f cdv A outer s H E).nox.calm = true := rfl
  have hN := sc_Heap_add_last.nd
  have hG : (cxOf CX0 P w K mg base (["self", "box", "item"] : List Str) "Heap.add_last" (defScope s_Heap_add_last) f cdv A outer s H E).nox.A.guards = some [] := hG'
  have hu : (cxOf CX0 P w K mg base (["self", "box", "item"] : List Str) "Heap.add_last" (defScope s_Heap_add_last) f cdv A outer s H E).nox.A.units + 64 < cLine := hr.units
  have hu65 : (cxOf CX0 P w K mg base (["self", "box", "item"] : List Str) "Heap.add_last" (defScope s_Heap_add_last) f cdv A outer s H E).nox.A.units + 65 < cLine := by have := hr.un; show (A.deeper _).units + 65 < cLine; omega
  have hu0 : (cxOf CX0 P w K mg base (["self", "box", "item"] : List Str) "Heap.add_last" (defScope s_Heap_add_last) f cdv A outer s H E).nox.A.units < cLine := hr.units0
  exact (rb_cons (rs_expr (re_meth T.K_Heap c_Heap_need_box hG hr (by decide) (re_var 0 rfl (by first | exact Or.inl rfl | exact Or.inr (Or.inl rfl) | exact Or.inr (Or.inr rfl))) (ra_cons (re_var 1 rfl (by first | exact Or.inl rfl | exact Or.inr (Or.inl rfl) | exact Or.inr (Or.inr rfl))) ra_nil)))
    (rb_one (rs_expr (re_meth T.K_Heap c_Heap_add_at hG hr (by decide) (re_var 0 rfl (by first | exact Or.inl rfl | exact Or.inr (Or.inl rfl) | exact Or.inr (Or.inr rfl))) (ra_cons (re_var 1 rfl (by first | exact Or.inl rfl | exact Or.inr (Or.inl rfl) | exact Or.inr (Or.inr rfl))) (ra_cons (re_callB call_lenAll cm_len rfl T.z_len z_len (ra_cons (re_ix hu (re_fld T.K_Heap rfl (re_var 0 rfl (by first | exact Or.inl rfl | exact Or.inr (Or.inl rfl) | exact Or.inr (Or.inr rfl)))) (re_var 1 rfl (by first | exact Or.inl rfl | exact Or.inr (Or.inl rfl) | exact Or.inr (Or.inr rfl))) (fun _ _ => rfl)) ra_nil)) (ra_cons (re_var 2 rfl (by first | exact Or.inl rfl | exact Or.inr (Or.inl rfl) | exact Or.inr (Or.inr rfl))) ra_nil)))))))
theorem sc_Heap_new : FnScope (["self", "items", "item"] : List Str) ((["self"] : List Str) ++ (["items"] : List Str) : List Str) (defScope s_Heap_new) := ⟨rfl, rfl, rfl, by decide +kernel, rfl, by decide +kernel, by decide +kernel⟩
theorem ok_Heap_new {f : Addr} {fd : FuncData} (T : Txt K mg) (F : Fun K "new" "Heap.new" s_Heap_new f fd) (c_Heap_need_item : MetG P w ⟨K, mg, cnT⟩ base 10 0 (He.ga K "Heap") "need_item" m_Heap_need_item) (c_Heap_need_room : MetG P w ⟨K, mg, cnT⟩ base 4 0 (He.ga K "Heap") "need_room" m_Heap_need_room) : FnG P w ⟨K, mg, cnT⟩ base 12 f (spM ⟨K, mg, cnT⟩ m_Heap_new) := by
  refine (fnG_star (ps := ["self"]) (pv := "items") (N := ["self", "items", "item"]) (body := b_Heap_new) F sc_Heap_new (fun _ _ _ _ _ _ us rest hl => match us, hl with | [_], _ => by first | rfl | (cases rest <;> rfl)) (fun cdv A outer s H E hG' hr => ?_))
  have hC : (cxOf CX0 P w K mg base (["self", "items", "item"] : List Str) "Heap.new" (defScope s_Heap_new) f cdv A outer s H E).nox.calm = true := rfl
  have hN := sc_Heap_new.nd
  have hG : (cxOf CX0 P w K mg base (["self", "items", "item"] : List Str) "Heap.new" (defScope s_Heap_new) f cdv A outer s H E).nox.A.guards = some [] := hG'
  have hu : (cxOf CX0 P w K mg base (["self", "items", "item"] : List Str) "Heap.new" (defScope s_Heap_new) f cdv A outer s H E).nox.A.units + 64 < cLine := hr.units
  have hu65 : (cxOf CX0 P w K mg base (["self", "items", "item"] : List Str) "Heap.new" (defScope s_Heap_new) f cdv A outer s H E).nox.A.units + 65 < cLine := by have := hr.un; show (A.deeper _).units + 65 < cLine; omega
  have hu0 : (cxOf CX0 P w K mg base (["self", "items", "item"] : List Str) "Heap.new" (defScope s_Heap_new) f cdv A outer s H E).nox.A.units < cLine := hr.units0
  exact (rb_cons (rs_for PassesOwn.never hC (ri_any (re_var 1 rfl (by first | exact Or.inl rfl | exact Or.inr (Or.inl rfl) | exact Or.inr (Or.inr rfl)))) (rg_name (i := 2) hN rfl (by first | exact Or.inl rfl | exact Or.inr rfl)) (rb_one (rs_expr (re_meth T.K_Heap c_Heap_need_item hG hr (by decide) (re_var 0 rfl (by first | exact Or.inl rfl | exact Or.inr (Or.inl rfl) | exact Or.inr (Or.inr rfl))) (ra_cons (re_var 2 rfl (by first | exact Or.inl rfl | exact Or.inr (Or.inl rfl) | exact Or.inr (Or.inr rfl))) (ra_cons re_int ra_nil))))))
    (rb_cons (rs_expr (re_meth T.K_Heap c_Heap_need_room hG hr (by decide) (re_var 0 rfl (by first | exact Or.inl rfl | exact Or.inr (Or.inl rfl) | exact Or.inr (Or.inr rfl))) (ra_cons re_int (ra_cons (re_callB call_lenAll cm_len rfl T.z_len z_len (ra_cons (re_var 1 rfl (by first | exact Or.inl rfl | exact Or.inr (Or.inl rfl) | exact Or.inr (Or.inr rfl))) ra_nil)) ra_nil))))
    (rb_cons (rs_expr (re_bm PySem.F.plainAttrs_list PySem.F.slot_list_append PySem.F.type_list_append w_append mm_append (re_fld T.K_Heap rfl (re_var 0 rfl (by first | exact Or.inl rfl | exact Or.inr (Or.inl rfl) | exact Or.inr (Or.inr rfl)))) (ra_cons (re_callT call_list_of cm_listOf rfl T.z_list z_list (ra_cons (re_var 1 rfl (by first | exact Or.inl rfl | exact Or.inr (Or.inl rfl) | exact Or.inr (Or.inr rfl))) ra_nil)) ra_nil)))
    (rb_one (rs_ret (re_op op_sub om_sub (re_callB call_lenAll cm_len rfl T.z_len z_len (ra_cons (re_fld T.K_Heap rfl (re_var 0 rfl (by first | exact Or.inl rfl | exact Or.inr (Or.inl rfl) | exact Or.inr (Or.inr rfl)))) ra_nil)) re_int))))))
theorem sc_Heap_eq : FnScope (["self", "other"] : List Str) (["self", "other"] : List Str) (defScope s_Heap_eq) := ⟨rfl, rfl, rfl, by decide +kernel, rfl, by decide +kernel, by decide +kernel⟩
theorem ok_Heap_eq {f : Addr} {fd : FuncData} (T : Txt K mg) (F : Fun K "__eq__" "Heap.__eq__" s_Heap_eq f fd)  : FnG P w ⟨K, mg, cnT⟩ base 2 f (spM ⟨K, mg, cnT⟩ m_Heap_eq) := by
  refine (fnG_of (ps := ["self", "other"]) (N := ["self", "other"]) (body := b_Heap_eq) F sc_Heap_eq (fun _ _ _ _ _ _ us hl => match us, hl with | [_, _], _ => rfl) (fun cdv A outer s H E hG' hr => ?_)).frz
  have hC : (cxOf CX0 P w K mg base (["self", "other"] : List Str) "Heap.__eq__" (defScope s_Heap_eq) f cdv A outer s H E).nox.calm = true := rfl
  have hN := sc_Heap_eq.nd
  have hG : (cxOf CX0 P w K mg base (["self", "other"] : List Str) "Heap.__eq__" (defScope s_Heap_eq) f cdv A outer s H E).nox.A.guards = some [] := hG'
  have hu : (cxOf CX0 P w K mg base (["self", "other"] : List Str) "Heap.__eq__" (defScope s_Heap_eq) f cdv A outer s H E).nox.A.units + 64 < cLine := hr.units
  have hu65 : (cxOf CX0 P w K mg base (["self", "other"] : List Str) "Heap.__eq__" (defScope s_Heap_eq) f cdv A outer s H E).nox.A.units + 65 < cLine := by have := hr.un; show (A.deeper _).units + 65 < cLine; omega
  have hu0 : (cxOf CX0 P w K mg base (["self", "other"] : List Str) "Heap.__eq__" (defScope s_Heap_eq) f cdv A outer s H E).nox.A.units < cLine := hr.units0
  exact (rb_one (rs_ret (re_and (re_isiC T.K_Heap T.I_Heap rfl rfl T.z_isinstance rfl (re_var 1 rfl (by first | exact Or.inl rfl | exact Or.inr (Or.inl rfl) | exact Or.inr (Or.inr rfl)))) (re_one (re_cmp (op_eqD hu) om_eq (re_fld T.K_Heap rfl (re_var 0 rfl (by first | exact Or.inl rfl | exact Or.inr (Or.inl rfl) | exact Or.inr (Or.inr rfl)))) (re_fld T.K_Heap rfl (re_var 1 rfl (by first | exact Or.inl rfl | exact Or.inr (Or.inl rfl) | exact Or.inr (Or.inr rfl)))) (nomark _))))))
theorem sc_law_right : FnScope (["_law_bag_here", "_law_lists", "_law_heap_here", "_law_filling", "_law_word", "_law_some", "_law_due", "_law_handed", "_law_made", "_law_turned", "_law_again", "_law_row", "_law_part"] : List Str) (["_law_bag_here"] : List Str) (defScope s_law_right) := ⟨rfl, rfl, rfl, by decide +kernel, rfl, by decide +kernel, by decide +kernel⟩
theorem ok_law_right {f : Addr} {fd : FuncData} (T : Txt K mg) (F : Fun K "_law_right" "_law_right" s_law_right f fd) (c_law_ringed : CalG P w ⟨K, mg, cnT⟩ base 10 "_law_ringed" m_law_ringed) (c_law_heap : CalG P w ⟨K, mg, cnT⟩ base 14 "_law_heap" m_law_heap) (c_law_take : CalG P w ⟨K, mg, cnT⟩ base 2 "_law_take" m_law_take) (c_filled : CalG P w ⟨K, mg, cnT⟩ base 14 "filled" m_filled) (c_Heap_contents : MetG P w ⟨K, mg, cnT⟩ base 2 0 (He.ga K "Heap") "contents" m_Heap_contents) (c_Heap_add_last : MetG P w ⟨K, mg, cnT⟩ base 14 0 (He.ga K "Heap") "add_last" m_Heap_add_last) (c_Heap_new : MetG P w ⟨K, mg, cnT⟩ base 12 0 (He.ga K "Heap") "new" m_Heap_new) (c_Heap_eq : SpcG P w ⟨K, mg, cnT⟩ base 2 (He.ga K "Heap") "__eq__" m_Heap_eq) : FnG P w ⟨K, mg, cnT⟩ base 16 f (spM ⟨K, mg, cnT⟩ m_law_right) := by
  refine (fnG_of (ps := ["_law_bag_here"]) (N := ["_law_bag_here", "_law_lists", "_law_heap_here", "_law_filling", "_law_word", "_law_some", "_law_due", "_law_handed", "_law_made", "_law_turned", "_law_again", "_law_row", "_law_part"]) (body := b_law_right) F sc_law_right (fun _ _ _ _ _ _ us hl => match us, hl with | [_], _ => rfl) (fun cdv A outer s H E hG' hr => ?_)).frz
  have hC : (cxOf CX0 P w K mg base (["_law_bag_here", "_law_lists", "_law_heap_here", "_law_filling", "_law_word", "_law_some", "_law_due", "_law_handed", "_law_made", "_law_turned", "_law_again", "_law_row", "_law_part"] : List Str) "_law_right" (defScope s_law_right) f cdv A outer s H E).nox.calm = true := rfl
  have hN := sc_law_right.nd
  have hG : (cxOf CX0 P w K mg base (["_law_bag_here", "_law_lists", "_law_heap_here", "_law_filling", "_law_word", "_law_some", "_law_due", "_law_handed", "_law_made", "_law_turned", "_law_again", "_law_row", "_law_part"] : List Str) "_law_right" (defScope s_law_right) f cdv A outer s H E).nox.A.guards = some [] := hG'
  have hu : (cxOf CX0 P w K mg base (["_law_bag_here", "_law_lists", "_law_heap_here", "_law_filling", "_law_word", "_law_some", "_law_due", "_law_handed", "_law_made", "_law_turned", "_law_again", "_law_row", "_law_part"] : List Str) "_law_right" (defScope s_law_right) f cdv A outer s H E).nox.A.units + 64 < cLine := hr.units
  have hu65 : (cxOf CX0 P w K mg base (["_law_bag_here", "_law_lists", "_law_heap_here", "_law_filling", "_law_word", "_law_some", "_law_due", "_law_handed", "_law_made", "_law_turned", "_law_again", "_law_row", "_law_part"] : List Str) "_law_right" (defScope s_law_right) f cdv A outer s H E).nox.A.units + 65 < cLine := by have := hr.un; show (A.deeper _).units + 65 < cLine; omega
  have hu0 : (cxOf CX0 P w K mg base (["_law_bag_here", "_law_lists", "_law_heap_here", "_law_filling", "_law_word", "_law_some", "_law_due", "_law_handed", "_law_made", "_law_turned", "_law_again", "_law_row", "_law_part"] : List Str) "_law_right" (defScope s_law_right) f cdv A outer s H E).nox.A.units < cLine := hr.units0
  exact (rb_cons (rs_asg (re_call c_law_ringed hG hr (by decide) rfl (ra_cons (re_var 0 rfl (by first | exact Or.inl rfl | exact Or.inr (Or.inl rfl) | exact Or.inr (Or.inr rfl))) (ra_cons re_int ra_nil))) (rg_name (i := 1) hN rfl (by first | exact Or.inl rfl | exact Or.inr rfl)))
    (rb_cons (rs_asg (re_tup (ra_cons (re_call c_law_heap hG hr (by decide) rfl (ra_cons (re_var 1 rfl (by first | exact Or.inl rfl | exact Or.inr (Or.inl rfl) | exact Or.inr (Or.inr rfl))) ra_nil)) (ra_cons re_dk ra_nil))) (rg_tup hC (rgs_cons (rg_name (i := 2) hN rfl (by first | exact Or.inl rfl | exact Or.inr rfl)) (rgs_cons (rg_name (i := 3) hN rfl (by first | exact Or.inl rfl | exact Or.inr rfl)) rgs_nil))))
    (rb_cons (rs_for PassesOwn.never hC (ri_any (re_lst (ra_cons re_str (ra_cons re_str (ra_cons re_str (ra_cons re_str (ra_cons re_str ra_nil))))))) (rg_name (i := 4) hN rfl (by first | exact Or.inl rfl | exact Or.inr rfl)) (rb_cons (rs_asg (re_lst (ra_cons (re_op op_sub om_sub (re_call c_law_take hG hr (by decide) rfl (ra_cons (re_var 0 rfl (by first | exact Or.inl rfl | exact Or.inr (Or.inl rfl) | exact Or.inr (Or.inr rfl))) (ra_cons re_int ra_nil))) re_int) (ra_cons (re_call c_law_take hG hr (by decide) rfl (ra_cons (re_var 0 rfl (by first | exact Or.inl rfl | exact Or.inr (Or.inl rfl) | exact Or.inr (Or.inr rfl))) (ra_cons (re_op op_pow om_pow re_int re_int) ra_nil))) (ra_cons (re_op op_sub om_sub re_int (re_call c_law_take hG hr (by decide) rfl (ra_cons (re_var 0 rfl (by first | exact Or.inl rfl | exact Or.inr (Or.inl rfl) | exact Or.inr (Or.inr rfl))) (ra_cons (re_op op_pow om_pow re_int re_int) ra_nil)))) ra_nil)))) (rg_name (i := 5) hN rfl (by first | exact Or.inl rfl | exact Or.inr rfl)))
    (rb_one (rs_asg (re_ix hu (re_var 5 rfl (by first | exact Or.inl rfl | exact Or.inr (Or.inl rfl) | exact Or.inr (Or.inr rfl))) (re_call c_law_take hG hr (by decide) rfl (ra_cons (re_var 0 rfl (by first | exact Or.inl rfl | exact Or.inr (Or.inl rfl) | exact Or.inr (Or.inr rfl))) (ra_cons re_int ra_nil))) (fun _ _ => rfl)) (rg_sub hu (re_var 3 rfl (by first | exact Or.inl rfl | exact Or.inr (Or.inl rfl) | exact Or.inr (Or.inr rfl))) (re_var 4 rfl (by first | exact Or.inl rfl | exact Or.inr (Or.inl rfl) | exact Or.inr (Or.inr rfl))))))))
    (rb_cons (rs_setLc (i := 6) (own := [("_law_row", 11)]) hC hN rfl rfl (sw_true rfl rfl rfl (by decide +kernel)) (ri_any (re_var 1 rfl (by first | exact Or.inl rfl | exact Or.inr (Or.inl rfl) | exact Or.inr (Or.inr rfl)))) (blkOk_by (by kernel_rfl)) (fun _ _ _ _ _ => (rgo_name (i := 11) (by decide) hN rfl (by first | exact Or.inl rfl | exact Or.inr rfl))) (fun _ _ _ _ _ => rts_nil) (fun _ _ _ _ _ => (re_lc (own := [("_law_part", 12)]) hC hN (ri_any (re_var 11 rfl (by first | exact Or.inl rfl | exact Or.inr (Or.inl rfl) | exact Or.inr (Or.inr rfl)))) (blkOk_by (by kernel_rfl)) (fun _ _ _ _ _ => (rgo_name (i := 12) (by decide) hN rfl (by first | exact Or.inl rfl | exact Or.inr rfl))) (fun _ _ _ _ _ => rts_nil) (fun _ _ _ _ _ => (re_if (rt_truth (re_isi (by decide) rfl T.z_isinstance rfl T.z_str z_str (re_var 12 rfl (by first | exact Or.inl rfl | exact Or.inr (Or.inl rfl) | exact Or.inr (Or.inr rfl)))) (fun _ => rfl)) (re_ix hu (re_var 3 rfl (by first | exact Or.inl rfl | exact Or.inr (Or.inl rfl) | exact Or.inr (Or.inr rfl))) (re_var 12 rfl (by first | exact Or.inl rfl | exact Or.inr (Or.inl rfl) | exact Or.inr (Or.inr rfl))) (fun _ _ => rfl)) (re_var 12 rfl (by first | exact Or.inl rfl | exact Or.inr (Or.inl rfl) | exact Or.inr (Or.inr rfl))))))))
    (rb_cons (rs_asg (re_dictOf rfl T.z_dict (ra_cons (re_var 3 rfl (by first | exact Or.inl rfl | exact Or.inr (Or.inl rfl) | exact Or.inr (Or.inr rfl))) ra_nil)) (rg_name (i := 7) hN rfl (by first | exact Or.inl rfl | exact Or.inr rfl)))
    (rb_cons (rs_asg (re_call c_filled hG hr (by decide) rfl (ra_cons (re_var 2 rfl (by first | exact Or.inl rfl | exact Or.inr (Or.inl rfl) | exact Or.inr (Or.inr rfl))) (ra_cons (re_var 7 rfl (by first | exact Or.inl rfl | exact Or.inr (Or.inl rfl) | exact Or.inr (Or.inr rfl))) ra_nil))) (rg_name (i := 8) hN rfl (by first | exact Or.inl rfl | exact Or.inr rfl)))
    (rb_cons (rs_if (RW.pt (rw_or (rt_not (rt_truth (re_isiC T.K_Heap T.I_Heap rfl rfl T.z_isinstance rfl (re_var 8 rfl (by first | exact Or.inl rfl | exact Or.inr (Or.inl rfl) | exact Or.inr (Or.inr rfl)))) (fun _ => rfl))) (rw_or (rt_cmp op_ne om_neS (re_repr hG hr rfl T.z_repr (re_meth0 T.K_Heap c_Heap_contents hG hr (by decide) (re_var 8 rfl (by first | exact Or.inl rfl | exact Or.inr (Or.inl rfl) | exact Or.inr (Or.inr rfl))))) (re_repr hG hr rfl T.z_repr (re_var 6 rfl (by first | exact Or.inl rfl | exact Or.inr (Or.inl rfl) | exact Or.inr (Or.inr rfl)))) (nomark _)) (rw_or1 (rt_cmp (op_ne_dictA hu0) om_dNe (re_var 7 rfl (by first | exact Or.inl rfl | exact Or.inr (Or.inl rfl) | exact Or.inr (Or.inr rfl))) (re_var 3 rfl (by first | exact Or.inl rfl | exact Or.inr (Or.inl rfl) | exact Or.inr (Or.inr rfl))) (nomark _)))))) (rb_one (rs_ret re_bl)) rb_nil)
    (rb_cons (rs_asg re_dk (rg_name (i := 9) hN rfl (by first | exact Or.inl rfl | exact Or.inr rfl)))
    (rb_cons (rs_for PassesOwn.never hC (ri_any (re_rev (re_keys hC rfl T.z_list (ra_cons (re_var 3 rfl (by first | exact Or.inl rfl | exact Or.inr (Or.inl rfl) | exact Or.inr (Or.inr rfl))) ra_nil)))) (rg_name (i := 4) hN rfl (by first | exact Or.inl rfl | exact Or.inr rfl)) (rb_one (rs_asg (re_ix hu (re_var 3 rfl (by first | exact Or.inl rfl | exact Or.inr (Or.inl rfl) | exact Or.inr (Or.inr rfl))) (re_var 4 rfl (by first | exact Or.inl rfl | exact Or.inr (Or.inl rfl) | exact Or.inr (Or.inr rfl))) (fun _ _ => rfl)) (rg_sub hu (re_var 9 rfl (by first | exact Or.inl rfl | exact Or.inr (Or.inl rfl) | exact Or.inr (Or.inr rfl))) (re_var 4 rfl (by first | exact Or.inl rfl | exact Or.inr (Or.inl rfl) | exact Or.inr (Or.inr rfl)))))))
    (rb_cons (rs_if (RW.pt (rw_or (rt_cmp op_ne om_neS (re_repr hG hr rfl T.z_repr (re_meth0 T.K_Heap c_Heap_contents hG hr (by decide) (re_call c_filled hG hr (by decide) rfl (ra_cons (re_var 2 rfl (by first | exact Or.inl rfl | exact Or.inr (Or.inl rfl) | exact Or.inr (Or.inr rfl))) (ra_cons (re_var 9 rfl (by first | exact Or.inl rfl | exact Or.inr (Or.inl rfl) | exact Or.inr (Or.inr rfl))) ra_nil))))) (re_repr hG hr rfl T.z_repr (re_var 6 rfl (by first | exact Or.inl rfl | exact Or.inr (Or.inl rfl) | exact Or.inr (Or.inr rfl)))) (nomark _)) (rw_or1 (rt_cmp (op_neD hu) om_ne (re_keys hC rfl T.z_list (ra_cons (re_var 9 rfl (by first | exact Or.inl rfl | exact Or.inr (Or.inl rfl) | exact Or.inr (Or.inr rfl))) ra_nil)) (re_rev (re_keys hC rfl T.z_list (ra_cons (re_var 3 rfl (by first | exact Or.inl rfl | exact Or.inr (Or.inl rfl) | exact Or.inr (Or.inr rfl))) ra_nil))) (nomark _))))) (rb_one (rs_ret re_bl)) rb_nil)
    (rb_cons (rs_asg (re_call c_filled hG hr (by decide) rfl (ra_cons (re_var 8 rfl (by first | exact Or.inl rfl | exact Or.inr (Or.inl rfl) | exact Or.inr (Or.inr rfl))) (ra_cons re_dk ra_nil))) (rg_name (i := 10) hN rfl (by first | exact Or.inl rfl | exact Or.inr rfl)))
    (rb_cons (rs_expr (re_meth T.K_Heap c_Heap_add_last hG hr (by decide) (re_var 8 rfl (by first | exact Or.inl rfl | exact Or.inr (Or.inl rfl) | exact Or.inr (Or.inr rfl))) (ra_cons re_int (ra_cons re_int ra_nil))))
    (rb_cons (rs_expr (re_meth0 T.K_Heap c_Heap_new hG hr (by decide) (re_var 8 rfl (by first | exact Or.inl rfl | exact Or.inr (Or.inl rfl) | exact Or.inr (Or.inr rfl)))))
    (rb_one (rs_ret (re_and (re_cmp (op_eqD hu) om_eq (re_meth0 T.K_Heap c_Heap_contents hG hr (by decide) (re_var 10 rfl (by first | exact Or.inl rfl | exact Or.inr (Or.inl rfl) | exact Or.inr (Or.inr rfl)))) (re_var 6 rfl (by first | exact Or.inl rfl | exact Or.inr (Or.inl rfl) | exact Or.inr (Or.inr rfl))) (nomark _)) (re_and (re_cmp (op_eqD hu) om_eq (re_meth0 T.K_Heap c_Heap_contents hG hr (by decide) (re_var 2 rfl (by first | exact Or.inl rfl | exact Or.inr (Or.inl rfl) | exact Or.inr (Or.inr rfl)))) (re_var 1 rfl (by first | exact Or.inl rfl | exact Or.inr (Or.inl rfl) | exact Or.inr (Or.inr rfl))) (nomark _)) (re_one (re_eqI T.K_Heap c_Heap_eq hG hr (by decide) (re_call c_filled hG hr (by decide) rfl (ra_cons (re_var 2 rfl (by first | exact Or.inl rfl | exact Or.inr (Or.inl rfl) | exact Or.inr (Or.inr rfl))) (ra_cons (re_var 7 rfl (by first | exact Or.inl rfl | exact Or.inr (Or.inl rfl) | exact Or.inr (Or.inr rfl))) ra_nil))) (re_var 10 rfl (by first | exact Or.inl rfl | exact Or.inr (Or.inl rfl) | exact Or.inr (Or.inr rfl))))))))))))))))))))))
theorem sc_law : FnScope (["_law_script", "_law_k", "_law_bag_here", "_law_turn"] : List Str) (["_law_script"] : List Str) (defScope s_law) := ⟨rfl, rfl, rfl, by decide +kernel, rfl, by decide +kernel, by decide +kernel⟩
theorem ok_law {f : Addr} {fd : FuncData} (T : Txt K mg) (F : Fun K "law" "law" s_law f fd) (c_law_bag : CalG P w ⟨K, mg, cnT⟩ base 2 "_law_bag" m_law_bag) (c_law_right : CalG P w ⟨K, mg, cnT⟩ base 16 "_law_right" m_law_right) : FnG P w ⟨K, mg, cnT⟩ base 18 f (spM ⟨K, mg, cnT⟩ m_law) := by
  refine (fnG_of (ps := ["_law_script"]) (N := ["_law_script", "_law_k", "_law_bag_here", "_law_turn"]) (body := b_law) F sc_law (fun _ _ _ _ _ _ us hl => match us, hl with | [_], _ => rfl) (fun cdv A outer s H E hG' hr => ?_)).frz
  have hC : (cxOf CX0 P w K mg base (["_law_script", "_law_k", "_law_bag_here", "_law_turn"] : List Str) "law" (defScope s_law) f cdv A outer s H E).nox.calm = true := rfl
  have hN := sc_law.nd
  have hG : (cxOf CX0 P w K mg base (["_law_script", "_law_k", "_law_bag_here", "_law_turn"] : List Str) "law" (defScope s_law) f cdv A outer s H E).nox.A.guards = some [] := hG'
  have hu : (cxOf CX0 P w K mg base (["_law_script", "_law_k", "_law_bag_here", "_law_turn"] : List Str) "law" (defScope s_law) f cdv A outer s H E).nox.A.units + 64 < cLine := hr.units
  have hu65 : (cxOf CX0 P w K mg base (["_law_script", "_law_k", "_law_bag_here", "_law_turn"] : List Str) "law" (defScope s_law) f cdv A outer s H E).nox.A.units + 65 < cLine := by have := hr.un; show (A.deeper _).units + 65 < cLine; omega
  have hu0 : (cxOf CX0 P w K mg base (["_law_script", "_law_k", "_law_bag_here", "_law_turn"] : List Str) "law" (defScope s_law) f cdv A outer s H E).nox.A.units < cLine := hr.units0
  exact (rb_cons (rs_for PassesOwn.never hC (ri_range1 rfl T.z_range (re_callB (call_max2 hC) cm_max2 rfl T.z_max z_max (ra_cons re_int (ra_cons (re_callB (call_min2 hC) cm_min2 rfl T.z_min z_min (ra_cons re_int (ra_cons (re_callB call_lenAll cm_len rfl T.z_len z_len (ra_cons (re_var 0 rfl (by first | exact Or.inl rfl | exact Or.inr (Or.inl rfl) | exact Or.inr (Or.inr rfl))) ra_nil)) ra_nil))) ra_nil)))) (rg_name (i := 1) hN rfl (by first | exact Or.inl rfl | exact Or.inr rfl)) (rb_cons (rs_asg (re_call c_law_bag hG hr (by decide) rfl (ra_cons (re_var 0 rfl (by first | exact Or.inl rfl | exact Or.inr (Or.inl rfl) | exact Or.inr (Or.inr rfl))) (ra_cons (re_var 1 rfl (by first | exact Or.inl rfl | exact Or.inr (Or.inl rfl) | exact Or.inr (Or.inr rfl))) ra_nil))) (rg_name (i := 2) hN rfl (by first | exact Or.inl rfl | exact Or.inr rfl)))
    (rb_one (rs_for PassesOwn.never hC (ri_range1 rfl T.z_range re_int) (rg_name (i := 3) hN rfl (by first | exact Or.inl rfl | exact Or.inr rfl)) (rb_one (rs_if (rt_not (rt_truth (re_call c_law_right hG hr (by decide) rfl (ra_cons (re_var 2 rfl (by first | exact Or.inl rfl | exact Or.inr (Or.inl rfl) | exact Or.inr (Or.inr rfl))) ra_nil)) (fun _ => rfl))) (rb_one (rs_ret re_bl)) rb_nil))))))
    (rb_one (rs_ret re_bl)))
end
/-! ### the head -/
def d_law_bag : DefM := ⟨glAd "_law_bag", "_law_bag", "_law_bag", s_law_bag⟩
def d_law_take : DefM := ⟨glAd "_law_take", "_law_take", "_law_take", s_law_take⟩
def d_law_leaf : DefM := ⟨glAd "_law_leaf", "_law_leaf", "_law_leaf", s_law_leaf⟩
def d_law_contents : DefM := ⟨glAd "_law_contents", "_law_contents", "_law_contents", s_law_contents⟩
def d_law_twofold : DefM := ⟨glAd "_law_twofold", "_law_twofold", "_law_twofold", s_law_twofold⟩
def d_law_ringed : DefM := ⟨glAd "_law_ringed", "_law_ringed", "_law_ringed", s_law_ringed⟩
def d_is_integer : DefM := ⟨glAd "is_integer", "is_integer", "is_integer", s_is_integer⟩
def d_is_word : DefM := ⟨glAd "is_word", "is_word", "is_word", s_is_word⟩
def d_is_leaf : DefM := ⟨glAd "is_leaf", "is_leaf", "is_leaf", s_is_leaf⟩
def d_is_within : DefM := ⟨glAd "is_within", "is_within", "is_within", s_is_within⟩
def d_is_reference : DefM := ⟨glAd "is_reference", "is_reference", "is_reference", s_is_reference⟩
def d_is_item : DefM := ⟨glAd "is_item", "is_item", "is_item", s_is_item⟩
def d_Heap_len : DefM := ⟨meAd "Heap" "__len__", "__len__", "Heap.__len__", s_Heap_len⟩
def d_Heap_need_room : DefM := ⟨meAd "Heap" "need_room", "need_room", "Heap.need_room", s_Heap_need_room⟩
def d_Heap_init : DefM := ⟨meAd "Heap" "__init__", "__init__", "Heap.__init__", s_Heap_init⟩
def d_Heap_of : DefM := ⟨cmAd "Heap" "of", "of", "Heap.of", s_Heap_of⟩
def d_law_heap : DefM := ⟨glAd "_law_heap", "_law_heap", "_law_heap", s_law_heap⟩
def d_Heap_contents : DefM := ⟨meAd "Heap" "contents", "contents", "Heap.contents", s_Heap_contents⟩
def d_filled : DefM := ⟨glAd "filled", "filled", "filled", s_filled⟩
def d_Heap_contains : DefM := ⟨meAd "Heap" "__contains__", "__contains__", "Heap.__contains__", s_Heap_contains⟩
def d_Heap_need_box : DefM := ⟨meAd "Heap" "need_box", "need_box", "Heap.need_box", s_Heap_need_box⟩
def d_Heap_need_place : DefM := ⟨meAd "Heap" "need_place", "need_place", "Heap.need_place", s_Heap_need_place⟩
def d_Heap_need_item : DefM := ⟨meAd "Heap" "need_item", "need_item", "Heap.need_item", s_Heap_need_item⟩
def d_Heap_add_at : DefM := ⟨meAd "Heap" "add_at", "add_at", "Heap.add_at", s_Heap_add_at⟩
def d_Heap_add_last : DefM := ⟨meAd "Heap" "add_last", "add_last", "Heap.add_last", s_Heap_add_last⟩
def d_Heap_new : DefM := ⟨meAd "Heap" "new", "new", "Heap.new", s_Heap_new⟩
def d_Heap_eq : DefM := ⟨meAd "Heap" "__eq__", "__eq__", "Heap.__eq__", s_Heap_eq⟩
def d_law_right : DefM := ⟨glAd "_law_right", "_law_right", "_law_right", s_law_right⟩
def d_law : DefM := ⟨glAd "law", "law", "law", s_law⟩
def bfL0 : List (PySem.W.Frag → Bool) := [(He.Fa.str "BOX" "box").ok, (He.Fa.str "LETTERS" "abcdefghijklmnopqrstuvwxyz").ok, (He.Fa.int "MOST_LETTERS" 8).ok, cvB "Heap" "MOST_BOXES" 60, cvB "Heap" "MOST_ITEMS" 300, (He.Fa.free "abs").ok, (He.Fa.free "all").ok, (He.Fa.free "bool").ok, (He.Fa.free "dict").ok, (He.Fa.free "int").ok, (He.Fa.free "isinstance").ok, (He.Fa.free "len").ok, (He.Fa.free "list").ok, (He.Fa.free "max").ok, (He.Fa.free "min").ok, (He.Fa.free "range").ok, (He.Fa.free "repr").ok, (He.Fa.free "str").ok, (He.Fa.free "tuple").ok, clsB "Heap" ["lists"]]
def bfL1 : List (PySem.W.Frag → Bool) := [isiB "Heap", (He.Fa.glo "_law_bag").ok, (He.Fa.glo "_law_take").ok, (He.Fa.glo "_law_leaf").ok, (He.Fa.glo "_law_contents").ok, (He.Fa.glo "_law_twofold").ok, (He.Fa.glo "_law_ringed").ok, (He.Fa.glo "is_integer").ok, (He.Fa.glo "is_word").ok, (He.Fa.glo "is_leaf").ok, (He.Fa.glo "is_within").ok, (He.Fa.glo "is_reference").ok, (He.Fa.glo "is_item").ok, (He.Fa.meth "Heap" "__len__").ok, (He.Fa.meth "Heap" "need_room").ok, (He.Fa.mkr "Heap").ok, cmB "Heap" "of", (He.Fa.glo "_law_heap").ok, (He.Fa.meth "Heap" "contents").ok, (He.Fa.glo "filled").ok]
def bfL2 : List (PySem.W.Frag → Bool) := [(He.Fa.meth "Heap" "__contains__").ok, (He.Fa.meth "Heap" "need_box").ok, (He.Fa.meth "Heap" "need_place").ok, (He.Fa.meth "Heap" "need_item").ok, (He.Fa.meth "Heap" "add_at").ok, (He.Fa.meth "Heap" "add_last").ok, (He.Fa.meth "Heap" "new").ok, (He.Fa.meth "Heap" "__eq__").ok, (He.Fa.glo "_law_right").ok, (He.Fa.glo "law").ok]
def bfL : List (PySem.W.Frag → Bool) := bfL0 ++ bfL1 ++ bfL2
def fnL0 : List DefM := [d_law_bag, d_law_take, d_law_leaf, d_law_contents, d_law_twofold, d_law_ringed, d_is_integer, d_is_word, d_is_leaf, d_is_within, d_is_reference, d_is_item, d_Heap_len, d_Heap_need_room, d_Heap_init, d_Heap_of, d_law_heap, d_Heap_contents, d_filled, d_Heap_contains]
def fnL1 : List DefM := [d_Heap_need_box, d_Heap_need_place, d_Heap_need_item, d_Heap_add_at, d_Heap_add_last, d_Heap_new, d_Heap_eq, d_law_right, d_law]
def fnL : List DefM := fnL0 ++ fnL1
theorem facts {P : Program} {w : World} {K : PySem.W.Frag} {h : Heap} {mg : Str → Option Value} {fa : Addr} (X : K.In h) (G : h.Ns mainGlobals mg) (hfa : mg "law" = some (.ref fa)) (c : SaysM bfL fnL K) : ∀ base : Heap, K.In base → base.Ns mainGlobals mg → FnG P w ⟨K, mg, cnT⟩ base 18 fa (spM ⟨K, mg, cnT⟩ m_law) := by
  intro base _ _
  have T : Txt K mg := ⟨He.str_ok X G (c.fact 0), He.str_ok X G (c.fact 1), He.int_ok X G (c.fact 2), cvB_ok (c.fact 3), cvB_ok (c.fact 4), He.free_ok X G (c.fact 5), He.free_ok X G (c.fact 6), He.free_ok X G (c.fact 7), He.free_ok X G (c.fact 8), He.free_ok X G (c.fact 9), He.free_ok X G (c.fact 10), He.free_ok X G (c.fact 11), He.free_ok X G (c.fact 12), He.free_ok X G (c.fact 13), He.free_ok X G (c.fact 14), He.free_ok X G (c.fact 15), He.free_ok X G (c.fact 16), He.free_ok X G (c.fact 17), He.free_ok X G (c.fact 18), clsB_ok X G rfl (by decide) (by decide) (c.fact 19), isiB_ok (c.fact 20)⟩
  obtain ⟨fd_law_bag, F_law_bag⟩ := c.def_ 0 (d := d_law_bag)
  have c_law_bag : CalG P w ⟨K, mg, cnT⟩ base 2 "_law_bag" m_law_bag := cal_okG X G (c.fact 21) F_law_bag (ok_law_bag (P := P) (w := w) (base := base) T F_law_bag )
  obtain ⟨fd_law_take, F_law_take⟩ := c.def_ 1 (d := d_law_take)
  have c_law_take : CalG P w ⟨K, mg, cnT⟩ base 2 "_law_take" m_law_take := cal_okG X G (c.fact 22) F_law_take (ok_law_take (P := P) (w := w) (base := base) T F_law_take )
  obtain ⟨fd_law_leaf, F_law_leaf⟩ := c.def_ 2 (d := d_law_leaf)
  have c_law_leaf : CalG P w ⟨K, mg, cnT⟩ base 4 "_law_leaf" m_law_leaf := cal_okG X G (c.fact 23) F_law_leaf (ok_law_leaf (P := P) (w := w) (base := base) T F_law_leaf c_law_take)
  obtain ⟨fd_law_contents, F_law_contents⟩ := c.def_ 3 (d := d_law_contents)
  have c_law_contents : CalG P w ⟨K, mg, cnT⟩ base 6 "_law_contents" m_law_contents := cal_okG X G (c.fact 24) F_law_contents (ok_law_contents (P := P) (w := w) (base := base) T F_law_contents c_law_take c_law_leaf)
  obtain ⟨fd_law_twofold, F_law_twofold⟩ := c.def_ 4 (d := d_law_twofold)
  have c_law_twofold : CalG P w ⟨K, mg, cnT⟩ base 8 "_law_twofold" m_law_twofold := cal_okG X G (c.fact 25) F_law_twofold (ok_law_twofold (P := P) (w := w) (base := base) T F_law_twofold c_law_contents c_law_take c_law_leaf)
  obtain ⟨fd_law_ringed, F_law_ringed⟩ := c.def_ 5 (d := d_law_ringed)
  have c_law_ringed : CalG P w ⟨K, mg, cnT⟩ base 10 "_law_ringed" m_law_ringed := cal_okG X G (c.fact 26) F_law_ringed (ok_law_ringed (P := P) (w := w) (base := base) T F_law_ringed c_law_take c_law_twofold c_law_contents)
  obtain ⟨fd_is_integer, F_is_integer⟩ := c.def_ 6 (d := d_is_integer)
  have c_is_integer : CalG P w ⟨K, mg, cnT⟩ base 2 "is_integer" m_is_integer := cal_okG X G (c.fact 27) F_is_integer (ok_is_integer (P := P) (w := w) (base := base) T F_is_integer )
  obtain ⟨fd_is_word, F_is_word⟩ := c.def_ 7 (d := d_is_word)
  have c_is_word : CalG P w ⟨K, mg, cnT⟩ base 2 "is_word" m_is_word := cal_okG X G (c.fact 28) F_is_word (ok_is_word (P := P) (w := w) (base := base) T F_is_word )
  obtain ⟨fd_is_leaf, F_is_leaf⟩ := c.def_ 8 (d := d_is_leaf)
  have c_is_leaf : CalG P w ⟨K, mg, cnT⟩ base 4 "is_leaf" m_is_leaf := cal_okG X G (c.fact 29) F_is_leaf (ok_is_leaf (P := P) (w := w) (base := base) T F_is_leaf c_is_integer c_is_word)
  obtain ⟨fd_is_within, F_is_within⟩ := c.def_ 9 (d := d_is_within)
  have c_is_within : CalG P w ⟨K, mg, cnT⟩ base 4 "is_within" m_is_within := cal_okG X G (c.fact 30) F_is_within (ok_is_within (P := P) (w := w) (base := base) T F_is_within c_is_integer)
  obtain ⟨fd_is_reference, F_is_reference⟩ := c.def_ 10 (d := d_is_reference)
  have c_is_reference : CalG P w ⟨K, mg, cnT⟩ base 6 "is_reference" m_is_reference := cal_okG X G (c.fact 31) F_is_reference (ok_is_reference (P := P) (w := w) (base := base) T F_is_reference c_is_within)
  obtain ⟨fd_is_item, F_is_item⟩ := c.def_ 11 (d := d_is_item)
  have c_is_item : CalG P w ⟨K, mg, cnT⟩ base 8 "is_item" m_is_item := cal_okG X G (c.fact 32) F_is_item (ok_is_item (P := P) (w := w) (base := base) T F_is_item c_is_leaf c_is_reference)
  obtain ⟨fd_Heap_len, F_Heap_len⟩ := c.def_ 12 (d := d_Heap_len)
  have c_Heap_len : SpcG P w ⟨K, mg, cnT⟩ base 2 (He.ga K "Heap") "__len__" m_Heap_len := spc_okG (c.fact 33) (ok_Heap_len (P := P) (w := w) (base := base) T F_Heap_len )
  obtain ⟨fd_Heap_need_room, F_Heap_need_room⟩ := c.def_ 13 (d := d_Heap_need_room)
  have c_Heap_need_room : MetG P w ⟨K, mg, cnT⟩ base 4 0 (He.ga K "Heap") "need_room" m_Heap_need_room := meth_okG (by decide) (c.fact 34) (ok_Heap_need_room (P := P) (w := w) (base := base) T F_Heap_need_room c_Heap_len)
  obtain ⟨fd_Heap_init, F_Heap_init⟩ := c.def_ 14 (d := d_Heap_init)
  have c_Heap_init : MakG P w ⟨K, mg, cnT⟩ base 10 0 (He.ga K "Heap") m_Heap_init := make_okG (c.fact 35) (ok_Heap_init (P := P) (w := w) (base := base) T F_Heap_init c_is_item c_Heap_need_room)
  obtain ⟨fd_Heap_of, F_Heap_of⟩ := c.def_ 15 (d := d_Heap_of)
  have c_Heap_of : CmtG P w ⟨K, mg, cnT⟩ base 12 (He.ga K "Heap") "of" m_Heap_of := cmB_ok (c.fact 36) (ok_Heap_of (P := P) (w := w) (base := base) T F_Heap_of c_Heap_init)
  obtain ⟨fd_law_heap, F_law_heap⟩ := c.def_ 16 (d := d_law_heap)
  have c_law_heap : CalG P w ⟨K, mg, cnT⟩ base 14 "_law_heap" m_law_heap := cal_okG X G (c.fact 37) F_law_heap (ok_law_heap (P := P) (w := w) (base := base) T F_law_heap c_Heap_of)
  obtain ⟨fd_Heap_contents, F_Heap_contents⟩ := c.def_ 17 (d := d_Heap_contents)
  have c_Heap_contents : MetG P w ⟨K, mg, cnT⟩ base 2 0 (He.ga K "Heap") "contents" m_Heap_contents := meth_okG (by decide) (c.fact 38) (ok_Heap_contents (P := P) (w := w) (base := base) T F_Heap_contents )
  obtain ⟨fd_filled, F_filled⟩ := c.def_ 18 (d := d_filled)
  have c_filled : CalG P w ⟨K, mg, cnT⟩ base 14 "filled" m_filled := cal_okG X G (c.fact 39) F_filled (ok_filled (P := P) (w := w) (base := base) T F_filled c_Heap_of c_Heap_contents c_is_word)
  obtain ⟨fd_Heap_contains, F_Heap_contains⟩ := c.def_ 19 (d := d_Heap_contains)
  have c_Heap_contains : SpcG P w ⟨K, mg, cnT⟩ base 6 (He.ga K "Heap") "__contains__" m_Heap_contains := spc_okG (c.fact 40) (ok_Heap_contains (P := P) (w := w) (base := base) T F_Heap_contains c_is_within)
  obtain ⟨fd_Heap_need_box, F_Heap_need_box⟩ := c.def_ 20 (d := d_Heap_need_box)
  have c_Heap_need_box : MetG P w ⟨K, mg, cnT⟩ base 8 0 (He.ga K "Heap") "need_box" m_Heap_need_box := meth_okG (by decide) (c.fact 41) (ok_Heap_need_box (P := P) (w := w) (base := base) T F_Heap_need_box c_Heap_contains)
  obtain ⟨fd_Heap_need_place, F_Heap_need_place⟩ := c.def_ 21 (d := d_Heap_need_place)
  have c_Heap_need_place : MetG P w ⟨K, mg, cnT⟩ base 6 0 (He.ga K "Heap") "need_place" m_Heap_need_place := meth_okG (by decide) (c.fact 42) (ok_Heap_need_place (P := P) (w := w) (base := base) T F_Heap_need_place c_is_within)
  obtain ⟨fd_Heap_need_item, F_Heap_need_item⟩ := c.def_ 22 (d := d_Heap_need_item)
  have c_Heap_need_item : MetG P w ⟨K, mg, cnT⟩ base 10 0 (He.ga K "Heap") "need_item" m_Heap_need_item := meth_okG (by decide) (c.fact 43) (ok_Heap_need_item (P := P) (w := w) (base := base) T F_Heap_need_item c_is_item)
  obtain ⟨fd_Heap_add_at, F_Heap_add_at⟩ := c.def_ 23 (d := d_Heap_add_at)
  have c_Heap_add_at : MetG P w ⟨K, mg, cnT⟩ base 12 0 (He.ga K "Heap") "add_at" m_Heap_add_at := meth_okG (by decide) (c.fact 44) (ok_Heap_add_at (P := P) (w := w) (base := base) T F_Heap_add_at c_Heap_need_box c_Heap_need_place c_Heap_need_item c_Heap_need_room)
  obtain ⟨fd_Heap_add_last, F_Heap_add_last⟩ := c.def_ 24 (d := d_Heap_add_last)
  have c_Heap_add_last : MetG P w ⟨K, mg, cnT⟩ base 14 0 (He.ga K "Heap") "add_last" m_Heap_add_last := meth_okG (by decide) (c.fact 45) (ok_Heap_add_last (P := P) (w := w) (base := base) T F_Heap_add_last c_Heap_need_box c_Heap_add_at)
  obtain ⟨fd_Heap_new, F_Heap_new⟩ := c.def_ 25 (d := d_Heap_new)
  have c_Heap_new : MetG P w ⟨K, mg, cnT⟩ base 12 0 (He.ga K "Heap") "new" m_Heap_new := meth_okG (by decide) (c.fact 46) (ok_Heap_new (P := P) (w := w) (base := base) T F_Heap_new c_Heap_need_item c_Heap_need_room)
  obtain ⟨fd_Heap_eq, F_Heap_eq⟩ := c.def_ 26 (d := d_Heap_eq)
  have c_Heap_eq : SpcG P w ⟨K, mg, cnT⟩ base 2 (He.ga K "Heap") "__eq__" m_Heap_eq := spc_okG (c.fact 47) (ok_Heap_eq (P := P) (w := w) (base := base) T F_Heap_eq )
  obtain ⟨fd_law_right, F_law_right⟩ := c.def_ 27 (d := d_law_right)
  have c_law_right : CalG P w ⟨K, mg, cnT⟩ base 16 "_law_right" m_law_right := cal_okG X G (c.fact 48) F_law_right (ok_law_right (P := P) (w := w) (base := base) T F_law_right c_law_ringed c_law_heap c_law_take c_filled c_Heap_contents c_Heap_add_last c_Heap_new c_Heap_eq)
  obtain ⟨fd_law, F_law⟩ := c.def_ 28 (d := d_law)
  have e := hfa.symm.trans (He.glo_ok X G (c.fact 49 (f := (He.Fa.glo "law").ok)))
  cases e
  exact ok_law T F_law c_law_bag c_law_right
end Law
/-! # Plain laws of the Mini machine -/
namespace Mini
open PySem
/-- a frozen def that leaves the heap -/
theorem frz_d {m : MF} {us : List MV} {h h' : MH} {p : PyData} (e : m us h = .ok (.d p) h') (hc : h.all (clO h.length) = true → (h'.take h.length).all (clO h.length) = true) : mFrz m us h = .ok (.d p) (h'.take h.length) := by
  unfold mFrz
  rw [e]
  have e2 : frzV h.length h' (.d p) = some (.d p) := rfl
  simp only [e2]
  rw [if_pos hc]
theorem frz_d0 {m : MF} {us : List MV} {h t : MH} {p : PyData} (e : m us h = .ok (.d p) (h ++ t)) : mFrz m us h = .ok (.d p) h := by
  have := frz_d e (by simp)
  simpa using this
theorem frz_d1 {m : MF} {us : List MV} {h : MH} {p : PyData} (e : m us h = .ok (.d p) h) : mFrz m us h = .ok (.d p) h := frz_d0 (t := []) (by simpa using e)
/-- .. that changes one object -/
theorem all_set {h : MH} {b : Nat} {o : MO} {n : Nat} (ho : clO n o = true) (hh : h.all (clO n) = true) : (h.set b o).all (clO n) = true := by
  rw [List.all_eq_true] at hh ⊢
  intro x hx
  rcases List.mem_or_eq_of_mem_set hx with q | q
  · exact hh x q
  · rw [q]; exact ho
theorem frz_ds {m : MF} {us : List MV} {h t : MH} {p : PyData} {b : Nat} {o : MO} (ho : clO h.length o = true) (e : m us h = .ok (.d p) (h.set b o ++ t)) : mFrz m us h = .ok (.d p) (h.set b o) := by
  have := frz_d e (by
    intro hh
    rw [List.take_left' (by simp)]
    exact all_set ho hh)
  rw [List.take_left' (by simp)] at this
  exact this
/-- a new list comes out as data -/
theorem frz_l {m : MF} {us : List MV} {h h' : MH} {i : Nat} {p : PyData} (e : m us h = .ok (.ref i) h') (hi : h.length ≤ i) (hd : toF h.length 40 h' (.ref i) = some p) (hc : h.all (clO h.length) = true → (h'.take h.length).all (clO h.length) = true) : mFrz m us h = .ok (.d p) (h'.take h.length) := by
  have e2 : frzV h.length h' (.ref i) = some (.d p) := by
    unfold frzV
    rw [if_neg (by simp only [clV, decide_eq_true_eq]; omega), hd]
    rfl
  unfold mFrz
  rw [e]
  simp only [e2]
  rw [if_pos hc]
theorem frz_l0 {m : MF} {us : List MV} {h t : MH} {i : Nat} {p : PyData} (e : m us h = .ok (.ref i) (h ++ t)) (hi : h.length ≤ i) (hd : toF h.length 40 (h ++ t) (.ref i) = some p) : mFrz m us h = .ok (.d p) h := by
  have := frz_l e hi hd (by simp)
  simpa using this
theorem frz_ls {m : MF} {us : List MV} {h t : MH} {i b : Nat} {o : MO} {p : PyData} (ho : clO h.length o = true) (e : m us h = .ok (.ref i) (h.set b o ++ t)) (hi : h.length ≤ i) (hd : toF h.length 40 (h.set b o ++ t) (.ref i) = some p) : mFrz m us h = .ok (.d p) (h.set b o) := by
  have := frz_l e hi hd (by
    intro hh
    rw [List.take_left' (by simp)]
    exact all_set ho hh)
  rw [List.take_left' (by simp)] at this
  exact this

open PySem (PyData Str)
/-! ### steps, as rules -/
theorem atI_nat {α : Type} (xs : List α) (k : Nat) : L2.atI xs (k : Int) = xs[k]? := by
  unfold L2.atI L2.ixN
  rw [if_pos (Int.natCast_nonneg k)]
  by_cases h : k < xs.length
  · rw [if_pos (by omega)]; simp
  · rw [if_neg (by omega)]
    rw [List.getElem?_eq_none (by omega)]; rfl
theorem atI_of {α : Type} (xs : List α) {i : Int} (h : 0 ≤ i) : L2.atI xs i = xs[i.toNat]? := by
  have := atI_nat xs i.toNat
  rwa [Int.toNat_of_nonneg h] at this
theorem ixN_of {n : Nat} {i : Int} (h : 0 ≤ i) (h2 : i < n) : L2.ixN n i = some i.toNat := by
  unfold L2.ixN
  rw [if_pos h, if_pos h2]
section
variable {h : MH} {i : Nat} {l : List MV} {ds : List PyData}
theorem lst_ref (e : h[i]? = some (.lst l)) : lstOf h (.ref i) = some l := by simp [lstOf, e]
@[simp] theorem lst_d : lstOf h (.d (.list ds)) = some (ds.map .d) := rfl
@[simp] theorem lst_rl {ns : List Int} : lstOf h (.rl ns) = some (ns.map fun i => .d (.int i)) := rfl
@[simp] theorem lst_t : lstOf h (.d (.tuple ds)) = none := rfl
@[simp] theorem tup_d : tupOf (.d (.tuple ds)) = some (ds.map .d) := rfl
@[simp] theorem tup_t : tupOf (.tup l) = some l := rfl
theorem ix_ref (e : h[i]? = some (.lst l)) (k : Int) : fIx (.ref i) (.d (.int k)) h = ofO (L2.atI l k) h := by simp [fIx, dlook, e, lstOf]
@[simp] theorem ix_dl (k : Int) : fIx (.d (.list ds)) (.d (.int k)) h = ofO (L2.atI (ds.map .d) k) h := by simp [fIx, dlook, lstOf]
@[simp] theorem ix_rl {ns : List Int} (k : Int) : fIx (.rl ns) (.d (.int k)) h = ofO (L2.atI (ns.map fun i => .d (.int i)) k) h := by simp [fIx, dlook, lstOf]
@[simp] theorem ix_dt (k : Int) : fIx (.d (.tuple ds)) (.d (.int k)) h = ofO (L2.atI (ds.map .d) k) h := by simp [fIx, dlook, lstOf]
theorem ix_dk {kvs : List (L2.Key × MV)} {x : MV} {k : L2.Key} {v : MV} (e : h[i]? = some (.dk kvs)) (ek : keyOf x = some k) (ev : dget kvs k = some v) : fIx (.ref i) x h = .ok v h := by simp [fIx, dlook, e, ek, ev]
@[simp] theorem add_int (a b : Int) : fAdd (.d (.int a)) (.d (.int b)) h = .ok (.d (.int (a + b))) h := rfl
@[simp] theorem sub_int (a b : Int) : fSub (.d (.int a)) (.d (.int b)) h = .ok (.d (.int (a - b))) h := rfl
theorem mul_int {a b : Int} (c : (-18446744073709551616 < a ∧ a < 18446744073709551616) ∨ (-18446744073709551616 < b ∧ b < 18446744073709551616)) : fMul (.d (.int a)) (.d (.int b)) h = .ok (.d (.int (a * b))) h := by simp only [fMul]; rw [if_pos c]
theorem div_int {a b : Int} (c : 0 < b ∧ b ≤ bigJ) : fDiv (.d (.int a)) (.d (.int b)) h = .ok (.d (.int (a / b))) h := by simp only [fDiv]; rw [if_pos c]
theorem mod_int {a b : Int} (c : 0 < b) : fMod (.d (.int a)) (.d (.int b)) h = .ok (.d (.int (a % b))) h := by simp only [fMod]; rw [if_pos c]
theorem pow_int {a b : Int} (c : (0 ≤ b ∧ b ≤ 1000) ∧ (-18446744073709551616 < a ∧ a < 18446744073709551616)) : fPow (.d (.int a)) (.d (.int b)) h = .ok (.d (.int (a ^ b.toNat))) h := by simp only [fPow]; rw [if_pos c]
@[simp] theorem lt_int (a b : Int) : fLt (.d (.int a)) (.d (.int b)) h = .ok (.d (.bool (decide (a < b)))) h := rfl
@[simp] theorem le_int (a b : Int) : fLe (.d (.int a)) (.d (.int b)) h = .ok (.d (.bool (decide (a ≤ b)))) h := rfl
@[simp] theorem gt_int (a b : Int) : fGt (.d (.int a)) (.d (.int b)) h = .ok (.d (.bool (decide (b < a)))) h := rfl
@[simp] theorem ge_int (a b : Int) : fGe (.d (.int a)) (.d (.int b)) h = .ok (.d (.bool (decide (b ≤ a)))) h := rfl
@[simp] theorem abs_int (a : Int) : fAbs [.d (.int a)] h = .ok (.d (.int (if a < 0 then -a else a))) h := rfl
@[simp] theorem max_int (a b : Int) : fMax2 [.d (.int a), .d (.int b)] h = .ok (.d (.int (if b > a then b else a))) h := rfl
@[simp] theorem min_int (a b : Int) : fMin2 [.d (.int a), .d (.int b)] h = .ok (.d (.int (if b < a then b else a))) h := rfl
theorem len_ref (e : h[i]? = some (.lst l)) : fLen [.ref i] h = .ok (.d (.int l.length)) h := by simp [fLen, lstOf, e]
@[simp] theorem len_dl : fLen [.d (.list ds)] h = .ok (.d (.int ds.length)) h := by simp [fLen, lstOf]
@[simp] theorem len_dt : fLen [.d (.tuple ds)] h = .ok (.d (.int ds.length)) h := by simp [fLen, lstOf, tupOf]
@[simp] theorem len_rl {ns : List Int} : fLen [.rl ns] h = .ok (.d (.int ns.length)) h := by simp [fLen, lstOf]
theorem len_str {s : Str} (c : s.length ≤ szL) : fLen [.d (.str s)] h = .ok (.d (.int s.length)) h := by simp [fLen, lstOf, tupOf, c]
theorem rL_ok (c : l.length ≤ szL) : rL l h = .ok (.ref h.length) (h ++ [.lst l]) := by unfold rL; rw [if_pos c]
theorem rT_ok (c : l.length ≤ szL) : rT l h = .ok (mkTup l) h := by unfold rT; rw [if_pos c]
@[simp] theorem pureAll_map : pureAll (ds.map .d) = some ds := by
  induction ds with
  | nil => rfl
  | cons d ds ih => simp [pureAll, ih]
@[simp] theorem mkTup_d : mkTup (ds.map .d) = .d (.tuple ds) := by unfold mkTup; rw [pureAll_map]
theorem listOf_l {x : MV} (e : lstOf h x = some l) (c : l.length ≤ szL) : fListOf [x] h = .ok (.ref h.length) (h ++ [.lst l]) := by simp only [fListOf, e]; exact rL_ok c
theorem listOf_t {x : MV} (e0 : lstOf h x = none) (e : tupOf x = some l) (c : l.length ≤ szL) : fListOf [x] h = .ok (.ref h.length) (h ++ [.lst l]) := by simp only [fListOf, e0, e]; exact rL_ok c
theorem app_ok {y : MV} (e : h[i]? = some (.lst l)) (c : l.length < szL) : fAppend (.ref i) [y] h = .ok (.d .none) (h.set i (.lst (l ++ [y]))) := by simp only [fAppend, wlst, e]; rw [if_pos c]
@[simp] theorem isTy_l (e : h[i]? = some (.lst l)) : isTy "list" h (.ref i) = true := by simp [isTy, e]
theorem set_l {k : Int} {v : MV} (e : h[i]? = some (.lst l)) (h0 : 0 ≤ k) (h1 : k < l.length) : fSet (.ref i) (.d (.int k)) v h = .ok () (h.set i (.lst (l.set k.toNat v))) := by simp only [fSet, e, ixN_of h0 h1]
theorem set_dk {x v : MV} {kvs : List (L2.Key × MV)} {k : L2.Key} (e : h[i]? = some (.dk kvs)) (ek : keyOf x = some k) (c : kvs.length < szL) : fSet (.ref i) x v h = .ok () (h.set i (.dk (dput kvs k v))) := by simp only [fSet, e, ek]; rw [if_pos c]
end
/-! ### loops -/
/-- a for loop that is not left early -/
theorem forGo_inv {chk : MH → Bool} {g : MG} {b : MS} (I : Nat → MSt → MH → Prop) : ∀ (xs : List MV) (n : Nat) (μ : MSt) (h : MH), I n μ h →
    (∀ k x μ h, xs[k]? = some x → I (n + k) μ h → chk h = true ∧ ∃ μ1 h1, g x μ h = .ok μ1 h1 ∧ ∃ μ' h', (b μ1 h1 = .nx μ' h' ∨ b μ1 h1 = .ct μ' h') ∧ I (n + k + 1) μ' h') →
    (∀ μ h, I (n + xs.length) μ h → chk h = true) → ∃ μ' h', forGo chk g b xs μ h = .nx μ' h' ∧ I (n + xs.length) μ' h'
  | [], n, μ, h, i0, _, hc => ⟨μ, h, by simp [forGo, hc μ h i0], i0⟩
  | x :: r, n, μ, h, i0, hs, hc => by
    obtain ⟨c, μ1, h1, e1, μ', h', e2, i1⟩ := hs 0 x μ h rfl i0
    obtain ⟨μ2, h2, e3, i2⟩ := forGo_inv I r (n + 1) μ' h' i1 (fun k x μ h e i => by
      have := hs (k + 1) x μ h (by simpa using e) (by rwa [show n + (k + 1) = n + 1 + k by omega])
      rwa [show n + (k + 1) + 1 = n + 1 + k + 1 by omega] at this) (fun μ h i => hc μ h (by simp only [List.length_cons]; rwa [show n + (r.length + 1) = n + 1 + r.length by omega]))
    refine ⟨μ2, h2, ?_, by simp only [List.length_cons]; rwa [show n + (r.length + 1) = n + 1 + r.length by omega]⟩
    unfold forGo
    rw [if_pos c, e1]
    simp only [Mini.R.thn_ok]
    rcases e2 with e2 | e2 <;> rw [e2] <;> exact e3
/-- .. that returns or goes to its end -/
theorem forGo_ret {chk : MH → Bool} {g : MG} {b : MS} (I : Nat → MSt → MH → Prop) (Rt : MV → MH → Prop) : ∀ (xs : List MV) (n : Nat) (μ : MSt) (h : MH), I n μ h →
    (∀ k x μ h, xs[k]? = some x → I (n + k) μ h → chk h = true ∧ ∃ μ1 h1, g x μ h = .ok μ1 h1 ∧ ((∃ μ' h', (b μ1 h1 = .nx μ' h' ∨ b μ1 h1 = .ct μ' h') ∧ I (n + k + 1) μ' h') ∨ ∃ v h', b μ1 h1 = .rt v h' ∧ Rt v h')) →
    (∀ μ h, I (n + xs.length) μ h → chk h = true) → (∃ μ' h', forGo chk g b xs μ h = .nx μ' h' ∧ I (n + xs.length) μ' h') ∨ ∃ v h', forGo chk g b xs μ h = .rt v h' ∧ Rt v h'
  | [], n, μ, h, i0, _, hc => .inl ⟨μ, h, by simp [forGo, hc μ h i0], i0⟩
  | x :: r, n, μ, h, i0, hs, hc => by
    obtain ⟨c, μ1, h1, e1, e2⟩ := hs 0 x μ h rfl i0
    rcases e2 with ⟨μ', h', e2, i1⟩ | ⟨v, h', e2, q⟩
    · have e0 : forGo chk g b (x :: r) μ h = forGo chk g b r μ' h' := by
        conv => lhs; unfold forGo
        rw [if_pos c, e1]
        simp only [Mini.R.thn_ok]
        rcases e2 with e2 | e2 <;> rw [e2]
      rw [e0]
      have := forGo_ret I Rt r (n + 1) μ' h' i1 (fun k x μ h e i => by
        have := hs (k + 1) x μ h (by simpa using e) (by rwa [show n + (k + 1) = n + 1 + k by omega])
        rwa [show n + (k + 1) + 1 = n + 1 + k + 1 by omega] at this) (fun μ h i => hc μ h (by simp only [List.length_cons]; rwa [show n + (r.length + 1) = n + 1 + r.length by omega]))
      simp only [List.length_cons]
      rwa [show n + (r.length + 1) = n + 1 + r.length by omega]
    · refine .inr ⟨v, h', ?_, q⟩
      unfold forGo
      rw [if_pos c, e1]
      simp only [Mini.R.thn_ok]
      rw [e2]
/-- a comprehension whose parts leave the heap -/
theorem lcGo_pure {chk : MH → Bool} {g : MG} {tt : MT} {te : ME} {μ0 : MSt} {h : MH} {f : MV → MV} (hc : chk h = true) : ∀ (xs acc : List MV), (∀ x ∈ xs, ∃ μ2, g x μ0 h = .ok μ2 h ∧ tt μ2 h = .ok true h ∧ te μ2 h = .ok (f x) h) → acc.length + xs.length ≤ szL →
    lcGo chk g tt te μ0 acc xs h = .ok (acc ++ xs.map f) h
  | [], acc, _, _ => by simp [lcGo, hc]
  | x :: r, acc, hs, hz => by
    obtain ⟨μ2, e1, e2, e3⟩ := hs x List.mem_cons_self
    simp only [List.length_cons] at hz
    unfold lcGo
    rw [if_pos hc, e1]
    simp only [Mini.R.bind_ok, e2, e3]
    rw [if_pos (by omega), lcGo_pure hc r (acc ++ [f x]) (fun y hy => hs y (List.mem_cons_of_mem _ hy)) (by simp only [List.length_append, List.length_singleton]; omega)]
    simp
/-- .. each of which makes one new list -/
theorem lcGo_new {chk : MH → Bool} {g : MG} {tt : MT} {te : ME} {μ0 : MSt} {f : MV → List MV} {h0 : MH} (hc : ∀ t, chk (h0 ++ t) = true) : ∀ (xs acc : List MV) (t : MH), (∀ x ∈ xs, ∀ t, ∃ μ2, g x μ0 (h0 ++ t) = .ok μ2 (h0 ++ t) ∧ tt μ2 (h0 ++ t) = .ok true (h0 ++ t) ∧ te μ2 (h0 ++ t) = .ok (.ref (h0 ++ t).length) (h0 ++ t ++ [.lst (f x)])) → acc.length + xs.length ≤ szL →
    lcGo chk g tt te μ0 acc xs (h0 ++ t) = .ok (acc ++ (List.range' (h0 ++ t).length xs.length).map .ref) (h0 ++ t ++ xs.map fun x => .lst (f x))
  | [], acc, t, _, _ => by simp [lcGo, hc]
  | x :: r, acc, t, hs, hz => by
    obtain ⟨μ2, e1, e2, e3⟩ := hs x List.mem_cons_self t
    simp only [List.length_cons] at hz
    unfold lcGo
    rw [if_pos (hc t), e1]
    simp only [Mini.R.bind_ok, e2, e3]
    rw [if_pos (by omega)]
    have := lcGo_new hc r (acc ++ [.ref (h0 ++ t).length]) (t ++ [.lst (f x)]) (fun y hy => hs y (List.mem_cons_of_mem _ hy)) (by simp only [List.length_append, List.length_singleton]; omega)
    rw [← List.append_assoc] at this
    rw [this]
    simp [List.range'_succ, Nat.add_assoc]
/-! ### data out of the heap -/
theorem mapO_d {n f : Nat} {h : MH} : ∀ ds : List PyData, mapO (toF n (f + 1) h) (ds.map .d) = some ds
  | [] => rfl
  | d :: ds => by
    have e : toF n (f + 1) h (.d d) = some d := rfl
    simp only [List.map_cons, mapO, e, mapO_d ds]
theorem mapO_toD {f : Nat} {h : MH} : ∀ ds : List PyData, mapO (toD f h) (ds.map .d) = some ds
  | [] => rfl
  | d :: ds => by simp [mapO, mapO_toD ds, toD]
theorem toF_l {n f i : Nat} {h : MH} {l : List MV} {ds : List PyData} (hi : n ≤ i) (e : h[i]? = some (.lst l)) (ed : mapO (toF n f h) l = some ds) : toF n (f + 1) h (.ref i) = some (.list ds) := by
  simp only [toF]
  rw [if_neg (by omega), e]
  simp [ed]
theorem mapO_refs {α : Type} {f : MV → Option α} : ∀ {rs : List Nat} {as : List α}, rs.length = as.length → (∀ (k r : Nat) (a : α), rs[k]? = some r → as[k]? = some a → f (.ref r) = some a) → mapO f (rs.map .ref) = some as
  | [], [], _, _ => rfl
  | r :: rs, a :: as, hl, hs => by
    have h1 := hs 0 r a rfl rfl
    have h2 := mapO_refs (rs := rs) (as := as) (by simpa using hl) fun k r a e1 e2 => hs (k + 1) r a (by simpa using e1) (by simpa using e2)
    simp [mapO, h1, h2]
  | [], _ :: _, hl, _ => by simp at hl
  | _ :: _, [], hl, _ => by simp at hl

section
variable {h : MH}
theorem ty_non : tyName h (.d .none) = some "NoneType" := rfl
theorem ty_bl {x : Bool} : tyName h (.d (.bool x)) = some "bool" := rfl
theorem ty_int {x : Int} : tyName h (.d (.int x)) = some "int" := rfl
theorem ty_str {x : PySem.Str} : tyName h (.d (.str x)) = some "str" := rfl
theorem ty_lst {x : List PySem.PyData} : tyName h (.d (.list x)) = some "list" := rfl
theorem ty_tup {x : List PySem.PyData} : tyName h (.d (.tuple x)) = some "tuple" := rfl
theorem ty_tupm {x : List MV} : tyName h (.tup x) = some "tuple" := rfl
theorem ty_ref {i : Nat} {l : List MV} (e : h[i]? = some (.lst l)) : tyName h (.ref i) = some "list" := by simp [tyName, e]
theorem tr_non : Mini.truthy h (.d .none) = some false := rfl
theorem tr_bl {x : Bool} : Mini.truthy h (.d (.bool x)) = some x := rfl
theorem tr_int {x : Int} : Mini.truthy h (.d (.int x)) = some (x != 0) := rfl
theorem tr_lst {x : List PySem.PyData} : Mini.truthy h (.d (.list x)) = some (!x.isEmpty) := rfl
theorem tr_tup {x : List PySem.PyData} : Mini.truthy h (.d (.tuple x)) = some (!x.isEmpty) := rfl
theorem tr_ref {i : Nat} {l : List MV} (e : h[i]? = some (.lst l)) : Mini.truthy h (.ref i) = some (!l.isEmpty) := by simp [Mini.truthy, e]
end
theorem toNat2 : (2 : Int).toNat = 2 := rfl
theorem mSeq_nx {a b : MS} {μ μ' : MSt} {h h' : MH} (e : a μ h = .nx μ' h') : mSeq a b μ h = b μ' h' := by unfold mSeq; rw [e]
theorem mSeq_rt {a b : MS} {μ : MSt} {v : MV} {h h' : MH} (e : a μ h = .rt v h') : mSeq a b μ h = .rt v h' := by unfold mSeq; rw [e]
theorem mDef_rt {n N : Nat} {body : MS} {us : List MV} {h h' : MH} {v : MV} (e : body (us.map some ++ List.replicate (N - us.length) none) h = .rt v h') (hl : us.length = n := by rfl) : mDef n N body us h = .ok v h' := by unfold mDef; rw [if_pos hl, e]
theorem mDef_nx {n N : Nat} {body : MS} {us : List MV} {h h' : MH} {μ : MSt} (e : body (us.map some ++ List.replicate (N - us.length) none) h = .nx μ h') (hl : us.length = n := by rfl) : mDef n N body us h = .ok (.d .none) h' := by unfold mDef; rw [if_pos hl, e]
section
variable {A B : MH} {o o' : MO} {i : Nat}
theorem at_last (e : i = A.length) : (A ++ [o])[i]? = some o := by subst e; simp
theorem set_last (e : i = A.length) : (A ++ [o]).set i o' = A ++ [o'] := by subst e; simp
theorem at_mid (e : i = A.length) : (A ++ o :: B)[i]? = some o := by subst e; simp
theorem set_mid (e : i = A.length) : (A ++ o :: B).set i o' = A ++ o' :: B := by subst e; simp
theorem at_left (h : A[i]? = some o) : (A ++ B)[i]? = some o := by rw [List.getElem?_append_left (List.getElem?_eq_some_iff.mp h).1]; exact h
theorem set_left (h : i < A.length) : (A ++ B).set i o = A.set i o ++ B := List.set_append_left _ _ h
theorem at_set (h : i < A.length) : (A.set i o)[i]? = some o := by simp [h]
theorem at_set_ne {j : Nat} (h : i ≠ j) : (A.set i o)[j]? = A[j]? := List.getElem?_set_ne h
end
end Mini
namespace Mini
open PySem (PyData Str)
/-! ### equality of data -/
theorem eq_d {neg : Bool} {x y : MV} {p q : PyData} {h : MH} (e1 : toD 40 h x = some p) (e2 : toD 40 h y = some q) (s1 : PySem.SeqAt.shaped p = true) (s2 : PySem.SeqAt.shaped q = true) : fEq neg x y h = .ok (.d (.bool (neg != PyData.eqv p q))) h := by
  unfold fEq
  rw [e1, e2]
  simp only [s1, s2, Bool.and_self, if_true]
theorem eq_int {neg : Bool} {a b : Int} {h : MH} : fEq neg (.d (.int a)) (.d (.int b)) h = .ok (.d (.bool (neg != (a == b)))) h := by
  rw [eq_d (p := .int a) (q := .int b) rfl rfl rfl rfl]
  simp only [PyData.eqv]
theorem toD_row {h : MH} {i n : Nat} {row : List PyData} (e : h[i]? = some (.lst (row.map .d))) : toD (n + 1) h (.ref i) = some (.list row) := by
  simp only [toD, e, mapO_toD]
@[simp] theorem toD_dat {h : MH} {n : Nat} {p : PyData} : toD n h (.d p) = some p := by cases n <;> rfl
theorem canLayAll_of : ∀ {l : List PyData}, (∀ d ∈ l, d.canLay0 = true) → PyData.canLayAll0 l = true
  | [], _ => rfl
  | d :: l, h => by simp [PyData.canLayAll0, h d List.mem_cons_self, canLayAll_of fun x hx => h x (List.mem_cons_of_mem _ hx)]
theorem depthAll_of {n : Nat} : ∀ {l : List PyData}, (∀ d ∈ l, d.depth ≤ n) → PyData.depthAll l ≤ n
  | [], _ => Nat.zero_le _
  | d :: l, h => Nat.max_le.mpr ⟨h d List.mem_cons_self, depthAll_of fun x hx => h x (List.mem_cons_of_mem _ hx)⟩
theorem shaped_list {n : Nat} {l : List PyData} (h : ∀ d ∈ l, d.canLay0 = true ∧ d.depth ≤ n) (hn : n < 64) : (PyData.list l).canLay0 = true ∧ (PyData.list l).depth ≤ n + 1 :=
  ⟨canLayAll_of fun d hd => (h d hd).1, Nat.succ_le_succ (depthAll_of fun d hd => (h d hd).2)⟩
theorem shaped_of {d : PyData} {n : Nat} (h : d.canLay0 = true ∧ d.depth ≤ n) (hn : n ≤ 64) : PySem.SeqAt.shaped d = true := by
  unfold PySem.SeqAt.shaped
  simp [h.1]; omega
theorem mapO_app {α β : Type} {f : α → Option β} : ∀ {l k : List α} {l' k' : List β}, mapO f l = some l' → mapO f k = some k' → mapO f (l ++ k) = some (l' ++ k')
  | [], _, _, _, h, h2 => by simp [mapO] at h; subst h; exact h2
  | x :: l, k, l', k', h, h2 => by
    unfold mapO at h
    split at h
    · rename_i y ys e1 e2
      cases h
      have := mapO_app e2 h2
      simp [mapO, e1, this]
    · cases h
theorem sameL_at {h : MH} {j : Nat} {l : List MV} (e : h[j]? = some (.lst l)) : sameL (.ref j) l h = true := sameL_ref e
/-- a comprehension of two clauses whose parts leave the heap -/
theorem lc2Go_pure {chk : MH → Bool} {g g1 : MG} {tt tt1 : MT} {mi1 : MI} {te : ME} {μ0 : MSt} {vs1 : List Nat} {h : MH} {f : MV → List MV} (hc : chk h = true) : ∀ (xs acc : List MV), (∀ x ∈ xs, ∀ acc : List MV, acc.length + (f x).length ≤ szL → ∃ μ2 p, g x μ0 h = .ok μ2 h ∧ tt μ2 h = .ok true h ∧ mi1 μ2 h = .ok p h ∧ lcGo p.2 g1 tt1 te (wipeM μ2 vs1) acc p.1 h = .ok (acc ++ f x) h) → acc.length + (xs.flatMap f).length ≤ szL →
    lc2Go chk g tt mi1 g1 tt1 te μ0 vs1 acc xs h = .ok (acc ++ xs.flatMap f) h
  | [], acc, _, _ => by simp [lc2Go, hc]
  | x :: r, acc, hs, hz => by
    rw [List.flatMap_cons, List.length_append] at hz
    obtain ⟨μ2, p, e1, e2, e3, e4⟩ := hs x List.mem_cons_self acc (by omega)
    unfold lc2Go
    rw [if_pos hc, e1]
    simp only [Mini.R.bind_ok, e2, e3, e4]
    rw [lc2Go_pure hc r (acc ++ f x) (fun y hy => hs y (List.mem_cons_of_mem _ hy)) (by rw [List.length_append]; omega)]
    rw [List.flatMap_cons, List.append_assoc]
theorem lenI_ok {c : Nat} {m : MF} {x : MV} {h h' : MH} {q : Nat × List MV} {n : Int} (e1 : insOf c h x = some q) (e2 : m [x] h = .ok (.d (.int n)) h') (h0 : 0 ≤ n) (h1 : n < 9223372036854775808) : fLenI c m [x] h = .ok (.d (.int n)) h' := by
  unfold fLenI
  simp only [e1, e2]
  show (if 0 ≤ n ∧ n < 9223372036854775808 then _ else _) = _
  rw [if_pos ⟨h0, h1⟩]
end Mini
namespace Law
open Mini
open PySem (PyData Str)
/-! ### the bag -/
abbrev bagO (L M : Int) : MO := .lst [.d (.int L), .d (.int M)]
structure BagOk (L M : Int) : Prop where
  l : 0 ≤ L
  m : 0 ≤ M
  m2 : M ≤ 2147483647
theorem bag_fin {c x p1 p2 : Int} {k : Int} (h1 : 0 < p1) (h2 : 0 < p2) (h3 : p1 ≤ 2147483647) (h4 : p2 ≤ 2147483647) (hk0 : 0 ≤ k) (hk : k < 4) : BagOk (if 1000000000000000000 ≤ (if c < 0 then -c else c) then (if c < 0 then -c else c) else 0) (x % p2 + 1) := by
  have := Int.emod_nonneg x (show p2 ≠ 0 by omega)
  have := Int.emod_lt_of_pos x h2
  refine ⟨?_, by omega, by omega⟩
  split
  · split <;> omega
  · omega
theorem bag_eq (ns : List Int) (k : Int) (hk0 : 0 ≤ k) (hk : k < 4) (h : MH) : ∃ L M, BagOk L M ∧ m_law_bag [.rl ns, .d (.int k)] h = .ok (.ref h.length) (h ++ [bagO L M]) := by
  have big : ∀ c : Int, 0 ≤ c % 2305843009213693951 ∧ c % 2305843009213693951 < 2305843009213693951 := fun c => ⟨Int.emod_nonneg _ (by decide), Int.emod_lt_of_pos _ (by decide)⟩
  have nn : ∀ {a p : Int}, 0 < p → 0 ≤ a % p := fun h => Int.emod_nonneg _ (by omega)
  have lt : ∀ {a p : Int}, 0 < p → a % p < p := fun h => Int.emod_lt_of_pos _ h
  have key : ∀ c : Int, ∃ L M, BagOk L M ∧ (mSeq (mAsg (mIf (mTB (mBin fGe (mCB fAbs (mCons (mVar 3) mNil)) (mBin fPow (mD (.int 10)) (mD (.int 18))))) (mCB fAbs (mCons (mVar 3) mNil)) (mD (.int 0))) (gNm 4))
    (mSeq (mAsg (mBin fMod (mBin fPow (mBin fAdd (mBin fAdd (mBin fMod (mVar 3) (mD (.int 2305843009213693951))) (mBin fMul (mD (.int 77003)) (mVar 1))) (mD (.int 23))) (mD (.int 3))) (mBin fIx (mVar 2) (mBin fMod (mVar 1) (mD (.int 7))))) (gNm 5))
    (mRet (mLst (mCons (mVar 4) (mCons (mBin fAdd (mBin fMod (mBin fMul (mVar 5) (mBin fAdd (mBin fAdd (mBin fDiv (mVar 5) (mD (.int 7))) (mBin fMul (mD (.int 5)) (mVar 1))) (mD (.int 13)))) (mBin fIx (mVar 2) (mBin fMod (mBin fAdd (mVar 1) (mD (.int 3))) (mD (.int 7))))) (mD (.int 1))) mNil)))))) [some (.rl ns), some (.d (.int k)), some (.d (.tuple [.int 2147483647, .int 2147483629, .int 2147483587, .int 2147483579, .int 2147483563, .int 2147483549, .int 2147483543])), some (.d (.int c)), none, none] h = .rt (.ref h.length) (h ++ [bagO L M]) := by
    intro c
    have b1 := big c
    have ea : ∃ a : Int, 0 ≤ a ∧ (mIf (mTB (mBin fGe (mCB fAbs (mCons (mVar 3) mNil)) (mBin fPow (mD (.int 10)) (mD (.int 18))))) (mCB fAbs (mCons (mVar 3) mNil)) (mD (.int 0))) [some (.rl ns), some (.d (.int k)), some (.d (.tuple [.int 2147483647, .int 2147483629, .int 2147483587, .int 2147483579, .int 2147483563, .int 2147483549, .int 2147483543])), some (.d (.int c)), none, none] h = .ok (.d (.int a)) h := by
      simp (disch := first | omega | decide | assumption | (unfold szL; simp only [List.length_cons, List.length_nil, List.length_append, List.length_map, List.length_singleton]; omega) | (unfold szL; simp only [List.length_cons, List.length_nil, Nat.reduceAdd, Nat.reduceLeDiff])) only [mDef, mStar, mSeq, mRet, mVar, mD, mBin, mCB, mCons, mNil, mIfS, mIf, mTB, mTru, mTAnd, mTOr, mTNot, mAnd, mOr, mNot, mNeg, mChain, mExpr, mAsg, mPar, gNm, gTp, gsCons, gsNil, gSb, mTup, mLst, mNext, mNever, mBreak, mCont, mFor, mAug, mIsi, mFld, mMeth, mBM, mCM, mSlice, mPart, mNoP, mDk, mDt, mIA, mIL, mIT, mIS, mIR1, mIR2, mIZ, mIE, mLc, mLc2, mYes, mRev, mRepr, mIsiC, mHas, mEqI, mLenI, Mini.R.bind_ok, Mini.R.thn_ok, Mini.R.bind_bad, Mini.R.thn_bad, ofO, asB, rB, rN, rI, List.length_cons, List.length_nil, List.map_cons, List.map_nil, List.cons_append, List.nil_append, List.getElem?_cons_zero, List.getElem?_cons_succ, List.getElem?_nil, List.replicate_succ, List.replicate_zero, Nat.reduceAdd, Nat.reduceSub, if_true, if_false, List.append_nil, List.set_cons_zero, List.set_cons_succ, reduceIte, Nat.reduceEqDiff, lst_d, lst_rl, lst_t, tup_d, tup_t, ix_dl, ix_rl, ix_dt, add_int, sub_int, lt_int, le_int, gt_int, ge_int, abs_int, max_int, min_int, rL_ok, rT_ok, len_dl, len_dt, len_rl, mul_int, div_int, mod_int, pow_int, atI_of, Int.reducePow, Int.reduceToNat, Int.reduceMod, Int.reduceAdd, Int.reduceSub, Int.reduceMul, Int.reduceDiv, Int.reduceLT, Int.reduceLE, decide_true, decide_false, tr_non, tr_bl, tr_int, tr_lst, tr_tup, ty_non, ty_bl, ty_int, ty_str, ty_lst, ty_tup, ty_tupm, instB, String.reduceBEq, Bool.or_true, Bool.or_false, Bool.true_or, Bool.false_or, Bool.and_true, Bool.and_false, Bool.true_and, Bool.false_and, Bool.not_true, Bool.not_false, beq_self_eq_true, pureAll, mkTup, pureAll_map, mkTup_d, List.length_append, List.length_singleton]
      by_cases z : 1000000000000000000 ≤ if c < 0 then -c else c
      · exact ⟨if c < 0 then -c else c, by split <;> omega, by simp [z]⟩
      · exact ⟨0, by omega, by simp [z]⟩
    obtain ⟨a, ha, ea⟩ := ea
    have fin : ∀ (x p : Int), 0 < p → p ≤ 2147483647 → BagOk a (x % p + 1) := fun x p h1 h2 => by
      have := nn (a := x) h1
      have := lt (a := x) h1
      exact ⟨ha, by omega, by omega⟩
    rcases (by omega : k = 0 ∨ k = 1 ∨ k = 2 ∨ k = 3) with rfl | rfl | rfl | rfl
    all_goals
      simp only [mSeq, mAsg, ea, Mini.R.thn_ok]
      simp (disch := first | omega | decide | assumption | (unfold szL; simp only [List.length_cons, List.length_nil, List.length_append, List.length_map, List.length_singleton]; omega) | (unfold szL; simp only [List.length_cons, List.length_nil, Nat.reduceAdd, Nat.reduceLeDiff])) only [mDef, mStar, mSeq, mRet, mVar, mD, mBin, mCB, mCons, mNil, mIfS, mIf, mTB, mTru, mTAnd, mTOr, mTNot, mAnd, mOr, mNot, mNeg, mChain, mExpr, mAsg, mPar, gNm, gTp, gsCons, gsNil, gSb, mTup, mLst, mNext, mNever, mBreak, mCont, mFor, mAug, mIsi, mFld, mMeth, mBM, mCM, mSlice, mPart, mNoP, mDk, mDt, mIA, mIL, mIT, mIS, mIR1, mIR2, mIZ, mIE, mLc, mLc2, mYes, mRev, mRepr, mIsiC, mHas, mEqI, mLenI, Mini.R.bind_ok, Mini.R.thn_ok, Mini.R.bind_bad, Mini.R.thn_bad, ofO, asB, rB, rN, rI, List.length_cons, List.length_nil, List.map_cons, List.map_nil, List.cons_append, List.nil_append, List.getElem?_cons_zero, List.getElem?_cons_succ, List.getElem?_nil, List.replicate_succ, List.replicate_zero, Nat.reduceAdd, Nat.reduceSub, if_true, if_false, List.append_nil, List.set_cons_zero, List.set_cons_succ, reduceIte, Nat.reduceEqDiff, lst_d, lst_rl, lst_t, tup_d, tup_t, ix_dl, ix_rl, ix_dt, add_int, sub_int, lt_int, le_int, gt_int, ge_int, abs_int, max_int, min_int, rL_ok, rT_ok, len_dl, len_dt, len_rl, mul_int, div_int, mod_int, pow_int, atI_of, Int.reducePow, Int.reduceToNat, Int.reduceMod, Int.reduceAdd, Int.reduceSub, Int.reduceMul, Int.reduceDiv, Int.reduceLT, Int.reduceLE, decide_true, decide_false, tr_non, tr_bl, tr_int, tr_lst, tr_tup, ty_non, ty_bl, ty_int, ty_str, ty_lst, ty_tup, ty_tupm, instB, String.reduceBEq, Bool.or_true, Bool.or_false, Bool.true_or, Bool.false_or, Bool.and_true, Bool.and_false, Bool.true_and, Bool.false_and, Bool.not_true, Bool.not_false, beq_self_eq_true, pureAll, mkTup, pureAll_map, mkTup_d, List.length_append, List.length_singleton]
      exact ⟨_, _, fin _ _ (by decide) (by decide), rfl⟩
  unfold m_law_bag b_law_bag
  by_cases c : k < ns.length
  · obtain ⟨L, M, ok, e⟩ := key (ns[k.toNat]'(by omega))
    refine ⟨L, M, ok, mDef_rt ?_⟩
    refine (mSeq_nx (by simp (disch := first | omega | decide | assumption | (unfold szL; simp only [List.length_cons, List.length_nil, List.length_append, List.length_map, List.length_singleton]; omega) | (unfold szL; simp only [List.length_cons, List.length_nil, Nat.reduceAdd, Nat.reduceLeDiff])) only [mDef, mStar, mSeq, mRet, mVar, mD, mBin, mCB, mCons, mNil, mIfS, mIf, mTB, mTru, mTAnd, mTOr, mTNot, mAnd, mOr, mNot, mNeg, mChain, mExpr, mAsg, mPar, gNm, gTp, gsCons, gsNil, gSb, mTup, mLst, mNext, mNever, mBreak, mCont, mFor, mAug, mIsi, mFld, mMeth, mBM, mCM, mSlice, mPart, mNoP, mDk, mDt, mIA, mIL, mIT, mIS, mIR1, mIR2, mIZ, mIE, mLc, mLc2, mYes, mRev, mRepr, mIsiC, mHas, mEqI, mLenI, Mini.R.bind_ok, Mini.R.thn_ok, Mini.R.bind_bad, Mini.R.thn_bad, ofO, asB, rB, rN, rI, List.length_cons, List.length_nil, List.map_cons, List.map_nil, List.cons_append, List.nil_append, List.getElem?_cons_zero, List.getElem?_cons_succ, List.getElem?_nil, List.replicate_succ, List.replicate_zero, Nat.reduceAdd, Nat.reduceSub, if_true, if_false, List.append_nil, List.set_cons_zero, List.set_cons_succ, reduceIte, Nat.reduceEqDiff, lst_d, lst_rl, lst_t, tup_d, tup_t, ix_dl, ix_rl, ix_dt, add_int, sub_int, lt_int, le_int, gt_int, ge_int, abs_int, max_int, min_int, rL_ok, rT_ok, len_dl, len_dt, len_rl, mul_int, div_int, mod_int, pow_int, atI_of, Int.reducePow, Int.reduceToNat, Int.reduceMod, Int.reduceAdd, Int.reduceSub, Int.reduceMul, Int.reduceDiv, Int.reduceLT, Int.reduceLE, decide_true, decide_false, tr_non, tr_bl, tr_int, tr_lst, tr_tup, ty_non, ty_bl, ty_int, ty_str, ty_lst, ty_tup, ty_tupm, instB, String.reduceBEq, Bool.or_true, Bool.or_false, Bool.true_or, Bool.false_or, Bool.and_true, Bool.and_false, Bool.true_and, Bool.false_and, Bool.not_true, Bool.not_false, beq_self_eq_true, pureAll, mkTup, pureAll_map, mkTup_d, List.length_append, List.length_singleton]; rfl)).trans ((mSeq_nx ?_).trans e)
    simp (disch := first | omega | decide | assumption | (unfold szL; simp only [List.length_cons, List.length_nil, List.length_append, List.length_map, List.length_singleton]; omega) | (unfold szL; simp only [List.length_cons, List.length_nil, Nat.reduceAdd, Nat.reduceLeDiff])) only [mDef, mStar, mSeq, mRet, mVar, mD, mBin, mCB, mCons, mNil, mIfS, mIf, mTB, mTru, mTAnd, mTOr, mTNot, mAnd, mOr, mNot, mNeg, mChain, mExpr, mAsg, mPar, gNm, gTp, gsCons, gsNil, gSb, mTup, mLst, mNext, mNever, mBreak, mCont, mFor, mAug, mIsi, mFld, mMeth, mBM, mCM, mSlice, mPart, mNoP, mDk, mDt, mIA, mIL, mIT, mIS, mIR1, mIR2, mIZ, mIE, mLc, mLc2, mYes, mRev, mRepr, mIsiC, mHas, mEqI, mLenI, Mini.R.bind_ok, Mini.R.thn_ok, Mini.R.bind_bad, Mini.R.thn_bad, ofO, asB, rB, rN, rI, List.length_cons, List.length_nil, List.map_cons, List.map_nil, List.cons_append, List.nil_append, List.getElem?_cons_zero, List.getElem?_cons_succ, List.getElem?_nil, List.replicate_succ, List.replicate_zero, Nat.reduceAdd, Nat.reduceSub, if_true, if_false, List.append_nil, List.set_cons_zero, List.set_cons_succ, reduceIte, Nat.reduceEqDiff, lst_d, lst_rl, lst_t, tup_d, tup_t, ix_dl, ix_rl, ix_dt, add_int, sub_int, lt_int, le_int, gt_int, ge_int, abs_int, max_int, min_int, rL_ok, rT_ok, len_dl, len_dt, len_rl, mul_int, div_int, mod_int, pow_int, atI_of, Int.reducePow, Int.reduceToNat, Int.reduceMod, Int.reduceAdd, Int.reduceSub, Int.reduceMul, Int.reduceDiv, Int.reduceLT, Int.reduceLE, decide_true, decide_false, tr_non, tr_bl, tr_int, tr_lst, tr_tup, ty_non, ty_bl, ty_int, ty_str, ty_lst, ty_tup, ty_tupm, instB, String.reduceBEq, Bool.or_true, Bool.or_false, Bool.true_or, Bool.false_or, Bool.and_true, Bool.and_false, Bool.true_and, Bool.false_and, Bool.not_true, Bool.not_false, beq_self_eq_true, pureAll, mkTup, pureAll_map, mkTup_d, List.length_append, List.length_singleton, c, List.getElem?_map]
    rw [List.getElem?_eq_getElem (by omega)]
    rfl
  · obtain ⟨L, M, ok, e⟩ := key 0
    refine ⟨L, M, ok, mDef_rt ?_⟩
    refine (mSeq_nx (by simp (disch := first | omega | decide | assumption | (unfold szL; simp only [List.length_cons, List.length_nil, List.length_append, List.length_map, List.length_singleton]; omega) | (unfold szL; simp only [List.length_cons, List.length_nil, Nat.reduceAdd, Nat.reduceLeDiff])) only [mDef, mStar, mSeq, mRet, mVar, mD, mBin, mCB, mCons, mNil, mIfS, mIf, mTB, mTru, mTAnd, mTOr, mTNot, mAnd, mOr, mNot, mNeg, mChain, mExpr, mAsg, mPar, gNm, gTp, gsCons, gsNil, gSb, mTup, mLst, mNext, mNever, mBreak, mCont, mFor, mAug, mIsi, mFld, mMeth, mBM, mCM, mSlice, mPart, mNoP, mDk, mDt, mIA, mIL, mIT, mIS, mIR1, mIR2, mIZ, mIE, mLc, mLc2, mYes, mRev, mRepr, mIsiC, mHas, mEqI, mLenI, Mini.R.bind_ok, Mini.R.thn_ok, Mini.R.bind_bad, Mini.R.thn_bad, ofO, asB, rB, rN, rI, List.length_cons, List.length_nil, List.map_cons, List.map_nil, List.cons_append, List.nil_append, List.getElem?_cons_zero, List.getElem?_cons_succ, List.getElem?_nil, List.replicate_succ, List.replicate_zero, Nat.reduceAdd, Nat.reduceSub, if_true, if_false, List.append_nil, List.set_cons_zero, List.set_cons_succ, reduceIte, Nat.reduceEqDiff, lst_d, lst_rl, lst_t, tup_d, tup_t, ix_dl, ix_rl, ix_dt, add_int, sub_int, lt_int, le_int, gt_int, ge_int, abs_int, max_int, min_int, rL_ok, rT_ok, len_dl, len_dt, len_rl, mul_int, div_int, mod_int, pow_int, atI_of, Int.reducePow, Int.reduceToNat, Int.reduceMod, Int.reduceAdd, Int.reduceSub, Int.reduceMul, Int.reduceDiv, Int.reduceLT, Int.reduceLE, decide_true, decide_false, tr_non, tr_bl, tr_int, tr_lst, tr_tup, ty_non, ty_bl, ty_int, ty_str, ty_lst, ty_tup, ty_tupm, instB, String.reduceBEq, Bool.or_true, Bool.or_false, Bool.true_or, Bool.false_or, Bool.and_true, Bool.and_false, Bool.true_and, Bool.false_and, Bool.not_true, Bool.not_false, beq_self_eq_true, pureAll, mkTup, pureAll_map, mkTup_d, List.length_append, List.length_singleton]; rfl)).trans ((mSeq_nx ?_).trans e)
    simp (disch := first | omega | decide | assumption | (unfold szL; simp only [List.length_cons, List.length_nil, List.length_append, List.length_map, List.length_singleton]; omega) | (unfold szL; simp only [List.length_cons, List.length_nil, Nat.reduceAdd, Nat.reduceLeDiff])) only [mDef, mStar, mSeq, mRet, mVar, mD, mBin, mCB, mCons, mNil, mIfS, mIf, mTB, mTru, mTAnd, mTOr, mTNot, mAnd, mOr, mNot, mNeg, mChain, mExpr, mAsg, mPar, gNm, gTp, gsCons, gsNil, gSb, mTup, mLst, mNext, mNever, mBreak, mCont, mFor, mAug, mIsi, mFld, mMeth, mBM, mCM, mSlice, mPart, mNoP, mDk, mDt, mIA, mIL, mIT, mIS, mIR1, mIR2, mIZ, mIE, mLc, mLc2, mYes, mRev, mRepr, mIsiC, mHas, mEqI, mLenI, Mini.R.bind_ok, Mini.R.thn_ok, Mini.R.bind_bad, Mini.R.thn_bad, ofO, asB, rB, rN, rI, List.length_cons, List.length_nil, List.map_cons, List.map_nil, List.cons_append, List.nil_append, List.getElem?_cons_zero, List.getElem?_cons_succ, List.getElem?_nil, List.replicate_succ, List.replicate_zero, Nat.reduceAdd, Nat.reduceSub, if_true, if_false, List.append_nil, List.set_cons_zero, List.set_cons_succ, reduceIte, Nat.reduceEqDiff, lst_d, lst_rl, lst_t, tup_d, tup_t, ix_dl, ix_rl, ix_dt, add_int, sub_int, lt_int, le_int, gt_int, ge_int, abs_int, max_int, min_int, rL_ok, rT_ok, len_dl, len_dt, len_rl, mul_int, div_int, mod_int, pow_int, atI_of, Int.reducePow, Int.reduceToNat, Int.reduceMod, Int.reduceAdd, Int.reduceSub, Int.reduceMul, Int.reduceDiv, Int.reduceLT, Int.reduceLE, decide_true, decide_false, tr_non, tr_bl, tr_int, tr_lst, tr_tup, ty_non, ty_bl, ty_int, ty_str, ty_lst, ty_tup, ty_tupm, instB, String.reduceBEq, Bool.or_true, Bool.or_false, Bool.true_or, Bool.false_or, Bool.and_true, Bool.and_false, Bool.true_and, Bool.false_and, Bool.not_true, Bool.not_false, beq_self_eq_true, pureAll, mkTup, pureAll_map, mkTup_d, List.length_append, List.length_singleton, c]
theorem take_eq {b : Nat} {L M n : Int} {h : MH} (hb : h[b]? = some (bagO L M)) (ok : BagOk L M) (hn : 0 < n) (hn2 : n ≤ bigJ) : ∃ d L' M', 0 ≤ d ∧ d < n ∧ BagOk L' M' ∧ m_law_take [.ref b, .d (.int n)] h = .ok (.d (.int d)) (h.set b (bagO L' M')) := by
  have hl : b < h.length := (List.getElem?_eq_some_iff.mp hb).1
  by_cases c : 0 < L
  · refine ⟨L % n, L / n, M, Int.emod_nonneg _ (by omega), Int.emod_lt_of_pos _ hn, ⟨Int.ediv_nonneg ok.l (by omega), ok.m, ok.m2⟩, ?_⟩
    unfold m_law_take
    refine frz_ds (t := []) rfl ?_
    unfold b_law_take
    simp only [mDef, mStar, mSeq, mRet, mVar, mD, mBin, mCB, mCons, mNil, mIfS, mIf, mTB, mTru, mTAnd, mTOr, mTNot, mAnd, mOr, mNot, mNeg, mChain, mExpr, mAsg, mPar, gNm, gTp, gsCons, gsNil, gSb, mTup, mLst, mNext, mNever, mBreak, mCont, mFor, mAug, mIsi, mFld, mMeth, mBM, mCM, mSlice, mPart, mNoP, mDk, mDt, mIA, mIL, mIT, mIS, mIR1, mIR2, mIZ, mIE, mLc, mLc2, mYes, mRev, mRepr, mIsiC, mHas, mEqI, mLenI, Mini.R.bind_ok, Mini.R.thn_ok, Mini.R.bind_bad, Mini.R.thn_bad, ofO, asB, rB, List.length_cons, List.length_nil, List.map_cons, List.map_nil, List.cons_append, List.nil_append, List.getElem?_cons_zero, List.getElem?_cons_succ, List.getElem?_nil, List.replicate_succ, List.replicate_zero, Nat.reduceAdd, Nat.reduceSub, if_true, if_false, List.append_nil, List.set_cons_zero, List.set_cons_succ, reduceIte, Nat.reduceEqDiff]
    simp [ix_ref hb, L2.atI, L2.ixN, ofO, c, mod_int hn, div_int ⟨hn, hn2⟩, set_l hb]
  · have c1 : 0 < (2147483647 : Int) := by decide
    have c2 : 0 < (2147483629 : Int) := by decide
    have hm1 : 0 ≤ M * 48271 % 2147483647 := Int.emod_nonneg _ (by decide)
    have hm2 : M * 48271 % 2147483647 < 2147483647 := Int.emod_lt_of_pos _ (by decide)
    refine ⟨M * 48271 % 2147483647 * 69621 % 2147483629 / 256 % n, L, M * 48271 % 2147483647, Int.emod_nonneg _ (by omega), Int.emod_lt_of_pos _ hn, ⟨ok.l, hm1, by omega⟩, ?_⟩
    have := ok.m
    have := ok.m2
    unfold m_law_take
    refine frz_ds (t := []) rfl ?_
    unfold b_law_take
    simp only [mDef, mStar, mSeq, mRet, mVar, mD, mBin, mCB, mCons, mNil, mIfS, mIf, mTB, mTru, mTAnd, mTOr, mTNot, mAnd, mOr, mNot, mNeg, mChain, mExpr, mAsg, mPar, gNm, gTp, gsCons, gsNil, gSb, mTup, mLst, mNext, mNever, mBreak, mCont, mFor, mAug, mIsi, mFld, mMeth, mBM, mCM, mSlice, mPart, mNoP, mDk, mDt, mIA, mIL, mIT, mIS, mIR1, mIR2, mIZ, mIE, mLc, mLc2, mYes, mRev, mRepr, mIsiC, mHas, mEqI, mLenI, Mini.R.bind_ok, Mini.R.thn_ok, Mini.R.bind_bad, Mini.R.thn_bad, ofO, asB, rB, List.length_cons, List.length_nil, List.map_cons, List.map_nil, List.cons_append, List.nil_append, List.getElem?_cons_zero, List.getElem?_cons_succ, List.getElem?_nil, List.replicate_succ, List.replicate_zero, Nat.reduceAdd, Nat.reduceSub, if_true, if_false, List.append_nil, List.set_cons_zero, List.set_cons_succ, reduceIte, Nat.reduceEqDiff]
    have hs : (h.set b (bagO L (M * 48271 % 2147483647)))[b]? = some (bagO L (M * 48271 % 2147483647)) := by simp [hl]
    simp [ix_ref hb, ix_ref hs, L2.atI, L2.ixN, ofO, c, mod_int hn, mod_int c1, mod_int c2, mul_int (a := M) (b := 48271) (.inr (by decide)), mul_int (a := M * 48271 % 2147483647) (b := 69621) (.inr (by decide)), pow_int (a := 16) (b := 2) (by decide), div_int (b := 256) (by decide), set_l hb]
theorem take_at {b : Nat} {L M n : Int} {h t : MH} (hb : b < h.length) (ok : BagOk L M) (hn : 0 < n) (hn2 : n ≤ bigJ) : ∃ d L' M', 0 ≤ d ∧ d < n ∧ BagOk L' M' ∧ m_law_take [.ref b, .d (.int n)] (h.set b (bagO L M) ++ t) = .ok (.d (.int d)) (h.set b (bagO L' M') ++ t) := by
  obtain ⟨d, L', M', h1, h2, h3, e⟩ := take_eq (b := b) (L := L) (M := M) (n := n) (h := h.set b (bagO L M) ++ t) (at_left (at_set hb)) ok hn hn2
  rw [set_left (by simpa using hb), List.set_set] at e
  exact ⟨d, L', M', h1, h2, h3, e⟩
def leafL : List PyData := [.int 0, .int 1, .int 2, .str "a", .str "b", .str "", .int (-1), .int 1000000000000000000000000000000000000000, .str "abcdefgh", .int (-100000000000000000000)]
theorem leaf_at {b : Nat} {L M : Int} {h t : MH} (hb : b < h.length) (ok : BagOk L M) : ∃ d L' M', d ∈ leafL ∧ BagOk L' M' ∧ m_law_leaf [.ref b] (h.set b (bagO L M) ++ t) = .ok (.d d) (h.set b (bagO L' M') ++ t) := by
  obtain ⟨d, L', M', h1, h2, h3, e⟩ := take_at (t := t ++ [.lst [.d (.int 0), .d (.int 1), .d (.int 2), .d (.str "a"), .d (.str "b"), .d (.str ""), .d (.int (-1)), .d (.int 1000000000000000000000000000000000000000), .d (.str "abcdefgh"), .d (.int (-100000000000000000000))], .lst [.d (.int 0), .d (.int 1), .d (.int 1), .d (.int 2), .d (.int 3), .d (.int 3), .d (.int 4), .d (.int 5), .d (.int 6), .d (.int 7), .d (.int 8), .d (.int 9)]]) hb ok (n := 12) (by decide) (by decide)
  have key : ∃ x, x ∈ leafL ∧ mDef 1 2 b_law_leaf [.ref b] (h.set b (bagO L M) ++ t) = .ok (.d x) (h.set b (bagO L' M') ++ (t ++ [.lst [.d (.int 0), .d (.int 1), .d (.int 2), .d (.str "a"), .d (.str "b"), .d (.str ""), .d (.int (-1)), .d (.int 1000000000000000000000000000000000000000), .d (.str "abcdefgh"), .d (.int (-100000000000000000000))], .lst [.d (.int 0), .d (.int 1), .d (.int 1), .d (.int 2), .d (.int 3), .d (.int 3), .d (.int 4), .d (.int 5), .d (.int 6), .d (.int 7), .d (.int 8), .d (.int 9)]])) := by
    unfold b_law_leaf
    simp (disch := first | omega | decide | assumption | (unfold szL; simp only [List.length_cons, List.length_nil, List.length_append, List.length_map, List.length_singleton]; omega) | (unfold szL; simp only [List.length_cons, List.length_nil, Nat.reduceAdd, Nat.reduceLeDiff])) only [mDef, mStar, mSeq, mRet, mVar, mD, mBin, mCB, mCons, mNil, mIfS, mIf, mTB, mTru, mTAnd, mTOr, mTNot, mAnd, mOr, mNot, mNeg, mChain, mExpr, mAsg, mPar, gNm, gTp, gsCons, gsNil, gSb, mTup, mLst, mNext, mNever, mBreak, mCont, mFor, mAug, mIsi, mFld, mMeth, mBM, mCM, mSlice, mPart, mNoP, mDk, mDt, mIA, mIL, mIT, mIS, mIR1, mIR2, mIZ, mIE, mLc, mLc2, mYes, mRev, mRepr, mIsiC, mHas, mEqI, mLenI, Mini.R.bind_ok, Mini.R.thn_ok, Mini.R.bind_bad, Mini.R.thn_bad, ofO, asB, rB, rN, rI, List.length_cons, List.length_nil, List.map_cons, List.map_nil, List.cons_append, List.nil_append, List.getElem?_cons_zero, List.getElem?_cons_succ, List.getElem?_nil, List.replicate_succ, List.replicate_zero, Nat.reduceAdd, Nat.reduceSub, if_true, if_false, List.append_nil, List.set_cons_zero, List.set_cons_succ, reduceIte, Nat.reduceEqDiff, lst_d, lst_rl, lst_t, tup_d, tup_t, ix_dl, ix_rl, ix_dt, add_int, sub_int, lt_int, le_int, gt_int, ge_int, abs_int, max_int, min_int, rL_ok, rT_ok, len_dl, len_dt, len_rl, mul_int, div_int, mod_int, pow_int, atI_of, Int.reducePow, Int.reduceToNat, Int.reduceMod, Int.reduceAdd, Int.reduceSub, Int.reduceMul, Int.reduceDiv, Int.reduceLT, Int.reduceLE, decide_true, decide_false, tr_non, tr_bl, tr_int, tr_lst, tr_tup, ty_non, ty_bl, ty_int, ty_str, ty_lst, ty_tup, ty_tupm, instB, String.reduceBEq, Bool.or_true, Bool.or_false, Bool.true_or, Bool.false_or, Bool.and_true, Bool.and_false, Bool.true_and, Bool.false_and, Bool.not_true, Bool.not_false, beq_self_eq_true, pureAll, mkTup, pureAll_map, mkTup_d, List.length_append, List.length_singleton, List.append_assoc, e, List.length_set]
    have i1 : (h.set b (bagO L' M') ++ (t ++ [.lst [.d (.int 0), .d (.int 1), .d (.int 2), .d (.str "a"), .d (.str "b"), .d (.str ""), .d (.int (-1)), .d (.int 1000000000000000000000000000000000000000), .d (.str "abcdefgh"), .d (.int (-100000000000000000000))], .lst [.d (.int 0), .d (.int 1), .d (.int 1), .d (.int 2), .d (.int 3), .d (.int 3), .d (.int 4), .d (.int 5), .d (.int 6), .d (.int 7), .d (.int 8), .d (.int 9)]]))[h.length + (t.length + 1)]? = some (.lst [.d (.int 0), .d (.int 1), .d (.int 1), .d (.int 2), .d (.int 3), .d (.int 3), .d (.int 4), .d (.int 5), .d (.int 6), .d (.int 7), .d (.int 8), .d (.int 9)]) := by
      rw [List.getElem?_append_right (by simp), List.getElem?_append_right (by simp)]
      simp
    have i2 : (h.set b (bagO L' M') ++ (t ++ [.lst [.d (.int 0), .d (.int 1), .d (.int 2), .d (.str "a"), .d (.str "b"), .d (.str ""), .d (.int (-1)), .d (.int 1000000000000000000000000000000000000000), .d (.str "abcdefgh"), .d (.int (-100000000000000000000))], .lst [.d (.int 0), .d (.int 1), .d (.int 1), .d (.int 2), .d (.int 3), .d (.int 3), .d (.int 4), .d (.int 5), .d (.int 6), .d (.int 7), .d (.int 8), .d (.int 9)]]))[h.length + t.length]? = some (.lst [.d (.int 0), .d (.int 1), .d (.int 2), .d (.str "a"), .d (.str "b"), .d (.str ""), .d (.int (-1)), .d (.int 1000000000000000000000000000000000000000), .d (.str "abcdefgh"), .d (.int (-100000000000000000000))]) := by
      rw [List.getElem?_append_right (by simp), List.getElem?_append_right (by simp)]
      simp
    rcases (by omega : d = 0 ∨ d = 1 ∨ d = 2 ∨ d = 3 ∨ d = 4 ∨ d = 5 ∨ d = 6 ∨ d = 7 ∨ d = 8 ∨ d = 9 ∨ d = 10 ∨ d = 11) with rfl | rfl | rfl | rfl | rfl | rfl | rfl | rfl | rfl | rfl | rfl | rfl
    all_goals
      simp (disch := first | omega | decide | assumption | (unfold szL; simp only [List.length_cons, List.length_nil, List.length_append, List.length_map, List.length_singleton]; omega) | (unfold szL; simp only [List.length_cons, List.length_nil, Nat.reduceAdd, Nat.reduceLeDiff])) only [mDef, mStar, mSeq, mRet, mVar, mD, mBin, mCB, mCons, mNil, mIfS, mIf, mTB, mTru, mTAnd, mTOr, mTNot, mAnd, mOr, mNot, mNeg, mChain, mExpr, mAsg, mPar, gNm, gTp, gsCons, gsNil, gSb, mTup, mLst, mNext, mNever, mBreak, mCont, mFor, mAug, mIsi, mFld, mMeth, mBM, mCM, mSlice, mPart, mNoP, mDk, mDt, mIA, mIL, mIT, mIS, mIR1, mIR2, mIZ, mIE, mLc, mLc2, mYes, mRev, mRepr, mIsiC, mHas, mEqI, mLenI, Mini.R.bind_ok, Mini.R.thn_ok, Mini.R.bind_bad, Mini.R.thn_bad, ofO, asB, rB, rN, rI, List.length_cons, List.length_nil, List.map_cons, List.map_nil, List.cons_append, List.nil_append, List.getElem?_cons_zero, List.getElem?_cons_succ, List.getElem?_nil, List.replicate_succ, List.replicate_zero, Nat.reduceAdd, Nat.reduceSub, if_true, if_false, List.append_nil, List.set_cons_zero, List.set_cons_succ, reduceIte, Nat.reduceEqDiff, lst_d, lst_rl, lst_t, tup_d, tup_t, ix_dl, ix_rl, ix_dt, add_int, sub_int, lt_int, le_int, gt_int, ge_int, abs_int, max_int, min_int, rL_ok, rT_ok, len_dl, len_dt, len_rl, mul_int, div_int, mod_int, pow_int, atI_of, Int.reducePow, Int.reduceToNat, Int.reduceMod, Int.reduceAdd, Int.reduceSub, Int.reduceMul, Int.reduceDiv, Int.reduceLT, Int.reduceLE, decide_true, decide_false, tr_non, tr_bl, tr_int, tr_lst, tr_tup, ty_non, ty_bl, ty_int, ty_str, ty_lst, ty_tup, ty_tupm, instB, String.reduceBEq, Bool.or_true, Bool.or_false, Bool.true_or, Bool.false_or, Bool.and_true, Bool.and_false, Bool.true_and, Bool.false_and, Bool.not_true, Bool.not_false, beq_self_eq_true, pureAll, mkTup, pureAll_map, mkTup_d, List.length_append, List.length_singleton, ix_ref i1, ix_ref i2]
      exact ⟨_, by simp [leafL], rfl⟩
  obtain ⟨x, hx, ex⟩ := key
  refine ⟨x, L', M', hx, h3, ?_⟩
  have := frz_ds (b := b) (h := h.set b (bagO L M) ++ t) (o := bagO L' M') rfl (by
    rw [set_left (by simpa using hb), List.set_set, List.append_assoc]
    exact ex)
  rw [set_left (by simpa using hb), List.set_set] at this
  exact this
/-! ### contents -/
abbrev boxD (k : Int) : PyData := .tuple [.str "box", .int k]
def ItemOk (T : Nat) (d : PyData) : Prop := d ∈ leafL ∨ ∃ k : Int, 0 ≤ k ∧ k < T ∧ d = boxD k
def RowOk (T : Nat) (row : List PyData) : Prop := row.length ≤ 3 ∧ ∀ d ∈ row, ItemOk T d
def RowsOk (T : Nat) (L : List (List PyData)) : Prop := ∀ row ∈ L, RowOk T row
def rowsO (rows : List (List PyData)) : MH := rows.map fun r => .lst (r.map .d)
def refsO (n k : Nat) : List MV := (List.range' n k).map .ref
theorem refs_succ (n k : Nat) : refsO n k ++ [.ref (n + k)] = refsO n (k + 1) := by simp [refsO, List.range'_concat]
theorem rows_succ (rows : List (List PyData)) (row : List PyData) : rowsO rows ++ [.lst (row.map .d)] = rowsO (rows ++ [row]) := by simp [rowsO]
theorem rows_len (rows : List (List PyData)) : (rowsO rows).length = rows.length := by simp [rowsO]
section
variable {A t R : MH} {o x x' : MO} {r : Nat}
theorem cat_at (e : r = A.length + t.length + 1 + R.length) : (A ++ (t ++ (o :: (R ++ [x]))))[r]? = some x := by
  have := at_last (A := A ++ t ++ (o :: R)) (o := x) (i := r) (by simp; omega)
  simpa [List.append_assoc] using this
theorem cat_set (e : r = A.length + t.length + 1 + R.length) : (A ++ (t ++ (o :: (R ++ [x])))).set r x' = A ++ (t ++ (o :: (R ++ [x']))) := by
  have := set_last (A := A ++ t ++ (o :: R)) (o := x) (o' := x') (i := r) (by simp; omega)
  simpa [List.append_assoc] using this
theorem cat_at0 (e : r = A.length + t.length) : (A ++ (t ++ (o :: R)))[r]? = some o := by
  have := at_mid (A := A ++ t) (B := R) (o := o) (i := r) (by simp; omega)
  simpa [List.append_assoc] using this
theorem cat_set0 (e : r = A.length + t.length) : (A ++ (t ++ (o :: R))).set r x' = A ++ (t ++ (x' :: R)) := by
  have := set_mid (A := A ++ t) (B := R) (o := o) (o' := x') (i := r) (by simp; omega)
  simpa [List.append_assoc] using this
end
theorem toF_rows {n N : Nat} {B : MH} {rows : List (List PyData)} (hN : N = B.length) (hn : n ≤ N) : toF n 40 (B ++ (.lst (refsO (N + 1) rows.length) :: rowsO rows)) (.ref N) = some (.list (rows.map .list)) := by
  refine toF_l hn (at_mid hN) (mapO_refs (by simp) fun k r a h1 h2 => ?_)
  rw [List.getElem?_map] at h2
  obtain ⟨row, h3, h4⟩ := Option.map_eq_some_iff.mp h2
  have hk : k < rows.length := (List.getElem?_eq_some_iff.mp h3).1
  rw [List.getElem?_range' hk] at h1
  have h5 : r = N + 1 + k := by
    have := Option.some.inj h1
    omega
  subst h4 h5
  refine toF_l (l := row.map .d) (by omega) ?_ (mapO_d row)
  rw [List.getElem?_append_right (by omega), show N + 1 + k - B.length = k + 1 by omega, List.getElem?_cons_succ]
  simp [rowsO, h3]
theorem contents_at {b : Nat} {L M most : Int} {h t : MH} (hb : b < h.length) (ok : BagOk L M) (hm : 1 ≤ most) (hm2 : most ≤ 10) :
    ∃ Lst L' M', 1 ≤ Lst.length ∧ Lst.length ≤ most ∧ RowsOk Lst.length Lst ∧ BagOk L' M' ∧ m_law_contents [.ref b, .d (.int most)] (h.set b (bagO L M) ++ t) = .ok (.d (.list (Lst.map .list))) (h.set b (bagO L' M') ++ t) := by
  obtain ⟨d, L1, M1, d0, d1, ok1, e1⟩ := take_at (t := t) hb ok (n := most) (by omega) (Int.le_trans hm2 (by decide))
  obtain ⟨T, hT⟩ : ∃ T : Nat, (T : Int) = 1 + d := ⟨(1 + d).toNat, by omega⟩
  have hlen : ∀ L M : Int, (h.set b (bagO L M)).length = h.length := fun L M => by simp
  -- the inner loop
  have inner : ∀ (k : Int) (L2 M2 : Int) (refs : List MV) (rows : List (List PyData)) (x : Option MV) (x2 : Option MV) (n : Nat), n ≤ 3 → BagOk L2 M2 → ∃ L3 M3 row y, row.length = n ∧ RowOk T row ∧ BagOk L3 M3 ∧
      forGo noChk (gNm 6) (mExpr (mBM "list" fAppend (mVar 5) (mCons (mIf (mTB (mBin fGt (mCB m_law_take (mCons (mVar 0) (mCons (mD (.int 3)) mNil))) (mD (.int 0)))) (mTup (mCons (mD (.str "box")) (mCons (mCB m_law_take (mCons (mVar 0) (mCons (mVar 2) mNil))) mNil))) (mCB m_law_leaf (mCons (mVar 0) mNil))) mNil)))
        (rng 0 n) [some (.ref b), some (.d (.int most)), some (.d (.int T)), some (.ref (h.length + t.length)), x2, some (.ref (h.length + t.length + 1 + rows.length)), x] (h.set b (bagO L2 M2) ++ (t ++ (.lst refs :: (rowsO rows ++ [.lst []])))) =
      .nx [some (.ref b), some (.d (.int most)), some (.d (.int T)), some (.ref (h.length + t.length)), x2, some (.ref (h.length + t.length + 1 + rows.length)), y] (h.set b (bagO L3 M3) ++ (t ++ (.lst refs :: (rowsO rows ++ [.lst (row.map .d)])))) := by
    intro k L2 M2 refs rows x x2 n hn ok2
    refine (forGo_inv (chk := noChk) (g := gNm 6) (b := (mExpr (mBM "list" fAppend (mVar 5) (mCons (mIf (mTB (mBin fGt (mCB m_law_take (mCons (mVar 0) (mCons (mD (.int 3)) mNil))) (mD (.int 0)))) (mTup (mCons (mD (.str "box")) (mCons (mCB m_law_take (mCons (mVar 0) (mCons (mVar 2) mNil))) mNil))) (mCB m_law_leaf (mCons (mVar 0) mNil))) mNil))))
      (fun i μ h' => ∃ L3 M3 row y, row.length = i ∧ RowOk T row ∧ BagOk L3 M3 ∧ μ = [some (.ref b), some (.d (.int most)), some (.d (.int T)), some (.ref (h.length + t.length)), x2, some (.ref (h.length + t.length + 1 + rows.length)), y] ∧ h' = h.set b (bagO L3 M3) ++ (t ++ (.lst refs :: (rowsO rows ++ [.lst (row.map .d)]))))
      (rng 0 n) 0 _ _ ⟨L2, M2, [], x, rfl, ⟨by simp, by simp⟩, ok2, rfl, rfl⟩ (fun i z μ h' hz ⟨L3, M3, row, y, hr, hro, ok3, hμ, hh⟩ => ?_) (fun _ _ _ => rfl)).elim fun μ' ⟨h', e, L3, M3, row, y, hr, hro, ok3, hμ, hh⟩ => ?_
    · refine ⟨rfl, μ.set 6 (some z), h', rfl, ?_⟩
      have hi : i < n := by
        have := (List.getElem?_eq_some_iff.mp hz).1
        simpa [rng] using this
      subst hμ hh
      obtain ⟨d2, L4, M4, q0, q1, ok4, e4⟩ := take_at (t := t ++ (.lst refs :: (rowsO rows ++ [.lst (row.map .d)]))) hb ok3 (n := 3) (by decide) (by decide)
      have it : ∀ L M : Int, isTy "list" (h.set b (bagO L M) ++ (t ++ (.lst refs :: (rowsO rows ++ [.lst (row.map .d)])))) (.ref (h.length + t.length + 1 + rows.length)) = true := fun L M => isTy_l (cat_at (by simp [rows_len]))
      have ap : ∀ (L M : Int) (v : PyData), fAppend (.ref (h.length + t.length + 1 + rows.length)) [.d v] (h.set b (bagO L M) ++ (t ++ (.lst refs :: (rowsO rows ++ [.lst (row.map .d)])))) = .ok (.d .none) (h.set b (bagO L M) ++ (t ++ (.lst refs :: (rowsO rows ++ [.lst ((row ++ [v]).map .d)])))) := fun L M v => by
        rw [app_ok (cat_at (by simp [rows_len])) (by simp [szL]; omega), cat_set (by simp [rows_len])]
        simp
      by_cases c : 0 < d2
      · obtain ⟨d3, L5, M5, r0, r1, ok5, e5⟩ := take_at (t := t ++ (.lst refs :: (rowsO rows ++ [.lst (row.map .d)]))) hb ok4 (n := T) (by omega) (Int.le_trans (by omega : (T : Int) ≤ 10) (by decide))
        refine ⟨_, _, .inl ?_, L5, M5, row ++ [boxD d3], some z, by simp; omega, ⟨by simp; omega, fun v hv => ?_⟩, ok5, rfl, rfl⟩
        · simp (disch := first | omega | decide | assumption | (unfold szL; simp only [List.length_cons, List.length_nil, List.length_append, List.length_map, List.length_singleton]; omega) | (unfold szL; simp only [List.length_cons, List.length_nil, Nat.reduceAdd, Nat.reduceLeDiff])) only [mDef, mStar, mSeq, mRet, mVar, mD, mBin, mCB, mCons, mNil, mIfS, mIf, mTB, mTru, mTAnd, mTOr, mTNot, mAnd, mOr, mNot, mNeg, mChain, mExpr, mAsg, mPar, gNm, gTp, gsCons, gsNil, gSb, mTup, mLst, mNext, mNever, mBreak, mCont, mFor, mAug, mIsi, mFld, mMeth, mBM, mCM, mSlice, mPart, mNoP, mDk, mDt, mIA, mIL, mIT, mIS, mIR1, mIR2, mIZ, mIE, mLc, mLc2, mYes, mRev, mRepr, mIsiC, mHas, mEqI, mLenI, Mini.R.bind_ok, Mini.R.thn_ok, Mini.R.bind_bad, Mini.R.thn_bad, ofO, asB, rB, rN, rI, List.length_cons, List.length_nil, List.map_cons, List.map_nil, List.cons_append, List.nil_append, List.getElem?_cons_zero, List.getElem?_cons_succ, List.getElem?_nil, List.replicate_succ, List.replicate_zero, Nat.reduceAdd, Nat.reduceSub, if_true, if_false, List.append_nil, List.set_cons_zero, List.set_cons_succ, reduceIte, Nat.reduceEqDiff, lst_d, lst_rl, lst_t, tup_d, tup_t, ix_dl, ix_rl, ix_dt, add_int, sub_int, lt_int, le_int, gt_int, ge_int, abs_int, max_int, min_int, rL_ok, rT_ok, len_dl, len_dt, len_rl, mul_int, div_int, mod_int, pow_int, atI_of, Int.reducePow, Int.reduceToNat, Int.reduceMod, Int.reduceAdd, Int.reduceSub, Int.reduceMul, Int.reduceDiv, Int.reduceLT, Int.reduceLE, decide_true, decide_false, tr_non, tr_bl, tr_int, tr_lst, tr_tup, ty_non, ty_bl, ty_int, ty_str, ty_lst, ty_tup, ty_tupm, instB, String.reduceBEq, Bool.or_true, Bool.or_false, Bool.true_or, Bool.false_or, Bool.and_true, Bool.and_false, Bool.true_and, Bool.false_and, Bool.not_true, Bool.not_false, beq_self_eq_true, pureAll, mkTup, pureAll_map, mkTup_d, List.length_append, List.length_singleton, it, e4, e5, c, ap]
        · rcases List.mem_append.mp hv with q | q
          · exact hro.2 v q
          · exact .inr ⟨d3, r0, r1, by simpa using q⟩
      · obtain ⟨d3, L5, M5, r0, ok5, e5⟩ := leaf_at (t := t ++ (.lst refs :: (rowsO rows ++ [.lst (row.map .d)]))) hb ok4
        refine ⟨_, _, .inl ?_, L5, M5, row ++ [d3], some z, by simp; omega, ⟨by simp; omega, fun v hv => ?_⟩, ok5, rfl, rfl⟩
        · simp (disch := first | omega | decide | assumption | (unfold szL; simp only [List.length_cons, List.length_nil, List.length_append, List.length_map, List.length_singleton]; omega) | (unfold szL; simp only [List.length_cons, List.length_nil, Nat.reduceAdd, Nat.reduceLeDiff])) only [mDef, mStar, mSeq, mRet, mVar, mD, mBin, mCB, mCons, mNil, mIfS, mIf, mTB, mTru, mTAnd, mTOr, mTNot, mAnd, mOr, mNot, mNeg, mChain, mExpr, mAsg, mPar, gNm, gTp, gsCons, gsNil, gSb, mTup, mLst, mNext, mNever, mBreak, mCont, mFor, mAug, mIsi, mFld, mMeth, mBM, mCM, mSlice, mPart, mNoP, mDk, mDt, mIA, mIL, mIT, mIS, mIR1, mIR2, mIZ, mIE, mLc, mLc2, mYes, mRev, mRepr, mIsiC, mHas, mEqI, mLenI, Mini.R.bind_ok, Mini.R.thn_ok, Mini.R.bind_bad, Mini.R.thn_bad, ofO, asB, rB, rN, rI, List.length_cons, List.length_nil, List.map_cons, List.map_nil, List.cons_append, List.nil_append, List.getElem?_cons_zero, List.getElem?_cons_succ, List.getElem?_nil, List.replicate_succ, List.replicate_zero, Nat.reduceAdd, Nat.reduceSub, if_true, if_false, List.append_nil, List.set_cons_zero, List.set_cons_succ, reduceIte, Nat.reduceEqDiff, lst_d, lst_rl, lst_t, tup_d, tup_t, ix_dl, ix_rl, ix_dt, add_int, sub_int, lt_int, le_int, gt_int, ge_int, abs_int, max_int, min_int, rL_ok, rT_ok, len_dl, len_dt, len_rl, mul_int, div_int, mod_int, pow_int, atI_of, Int.reducePow, Int.reduceToNat, Int.reduceMod, Int.reduceAdd, Int.reduceSub, Int.reduceMul, Int.reduceDiv, Int.reduceLT, Int.reduceLE, decide_true, decide_false, tr_non, tr_bl, tr_int, tr_lst, tr_tup, ty_non, ty_bl, ty_int, ty_str, ty_lst, ty_tup, ty_tupm, instB, String.reduceBEq, Bool.or_true, Bool.or_false, Bool.true_or, Bool.false_or, Bool.and_true, Bool.and_false, Bool.true_and, Bool.false_and, Bool.not_true, Bool.not_false, beq_self_eq_true, pureAll, mkTup, pureAll_map, mkTup_d, List.length_append, List.length_singleton, it, e4, e5, c, ap]
        · rcases List.mem_append.mp hv with q | q
          · exact hro.2 v q
          · exact .inl (by simpa using (List.mem_singleton.mp q) ▸ r0)
    · have hl : (rng 0 n).length = n := by simp [rng]
      rw [hl, Nat.zero_add] at hr
      exact ⟨L3, M3, row, y, hr, hro, ok3, e.trans (by rw [hμ, hh])⟩
  -- the outer loop
  have outer : ∃ L3 M3 rows k row turn, rows.length = T ∧ RowsOk T rows ∧ BagOk L3 M3 ∧
      forGo noChk (gNm 4) (mSeq (mAsg (mLst mNil) (gNm 5))
    (mSeq (mFor (mIR1 (mCB m_law_take (mCons (mVar 0) (mCons (mD (.int 4)) mNil)))) (gNm 6) (mExpr (mBM "list" fAppend (mVar 5) (mCons (mIf (mTB (mBin fGt (mCB m_law_take (mCons (mVar 0) (mCons (mD (.int 3)) mNil))) (mD (.int 0)))) (mTup (mCons (mD (.str "box")) (mCons (mCB m_law_take (mCons (mVar 0) (mCons (mVar 2) mNil))) mNil))) (mCB m_law_leaf (mCons (mVar 0) mNil))) mNil))))
    (mExpr (mBM "list" fAppend (mVar 3) (mCons (mVar 5) mNil)))))
        (rng 0 T) [some (.ref b), some (.d (.int most)), some (.d (.int T)), some (.ref (h.length + t.length)), none, none, none] (h.set b (bagO L1 M1) ++ (t ++ [.lst []])) =
      .nx [some (.ref b), some (.d (.int most)), some (.d (.int T)), some (.ref (h.length + t.length)), k, row, turn] (h.set b (bagO L3 M3) ++ (t ++ (.lst (refsO (h.length + t.length + 1) rows.length) :: rowsO rows))) := by
    refine (forGo_inv (chk := noChk) (g := gNm 4) (b := (mSeq (mAsg (mLst mNil) (gNm 5))
    (mSeq (mFor (mIR1 (mCB m_law_take (mCons (mVar 0) (mCons (mD (.int 4)) mNil)))) (gNm 6) (mExpr (mBM "list" fAppend (mVar 5) (mCons (mIf (mTB (mBin fGt (mCB m_law_take (mCons (mVar 0) (mCons (mD (.int 3)) mNil))) (mD (.int 0)))) (mTup (mCons (mD (.str "box")) (mCons (mCB m_law_take (mCons (mVar 0) (mCons (mVar 2) mNil))) mNil))) (mCB m_law_leaf (mCons (mVar 0) mNil))) mNil))))
    (mExpr (mBM "list" fAppend (mVar 3) (mCons (mVar 5) mNil))))))
      (fun i μ h' => ∃ L3 M3 rows k row turn, rows.length = i ∧ RowsOk T rows ∧ BagOk L3 M3 ∧ μ = [some (.ref b), some (.d (.int most)), some (.d (.int T)), some (.ref (h.length + t.length)), k, row, turn] ∧ h' = h.set b (bagO L3 M3) ++ (t ++ (.lst (refsO (h.length + t.length + 1) rows.length) :: rowsO rows)))
      (rng 0 T) 0 [some (.ref b), some (.d (.int most)), some (.d (.int T)), some (.ref (h.length + t.length)), none, none, none] (h.set b (bagO L1 M1) ++ (t ++ [.lst []])) ⟨L1, M1, [], none, none, none, rfl, fun _ h => by simp at h, ok1, rfl, rfl⟩ (fun i z μ h' hz ⟨L3, M3, rows, k, row, turn, hr, hro, ok3, hμ, hh⟩ => ?_) (fun _ _ _ => rfl)).elim fun μ' ⟨h', e, L3, M3, rows, k, row, turn, hr, hro, ok3, hμ, hh⟩ => ?_
    · have hi : i < T := by
        have := (List.getElem?_eq_some_iff.mp hz).1
        simpa [rng] using this
      refine ⟨rfl, _, _, rfl, ?_⟩
      subst hμ hh
      obtain ⟨d2, L4, M4, q0, q1, ok4, e4⟩ := take_at (t := t ++ (.lst (refsO (h.length + t.length + 1) rows.length) :: (rowsO rows ++ [.lst []]))) hb ok3 (n := 4) (by decide) (by decide)
      obtain ⟨L5, M5, rw5, y, hr5, hro5, ok5, e5⟩ := inner 0 L4 M4 (refsO (h.length + t.length + 1) rows.length) rows turn (some z) d2.toNat (by omega) ok4
      refine ⟨[some (.ref b), some (.d (.int most)), some (.d (.int T)), some (.ref (h.length + t.length)), some z, some (.ref (h.length + t.length + 1 + rows.length)), y], h.set b (bagO L5 M5) ++ (t ++ (.lst (refsO (h.length + t.length + 1) (rows ++ [rw5]).length) :: rowsO (rows ++ [rw5]))), .inl ?_, L5, M5, rows ++ [rw5], some z, _, y, by simp; omega, fun r hr' => ?_, ok5, rfl, rfl⟩
      · have s1 : (mAsg (mLst mNil) (gNm 5)) ([some (.ref b), some (.d (.int most)), some (.d (.int T)), some (.ref (h.length + t.length)), k, row, turn].set 4 (some z)) (h.set b (bagO L3 M3) ++ (t ++ (.lst (refsO (h.length + t.length + 1) rows.length) :: rowsO rows))) = .nx [some (.ref b), some (.d (.int most)), some (.d (.int T)), some (.ref (h.length + t.length)), some z, some (.ref (h.length + t.length + 1 + rows.length)), turn] (h.set b (bagO L3 M3) ++ (t ++ (.lst (refsO (h.length + t.length + 1) rows.length) :: (rowsO rows ++ [.lst []])))) := by
          simp (disch := first | omega | decide | assumption | (unfold szL; simp only [List.length_cons, List.length_nil, List.length_append, List.length_map, List.length_singleton]; omega) | (unfold szL; simp only [List.length_cons, List.length_nil, Nat.reduceAdd, Nat.reduceLeDiff])) only [mDef, mStar, mSeq, mRet, mVar, mD, mBin, mCB, mCons, mNil, mIfS, mIf, mTB, mTru, mTAnd, mTOr, mTNot, mAnd, mOr, mNot, mNeg, mChain, mExpr, mAsg, mPar, gNm, gTp, gsCons, gsNil, gSb, mTup, mLst, mNext, mNever, mBreak, mCont, mFor, mAug, mIsi, mFld, mMeth, mBM, mCM, mSlice, mPart, mNoP, mDk, mDt, mIA, mIL, mIT, mIS, mIR1, mIR2, mIZ, mIE, mLc, mLc2, mYes, mRev, mRepr, mIsiC, mHas, mEqI, mLenI, Mini.R.bind_ok, Mini.R.thn_ok, Mini.R.bind_bad, Mini.R.thn_bad, ofO, asB, rB, rN, rI, List.length_cons, List.length_nil, List.map_cons, List.map_nil, List.cons_append, List.nil_append, List.getElem?_cons_zero, List.getElem?_cons_succ, List.getElem?_nil, List.replicate_succ, List.replicate_zero, Nat.reduceAdd, Nat.reduceSub, if_true, if_false, List.append_nil, List.set_cons_zero, List.set_cons_succ, reduceIte, Nat.reduceEqDiff, lst_d, lst_rl, lst_t, tup_d, tup_t, ix_dl, ix_rl, ix_dt, add_int, sub_int, lt_int, le_int, gt_int, ge_int, abs_int, max_int, min_int, rL_ok, rT_ok, len_dl, len_dt, len_rl, mul_int, div_int, mod_int, pow_int, atI_of, Int.reducePow, Int.reduceToNat, Int.reduceMod, Int.reduceAdd, Int.reduceSub, Int.reduceMul, Int.reduceDiv, Int.reduceLT, Int.reduceLE, decide_true, decide_false, tr_non, tr_bl, tr_int, tr_lst, tr_tup, ty_non, ty_bl, ty_int, ty_str, ty_lst, ty_tup, ty_tupm, instB, String.reduceBEq, Bool.or_true, Bool.or_false, Bool.true_or, Bool.false_or, Bool.and_true, Bool.and_false, Bool.true_and, Bool.false_and, Bool.not_true, Bool.not_false, beq_self_eq_true, pureAll, mkTup, pureAll_map, mkTup_d, List.length_append, List.length_singleton]
          simp [rows_len]; omega
        refine (mSeq_nx s1).trans ?_
        have s2 : (mFor (mIR1 (mCB m_law_take (mCons (mVar 0) (mCons (mD (.int 4)) mNil)))) (gNm 6) (mExpr (mBM "list" fAppend (mVar 5) (mCons (mIf (mTB (mBin fGt (mCB m_law_take (mCons (mVar 0) (mCons (mD (.int 3)) mNil))) (mD (.int 0)))) (mTup (mCons (mD (.str "box")) (mCons (mCB m_law_take (mCons (mVar 0) (mCons (mVar 2) mNil))) mNil))) (mCB m_law_leaf (mCons (mVar 0) mNil))) mNil)))) [some (.ref b), some (.d (.int most)), some (.d (.int T)), some (.ref (h.length + t.length)), some z, some (.ref (h.length + t.length + 1 + rows.length)), turn] (h.set b (bagO L3 M3) ++ (t ++ (.lst (refsO (h.length + t.length + 1) rows.length) :: (rowsO rows ++ [.lst []])))) = .nx [some (.ref b), some (.d (.int most)), some (.d (.int T)), some (.ref (h.length + t.length)), some z, some (.ref (h.length + t.length + 1 + rows.length)), y] (h.set b (bagO L5 M5) ++ (t ++ (.lst (refsO (h.length + t.length + 1) rows.length) :: (rowsO rows ++ [.lst (rw5.map .d)])))) := by
          have e0 : (mIR1 (mCB m_law_take (mCons (mVar 0) (mCons (mD (.int 4)) mNil)))) [some (.ref b), some (.d (.int most)), some (.d (.int T)), some (.ref (h.length + t.length)), some z, some (.ref (h.length + t.length + 1 + rows.length)), turn] (h.set b (bagO L3 M3) ++ (t ++ (.lst (refsO (h.length + t.length + 1) rows.length) :: (rowsO rows ++ [.lst []])))) = .ok (rng 0 d2.toNat, noChk) (h.set b (bagO L4 M4) ++ (t ++ (.lst (refsO (h.length + t.length + 1) rows.length) :: (rowsO rows ++ [.lst []])))) := by
            simp (disch := first | omega | decide | assumption | (unfold szL; simp only [List.length_cons, List.length_nil, List.length_append, List.length_map, List.length_singleton]; omega) | (unfold szL; simp only [List.length_cons, List.length_nil, Nat.reduceAdd, Nat.reduceLeDiff])) only [mDef, mStar, mSeq, mRet, mVar, mD, mBin, mCB, mCons, mNil, mIfS, mIf, mTB, mTru, mTAnd, mTOr, mTNot, mAnd, mOr, mNot, mNeg, mChain, mExpr, mAsg, mPar, gNm, gTp, gsCons, gsNil, gSb, mTup, mLst, mNext, mNever, mBreak, mCont, mFor, mAug, mIsi, mFld, mMeth, mBM, mCM, mSlice, mPart, mNoP, mDk, mDt, mIA, mIL, mIT, mIS, mIR1, mIR2, mIZ, mIE, mLc, mLc2, mYes, mRev, mRepr, mIsiC, mHas, mEqI, mLenI, Mini.R.bind_ok, Mini.R.thn_ok, Mini.R.bind_bad, Mini.R.thn_bad, ofO, asB, rB, rN, rI, List.length_cons, List.length_nil, List.map_cons, List.map_nil, List.cons_append, List.nil_append, List.getElem?_cons_zero, List.getElem?_cons_succ, List.getElem?_nil, List.replicate_succ, List.replicate_zero, Nat.reduceAdd, Nat.reduceSub, if_true, if_false, List.append_nil, List.set_cons_zero, List.set_cons_succ, reduceIte, Nat.reduceEqDiff, lst_d, lst_rl, lst_t, tup_d, tup_t, ix_dl, ix_rl, ix_dt, add_int, sub_int, lt_int, le_int, gt_int, ge_int, abs_int, max_int, min_int, rL_ok, rT_ok, len_dl, len_dt, len_rl, mul_int, div_int, mod_int, pow_int, atI_of, Int.reducePow, Int.reduceToNat, Int.reduceMod, Int.reduceAdd, Int.reduceSub, Int.reduceMul, Int.reduceDiv, Int.reduceLT, Int.reduceLE, decide_true, decide_false, tr_non, tr_bl, tr_int, tr_lst, tr_tup, ty_non, ty_bl, ty_int, ty_str, ty_lst, ty_tup, ty_tupm, instB, String.reduceBEq, Bool.or_true, Bool.or_false, Bool.true_or, Bool.false_or, Bool.and_true, Bool.and_false, Bool.true_and, Bool.false_and, Bool.not_true, Bool.not_false, beq_self_eq_true, pureAll, mkTup, pureAll_map, mkTup_d, List.length_append, List.length_singleton, e4]
            rw [if_pos (by omega)]
          unfold mFor
          rw [e0]
          simp only [Mini.R.thn_ok]
          exact e5
        refine (mSeq_nx s2).trans ?_
        have it : isTy "list" (h.set b (bagO L5 M5) ++ (t ++ (.lst (refsO (h.length + t.length + 1) rows.length) :: (rowsO rows ++ [.lst (rw5.map .d)])))) (.ref (h.length + t.length)) = true := isTy_l (cat_at0 (by simp))
        have ap : fAppend (.ref (h.length + t.length)) [.ref (h.length + t.length + 1 + rows.length)] (h.set b (bagO L5 M5) ++ (t ++ (.lst (refsO (h.length + t.length + 1) rows.length) :: (rowsO rows ++ [.lst (rw5.map .d)])))) = .ok (.d .none) (h.set b (bagO L5 M5) ++ (t ++ (.lst (refsO (h.length + t.length + 1) (rows ++ [rw5]).length) :: rowsO (rows ++ [rw5])))) := by
          rw [app_ok (cat_at0 (by simp)) (by simp [szL, refsO]; omega), cat_set0 (by simp), refs_succ, rows_succ]
          simp
        simp (disch := first | omega | decide | assumption | (unfold szL; simp only [List.length_cons, List.length_nil, List.length_append, List.length_map, List.length_singleton]; omega) | (unfold szL; simp only [List.length_cons, List.length_nil, Nat.reduceAdd, Nat.reduceLeDiff])) only [mDef, mStar, mSeq, mRet, mVar, mD, mBin, mCB, mCons, mNil, mIfS, mIf, mTB, mTru, mTAnd, mTOr, mTNot, mAnd, mOr, mNot, mNeg, mChain, mExpr, mAsg, mPar, gNm, gTp, gsCons, gsNil, gSb, mTup, mLst, mNext, mNever, mBreak, mCont, mFor, mAug, mIsi, mFld, mMeth, mBM, mCM, mSlice, mPart, mNoP, mDk, mDt, mIA, mIL, mIT, mIS, mIR1, mIR2, mIZ, mIE, mLc, mLc2, mYes, mRev, mRepr, mIsiC, mHas, mEqI, mLenI, Mini.R.bind_ok, Mini.R.thn_ok, Mini.R.bind_bad, Mini.R.thn_bad, ofO, asB, rB, rN, rI, List.length_cons, List.length_nil, List.map_cons, List.map_nil, List.cons_append, List.nil_append, List.getElem?_cons_zero, List.getElem?_cons_succ, List.getElem?_nil, List.replicate_succ, List.replicate_zero, Nat.reduceAdd, Nat.reduceSub, if_true, if_false, List.append_nil, List.set_cons_zero, List.set_cons_succ, reduceIte, Nat.reduceEqDiff, lst_d, lst_rl, lst_t, tup_d, tup_t, ix_dl, ix_rl, ix_dt, add_int, sub_int, lt_int, le_int, gt_int, ge_int, abs_int, max_int, min_int, rL_ok, rT_ok, len_dl, len_dt, len_rl, mul_int, div_int, mod_int, pow_int, atI_of, Int.reducePow, Int.reduceToNat, Int.reduceMod, Int.reduceAdd, Int.reduceSub, Int.reduceMul, Int.reduceDiv, Int.reduceLT, Int.reduceLE, decide_true, decide_false, tr_non, tr_bl, tr_int, tr_lst, tr_tup, ty_non, ty_bl, ty_int, ty_str, ty_lst, ty_tup, ty_tupm, instB, String.reduceBEq, Bool.or_true, Bool.or_false, Bool.true_or, Bool.false_or, Bool.and_true, Bool.and_false, Bool.true_and, Bool.false_and, Bool.not_true, Bool.not_false, beq_self_eq_true, pureAll, mkTup, pureAll_map, mkTup_d, List.length_append, List.length_singleton, it, ap]
      · rcases List.mem_append.mp hr' with q | q
        · exact hro r q
        · rw [List.mem_singleton.mp q]; exact hro5
    · have hl : (rng 0 T).length = T := by simp [rng]
      rw [hl, Nat.zero_add] at hr
      exact ⟨L3, M3, rows, k, row, turn, hr, hro, ok3, e.trans (by rw [hμ, hh])⟩
  obtain ⟨L3, M3, rows, k, row, turn, hr, hro, ok3, eo⟩ := outer
  have hT0 : 1 ≤ T := by omega
  refine ⟨rows, L3, M3, by omega, by omega, by rw [hr]; exact hro, ok3, ?_⟩
  have body : mDef 2 7 b_law_contents [.ref b, .d (.int most)] (h.set b (bagO L M) ++ t) = .ok (.ref (h.length + t.length)) (h.set b (bagO L3 M3) ++ (t ++ (.lst (refsO (h.length + t.length + 1) rows.length) :: rowsO rows))) := by
    unfold b_law_contents
    refine mDef_rt ((mSeq_nx (μ' := [some (.ref b), some (.d (.int most)), some (.d (.int T)), some (.ref (h.length + t.length)), none, none, none]) (h' := h.set b (bagO L1 M1) ++ (t ++ [.lst []])) ?_).trans ((mSeq_nx (μ' := [some (.ref b), some (.d (.int most)), some (.d (.int T)), some (.ref (h.length + t.length)), k, row, turn]) (h' := h.set b (bagO L3 M3) ++ (t ++ (.lst (refsO (h.length + t.length + 1) rows.length) :: rowsO rows))) ?_).trans ?_))
    · simp (disch := first | omega | decide | assumption | (unfold szL; simp only [List.length_cons, List.length_nil, List.length_append, List.length_map, List.length_singleton]; omega) | (unfold szL; simp only [List.length_cons, List.length_nil, Nat.reduceAdd, Nat.reduceLeDiff])) only [mDef, mStar, mSeq, mRet, mVar, mD, mBin, mCB, mCons, mNil, mIfS, mIf, mTB, mTru, mTAnd, mTOr, mTNot, mAnd, mOr, mNot, mNeg, mChain, mExpr, mAsg, mPar, gNm, gTp, gsCons, gsNil, gSb, mTup, mLst, mNext, mNever, mBreak, mCont, mFor, mAug, mIsi, mFld, mMeth, mBM, mCM, mSlice, mPart, mNoP, mDk, mDt, mIA, mIL, mIT, mIS, mIR1, mIR2, mIZ, mIE, mLc, mLc2, mYes, mRev, mRepr, mIsiC, mHas, mEqI, mLenI, Mini.R.bind_ok, Mini.R.thn_ok, Mini.R.bind_bad, Mini.R.thn_bad, ofO, asB, rB, rN, rI, List.length_cons, List.length_nil, List.map_cons, List.map_nil, List.cons_append, List.nil_append, List.getElem?_cons_zero, List.getElem?_cons_succ, List.getElem?_nil, List.replicate_succ, List.replicate_zero, Nat.reduceAdd, Nat.reduceSub, if_true, if_false, List.append_nil, List.set_cons_zero, List.set_cons_succ, reduceIte, Nat.reduceEqDiff, lst_d, lst_rl, lst_t, tup_d, tup_t, ix_dl, ix_rl, ix_dt, add_int, sub_int, lt_int, le_int, gt_int, ge_int, abs_int, max_int, min_int, rL_ok, rT_ok, len_dl, len_dt, len_rl, mul_int, div_int, mod_int, pow_int, atI_of, Int.reducePow, Int.reduceToNat, Int.reduceMod, Int.reduceAdd, Int.reduceSub, Int.reduceMul, Int.reduceDiv, Int.reduceLT, Int.reduceLE, decide_true, decide_false, tr_non, tr_bl, tr_int, tr_lst, tr_tup, ty_non, ty_bl, ty_int, ty_str, ty_lst, ty_tup, ty_tupm, instB, String.reduceBEq, Bool.or_true, Bool.or_false, Bool.true_or, Bool.false_or, Bool.and_true, Bool.and_false, Bool.true_and, Bool.false_and, Bool.not_true, Bool.not_false, beq_self_eq_true, pureAll, mkTup, pureAll_map, mkTup_d, List.length_append, List.length_singleton, e1]
      simp [hT]
    · have e0 : (mIR1 (mVar 2)) [some (.ref b), some (.d (.int most)), some (.d (.int T)), some (.ref (h.length + t.length)), none, none, none] (h.set b (bagO L1 M1) ++ (t ++ [.lst []])) = .ok (rng 0 T, noChk) (h.set b (bagO L1 M1) ++ (t ++ [.lst []])) := by
        simp (disch := first | omega | decide | assumption | (unfold szL; simp only [List.length_cons, List.length_nil, List.length_append, List.length_map, List.length_singleton]; omega) | (unfold szL; simp only [List.length_cons, List.length_nil, Nat.reduceAdd, Nat.reduceLeDiff])) only [mDef, mStar, mSeq, mRet, mVar, mD, mBin, mCB, mCons, mNil, mIfS, mIf, mTB, mTru, mTAnd, mTOr, mTNot, mAnd, mOr, mNot, mNeg, mChain, mExpr, mAsg, mPar, gNm, gTp, gsCons, gsNil, gSb, mTup, mLst, mNext, mNever, mBreak, mCont, mFor, mAug, mIsi, mFld, mMeth, mBM, mCM, mSlice, mPart, mNoP, mDk, mDt, mIA, mIL, mIT, mIS, mIR1, mIR2, mIZ, mIE, mLc, mLc2, mYes, mRev, mRepr, mIsiC, mHas, mEqI, mLenI, Mini.R.bind_ok, Mini.R.thn_ok, Mini.R.bind_bad, Mini.R.thn_bad, ofO, asB, rB, rN, rI, List.length_cons, List.length_nil, List.map_cons, List.map_nil, List.cons_append, List.nil_append, List.getElem?_cons_zero, List.getElem?_cons_succ, List.getElem?_nil, List.replicate_succ, List.replicate_zero, Nat.reduceAdd, Nat.reduceSub, if_true, if_false, List.append_nil, List.set_cons_zero, List.set_cons_succ, reduceIte, Nat.reduceEqDiff, lst_d, lst_rl, lst_t, tup_d, tup_t, ix_dl, ix_rl, ix_dt, add_int, sub_int, lt_int, le_int, gt_int, ge_int, abs_int, max_int, min_int, rL_ok, rT_ok, len_dl, len_dt, len_rl, mul_int, div_int, mod_int, pow_int, atI_of, Int.reducePow, Int.reduceToNat, Int.reduceMod, Int.reduceAdd, Int.reduceSub, Int.reduceMul, Int.reduceDiv, Int.reduceLT, Int.reduceLE, decide_true, decide_false, tr_non, tr_bl, tr_int, tr_lst, tr_tup, ty_non, ty_bl, ty_int, ty_str, ty_lst, ty_tup, ty_tupm, instB, String.reduceBEq, Bool.or_true, Bool.or_false, Bool.true_or, Bool.false_or, Bool.and_true, Bool.and_false, Bool.true_and, Bool.false_and, Bool.not_true, Bool.not_false, beq_self_eq_true, pureAll, mkTup, pureAll_map, mkTup_d, List.length_append, List.length_singleton]
        rw [if_pos (by omega)]
        simp
      unfold mFor
      rw [e0]
      simp only [Mini.R.thn_ok]
      exact eo
    · simp (disch := first | omega | decide | assumption | (unfold szL; simp only [List.length_cons, List.length_nil, List.length_append, List.length_map, List.length_singleton]; omega) | (unfold szL; simp only [List.length_cons, List.length_nil, Nat.reduceAdd, Nat.reduceLeDiff])) only [mDef, mStar, mSeq, mRet, mVar, mD, mBin, mCB, mCons, mNil, mIfS, mIf, mTB, mTru, mTAnd, mTOr, mTNot, mAnd, mOr, mNot, mNeg, mChain, mExpr, mAsg, mPar, gNm, gTp, gsCons, gsNil, gSb, mTup, mLst, mNext, mNever, mBreak, mCont, mFor, mAug, mIsi, mFld, mMeth, mBM, mCM, mSlice, mPart, mNoP, mDk, mDt, mIA, mIL, mIT, mIS, mIR1, mIR2, mIZ, mIE, mLc, mLc2, mYes, mRev, mRepr, mIsiC, mHas, mEqI, mLenI, Mini.R.bind_ok, Mini.R.thn_ok, Mini.R.bind_bad, Mini.R.thn_bad, ofO, asB, rB, rN, rI, List.length_cons, List.length_nil, List.map_cons, List.map_nil, List.cons_append, List.nil_append, List.getElem?_cons_zero, List.getElem?_cons_succ, List.getElem?_nil, List.replicate_succ, List.replicate_zero, Nat.reduceAdd, Nat.reduceSub, if_true, if_false, List.append_nil, List.set_cons_zero, List.set_cons_succ, reduceIte, Nat.reduceEqDiff, lst_d, lst_rl, lst_t, tup_d, tup_t, ix_dl, ix_rl, ix_dt, add_int, sub_int, lt_int, le_int, gt_int, ge_int, abs_int, max_int, min_int, rL_ok, rT_ok, len_dl, len_dt, len_rl, mul_int, div_int, mod_int, pow_int, atI_of, Int.reducePow, Int.reduceToNat, Int.reduceMod, Int.reduceAdd, Int.reduceSub, Int.reduceMul, Int.reduceDiv, Int.reduceLT, Int.reduceLE, decide_true, decide_false, tr_non, tr_bl, tr_int, tr_lst, tr_tup, ty_non, ty_bl, ty_int, ty_str, ty_lst, ty_tup, ty_tupm, instB, String.reduceBEq, Bool.or_true, Bool.or_false, Bool.true_or, Bool.false_or, Bool.and_true, Bool.and_false, Bool.true_and, Bool.false_and, Bool.not_true, Bool.not_false, beq_self_eq_true, pureAll, mkTup, pureAll_map, mkTup_d, List.length_append, List.length_singleton]
  have := frz_ls (m := mDef 2 7 b_law_contents) (us := [.ref b, .d (.int most)]) (h := h.set b (bagO L M) ++ t) (b := b) (o := bagO L3 M3) (t := .lst (refsO (h.length + t.length + 1) rows.length) :: rowsO rows) (i := h.length + t.length) (p := .list (rows.map .list)) rfl (by
    rw [set_left (by simpa using hb), List.set_set, List.append_assoc]
    exact body) (by simp) (toF_rows (by simp) (by simp))
  rw [set_left (by simpa using hb), List.set_set] at this
  exact this
end Law
namespace Law
open Mini
open PySem (PyData Str)
/-! ### twofold -/
def tw_in : MS := (mSeq (mIfS (mTAnd (mTru (mIsi "tuple" (mVar 7))) (mTB (mBin fGt (mCB m_law_take (mCons (mVar 0) (mCons (mD (.int 8)) mNil))) (mD (.int 0))))) (mAsg (mTup (mCons (mD (.str "box")) (mCons (mBin fAdd (mBin fIx (mVar 7) (mD (.int 1))) (mVar 3)) mNil))) (gNm 7)) mNext)
    (mExpr (mBM "list" fAppend (mVar 6) (mCons (mVar 7) mNil))))
def tw_out : MS := (mSeq (mAsg (mLst mNil) (gNm 6)) (mSeq (mFor (mIA (mVar 5)) (gNm 7) tw_in) (mExpr (mBM "list" fAppend (mVar 4) (mCons (mVar 6) mNil)))))
def tw_if : MS := (mIfS (mTAnd (mTB (mBin (fEq true) (mVar 8) (mLst mNil))) (mTB (mBin (fEq false) (mCB m_law_take (mCons (mVar 0) (mCons (mD (.int 2)) mNil))) (mD (.int 0))))) (mAsg (mCB m_law_leaf (mCons (mVar 0) mNil)) (gSb (mVar 8) (mCB m_law_take (mCons (mVar 0) (mCons (mCB fLen (mCons (mVar 8) mNil)) mNil))))) mNext)
theorem tw_eq : b_law_twofold = (mSeq (mAsg (mCB m_law_contents (mCons (mVar 0) (mCons (mVar 1) mNil))) (gNm 2)) (mSeq (mPar 3 4 (mCons (mCB fLen (mCons (mVar 2) mNil)) (mCons (mLst mNil) mNil))) (mSeq (mFor (mIA (mVar 2)) (gNm 5) tw_out)
    (mSeq (mAsg (mBin fIx (mVar 4) (mCB m_law_take (mCons (mVar 0) (mCons (mVar 3) mNil)))) (gNm 8)) (mSeq tw_if (mRet (mBin fAdd (mVar 2) (mVar 4)))))))) := rfl
theorem ItemOk.mono {T S : Nat} {d : PyData} (h : T ≤ S) (i : ItemOk T d) : ItemOk S d := by
  rcases i with i | ⟨k, h0, h1, e⟩
  · exact .inl i
  · exact .inr ⟨k, h0, by omega, e⟩
theorem RowOk.mono {T S : Nat} {r : List PyData} (h : T ≤ S) (i : RowOk T r) : RowOk S r := ⟨i.1, fun d hd => (i.2 d hd).mono h⟩
theorem tw_in_step {b T : Nat} {L M : Int} {h tt : MH} {d : PyData} {m0 m1 m2 m4 m5 m8 : Option MV} {r : Nat} {row : List PyData} (hb : b < h.length) (ok : BagOk L M) (hd : ItemOk T d) (hat : ∀ L M, (h.set b (bagO L M) ++ tt)[r]? = some (.lst (row.map .d))) (hz : row.length < 100) :
    ∃ L' M' d' y, BagOk L' M' ∧ ItemOk (2 * T) d' ∧ tw_in [some (.ref b), m1, m2, some (.d (.int T)), m4, m5, some (.ref r), some (.d d), m8] (h.set b (bagO L M) ++ tt) = .nx [some (.ref b), m1, m2, some (.d (.int T)), m4, m5, some (.ref r), y, m8] ((h.set b (bagO L' M') ++ tt).set r (.lst ((row ++ [d']).map .d))) := by
  have it : ∀ L M : Int, isTy "list" (h.set b (bagO L M) ++ tt) (.ref r) = true := fun L M => isTy_l (hat L M)
  have ap : ∀ (L M : Int) (v : PyData), fAppend (.ref r) [.d v] (h.set b (bagO L M) ++ tt) = .ok (.d .none) ((h.set b (bagO L M) ++ tt).set r (.lst ((row ++ [v]).map .d))) := fun L M v => by
    rw [app_ok (hat L M) (by simp [szL]; omega)]
    simp
  rcases hd with hl | ⟨k, k0, k1, rfl⟩
  · refine ⟨L, M, d, some (.d d), ok, .inl hl, ?_⟩
    simp only [leafL, List.mem_cons, List.not_mem_nil, or_false] at hl
    unfold tw_in
    rcases hl with rfl | rfl | rfl | rfl | rfl | rfl | rfl | rfl | rfl | rfl <;> simp (disch := first | omega | decide | assumption | (unfold szL; simp only [List.length_cons, List.length_nil, List.length_append, List.length_map, List.length_singleton]; omega) | (unfold szL; simp only [List.length_cons, List.length_nil, Nat.reduceAdd, Nat.reduceLeDiff])) only [mDef, mStar, mSeq, mRet, mVar, mD, mBin, mCB, mCons, mNil, mIfS, mIf, mTB, mTru, mTAnd, mTOr, mTNot, mAnd, mOr, mNot, mNeg, mChain, mExpr, mAsg, mPar, gNm, gTp, gsCons, gsNil, gSb, mTup, mLst, mNext, mNever, mBreak, mCont, mFor, mAug, mIsi, mFld, mMeth, mBM, mCM, mSlice, mPart, mNoP, mDk, mDt, mIA, mIL, mIT, mIS, mIR1, mIR2, mIZ, mIE, mLc, mLc2, mYes, mRev, mRepr, mIsiC, mHas, mEqI, mLenI, Mini.R.bind_ok, Mini.R.thn_ok, Mini.R.bind_bad, Mini.R.thn_bad, ofO, asB, rB, rN, rI, List.length_cons, List.length_nil, List.map_cons, List.map_nil, List.cons_append, List.nil_append, List.getElem?_cons_zero, List.getElem?_cons_succ, List.getElem?_nil, List.replicate_succ, List.replicate_zero, Nat.reduceAdd, Nat.reduceSub, if_true, if_false, List.append_nil, List.set_cons_zero, List.set_cons_succ, reduceIte, Nat.reduceEqDiff, lst_d, lst_rl, lst_t, tup_d, tup_t, ix_dl, ix_rl, ix_dt, add_int, sub_int, lt_int, le_int, gt_int, ge_int, abs_int, max_int, min_int, rL_ok, rT_ok, len_dl, len_dt, len_rl, mul_int, div_int, mod_int, pow_int, atI_of, Int.reducePow, Int.reduceToNat, Int.reduceMod, Int.reduceAdd, Int.reduceSub, Int.reduceMul, Int.reduceDiv, Int.reduceLT, Int.reduceLE, decide_true, decide_false, tr_non, tr_bl, tr_int, tr_lst, tr_tup, ty_non, ty_bl, ty_int, ty_str, ty_lst, ty_tup, ty_tupm, instB, String.reduceBEq, Bool.or_true, Bool.or_false, Bool.true_or, Bool.false_or, Bool.and_true, Bool.and_false, Bool.true_and, Bool.false_and, Bool.not_true, Bool.not_false, beq_self_eq_true, pureAll, mkTup, pureAll_map, mkTup_d, List.length_append, List.length_singleton, it, ap]
  · obtain ⟨d2, L1, M1, q0, q1, ok1, e1⟩ := take_at (t := tt) hb ok (n := 8) (by decide) (by decide)
    by_cases c : 0 < d2
    · refine ⟨L1, M1, boxD (k + T), some (.d (boxD (k + T))), ok1, .inr ⟨k + T, by omega, by omega, rfl⟩, ?_⟩
      unfold tw_in
      simp (disch := first | omega | decide | assumption | (unfold szL; simp only [List.length_cons, List.length_nil, List.length_append, List.length_map, List.length_singleton]; omega) | (unfold szL; simp only [List.length_cons, List.length_nil, Nat.reduceAdd, Nat.reduceLeDiff])) only [mDef, mStar, mSeq, mRet, mVar, mD, mBin, mCB, mCons, mNil, mIfS, mIf, mTB, mTru, mTAnd, mTOr, mTNot, mAnd, mOr, mNot, mNeg, mChain, mExpr, mAsg, mPar, gNm, gTp, gsCons, gsNil, gSb, mTup, mLst, mNext, mNever, mBreak, mCont, mFor, mAug, mIsi, mFld, mMeth, mBM, mCM, mSlice, mPart, mNoP, mDk, mDt, mIA, mIL, mIT, mIS, mIR1, mIR2, mIZ, mIE, mLc, mLc2, mYes, mRev, mRepr, mIsiC, mHas, mEqI, mLenI, Mini.R.bind_ok, Mini.R.thn_ok, Mini.R.bind_bad, Mini.R.thn_bad, ofO, asB, rB, rN, rI, List.length_cons, List.length_nil, List.map_cons, List.map_nil, List.cons_append, List.nil_append, List.getElem?_cons_zero, List.getElem?_cons_succ, List.getElem?_nil, List.replicate_succ, List.replicate_zero, Nat.reduceAdd, Nat.reduceSub, if_true, if_false, List.append_nil, List.set_cons_zero, List.set_cons_succ, reduceIte, Nat.reduceEqDiff, lst_d, lst_rl, lst_t, tup_d, tup_t, ix_dl, ix_rl, ix_dt, add_int, sub_int, lt_int, le_int, gt_int, ge_int, abs_int, max_int, min_int, rL_ok, rT_ok, len_dl, len_dt, len_rl, mul_int, div_int, mod_int, pow_int, atI_of, Int.reducePow, Int.reduceToNat, Int.reduceMod, Int.reduceAdd, Int.reduceSub, Int.reduceMul, Int.reduceDiv, Int.reduceLT, Int.reduceLE, decide_true, decide_false, tr_non, tr_bl, tr_int, tr_lst, tr_tup, ty_non, ty_bl, ty_int, ty_str, ty_lst, ty_tup, ty_tupm, instB, String.reduceBEq, Bool.or_true, Bool.or_false, Bool.true_or, Bool.false_or, Bool.and_true, Bool.and_false, Bool.true_and, Bool.false_and, Bool.not_true, Bool.not_false, beq_self_eq_true, pureAll, mkTup, pureAll_map, mkTup_d, List.length_append, List.length_singleton, it, ap, e1, c]
    · refine ⟨L1, M1, boxD k, some (.d (boxD k)), ok1, .inr ⟨k, by omega, by omega, rfl⟩, ?_⟩
      unfold tw_in
      simp (disch := first | omega | decide | assumption | (unfold szL; simp only [List.length_cons, List.length_nil, List.length_append, List.length_map, List.length_singleton]; omega) | (unfold szL; simp only [List.length_cons, List.length_nil, Nat.reduceAdd, Nat.reduceLeDiff])) only [mDef, mStar, mSeq, mRet, mVar, mD, mBin, mCB, mCons, mNil, mIfS, mIf, mTB, mTru, mTAnd, mTOr, mTNot, mAnd, mOr, mNot, mNeg, mChain, mExpr, mAsg, mPar, gNm, gTp, gsCons, gsNil, gSb, mTup, mLst, mNext, mNever, mBreak, mCont, mFor, mAug, mIsi, mFld, mMeth, mBM, mCM, mSlice, mPart, mNoP, mDk, mDt, mIA, mIL, mIT, mIS, mIR1, mIR2, mIZ, mIE, mLc, mLc2, mYes, mRev, mRepr, mIsiC, mHas, mEqI, mLenI, Mini.R.bind_ok, Mini.R.thn_ok, Mini.R.bind_bad, Mini.R.thn_bad, ofO, asB, rB, rN, rI, List.length_cons, List.length_nil, List.map_cons, List.map_nil, List.cons_append, List.nil_append, List.getElem?_cons_zero, List.getElem?_cons_succ, List.getElem?_nil, List.replicate_succ, List.replicate_zero, Nat.reduceAdd, Nat.reduceSub, if_true, if_false, List.append_nil, List.set_cons_zero, List.set_cons_succ, reduceIte, Nat.reduceEqDiff, lst_d, lst_rl, lst_t, tup_d, tup_t, ix_dl, ix_rl, ix_dt, add_int, sub_int, lt_int, le_int, gt_int, ge_int, abs_int, max_int, min_int, rL_ok, rT_ok, len_dl, len_dt, len_rl, mul_int, div_int, mod_int, pow_int, atI_of, Int.reducePow, Int.reduceToNat, Int.reduceMod, Int.reduceAdd, Int.reduceSub, Int.reduceMul, Int.reduceDiv, Int.reduceLT, Int.reduceLE, decide_true, decide_false, tr_non, tr_bl, tr_int, tr_lst, tr_tup, ty_non, ty_bl, ty_int, ty_str, ty_lst, ty_tup, ty_tupm, instB, String.reduceBEq, Bool.or_true, Bool.or_false, Bool.true_or, Bool.false_or, Bool.and_true, Bool.and_false, Bool.true_and, Bool.false_and, Bool.not_true, Bool.not_false, beq_self_eq_true, pureAll, mkTup, pureAll_map, mkTup_d, List.length_append, List.length_singleton, it, ap, e1, c]
theorem tw_inner {b T : Nat} {L M : Int} {h t : MH} {m1 m2 m4 m5 m7 m8 : Option MV} {refs : List MV} {rows : List (List PyData)} {row : List PyData} {chk : MH → Bool} {r : Nat} (hb : b < h.length) (ok : BagOk L M) (hr : RowOk T row) (hchk : ∀ h, chk h = true) (er : r = h.length + t.length + 1 + rows.length) :
    ∃ L' M' row' y, BagOk L' M' ∧ RowOk (2 * T) row' ∧ forGo chk (gNm 7) tw_in (row.map .d) [some (.ref b), m1, m2, some (.d (.int T)), m4, m5, some (.ref r), m7, m8] (h.set b (bagO L M) ++ (t ++ (.lst refs :: (rowsO rows ++ [.lst []])))) =
      .nx [some (.ref b), m1, m2, some (.d (.int T)), m4, m5, some (.ref r), y, m8] (h.set b (bagO L' M') ++ (t ++ (.lst refs :: (rowsO rows ++ [.lst (row'.map .d)])))) := by
  refine (forGo_inv (chk := chk) (g := gNm 7) (b := tw_in) (fun i μ h' => ∃ L' M' row' y, BagOk L' M' ∧ (row'.length = i ∧ ∀ d ∈ row', ItemOk (2 * T) d) ∧ μ = [some (.ref b), m1, m2, some (.d (.int T)), m4, m5, some (.ref r), y, m8] ∧ h' = h.set b (bagO L' M') ++ (t ++ (.lst refs :: (rowsO rows ++ [.lst (row'.map .d)]))))
    (row.map .d) 0 _ _ ⟨L, M, [], m7, ok, ⟨rfl, by simp⟩, rfl, rfl⟩ (fun i z μ h' hz ⟨L1, M1, row1, y, ok1, ⟨r1, ro1⟩, hμ, hh⟩ => ?_) (fun _ h _ => hchk h)).elim fun μ' ⟨h', e, L1, M1, row1, y, ok1, ⟨r1, ro1⟩, hμ, hh⟩ => ?_
  · subst hμ hh
    rw [List.getElem?_map] at hz
    obtain ⟨d, hd, rfl⟩ := Option.map_eq_some_iff.mp hz
    have hi : i < row.length := (List.getElem?_eq_some_iff.mp hd).1
    have := hr.1
    obtain ⟨L2, M2, d', y', ok2, hd', e2⟩ := tw_in_step (m0 := none) (m1 := m1) (m2 := m2) (m4 := m4) (m5 := m5) (m8 := m8) (r := r) (row := row1) (T := T) (d := d) (tt := t ++ (.lst refs :: (rowsO rows ++ [.lst (row1.map .d)]))) hb ok1 (hr.2 d (List.mem_of_getElem? hd)) (fun L M => cat_at (by simp [rows_len]; omega)) (by omega)
    refine ⟨hchk _, _, _, rfl, _, _, .inl e2, L2, M2, row1 ++ [d'], y', ok2, ⟨by simp; omega, fun v hv => ?_⟩, rfl, cat_set (by simp [rows_len]; omega)⟩
    rcases List.mem_append.mp hv with q | q
    · exact ro1 v q
    · rw [List.mem_singleton.mp q]; exact hd'
  · refine ⟨L1, M1, row1, y, ok1, ⟨?_, ro1⟩, e.trans (by rw [hμ, hh])⟩
    have := hr.1
    simp at r1; omega
theorem tw_outer {b T : Nat} {L M : Int} {h t : MH} {m1 m2 m5 m6 m7 m8 : Option MV} {F : List (List PyData)} {chk : MH → Bool} (hb : b < h.length) (ok : BagOk L M) (hF : RowsOk T F) (hF2 : F.length ≤ 100) (hchk : ∀ h, chk h = true) :
    ∃ L' M' rows x y z, BagOk L' M' ∧ rows.length = F.length ∧ RowsOk (2 * T) rows ∧ forGo chk (gNm 5) tw_out (F.map fun r => .d (.list r)) [some (.ref b), m1, m2, some (.d (.int T)), some (.ref (h.length + t.length)), m5, m6, m7, m8] (h.set b (bagO L M) ++ (t ++ [.lst []])) =
      .nx [some (.ref b), m1, m2, some (.d (.int T)), some (.ref (h.length + t.length)), x, y, z, m8] (h.set b (bagO L' M') ++ (t ++ (.lst (refsO (h.length + t.length + 1) rows.length) :: rowsO rows))) := by
  refine (forGo_inv (chk := chk) (g := gNm 5) (b := tw_out) (fun i μ h' => ∃ L' M' rows x y z, BagOk L' M' ∧ rows.length = i ∧ RowsOk (2 * T) rows ∧ μ = [some (.ref b), m1, m2, some (.d (.int T)), some (.ref (h.length + t.length)), x, y, z, m8] ∧ h' = h.set b (bagO L' M') ++ (t ++ (.lst (refsO (h.length + t.length + 1) rows.length) :: rowsO rows)))
    (F.map fun r => .d (.list r)) 0 _ _ ⟨L, M, [], m5, m6, m7, ok, rfl, fun _ h => by simp at h, rfl, rfl⟩ (fun i z μ h' hz ⟨L1, M1, rows, x, y, z1, ok1, hr, hro, hμ, hh⟩ => ?_) (fun _ h _ => hchk h)).elim fun μ' ⟨h', e, L1, M1, rows, x, y, z1, ok1, hr, hro, hμ, hh⟩ => ?_
  · subst hμ hh
    rw [List.getElem?_map] at hz
    obtain ⟨row, hrow, rfl⟩ := Option.map_eq_some_iff.mp hz
    have hi : i < F.length := (List.getElem?_eq_some_iff.mp hrow).1
    obtain ⟨L2, M2, row', y', ok2, hro', e2⟩ := tw_inner (m1 := m1) (m2 := m2) (m4 := some (.ref (h.length + t.length))) (m5 := some (.d (.list row))) (m7 := z1) (m8 := m8) (refs := refsO (h.length + t.length + 1) rows.length) (rows := rows) (row := row) (chk := sameL (.d (.list row)) (row.map .d)) (r := h.length + t.length + 1 + rows.length) hb ok1 (hF row (List.mem_of_getElem? hrow)) (fun _ => rfl) rfl
    refine ⟨hchk _, _, _, rfl, [some (.ref b), m1, m2, some (.d (.int T)), some (.ref (h.length + t.length)), some (.d (.list row)), some (.ref (h.length + t.length + 1 + rows.length)), y', m8], h.set b (bagO L2 M2) ++ (t ++ (.lst (refsO (h.length + t.length + 1) (rows ++ [row']).length) :: rowsO (rows ++ [row']))), .inl ?_, L2, M2, rows ++ [row'], _, _, _, ok2, by simp; omega, fun r hr' => ?_, rfl, rfl⟩
    · unfold tw_out
      refine (mSeq_nx (μ' := [some (.ref b), m1, m2, some (.d (.int T)), some (.ref (h.length + t.length)), some (.d (.list row)), some (.ref (h.length + t.length + 1 + rows.length)), z1, m8]) (h' := h.set b (bagO L1 M1) ++ (t ++ (.lst (refsO (h.length + t.length + 1) rows.length) :: (rowsO rows ++ [.lst []])))) ?_).trans ((mSeq_nx (μ' := [some (.ref b), m1, m2, some (.d (.int T)), some (.ref (h.length + t.length)), some (.d (.list row)), some (.ref (h.length + t.length + 1 + rows.length)), y', m8]) (h' := h.set b (bagO L2 M2) ++ (t ++ (.lst (refsO (h.length + t.length + 1) rows.length) :: (rowsO rows ++ [.lst (row'.map .d)])))) ?_).trans ?_)
      · simp (disch := first | omega | decide | assumption | (unfold szL; simp only [List.length_cons, List.length_nil, List.length_append, List.length_map, List.length_singleton]; omega) | (unfold szL; simp only [List.length_cons, List.length_nil, Nat.reduceAdd, Nat.reduceLeDiff])) only [mDef, mStar, mSeq, mRet, mVar, mD, mBin, mCB, mCons, mNil, mIfS, mIf, mTB, mTru, mTAnd, mTOr, mTNot, mAnd, mOr, mNot, mNeg, mChain, mExpr, mAsg, mPar, gNm, gTp, gsCons, gsNil, gSb, mTup, mLst, mNext, mNever, mBreak, mCont, mFor, mAug, mIsi, mFld, mMeth, mBM, mCM, mSlice, mPart, mNoP, mDk, mDt, mIA, mIL, mIT, mIS, mIR1, mIR2, mIZ, mIE, mLc, mLc2, mYes, mRev, mRepr, mIsiC, mHas, mEqI, mLenI, Mini.R.bind_ok, Mini.R.thn_ok, Mini.R.bind_bad, Mini.R.thn_bad, ofO, asB, rB, rN, rI, List.length_cons, List.length_nil, List.map_cons, List.map_nil, List.cons_append, List.nil_append, List.getElem?_cons_zero, List.getElem?_cons_succ, List.getElem?_nil, List.replicate_succ, List.replicate_zero, Nat.reduceAdd, Nat.reduceSub, if_true, if_false, List.append_nil, List.set_cons_zero, List.set_cons_succ, reduceIte, Nat.reduceEqDiff, lst_d, lst_rl, lst_t, tup_d, tup_t, ix_dl, ix_rl, ix_dt, add_int, sub_int, lt_int, le_int, gt_int, ge_int, abs_int, max_int, min_int, rL_ok, rT_ok, len_dl, len_dt, len_rl, mul_int, div_int, mod_int, pow_int, atI_of, Int.reducePow, Int.reduceToNat, Int.reduceMod, Int.reduceAdd, Int.reduceSub, Int.reduceMul, Int.reduceDiv, Int.reduceLT, Int.reduceLE, decide_true, decide_false, tr_non, tr_bl, tr_int, tr_lst, tr_tup, ty_non, ty_bl, ty_int, ty_str, ty_lst, ty_tup, ty_tupm, instB, String.reduceBEq, Bool.or_true, Bool.or_false, Bool.true_or, Bool.false_or, Bool.and_true, Bool.and_false, Bool.true_and, Bool.false_and, Bool.not_true, Bool.not_false, beq_self_eq_true, pureAll, mkTup, pureAll_map, mkTup_d, List.length_append, List.length_singleton]
        simp [rows_len]; omega
      · have e0 : (mIA (mVar 5)) [some (.ref b), m1, m2, some (.d (.int T)), some (.ref (h.length + t.length)), some (.d (.list row)), some (.ref (h.length + t.length + 1 + rows.length)), z1, m8] (h.set b (bagO L1 M1) ++ (t ++ (.lst (refsO (h.length + t.length + 1) rows.length) :: (rowsO rows ++ [.lst []])))) = .ok (row.map .d, sameL (.d (.list row)) (row.map .d)) (h.set b (bagO L1 M1) ++ (t ++ (.lst (refsO (h.length + t.length + 1) rows.length) :: (rowsO rows ++ [.lst []])))) := by
          simp (disch := first | omega | decide | assumption | (unfold szL; simp only [List.length_cons, List.length_nil, List.length_append, List.length_map, List.length_singleton]; omega) | (unfold szL; simp only [List.length_cons, List.length_nil, Nat.reduceAdd, Nat.reduceLeDiff])) only [mDef, mStar, mSeq, mRet, mVar, mD, mBin, mCB, mCons, mNil, mIfS, mIf, mTB, mTru, mTAnd, mTOr, mTNot, mAnd, mOr, mNot, mNeg, mChain, mExpr, mAsg, mPar, gNm, gTp, gsCons, gsNil, gSb, mTup, mLst, mNext, mNever, mBreak, mCont, mFor, mAug, mIsi, mFld, mMeth, mBM, mCM, mSlice, mPart, mNoP, mDk, mDt, mIA, mIL, mIT, mIS, mIR1, mIR2, mIZ, mIE, mLc, mLc2, mYes, mRev, mRepr, mIsiC, mHas, mEqI, mLenI, Mini.R.bind_ok, Mini.R.thn_ok, Mini.R.bind_bad, Mini.R.thn_bad, ofO, asB, rB, rN, rI, List.length_cons, List.length_nil, List.map_cons, List.map_nil, List.cons_append, List.nil_append, List.getElem?_cons_zero, List.getElem?_cons_succ, List.getElem?_nil, List.replicate_succ, List.replicate_zero, Nat.reduceAdd, Nat.reduceSub, if_true, if_false, List.append_nil, List.set_cons_zero, List.set_cons_succ, reduceIte, Nat.reduceEqDiff, lst_d, lst_rl, lst_t, tup_d, tup_t, ix_dl, ix_rl, ix_dt, add_int, sub_int, lt_int, le_int, gt_int, ge_int, abs_int, max_int, min_int, rL_ok, rT_ok, len_dl, len_dt, len_rl, mul_int, div_int, mod_int, pow_int, atI_of, Int.reducePow, Int.reduceToNat, Int.reduceMod, Int.reduceAdd, Int.reduceSub, Int.reduceMul, Int.reduceDiv, Int.reduceLT, Int.reduceLE, decide_true, decide_false, tr_non, tr_bl, tr_int, tr_lst, tr_tup, ty_non, ty_bl, ty_int, ty_str, ty_lst, ty_tup, ty_tupm, instB, String.reduceBEq, Bool.or_true, Bool.or_false, Bool.true_or, Bool.false_or, Bool.and_true, Bool.and_false, Bool.true_and, Bool.false_and, Bool.not_true, Bool.not_false, beq_self_eq_true, pureAll, mkTup, pureAll_map, mkTup_d, List.length_append, List.length_singleton]
        unfold mFor
        rw [e0]
        simp only [Mini.R.thn_ok]
        exact e2
      · have it : isTy "list" (h.set b (bagO L2 M2) ++ (t ++ (.lst (refsO (h.length + t.length + 1) rows.length) :: (rowsO rows ++ [.lst (row'.map .d)])))) (.ref (h.length + t.length)) = true := isTy_l (cat_at0 (by simp))
        have ap : fAppend (.ref (h.length + t.length)) [.ref (h.length + t.length + 1 + rows.length)] (h.set b (bagO L2 M2) ++ (t ++ (.lst (refsO (h.length + t.length + 1) rows.length) :: (rowsO rows ++ [.lst (row'.map .d)])))) = .ok (.d .none) (h.set b (bagO L2 M2) ++ (t ++ (.lst (refsO (h.length + t.length + 1) (rows ++ [row']).length) :: rowsO (rows ++ [row'])))) := by
          rw [app_ok (cat_at0 (by simp)) (by simp [szL, refsO]; omega), cat_set0 (by simp), refs_succ, rows_succ]
          simp
        simp (disch := first | omega | decide | assumption | (unfold szL; simp only [List.length_cons, List.length_nil, List.length_append, List.length_map, List.length_singleton]; omega) | (unfold szL; simp only [List.length_cons, List.length_nil, Nat.reduceAdd, Nat.reduceLeDiff])) only [mDef, mStar, mSeq, mRet, mVar, mD, mBin, mCB, mCons, mNil, mIfS, mIf, mTB, mTru, mTAnd, mTOr, mTNot, mAnd, mOr, mNot, mNeg, mChain, mExpr, mAsg, mPar, gNm, gTp, gsCons, gsNil, gSb, mTup, mLst, mNext, mNever, mBreak, mCont, mFor, mAug, mIsi, mFld, mMeth, mBM, mCM, mSlice, mPart, mNoP, mDk, mDt, mIA, mIL, mIT, mIS, mIR1, mIR2, mIZ, mIE, mLc, mLc2, mYes, mRev, mRepr, mIsiC, mHas, mEqI, mLenI, Mini.R.bind_ok, Mini.R.thn_ok, Mini.R.bind_bad, Mini.R.thn_bad, ofO, asB, rB, rN, rI, List.length_cons, List.length_nil, List.map_cons, List.map_nil, List.cons_append, List.nil_append, List.getElem?_cons_zero, List.getElem?_cons_succ, List.getElem?_nil, List.replicate_succ, List.replicate_zero, Nat.reduceAdd, Nat.reduceSub, if_true, if_false, List.append_nil, List.set_cons_zero, List.set_cons_succ, reduceIte, Nat.reduceEqDiff, lst_d, lst_rl, lst_t, tup_d, tup_t, ix_dl, ix_rl, ix_dt, add_int, sub_int, lt_int, le_int, gt_int, ge_int, abs_int, max_int, min_int, rL_ok, rT_ok, len_dl, len_dt, len_rl, mul_int, div_int, mod_int, pow_int, atI_of, Int.reducePow, Int.reduceToNat, Int.reduceMod, Int.reduceAdd, Int.reduceSub, Int.reduceMul, Int.reduceDiv, Int.reduceLT, Int.reduceLE, decide_true, decide_false, tr_non, tr_bl, tr_int, tr_lst, tr_tup, ty_non, ty_bl, ty_int, ty_str, ty_lst, ty_tup, ty_tupm, instB, String.reduceBEq, Bool.or_true, Bool.or_false, Bool.true_or, Bool.false_or, Bool.and_true, Bool.and_false, Bool.true_and, Bool.false_and, Bool.not_true, Bool.not_false, beq_self_eq_true, pureAll, mkTup, pureAll_map, mkTup_d, List.length_append, List.length_singleton, it, ap]
    · rcases List.mem_append.mp hr' with q | q
      · exact hro r q
      · rw [List.mem_singleton.mp q]; exact hro'
  · refine ⟨L1, M1, rows, x, y, z1, ok1, by simpa using hr, hro, e.trans (by rw [hμ, hh])⟩
end Law
namespace Law
open Mini
open PySem (PyData Str)
theorem item_shape {T : Nat} {d : PyData} (h : ItemOk T d) : d.canLay0 = true ∧ d.depth ≤ 1 := by
  rcases h with hl | ⟨k, _, _, rfl⟩
  · simp only [leafL, List.mem_cons, List.not_mem_nil, or_false] at hl
    rcases hl with rfl | rfl | rfl | rfl | rfl | rfl | rfl | rfl | rfl | rfl <;> exact ⟨by first | rfl | decide +kernel, by decide⟩
  · exact ⟨by show (PyData.canLay0 (.tuple [.str "box", .int k])) = true; simp only [PyData.canLay0, PyData.canLayAll0]; decide +kernel, by show PyData.depth (.tuple [.str "box", .int k]) ≤ 1; simp [PyData.depth, PyData.depthAll]⟩
theorem row_shape {T : Nat} {row : List PyData} (h : RowOk T row) : (PyData.list row).canLay0 = true ∧ (PyData.list row).depth ≤ 2 := shaped_list (n := 1) (fun d hd => item_shape (h.2 d hd)) (by decide)
theorem rows_at {A t : MH} {o : MO} {rows : List (List PyData)} {J : MH} {r j : Nat} {row : List PyData} (er : r = A.length + t.length + 1 + j) (hj : rows[j]? = some row) : (A ++ (t ++ (o :: (rowsO rows ++ J))))[r]? = some (.lst (row.map .d)) := by
  have hl : j < rows.length := (List.getElem?_eq_some_iff.mp hj).1
  rw [← List.append_assoc, List.getElem?_append_right (by simp; omega), show r - (A ++ t).length = j + 1 by simp; omega, List.getElem?_cons_succ, List.getElem?_append_left (by simpa [rowsO] using hl)]
  simp [rowsO, hj]
theorem rows_set {A t : MH} {o : MO} {rows : List (List PyData)} {J : MH} {r j : Nat} {row' : List PyData} (er : r = A.length + t.length + 1 + j) (hj : j < rows.length) : (A ++ (t ++ (o :: (rowsO rows ++ J)))).set r (.lst (row'.map .d)) = A ++ (t ++ (o :: (rowsO (rows.set j row') ++ J))) := by
  rw [← List.append_assoc, List.set_append_right _ _ (by simp; omega), show r - (A ++ t).length = j + 1 by simp; omega, List.set_cons_succ, List.set_append_left _ _ (by simpa [rowsO] using hj)]
  simp [rowsO, List.map_set]
theorem tw_if_step {b T : Nat} {L M : Int} {h t : MH} {m1 m2 m3 m4 m5 m6 m7 : Option MV} {refs : List MV} {rows : List (List PyData)} {r j : Nat} {row : List PyData} (hb : b < h.length) (ok : BagOk L M) (ho : RowsOk T rows) (er : r = h.length + t.length + 1 + j) (hj : rows[j]? = some row) :
    ∃ L' M' rows' J, BagOk L' M' ∧ RowsOk T rows' ∧ rows'.length = rows.length ∧ tw_if [some (.ref b), m1, m2, m3, m4, m5, m6, m7, some (.ref r)] (h.set b (bagO L M) ++ (t ++ (.lst refs :: rowsO rows))) = .nx [some (.ref b), m1, m2, m3, m4, m5, m6, m7, some (.ref r)] (h.set b (bagO L' M') ++ (t ++ (.lst refs :: (rowsO rows' ++ J)))) := by
  have hjl : j < rows.length := (List.getElem?_eq_some_iff.mp hj).1
  have hro := ho row (List.mem_of_getElem? hj)
  have at1 : ∀ L M, (h.set b (bagO L M) ++ (t ++ (.lst refs :: (rowsO rows ++ [.lst []]))))[r]? = some (.lst (row.map .d)) := fun L M => rows_at (by simp; omega) hj
  have at2 : ∀ L M, (h.set b (bagO L M) ++ (t ++ (.lst refs :: (rowsO rows ++ [.lst []]))))[h.length + t.length + 1 + rows.length]? = some (.lst (([] : List PyData).map .d)) := fun L M => cat_at (by simp [rows_len])
  have q1 : ∀ L M, fEq true (.ref r) (.ref (h.length + t.length + 1 + rows.length)) (h.set b (bagO L M) ++ (t ++ (.lst refs :: (rowsO rows ++ [.lst []])))) = .ok (.d (.bool (true != PyData.eqv (.list row) (.list [])))) (h.set b (bagO L M) ++ (t ++ (.lst refs :: (rowsO rows ++ [.lst []])))) := fun L M => eq_d (toD_row (at1 L M)) (toD_row (at2 L M)) (shaped_of (row_shape hro) (by decide)) (by decide)
  have ln : (h.set b (bagO L M) ++ (t ++ (.lst refs :: rowsO rows))).length = h.length + t.length + 1 + rows.length := by simp [rows_len]; omega
  have lst0 : (mBin (fEq true) (mVar 8) (mLst mNil)) [some (.ref b), m1, m2, m3, m4, m5, m6, m7, some (.ref r)] (h.set b (bagO L M) ++ (t ++ (.lst refs :: rowsO rows))) = .ok (.d (.bool (true != PyData.eqv (.list row) (.list [])))) (h.set b (bagO L M) ++ (t ++ (.lst refs :: (rowsO rows ++ [.lst []])))) := by
    simp only [mBin, mVar, mLst, mNil, List.getElem?_cons_succ, List.getElem?_cons_zero, Mini.R.bind_ok]
    rw [rL_ok (by decide)]
    simp only [Mini.R.bind_ok, ln]
    have := q1 L M
    simpa [List.append_assoc] using this
  cases row with
  | nil =>
    refine ⟨L, M, rows, [.lst []], ok, ho, rfl, ?_⟩
    unfold tw_if
    simp only [mIfS, mTAnd, mTB, lst0, Mini.R.bind_ok, ofO, asB, PyData.eqv, PyData.eqvAll]
    simp (disch := first | omega | decide | assumption | (unfold szL; simp only [List.length_cons, List.length_nil, List.length_append, List.length_map, List.length_singleton]; omega) | (unfold szL; simp only [List.length_cons, List.length_nil, Nat.reduceAdd, Nat.reduceLeDiff])) only [mDef, mStar, mSeq, mRet, mVar, mD, mBin, mCB, mCons, mNil, mIfS, mIf, mTB, mTru, mTAnd, mTOr, mTNot, mAnd, mOr, mNot, mNeg, mChain, mExpr, mAsg, mPar, gNm, gTp, gsCons, gsNil, gSb, mTup, mLst, mNext, mNever, mBreak, mCont, mFor, mAug, mIsi, mFld, mMeth, mBM, mCM, mSlice, mPart, mNoP, mDk, mDt, mIA, mIL, mIT, mIS, mIR1, mIR2, mIZ, mIE, mLc, mLc2, mYes, mRev, mRepr, mIsiC, mHas, mEqI, mLenI, Mini.R.bind_ok, Mini.R.thn_ok, Mini.R.bind_bad, Mini.R.thn_bad, ofO, asB, rB, rN, rI, List.length_cons, List.length_nil, List.map_cons, List.map_nil, List.cons_append, List.nil_append, List.getElem?_cons_zero, List.getElem?_cons_succ, List.getElem?_nil, List.replicate_succ, List.replicate_zero, Nat.reduceAdd, Nat.reduceSub, if_true, if_false, List.append_nil, List.set_cons_zero, List.set_cons_succ, reduceIte, Nat.reduceEqDiff, lst_d, lst_rl, lst_t, tup_d, tup_t, ix_dl, ix_rl, ix_dt, add_int, sub_int, lt_int, le_int, gt_int, ge_int, abs_int, max_int, min_int, rL_ok, rT_ok, len_dl, len_dt, len_rl, mul_int, div_int, mod_int, pow_int, atI_of, Int.reducePow, Int.reduceToNat, Int.reduceMod, Int.reduceAdd, Int.reduceSub, Int.reduceMul, Int.reduceDiv, Int.reduceLT, Int.reduceLE, decide_true, decide_false, tr_non, tr_bl, tr_int, tr_lst, tr_tup, ty_non, ty_bl, ty_int, ty_str, ty_lst, ty_tup, ty_tupm, instB, String.reduceBEq, Bool.or_true, Bool.or_false, Bool.true_or, Bool.false_or, Bool.and_true, Bool.and_false, Bool.true_and, Bool.false_and, Bool.not_true, Bool.not_false, beq_self_eq_true, pureAll, mkTup, pureAll_map, mkTup_d, List.length_append, List.length_singleton]
    rfl
  | cons d0 row =>
    obtain ⟨d2, L1, M1, c0, c1, ok1, e1⟩ := take_at (t := t ++ (.lst refs :: (rowsO rows ++ [.lst []]))) hb ok (n := 2) (by decide) (by decide)
    have lst1 : (mTAnd (mTB (mBin (fEq true) (mVar 8) (mLst mNil))) (mTB (mBin (fEq false) (mCB m_law_take (mCons (mVar 0) (mCons (mD (.int 2)) mNil))) (mD (.int 0))))) [some (.ref b), m1, m2, m3, m4, m5, m6, m7, some (.ref r)] (h.set b (bagO L M) ++ (t ++ (.lst refs :: rowsO rows))) = .ok (d2 == 0) (h.set b (bagO L1 M1) ++ (t ++ (.lst refs :: (rowsO rows ++ [.lst []])))) := by
      simp only [mTAnd, mTB, lst0, Mini.R.bind_ok, ofO, asB, PyData.eqv, PyData.eqvAll]
      simp (disch := first | omega | decide | assumption | (unfold szL; simp only [List.length_cons, List.length_nil, List.length_append, List.length_map, List.length_singleton]; omega) | (unfold szL; simp only [List.length_cons, List.length_nil, Nat.reduceAdd, Nat.reduceLeDiff])) only [mDef, mStar, mSeq, mRet, mVar, mD, mBin, mCB, mCons, mNil, mIfS, mIf, mTB, mTru, mTAnd, mTOr, mTNot, mAnd, mOr, mNot, mNeg, mChain, mExpr, mAsg, mPar, gNm, gTp, gsCons, gsNil, gSb, mTup, mLst, mNext, mNever, mBreak, mCont, mFor, mAug, mIsi, mFld, mMeth, mBM, mCM, mSlice, mPart, mNoP, mDk, mDt, mIA, mIL, mIT, mIS, mIR1, mIR2, mIZ, mIE, mLc, mLc2, mYes, mRev, mRepr, mIsiC, mHas, mEqI, mLenI, Mini.R.bind_ok, Mini.R.thn_ok, Mini.R.bind_bad, Mini.R.thn_bad, ofO, asB, rB, rN, rI, List.length_cons, List.length_nil, List.map_cons, List.map_nil, List.cons_append, List.nil_append, List.getElem?_cons_zero, List.getElem?_cons_succ, List.getElem?_nil, List.replicate_succ, List.replicate_zero, Nat.reduceAdd, Nat.reduceSub, if_true, if_false, List.append_nil, List.set_cons_zero, List.set_cons_succ, reduceIte, Nat.reduceEqDiff, lst_d, lst_rl, lst_t, tup_d, tup_t, ix_dl, ix_rl, ix_dt, add_int, sub_int, lt_int, le_int, gt_int, ge_int, abs_int, max_int, min_int, rL_ok, rT_ok, len_dl, len_dt, len_rl, mul_int, div_int, mod_int, pow_int, atI_of, Int.reducePow, Int.reduceToNat, Int.reduceMod, Int.reduceAdd, Int.reduceSub, Int.reduceMul, Int.reduceDiv, Int.reduceLT, Int.reduceLE, decide_true, decide_false, tr_non, tr_bl, tr_int, tr_lst, tr_tup, ty_non, ty_bl, ty_int, ty_str, ty_lst, ty_tup, ty_tupm, instB, String.reduceBEq, Bool.or_true, Bool.or_false, Bool.true_or, Bool.false_or, Bool.and_true, Bool.and_false, Bool.true_and, Bool.false_and, Bool.not_true, Bool.not_false, beq_self_eq_true, pureAll, mkTup, pureAll_map, mkTup_d, List.length_append, List.length_singleton, e1, eq_int]
      simp
    unfold tw_if
    by_cases c : d2 = 0
    · obtain ⟨v, L2, M2, hv, ok2, e2⟩ := leaf_at (t := t ++ (.lst refs :: (rowsO rows ++ [.lst []]))) hb ok1
      obtain ⟨N, hN⟩ : ∃ N : Nat, N = (d0 :: row).length := ⟨_, rfl⟩
      have hN1 : 1 ≤ N := by rw [hN]; simp
      have hN3 : N ≤ 3 := by rw [hN]; exact hro.1
      obtain ⟨k, L3, M3, k0, k1, ok3, e3⟩ := take_at (t := t ++ (.lst refs :: (rowsO rows ++ [.lst []]))) hb ok2 (n := (N : Int)) (by omega) (Int.le_trans (by omega : (N : Int) ≤ 3) (by decide))
      refine ⟨L3, M3, rows.set j ((d0 :: row).set k.toNat v), [.lst []], ok3, fun rw' hrw => ?_, by simp, ?_⟩
      · rcases List.mem_or_eq_of_mem_set hrw with q | q
        · exact ho rw' q
        · rw [q]
          refine ⟨by simpa using hro.1, fun d hd => ?_⟩
          rcases List.mem_or_eq_of_mem_set hd with z | z
          · exact hro.2 d z
          · rw [z]; exact .inl hv
      · simp only [mIfS, lst1, Mini.R.thn_ok, c, beq_self_eq_true]
        have ln2 : ∀ L M, fLen [.ref r] (h.set b (bagO L M) ++ (t ++ (.lst refs :: (rowsO rows ++ [.lst []])))) = .ok (.d (.int (N : Int))) (h.set b (bagO L M) ++ (t ++ (.lst refs :: (rowsO rows ++ [.lst []])))) := fun L M => by rw [len_ref (at1 L M), hN]; simp
        have st : fSet (.ref r) (.d (.int k)) (.d v) (h.set b (bagO L3 M3) ++ (t ++ (.lst refs :: (rowsO rows ++ [.lst []])))) = .ok () (h.set b (bagO L3 M3) ++ (t ++ (.lst refs :: (rowsO (rows.set j ((d0 :: row).set k.toNat v)) ++ [.lst []])))) := by
          rw [set_l (at1 L3 M3) k0 (by rw [List.length_map, ← hN]; exact k1), ← List.map_set, rows_set (by simp; omega) hjl]
        simp (disch := first | omega | decide | assumption | (unfold szL; simp only [List.length_cons, List.length_nil, List.length_append, List.length_map, List.length_singleton]; omega) | (unfold szL; simp only [List.length_cons, List.length_nil, Nat.reduceAdd, Nat.reduceLeDiff])) only [mDef, mStar, mSeq, mRet, mVar, mD, mBin, mCB, mCons, mNil, mIfS, mIf, mTB, mTru, mTAnd, mTOr, mTNot, mAnd, mOr, mNot, mNeg, mChain, mExpr, mAsg, mPar, gNm, gTp, gsCons, gsNil, gSb, mTup, mLst, mNext, mNever, mBreak, mCont, mFor, mAug, mIsi, mFld, mMeth, mBM, mCM, mSlice, mPart, mNoP, mDk, mDt, mIA, mIL, mIT, mIS, mIR1, mIR2, mIZ, mIE, mLc, mLc2, mYes, mRev, mRepr, mIsiC, mHas, mEqI, mLenI, Mini.R.bind_ok, Mini.R.thn_ok, Mini.R.bind_bad, Mini.R.thn_bad, ofO, asB, rB, rN, rI, List.length_cons, List.length_nil, List.map_cons, List.map_nil, List.cons_append, List.nil_append, List.getElem?_cons_zero, List.getElem?_cons_succ, List.getElem?_nil, List.replicate_succ, List.replicate_zero, Nat.reduceAdd, Nat.reduceSub, if_true, if_false, List.append_nil, List.set_cons_zero, List.set_cons_succ, reduceIte, Nat.reduceEqDiff, lst_d, lst_rl, lst_t, tup_d, tup_t, ix_dl, ix_rl, ix_dt, add_int, sub_int, lt_int, le_int, gt_int, ge_int, abs_int, max_int, min_int, rL_ok, rT_ok, len_dl, len_dt, len_rl, mul_int, div_int, mod_int, pow_int, atI_of, Int.reducePow, Int.reduceToNat, Int.reduceMod, Int.reduceAdd, Int.reduceSub, Int.reduceMul, Int.reduceDiv, Int.reduceLT, Int.reduceLE, decide_true, decide_false, tr_non, tr_bl, tr_int, tr_lst, tr_tup, ty_non, ty_bl, ty_int, ty_str, ty_lst, ty_tup, ty_tupm, instB, String.reduceBEq, Bool.or_true, Bool.or_false, Bool.true_or, Bool.false_or, Bool.and_true, Bool.and_false, Bool.true_and, Bool.false_and, Bool.not_true, Bool.not_false, beq_self_eq_true, pureAll, mkTup, pureAll_map, mkTup_d, List.length_append, List.length_singleton, e2, ln2, e3, st]
    · refine ⟨L1, M1, rows, [.lst []], ok1, ho, rfl, ?_⟩
      have c' : (d2 == 0) = false := by simpa using c
      simp only [mIfS, lst1, Mini.R.thn_ok, c']
      rfl
theorem refs_at {n k j : Nat} (h : j < k) : (refsO n k)[j]? = some (.ref (n + j)) := by
  unfold refsO
  rw [List.getElem?_map, List.getElem?_range' h]
  simp
theorem mapO_rows {n N f : Nat} {B S : MH} {o : MO} {rows : List (List PyData)} (hN : N = B.length) (hn : n ≤ N) : mapO (toF n (f + 2) (B ++ (o :: (rowsO rows ++ S)))) (refsO (N + 1) rows.length) = some (rows.map .list) := by
  refine mapO_refs (by simp) fun k r a h1 h2 => ?_
  rw [List.getElem?_map] at h2
  obtain ⟨row, h3, h4⟩ := Option.map_eq_some_iff.mp h2
  have hk : k < rows.length := (List.getElem?_eq_some_iff.mp h3).1
  rw [List.getElem?_range' hk] at h1
  have h5 : r = N + 1 + k := by
    have := Option.some.inj h1
    omega
  subst h4 h5
  refine toF_l (l := row.map .d) (by omega) ?_ (mapO_d row)
  rw [List.getElem?_append_right (by omega), show N + 1 + k - B.length = k + 1 by omega, List.getElem?_cons_succ, List.getElem?_append_left (by simpa [rowsO] using hk)]
  simp [rowsO, h3]
theorem twofold_at {b : Nat} {L M most : Int} {h t : MH} (hb : b < h.length) (ok : BagOk L M) (hm : 1 ≤ most) (hm2 : most ≤ 5) :
    ∃ Lst L' M', 1 ≤ Lst.length ∧ Lst.length ≤ 2 * most ∧ RowsOk Lst.length Lst ∧ BagOk L' M' ∧ m_law_twofold [.ref b, .d (.int most)] (h.set b (bagO L M) ++ t) = .ok (.d (.list (Lst.map .list))) (h.set b (bagO L' M') ++ t) := by
  obtain ⟨F, L1, M1, f1, f2, fo, ok1, e1⟩ := contents_at (t := t) hb ok hm (by omega)
  obtain ⟨L2, M2, rows, x, y, z, ok2, hr, hro, e2⟩ := tw_outer (t := t) (m1 := some (.d (.int most))) (m2 := some (.d (.list (F.map .list)))) (m5 := none) (m6 := none) (m7 := none) (m8 := none) (chk := sameL (.d (.list (F.map .list))) (F.map fun r => .d (.list r))) hb ok1 fo (by omega) (fun _ => rfl)
  obtain ⟨d3, L3, M3, q0, q1, ok3, e3⟩ := take_at (t := t ++ (.lst (refsO (h.length + t.length + 1) rows.length) :: rowsO rows)) hb ok2 (n := (F.length : Int)) (by omega) (Int.le_trans (by omega : (F.length : Int) ≤ 5) (by decide))
  have hj : rows[d3.toNat]? = some (rows[d3.toNat]'(by omega)) := List.getElem?_eq_getElem _
  obtain ⟨L4, M4, rows', J, ok4, ho4, hl4, e4⟩ := tw_if_step (m1 := some (.d (.int most))) (m2 := some (.d (.list (F.map .list)))) (m3 := some (.d (.int F.length))) (m4 := some (.ref (h.length + t.length))) (m5 := x) (m6 := y) (m7 := z) (refs := refsO (h.length + t.length + 1) rows.length) (r := h.length + t.length + 1 + d3.toNat) (t := t) hb ok3 hro rfl hj
  have hF : (F.map PyData.list).map MV.d = F.map fun r => .d (.list r) := by simp
  have body : mDef 2 9 b_law_twofold [.ref b, .d (.int most)] (h.set b (bagO L M) ++ t) = .ok (.ref (h.length + t.length + 1 + rows'.length + J.length)) (h.set b (bagO L4 M4) ++ (t ++ (.lst (refsO (h.length + t.length + 1) rows'.length) :: (rowsO rows' ++ (J ++ [.lst ((F.map fun r => .d (.list r)) ++ refsO (h.length + t.length + 1) rows'.length)]))))) := by
    rw [tw_eq]
    refine mDef_rt ((mSeq_nx (μ' := [some (.ref b), some (.d (.int most)), some (.d (.list (F.map .list))), none, none, none, none, none, none]) (h' := h.set b (bagO L1 M1) ++ t) (by simp (disch := first | omega | decide | assumption | (unfold szL; simp only [List.length_cons, List.length_nil, List.length_append, List.length_map, List.length_singleton]; omega) | (unfold szL; simp only [List.length_cons, List.length_nil, Nat.reduceAdd, Nat.reduceLeDiff])) only [mDef, mStar, mSeq, mRet, mVar, mD, mBin, mCB, mCons, mNil, mIfS, mIf, mTB, mTru, mTAnd, mTOr, mTNot, mAnd, mOr, mNot, mNeg, mChain, mExpr, mAsg, mPar, gNm, gTp, gsCons, gsNil, gSb, mTup, mLst, mNext, mNever, mBreak, mCont, mFor, mAug, mIsi, mFld, mMeth, mBM, mCM, mSlice, mPart, mNoP, mDk, mDt, mIA, mIL, mIT, mIS, mIR1, mIR2, mIZ, mIE, mLc, mLc2, mYes, mRev, mRepr, mIsiC, mHas, mEqI, mLenI, Mini.R.bind_ok, Mini.R.thn_ok, Mini.R.bind_bad, Mini.R.thn_bad, ofO, asB, rB, rN, rI, List.length_cons, List.length_nil, List.map_cons, List.map_nil, List.cons_append, List.nil_append, List.getElem?_cons_zero, List.getElem?_cons_succ, List.getElem?_nil, List.replicate_succ, List.replicate_zero, Nat.reduceAdd, Nat.reduceSub, if_true, if_false, List.append_nil, List.set_cons_zero, List.set_cons_succ, reduceIte, Nat.reduceEqDiff, lst_d, lst_rl, lst_t, tup_d, tup_t, ix_dl, ix_rl, ix_dt, add_int, sub_int, lt_int, le_int, gt_int, ge_int, abs_int, max_int, min_int, rL_ok, rT_ok, len_dl, len_dt, len_rl, mul_int, div_int, mod_int, pow_int, atI_of, Int.reducePow, Int.reduceToNat, Int.reduceMod, Int.reduceAdd, Int.reduceSub, Int.reduceMul, Int.reduceDiv, Int.reduceLT, Int.reduceLE, decide_true, decide_false, tr_non, tr_bl, tr_int, tr_lst, tr_tup, ty_non, ty_bl, ty_int, ty_str, ty_lst, ty_tup, ty_tupm, instB, String.reduceBEq, Bool.or_true, Bool.or_false, Bool.true_or, Bool.false_or, Bool.and_true, Bool.and_false, Bool.true_and, Bool.false_and, Bool.not_true, Bool.not_false, beq_self_eq_true, pureAll, mkTup, pureAll_map, mkTup_d, List.length_append, List.length_singleton, e1])).trans
      ((mSeq_nx (μ' := [some (.ref b), some (.d (.int most)), some (.d (.list (F.map .list))), some (.d (.int F.length)), some (.ref (h.length + t.length)), none, none, none, none]) (h' := h.set b (bagO L1 M1) ++ (t ++ [.lst []])) (by simp (disch := first | omega | decide | assumption | (unfold szL; simp only [List.length_cons, List.length_nil, List.length_append, List.length_map, List.length_singleton]; omega) | (unfold szL; simp only [List.length_cons, List.length_nil, Nat.reduceAdd, Nat.reduceLeDiff])) only [mDef, mStar, mSeq, mRet, mVar, mD, mBin, mCB, mCons, mNil, mIfS, mIf, mTB, mTru, mTAnd, mTOr, mTNot, mAnd, mOr, mNot, mNeg, mChain, mExpr, mAsg, mPar, gNm, gTp, gsCons, gsNil, gSb, mTup, mLst, mNext, mNever, mBreak, mCont, mFor, mAug, mIsi, mFld, mMeth, mBM, mCM, mSlice, mPart, mNoP, mDk, mDt, mIA, mIL, mIT, mIS, mIR1, mIR2, mIZ, mIE, mLc, mLc2, mYes, mRev, mRepr, mIsiC, mHas, mEqI, mLenI, Mini.R.bind_ok, Mini.R.thn_ok, Mini.R.bind_bad, Mini.R.thn_bad, ofO, asB, rB, rN, rI, List.length_cons, List.length_nil, List.map_cons, List.map_nil, List.cons_append, List.nil_append, List.getElem?_cons_zero, List.getElem?_cons_succ, List.getElem?_nil, List.replicate_succ, List.replicate_zero, Nat.reduceAdd, Nat.reduceSub, if_true, if_false, List.append_nil, List.set_cons_zero, List.set_cons_succ, reduceIte, Nat.reduceEqDiff, lst_d, lst_rl, lst_t, tup_d, tup_t, ix_dl, ix_rl, ix_dt, add_int, sub_int, lt_int, le_int, gt_int, ge_int, abs_int, max_int, min_int, rL_ok, rT_ok, len_dl, len_dt, len_rl, mul_int, div_int, mod_int, pow_int, atI_of, Int.reducePow, Int.reduceToNat, Int.reduceMod, Int.reduceAdd, Int.reduceSub, Int.reduceMul, Int.reduceDiv, Int.reduceLT, Int.reduceLE, decide_true, decide_false, tr_non, tr_bl, tr_int, tr_lst, tr_tup, ty_non, ty_bl, ty_int, ty_str, ty_lst, ty_tup, ty_tupm, instB, String.reduceBEq, Bool.or_true, Bool.or_false, Bool.true_or, Bool.false_or, Bool.and_true, Bool.and_false, Bool.true_and, Bool.false_and, Bool.not_true, Bool.not_false, beq_self_eq_true, pureAll, mkTup, pureAll_map, mkTup_d, List.length_append, List.length_singleton, List.length_map, List.length_set, List.append_assoc])).trans
      ((mSeq_nx (μ' := [some (.ref b), some (.d (.int most)), some (.d (.list (F.map .list))), some (.d (.int F.length)), some (.ref (h.length + t.length)), x, y, z, none]) (h' := h.set b (bagO L2 M2) ++ (t ++ (.lst (refsO (h.length + t.length + 1) rows.length) :: rowsO rows))) ?_).trans
      ((mSeq_nx (μ' := [some (.ref b), some (.d (.int most)), some (.d (.list (F.map .list))), some (.d (.int F.length)), some (.ref (h.length + t.length)), x, y, z, some (.ref (h.length + t.length + 1 + d3.toNat))]) (h' := h.set b (bagO L3 M3) ++ (t ++ (.lst (refsO (h.length + t.length + 1) rows.length) :: rowsO rows))) ?_).trans
      ((mSeq_nx e4).trans ?_)))))
    · have e0 : (mIA (mVar 2)) [some (.ref b), some (.d (.int most)), some (.d (.list (F.map .list))), some (.d (.int F.length)), some (.ref (h.length + t.length)), none, none, none, none] (h.set b (bagO L1 M1) ++ (t ++ [.lst []])) = .ok (F.map fun r => .d (.list r), sameL (.d (.list (F.map .list))) (F.map fun r => .d (.list r))) (h.set b (bagO L1 M1) ++ (t ++ [.lst []])) := by
        simp (disch := first | omega | decide | assumption | (unfold szL; simp only [List.length_cons, List.length_nil, List.length_append, List.length_map, List.length_singleton]; omega) | (unfold szL; simp only [List.length_cons, List.length_nil, Nat.reduceAdd, Nat.reduceLeDiff])) only [mDef, mStar, mSeq, mRet, mVar, mD, mBin, mCB, mCons, mNil, mIfS, mIf, mTB, mTru, mTAnd, mTOr, mTNot, mAnd, mOr, mNot, mNeg, mChain, mExpr, mAsg, mPar, gNm, gTp, gsCons, gsNil, gSb, mTup, mLst, mNext, mNever, mBreak, mCont, mFor, mAug, mIsi, mFld, mMeth, mBM, mCM, mSlice, mPart, mNoP, mDk, mDt, mIA, mIL, mIT, mIS, mIR1, mIR2, mIZ, mIE, mLc, mLc2, mYes, mRev, mRepr, mIsiC, mHas, mEqI, mLenI, Mini.R.bind_ok, Mini.R.thn_ok, Mini.R.bind_bad, Mini.R.thn_bad, ofO, asB, rB, rN, rI, List.length_cons, List.length_nil, List.map_cons, List.map_nil, List.cons_append, List.nil_append, List.getElem?_cons_zero, List.getElem?_cons_succ, List.getElem?_nil, List.replicate_succ, List.replicate_zero, Nat.reduceAdd, Nat.reduceSub, if_true, if_false, List.append_nil, List.set_cons_zero, List.set_cons_succ, reduceIte, Nat.reduceEqDiff, lst_d, lst_rl, lst_t, tup_d, tup_t, ix_dl, ix_rl, ix_dt, add_int, sub_int, lt_int, le_int, gt_int, ge_int, abs_int, max_int, min_int, rL_ok, rT_ok, len_dl, len_dt, len_rl, mul_int, div_int, mod_int, pow_int, atI_of, Int.reducePow, Int.reduceToNat, Int.reduceMod, Int.reduceAdd, Int.reduceSub, Int.reduceMul, Int.reduceDiv, Int.reduceLT, Int.reduceLE, decide_true, decide_false, tr_non, tr_bl, tr_int, tr_lst, tr_tup, ty_non, ty_bl, ty_int, ty_str, ty_lst, ty_tup, ty_tupm, instB, String.reduceBEq, Bool.or_true, Bool.or_false, Bool.true_or, Bool.false_or, Bool.and_true, Bool.and_false, Bool.true_and, Bool.false_and, Bool.not_true, Bool.not_false, beq_self_eq_true, pureAll, mkTup, pureAll_map, mkTup_d, List.length_append, List.length_singleton, hF]
      unfold mFor
      rw [e0]
      simp only [Mini.R.thn_ok]
      exact e2
    · have at1 : (h.set b (bagO L3 M3) ++ (t ++ (.lst (refsO (h.length + t.length + 1) rows.length) :: rowsO rows)))[h.length + t.length]? = some (.lst (refsO (h.length + t.length + 1) rows.length)) := cat_at0 (by simp)
      have ix : fIx (.ref (h.length + t.length)) (.d (.int d3)) (h.set b (bagO L3 M3) ++ (t ++ (.lst (refsO (h.length + t.length + 1) rows.length) :: rowsO rows))) = .ok (.ref (h.length + t.length + 1 + d3.toNat)) (h.set b (bagO L3 M3) ++ (t ++ (.lst (refsO (h.length + t.length + 1) rows.length) :: rowsO rows))) := by
        rw [ix_ref at1, atI_of _ q0, refs_at (by omega)]
        rfl
      simp (disch := first | omega | decide | assumption | (unfold szL; simp only [List.length_cons, List.length_nil, List.length_append, List.length_map, List.length_singleton]; omega) | (unfold szL; simp only [List.length_cons, List.length_nil, Nat.reduceAdd, Nat.reduceLeDiff])) only [mDef, mStar, mSeq, mRet, mVar, mD, mBin, mCB, mCons, mNil, mIfS, mIf, mTB, mTru, mTAnd, mTOr, mTNot, mAnd, mOr, mNot, mNeg, mChain, mExpr, mAsg, mPar, gNm, gTp, gsCons, gsNil, gSb, mTup, mLst, mNext, mNever, mBreak, mCont, mFor, mAug, mIsi, mFld, mMeth, mBM, mCM, mSlice, mPart, mNoP, mDk, mDt, mIA, mIL, mIT, mIS, mIR1, mIR2, mIZ, mIE, mLc, mLc2, mYes, mRev, mRepr, mIsiC, mHas, mEqI, mLenI, Mini.R.bind_ok, Mini.R.thn_ok, Mini.R.bind_bad, Mini.R.thn_bad, ofO, asB, rB, rN, rI, List.length_cons, List.length_nil, List.map_cons, List.map_nil, List.cons_append, List.nil_append, List.getElem?_cons_zero, List.getElem?_cons_succ, List.getElem?_nil, List.replicate_succ, List.replicate_zero, Nat.reduceAdd, Nat.reduceSub, if_true, if_false, List.append_nil, List.set_cons_zero, List.set_cons_succ, reduceIte, Nat.reduceEqDiff, lst_d, lst_rl, lst_t, tup_d, tup_t, ix_dl, ix_rl, ix_dt, add_int, sub_int, lt_int, le_int, gt_int, ge_int, abs_int, max_int, min_int, rL_ok, rT_ok, len_dl, len_dt, len_rl, mul_int, div_int, mod_int, pow_int, atI_of, Int.reducePow, Int.reduceToNat, Int.reduceMod, Int.reduceAdd, Int.reduceSub, Int.reduceMul, Int.reduceDiv, Int.reduceLT, Int.reduceLE, decide_true, decide_false, tr_non, tr_bl, tr_int, tr_lst, tr_tup, ty_non, ty_bl, ty_int, ty_str, ty_lst, ty_tup, ty_tupm, instB, String.reduceBEq, Bool.or_true, Bool.or_false, Bool.true_or, Bool.false_or, Bool.and_true, Bool.and_false, Bool.true_and, Bool.false_and, Bool.not_true, Bool.not_false, beq_self_eq_true, pureAll, mkTup, pureAll_map, mkTup_d, List.length_append, List.length_singleton, e3, ix]
    · have at1 : (h.set b (bagO L4 M4) ++ (t ++ (.lst (refsO (h.length + t.length + 1) rows.length) :: (rowsO rows' ++ J))))[h.length + t.length]? = some (.lst (refsO (h.length + t.length + 1) rows.length)) := cat_at0 (by simp)
      have ad : fAdd (.d (.list (F.map .list))) (.ref (h.length + t.length)) (h.set b (bagO L4 M4) ++ (t ++ (.lst (refsO (h.length + t.length + 1) rows.length) :: (rowsO rows' ++ J)))) = .ok (.ref (h.length + t.length + 1 + rows'.length + J.length)) (h.set b (bagO L4 M4) ++ (t ++ (.lst (refsO (h.length + t.length + 1) rows'.length) :: (rowsO rows' ++ (J ++ [.lst ((F.map fun r => .d (.list r)) ++ refsO (h.length + t.length + 1) rows'.length)]))))) := by
        simp only [fAdd, lst_d, lst_ref at1, isRl, Bool.or_self, Bool.false_eq_true, if_false]
        rw [rL_ok (by simp [szL, refsO]; omega)]
        simp [hF, hl4, rows_len]
        omega
      simp (disch := first | omega | decide | assumption | (unfold szL; simp only [List.length_cons, List.length_nil, List.length_append, List.length_map, List.length_singleton]; omega) | (unfold szL; simp only [List.length_cons, List.length_nil, Nat.reduceAdd, Nat.reduceLeDiff])) only [mDef, mStar, mSeq, mRet, mVar, mD, mBin, mCB, mCons, mNil, mIfS, mIf, mTB, mTru, mTAnd, mTOr, mTNot, mAnd, mOr, mNot, mNeg, mChain, mExpr, mAsg, mPar, gNm, gTp, gsCons, gsNil, gSb, mTup, mLst, mNext, mNever, mBreak, mCont, mFor, mAug, mIsi, mFld, mMeth, mBM, mCM, mSlice, mPart, mNoP, mDk, mDt, mIA, mIL, mIT, mIS, mIR1, mIR2, mIZ, mIE, mLc, mLc2, mYes, mRev, mRepr, mIsiC, mHas, mEqI, mLenI, Mini.R.bind_ok, Mini.R.thn_ok, Mini.R.bind_bad, Mini.R.thn_bad, ofO, asB, rB, rN, rI, List.length_cons, List.length_nil, List.map_cons, List.map_nil, List.cons_append, List.nil_append, List.getElem?_cons_zero, List.getElem?_cons_succ, List.getElem?_nil, List.replicate_succ, List.replicate_zero, Nat.reduceAdd, Nat.reduceSub, if_true, if_false, List.append_nil, List.set_cons_zero, List.set_cons_succ, reduceIte, Nat.reduceEqDiff, lst_d, lst_rl, lst_t, tup_d, tup_t, ix_dl, ix_rl, ix_dt, add_int, sub_int, lt_int, le_int, gt_int, ge_int, abs_int, max_int, min_int, rL_ok, rT_ok, len_dl, len_dt, len_rl, mul_int, div_int, mod_int, pow_int, atI_of, Int.reducePow, Int.reduceToNat, Int.reduceMod, Int.reduceAdd, Int.reduceSub, Int.reduceMul, Int.reduceDiv, Int.reduceLT, Int.reduceLE, decide_true, decide_false, tr_non, tr_bl, tr_int, tr_lst, tr_tup, ty_non, ty_bl, ty_int, ty_str, ty_lst, ty_tup, ty_tupm, instB, String.reduceBEq, Bool.or_true, Bool.or_false, Bool.true_or, Bool.false_or, Bool.and_true, Bool.and_false, Bool.true_and, Bool.false_and, Bool.not_true, Bool.not_false, beq_self_eq_true, pureAll, mkTup, pureAll_map, mkTup_d, List.length_append, List.length_singleton, ad]
  refine ⟨F ++ rows', L4, M4, by simp; omega, by simp; omega, ?_, ok4, ?_⟩
  · intro row hrow
    have hle : (F ++ rows').length = 2 * F.length := by simp; omega
    rw [hle]
    rcases List.mem_append.mp hrow with q | q
    · exact (fo row q).mono (by omega)
    · exact ho4 row q
  have := frz_ls (m := mDef 2 9 b_law_twofold) (us := [.ref b, .d (.int most)]) (h := h.set b (bagO L M) ++ t) (b := b) (o := bagO L4 M4) (t := .lst (refsO (h.length + t.length + 1) rows'.length) :: (rowsO rows' ++ (J ++ [.lst ((F.map fun r => .d (.list r)) ++ refsO (h.length + t.length + 1) rows'.length)]))) (i := h.length + t.length + 1 + rows'.length + J.length) (p := .list ((F ++ rows').map .list)) rfl (by
    rw [set_left (by simpa using hb), List.set_set, List.append_assoc]
    exact body) (by simp; omega) (by
    refine toF_l (l := (F.map fun r => .d (.list r)) ++ refsO (h.length + t.length + 1) rows'.length) (by simp; omega) ?_ ?_
    · have := at_last (A := (h.set b (bagO L M) ++ t).set b (bagO L4 M4) ++ (.lst (refsO (h.length + t.length + 1) rows'.length) :: (rowsO rows' ++ J))) (o := .lst ((F.map fun r => .d (.list r)) ++ refsO (h.length + t.length + 1) rows'.length)) (i := h.length + t.length + 1 + rows'.length + J.length) (by simp [rows_len]; omega)
      simpa [List.append_assoc] using this
    · rw [← hF, List.map_append]
      exact mapO_app (mapO_d _) (mapO_rows (by simp) (by simp)))
  rw [set_left (by simpa using hb), List.set_set] at this
  exact this
end Law
namespace Law
open Mini
open PySem (PyData Str)
/-! ### rings -/
def rg_te : ME := (mLst (mCons (mD (.str "a")) (mCons (mTup (mCons (mD (.str "box")) (mCons (mBin fAdd (mVar 3) (mBin fMod (mBin fAdd (mVar 6) (mD (.int 1))) (mVar 5))) mNil))) mNil)))
def rg_in : MS := (mSeq (mAsg (mBin fAdd (mD (.int 1)) (mCB m_law_take (mCons (mVar 0) (mCons (mCB fMax2 (mCons (mD (.int 1)) (mCons (mBin fDiv (mVar 1) (mD (.int 2))) mNil))) mNil)))) (gNm 5))
    (mSeq (mAsg (mBin fAdd (mVar 2) (mLc (mIR1 (mVar 5)) (gNm 6) mYes rg_te [6])) (gNm 2))
    (mAsg (mBin fAdd (mVar 3) (mVar 5)) (gNm 3))))
theorem rg_eq : b_law_ringed = (mSeq (mIfS (mTB (mBin fGt (mCB m_law_take (mCons (mVar 0) (mCons (mD (.int 3)) mNil))) (mD (.int 0)))) (mRet (mCB m_law_twofold (mCons (mVar 0) (mCons (mBin fDiv (mBin fAdd (mVar 1) (mD (.int 1))) (mD (.int 2))) mNil)))) mNext)
    (mSeq (mAsg (mTup (mCons (mLst mNil) (mCons (mD (.int 0)) mNil))) (gTp 2 (gsCons (gNm 2) (gsCons (gNm 3) gsNil))))
    (mSeq (mFor (mIR1 (mD (.int 2))) (gNm 4) rg_in)
    (mRet (mIf (mTB (mBin fLe (mVar 3) (mVar 1))) (mSlice (mVar 2) mNoP (mPart (mVar 1))) (mCB m_law_contents (mCons (mVar 0) (mCons (mVar 1) mNil)))))))) := rfl
/-- rows that stand in tt, behind N0 other objects -/
def RowsIn (N0 : Nat) (tt : MH) (rs : List Nat) (rows : List (List PyData)) : Prop := rs.length = rows.length ∧ ∀ (k r : Nat) (row : List PyData), rs[k]? = some r → rows[k]? = some row → ∃ r', r = N0 + r' ∧ tt[r']? = some (.lst (row.map .d))
theorem RowsIn.app {N0 : Nat} {tt J : MH} {rs : List Nat} {rows : List (List PyData)} (h : RowsIn N0 tt rs rows) : RowsIn N0 (tt ++ J) rs rows := ⟨h.1, fun k r row h1 h2 => by
  obtain ⟨r', e, q⟩ := h.2 k r row h1 h2
  exact ⟨r', e, at_left q⟩⟩
def ring (tot size : Nat) : List (List PyData) := (List.range size).map fun (k : Nat) => [.str "a", boxD ((tot : Int) + ((k : Int) + 1) % (size : Int))]
theorem ring_in {N0 tot size : Nat} {tt J : MH} : RowsIn N0 (tt ++ (rowsO (ring tot size) ++ J)) (List.range' (N0 + tt.length) size) (ring tot size) := by
  refine ⟨by simp [ring], fun k r row h1 h2 => ?_⟩
  have hk : k < size := by
    have := (List.getElem?_eq_some_iff.mp h2).1
    simpa [ring] using this
  rw [List.getElem?_range' hk] at h1
  have h5 := Option.some.inj h1
  refine ⟨tt.length + k, by omega, ?_⟩
  rw [List.getElem?_append_right (by omega), show tt.length + k - tt.length = k by omega, List.getElem?_append_left (by simp [rowsO, ring]; omega)]
  simp [rowsO, h2]
theorem RowsIn.both {N0 : Nat} {tt : MH} {rs rs' : List Nat} {rows rows' : List (List PyData)} (h : RowsIn N0 tt rs rows) (h' : RowsIn N0 tt rs' rows') : RowsIn N0 tt (rs ++ rs') (rows ++ rows') := by
  refine ⟨by simp [h.1, h'.1], fun k r row h1 h2 => ?_⟩
  by_cases c : k < rs.length
  · rw [List.getElem?_append_left c] at h1
    rw [List.getElem?_append_left (by rw [← h.1]; exact c)] at h2
    exact h.2 k r row h1 h2
  · rw [List.getElem?_append_right (by omega)] at h1
    rw [List.getElem?_append_right (by rw [← h.1]; omega), ← h.1] at h2
    exact h'.2 _ r row h1 h2
theorem ring_ok {tot size : Nat} (hs : 1 ≤ size) : RowsOk (tot + size) (ring tot size) := by
  intro row hrow
  obtain ⟨k, hk, rfl⟩ := List.mem_map.mp hrow
  refine ⟨by simp, fun d hd => ?_⟩
  simp only [List.mem_cons, List.not_mem_nil, or_false] at hd
  rcases hd with rfl | rfl
  · exact .inl (by simp [leafL])
  · have h1 := Int.emod_nonneg ((k : Int) + 1) (show (size : Int) ≠ 0 by omega)
    have h2 := Int.emod_lt_of_pos ((k : Int) + 1) (show (0 : Int) < size by omega)
    exact .inr ⟨_, by omega, by omega, rfl⟩
theorem rg_step {b tot : Nat} {L M : Int} {h tt : MH} {m4 m5 m6 : Option MV} {i' : Nat} {rs : List Nat} {rows : List (List PyData)} (hb : b < h.length) (ok : BagOk L M) (hi : tt[i']? = some (.lst (rs.map .ref))) (hr : RowsIn h.length tt rs rows) (hl : rows.length = tot) (ho : RowsOk tot rows) (ht : tot ≤ 100) :
    ∃ L' M' size J i2 rs2 x5, BagOk L' M' ∧ 1 ≤ size ∧ size ≤ 5 ∧ (tt ++ J)[i2]? = some (.lst (rs2.map .ref)) ∧ RowsIn h.length (tt ++ J) rs2 (rows ++ ring tot size) ∧ rg_in [some (.ref b), some (.d (.int 10)), some (.ref (h.length + i')), some (.d (.int tot)), m4, m5, m6] (h.set b (bagO L M) ++ tt) =
      .nx [some (.ref b), some (.d (.int 10)), some (.ref (h.length + i2)), some (.d (.int (tot + size : Nat))), m4, x5, m6] (h.set b (bagO L' M') ++ (tt ++ J)) := by
  obtain ⟨d, L1, M1, q0, q1, ok1, e1⟩ := take_at (t := tt) hb ok (n := 5) (by decide) (by decide)
  obtain ⟨size, hsz⟩ : ∃ s : Nat, (s : Int) = 1 + d := ⟨(1 + d).toNat, by omega⟩
  have hrl : rs.length = tot := by rw [hr.1, hl]
  have N1 : (h.set b (bagO L1 M1) ++ tt).length = h.length + tt.length := by simp
  have lc : (mLc (mIR1 (mVar 5)) (gNm 6) mYes rg_te [6]) [some (.ref b), some (.d (.int 10)), some (.ref (h.length + i')), some (.d (.int tot)), m4, some (.d (.int size)), m6] (h.set b (bagO L1 M1) ++ tt) =
      .ok (.ref (h.length + tt.length + size)) (h.set b (bagO L1 M1) ++ (tt ++ (rowsO (ring tot size) ++ [.lst ((List.range' (h.length + tt.length) size).map .ref)]))) := by
    have e0 : (mIR1 (mVar 5)) [some (.ref b), some (.d (.int 10)), some (.ref (h.length + i')), some (.d (.int tot)), m4, some (.d (.int size)), m6] (h.set b (bagO L1 M1) ++ tt) = .ok (rng 0 size, noChk) (h.set b (bagO L1 M1) ++ tt) := by
      simp (disch := first | omega | decide | assumption | (unfold szL; simp only [List.length_cons, List.length_nil, List.length_append, List.length_map, List.length_singleton]; omega) | (unfold szL; simp only [List.length_cons, List.length_nil, Nat.reduceAdd, Nat.reduceLeDiff])) only [mDef, mStar, mSeq, mRet, mVar, mD, mBin, mCB, mCons, mNil, mIfS, mIf, mTB, mTru, mTAnd, mTOr, mTNot, mAnd, mOr, mNot, mNeg, mChain, mExpr, mAsg, mPar, gNm, gTp, gsCons, gsNil, gSb, mTup, mLst, mNext, mNever, mBreak, mCont, mFor, mAug, mIsi, mFld, mMeth, mBM, mCM, mSlice, mPart, mNoP, mDk, mDt, mIA, mIL, mIT, mIS, mIR1, mIR2, mIZ, mIE, mLc, mLc2, mYes, mRev, mRepr, mIsiC, mHas, mEqI, mLenI, Mini.R.bind_ok, Mini.R.thn_ok, Mini.R.bind_bad, Mini.R.thn_bad, ofO, asB, rB, rN, rI, List.length_cons, List.length_nil, List.map_cons, List.map_nil, List.cons_append, List.nil_append, List.getElem?_cons_zero, List.getElem?_cons_succ, List.getElem?_nil, List.replicate_succ, List.replicate_zero, Nat.reduceAdd, Nat.reduceSub, if_true, if_false, List.append_nil, List.set_cons_zero, List.set_cons_succ, reduceIte, Nat.reduceEqDiff, lst_d, lst_rl, lst_t, tup_d, tup_t, ix_dl, ix_rl, ix_dt, add_int, sub_int, lt_int, le_int, gt_int, ge_int, abs_int, max_int, min_int, rL_ok, rT_ok, len_dl, len_dt, len_rl, mul_int, div_int, mod_int, pow_int, atI_of, Int.reducePow, Int.reduceToNat, Int.reduceMod, Int.reduceAdd, Int.reduceSub, Int.reduceMul, Int.reduceDiv, Int.reduceLT, Int.reduceLE, decide_true, decide_false, tr_non, tr_bl, tr_int, tr_lst, tr_tup, ty_non, ty_bl, ty_int, ty_str, ty_lst, ty_tup, ty_tupm, instB, String.reduceBEq, Bool.or_true, Bool.or_false, Bool.true_or, Bool.false_or, Bool.and_true, Bool.and_false, Bool.true_and, Bool.false_and, Bool.not_true, Bool.not_false, beq_self_eq_true, pureAll, mkTup, pureAll_map, mkTup_d, List.length_append, List.length_singleton]
      rw [if_pos (by omega)]
      simp
    have g0 := lcGo_new (chk := noChk) (g := gNm 6) (tt := mYes) (te := rg_te) (μ0 := wipeM [some (.ref b), some (.d (.int 10)), some (.ref (h.length + i')), some (.d (.int tot)), m4, some (.d (.int size)), m6] [6])
      (f := fun x => match x with | .d (.int k) => [.d (.str "a"), .d (boxD ((tot : Int) + (k + 1) % (size : Int)))] | _ => []) (h0 := h.set b (bagO L1 M1) ++ tt) (fun _ => rfl) (rng 0 size) [] [] (fun x hx t => by
        obtain ⟨k, hk, rfl⟩ := List.mem_map.mp hx
        refine ⟨_, rfl, rfl, ?_⟩
        unfold rg_te
        simp only [wipeM]
        simp (disch := first | omega | decide | assumption | (unfold szL; simp only [List.length_cons, List.length_nil, List.length_append, List.length_map, List.length_singleton]; omega) | (unfold szL; simp only [List.length_cons, List.length_nil, Nat.reduceAdd, Nat.reduceLeDiff])) only [mDef, mStar, mSeq, mRet, mVar, mD, mBin, mCB, mCons, mNil, mIfS, mIf, mTB, mTru, mTAnd, mTOr, mTNot, mAnd, mOr, mNot, mNeg, mChain, mExpr, mAsg, mPar, gNm, gTp, gsCons, gsNil, gSb, mTup, mLst, mNext, mNever, mBreak, mCont, mFor, mAug, mIsi, mFld, mMeth, mBM, mCM, mSlice, mPart, mNoP, mDk, mDt, mIA, mIL, mIT, mIS, mIR1, mIR2, mIZ, mIE, mLc, mLc2, mYes, mRev, mRepr, mIsiC, mHas, mEqI, mLenI, Mini.R.bind_ok, Mini.R.thn_ok, Mini.R.bind_bad, Mini.R.thn_bad, ofO, asB, rB, rN, rI, List.length_cons, List.length_nil, List.map_cons, List.map_nil, List.cons_append, List.nil_append, List.getElem?_cons_zero, List.getElem?_cons_succ, List.getElem?_nil, List.replicate_succ, List.replicate_zero, Nat.reduceAdd, Nat.reduceSub, if_true, if_false, List.append_nil, List.set_cons_zero, List.set_cons_succ, reduceIte, Nat.reduceEqDiff, lst_d, lst_rl, lst_t, tup_d, tup_t, ix_dl, ix_rl, ix_dt, add_int, sub_int, lt_int, le_int, gt_int, ge_int, abs_int, max_int, min_int, rL_ok, rT_ok, len_dl, len_dt, len_rl, mul_int, div_int, mod_int, pow_int, atI_of, Int.reducePow, Int.reduceToNat, Int.reduceMod, Int.reduceAdd, Int.reduceSub, Int.reduceMul, Int.reduceDiv, Int.reduceLT, Int.reduceLE, decide_true, decide_false, tr_non, tr_bl, tr_int, tr_lst, tr_tup, ty_non, ty_bl, ty_int, ty_str, ty_lst, ty_tup, ty_tupm, instB, String.reduceBEq, Bool.or_true, Bool.or_false, Bool.true_or, Bool.false_or, Bool.and_true, Bool.and_false, Bool.true_and, Bool.false_and, Bool.not_true, Bool.not_false, beq_self_eq_true, pureAll, mkTup, pureAll_map, mkTup_d, List.length_append, List.length_singleton]) (by simp [rng, szL]; omega)
    unfold mLc
    rw [e0]
    simp only [Mini.R.bind_ok]
    rw [List.append_nil] at g0
    rw [g0]
    simp only [Mini.R.bind_ok, List.nil_append]
    rw [rL_ok (by simp [rng, szL]; omega)]
    simp [rng, ring, rowsO, List.append_assoc, Function.comp_def]
    omega
  have a1 : (h.set b (bagO L1 M1) ++ (tt ++ (rowsO (ring tot size) ++ [.lst ((List.range' (h.length + tt.length) size).map .ref)])))[h.length + i']? = some (.lst (rs.map .ref)) := by
    rw [List.getElem?_append_right (by simp), show h.length + i' - (h.set b (bagO L1 M1)).length = i' by simp]
    exact at_left hi
  have a2 : (h.set b (bagO L1 M1) ++ (tt ++ (rowsO (ring tot size) ++ [.lst ((List.range' (h.length + tt.length) size).map .ref)])))[h.length + tt.length + size]? = some (.lst ((List.range' (h.length + tt.length) size).map .ref)) := by
    have := at_last (A := h.set b (bagO L1 M1) ++ (tt ++ rowsO (ring tot size))) (o := .lst ((List.range' (h.length + tt.length) size).map .ref)) (i := h.length + tt.length + size) (by simp [rows_len, ring]; omega)
    simpa [List.append_assoc] using this
  have ad : fAdd (.ref (h.length + i')) (.ref (h.length + tt.length + size)) (h.set b (bagO L1 M1) ++ (tt ++ (rowsO (ring tot size) ++ [.lst ((List.range' (h.length + tt.length) size).map .ref)]))) = .ok (.ref (h.length + (tt.length + size + 1))) (h.set b (bagO L1 M1) ++ (tt ++ ((rowsO (ring tot size) ++ [.lst ((List.range' (h.length + tt.length) size).map .ref)]) ++ [.lst ((rs ++ List.range' (h.length + tt.length) size).map .ref)]))) := by
    simp only [fAdd, lst_ref a1, lst_ref a2, isRl, Bool.or_self, Bool.false_eq_true, if_false]
    rw [rL_ok (by simp [szL]; omega)]
    simp [rows_len, ring]
    omega
  refine ⟨L1, M1, size, (rowsO (ring tot size) ++ [.lst ((List.range' (h.length + tt.length) size).map .ref)]) ++ [.lst ((rs ++ List.range' (h.length + tt.length) size).map .ref)], tt.length + size + 1, rs ++ List.range' (h.length + tt.length) size, some (.d (.int size)), ok1, by omega, by omega, ?_, ?_, ?_⟩
  · have := at_last (A := tt ++ (rowsO (ring tot size) ++ [.lst ((List.range' (h.length + tt.length) size).map .ref)])) (o := .lst ((rs ++ List.range' (h.length + tt.length) size).map .ref)) (i := tt.length + size + 1) (by simp [rows_len, ring]; omega)
    simpa [List.append_assoc] using this
  · rw [List.append_assoc (rowsO _)]
    exact hr.app.both ring_in
  · unfold rg_in
    refine (mSeq_nx (μ' := [some (.ref b), some (.d (.int 10)), some (.ref (h.length + i')), some (.d (.int tot)), m4, some (.d (.int size)), m6]) (h' := h.set b (bagO L1 M1) ++ tt) ?_).trans ?_
    · have mx : fMax2 [.d (.int 1), .d (.int (10 / 2))] (h.set b (bagO L M) ++ tt) = .ok (.d (.int 5)) (h.set b (bagO L M) ++ tt) := rfl
      simp only [mAsg, mBin, mD, mCB, mCons, mNil, mVar, List.getElem?_cons_zero, List.getElem?_cons_succ, Mini.R.bind_ok, Mini.R.thn_ok, gNm, div_int (h := h.set b (bagO L M) ++ tt) (a := 10) (b := 2) (by decide), mx, e1, add_int, List.set_cons_succ, List.set_cons_zero, hsz]
    · have v2 : (mVar 2) [some (.ref b), some (.d (.int 10)), some (.ref (h.length + i')), some (.d (.int tot)), m4, some (.d (.int size)), m6] (h.set b (bagO L1 M1) ++ tt) = .ok (.ref (h.length + i')) (h.set b (bagO L1 M1) ++ tt) := rfl
      simp only [mSeq, mAsg, mBin, v2, lc, Mini.R.bind_ok, Mini.R.thn_ok, ad]
      simp (disch := first | omega | decide | assumption | (unfold szL; simp only [List.length_cons, List.length_nil, List.length_append, List.length_map, List.length_singleton]; omega) | (unfold szL; simp only [List.length_cons, List.length_nil, Nat.reduceAdd, Nat.reduceLeDiff])) only [mDef, mStar, mSeq, mRet, mVar, mD, mBin, mCB, mCons, mNil, mIfS, mIf, mTB, mTru, mTAnd, mTOr, mTNot, mAnd, mOr, mNot, mNeg, mChain, mExpr, mAsg, mPar, gNm, gTp, gsCons, gsNil, gSb, mTup, mLst, mNext, mNever, mBreak, mCont, mFor, mAug, mIsi, mFld, mMeth, mBM, mCM, mSlice, mPart, mNoP, mDk, mDt, mIA, mIL, mIT, mIS, mIR1, mIR2, mIZ, mIE, mLc, mLc2, mYes, mRev, mRepr, mIsiC, mHas, mEqI, mLenI, Mini.R.bind_ok, Mini.R.thn_ok, Mini.R.bind_bad, Mini.R.thn_bad, ofO, asB, rB, rN, rI, List.length_cons, List.length_nil, List.map_cons, List.map_nil, List.cons_append, List.nil_append, List.getElem?_cons_zero, List.getElem?_cons_succ, List.getElem?_nil, List.replicate_succ, List.replicate_zero, Nat.reduceAdd, Nat.reduceSub, if_true, if_false, List.append_nil, List.set_cons_zero, List.set_cons_succ, reduceIte, Nat.reduceEqDiff, lst_d, lst_rl, lst_t, tup_d, tup_t, ix_dl, ix_rl, ix_dt, add_int, sub_int, lt_int, le_int, gt_int, ge_int, abs_int, max_int, min_int, rL_ok, rT_ok, len_dl, len_dt, len_rl, mul_int, div_int, mod_int, pow_int, atI_of, Int.reducePow, Int.reduceToNat, Int.reduceMod, Int.reduceAdd, Int.reduceSub, Int.reduceMul, Int.reduceDiv, Int.reduceLT, Int.reduceLE, decide_true, decide_false, tr_non, tr_bl, tr_int, tr_lst, tr_tup, ty_non, ty_bl, ty_int, ty_str, ty_lst, ty_tup, ty_tupm, instB, String.reduceBEq, Bool.or_true, Bool.or_false, Bool.true_or, Bool.false_or, Bool.and_true, Bool.and_false, Bool.true_and, Bool.false_and, Bool.not_true, Bool.not_false, beq_self_eq_true, pureAll, mkTup, pureAll_map, mkTup_d, List.length_append, List.length_singleton]
      simp
theorem forGo_cons {chk : MH → Bool} {g : MG} {b : MS} {x : MV} {r : List MV} {μ μ1 μ' : MSt} {h h1 h' : MH} (c : chk h = true) (e1 : g x μ h = .ok μ1 h1) (e2 : b μ1 h1 = .nx μ' h') : forGo chk g b (x :: r) μ h = forGo chk g b r μ' h' := by
  conv => lhs; unfold forGo
  rw [if_pos c, e1]
  simp only [Mini.R.thn_ok]
  rw [e2]
/-- contents as the law draws them -/
structure LawOk (Lst : List (List PyData)) : Prop where
  pos : 1 ≤ Lst.length
  few : Lst.length ≤ 10
  rows : RowsOk Lst.length Lst
theorem RowsOk.app {T : Nat} {A B : List (List PyData)} (a : RowsOk T A) (b : RowsOk T B) : RowsOk T (A ++ B) := fun r hr => by
  rcases List.mem_append.mp hr with q | q
  · exact a r q
  · exact b r q
theorem RowsOk.mono {T S : Nat} {A : List (List PyData)} (h : T ≤ S) (a : RowsOk T A) : RowsOk S A := fun r hr => (a r hr).mono h
theorem ring_len {tot size : Nat} : (ring tot size).length = size := by simp [ring]
theorem ringed_at0 {b : Nat} {L M : Int} {h t : MH} (ht0 : t = []) (hb : b < h.length) (ok : BagOk L M) :
    ∃ Lst L' M', LawOk Lst ∧ BagOk L' M' ∧ m_law_ringed [.ref b, .d (.int 10)] (h.set b (bagO L M) ++ t) = .ok (.d (.list (Lst.map .list))) (h.set b (bagO L' M') ++ t) := by
  obtain ⟨d, L1, M1, q0, q1, ok1, e1⟩ := take_at (t := t) hb ok (n := 3) (by decide) (by decide)
  by_cases c : 0 < d
  · obtain ⟨Lst, L2, M2, f1, f2, fo, ok2, e2⟩ := twofold_at (t := t) hb ok1 (most := 5) (by decide) (by decide)
    refine ⟨Lst, L2, M2, ⟨f1, by omega, fo⟩, ok2, ?_⟩
    have body : mDef 2 7 b_law_ringed [.ref b, .d (.int 10)] (h.set b (bagO L M) ++ t) = .ok (.d (.list (Lst.map .list))) (h.set b (bagO L2 M2) ++ t ++ []) := by
      rw [rg_eq]
      refine mDef_rt (mSeq_rt ?_)
      simp (disch := first | omega | decide | assumption | (unfold szL; simp only [List.length_cons, List.length_nil, List.length_append, List.length_map, List.length_singleton]; omega) | (unfold szL; simp only [List.length_cons, List.length_nil, Nat.reduceAdd, Nat.reduceLeDiff])) only [mDef, mStar, mSeq, mRet, mVar, mD, mBin, mCB, mCons, mNil, mIfS, mIf, mTB, mTru, mTAnd, mTOr, mTNot, mAnd, mOr, mNot, mNeg, mChain, mExpr, mAsg, mPar, gNm, gTp, gsCons, gsNil, gSb, mTup, mLst, mNext, mNever, mBreak, mCont, mFor, mAug, mIsi, mFld, mMeth, mBM, mCM, mSlice, mPart, mNoP, mDk, mDt, mIA, mIL, mIT, mIS, mIR1, mIR2, mIZ, mIE, mLc, mLc2, mYes, mRev, mRepr, mIsiC, mHas, mEqI, mLenI, Mini.R.bind_ok, Mini.R.thn_ok, Mini.R.bind_bad, Mini.R.thn_bad, ofO, asB, rB, rN, rI, List.length_cons, List.length_nil, List.map_cons, List.map_nil, List.cons_append, List.nil_append, List.getElem?_cons_zero, List.getElem?_cons_succ, List.getElem?_nil, List.replicate_succ, List.replicate_zero, Nat.reduceAdd, Nat.reduceSub, if_true, if_false, List.append_nil, List.set_cons_zero, List.set_cons_succ, reduceIte, Nat.reduceEqDiff, lst_d, lst_rl, lst_t, tup_d, tup_t, ix_dl, ix_rl, ix_dt, add_int, sub_int, lt_int, le_int, gt_int, ge_int, abs_int, max_int, min_int, rL_ok, rT_ok, len_dl, len_dt, len_rl, mul_int, div_int, mod_int, pow_int, atI_of, Int.reducePow, Int.reduceToNat, Int.reduceMod, Int.reduceAdd, Int.reduceSub, Int.reduceMul, Int.reduceDiv, Int.reduceLT, Int.reduceLE, decide_true, decide_false, tr_non, tr_bl, tr_int, tr_lst, tr_tup, ty_non, ty_bl, ty_int, ty_str, ty_lst, ty_tup, ty_tupm, instB, String.reduceBEq, Bool.or_true, Bool.or_false, Bool.true_or, Bool.false_or, Bool.and_true, Bool.and_false, Bool.true_and, Bool.false_and, Bool.not_true, Bool.not_false, beq_self_eq_true, pureAll, mkTup, pureAll_map, mkTup_d, List.length_append, List.length_singleton, e1, c, e2]
    have := frz_ds (b := b) (h := h.set b (bagO L M) ++ t) (o := bagO L2 M2) (t := []) rfl (by
      rw [set_left (by simpa using hb), List.set_set]
      exact body)
    rw [set_left (by simpa using hb), List.set_set] at this
    exact this
  · have ok0 : RowsIn h.length (t ++ [MO.lst []]) [] [] := ⟨rfl, fun k r row h1 => by simp at h1⟩
    obtain ⟨L2, M2, s1, J1, i1, rs1, x1, ok2, p1, p2, a1, r1, e2⟩ := rg_step (m4 := some (.d (.int 0))) (m5 := none) (m6 := none) (tot := 0) (tt := t ++ [MO.lst []]) (i' := t.length) (rs := []) (rows := []) hb ok1 (at_last rfl) ok0 rfl (fun r hr => by simp at hr) (by omega)
    obtain ⟨L3, M3, s2, J2, i2, rs2, x2, ok3, p3, p4, a2, r2, e3⟩ := rg_step (m4 := some (.d (.int 1))) (m5 := x1) (m6 := none) (tot := s1) (tt := t ++ [MO.lst []] ++ J1) (i' := i1) (rs := rs1) (rows := ring 0 s1) hb ok2 a1 (by simpa using r1) ring_len ((ring_ok (tot := 0) p1).mono (by omega)) (by omega)
    have tot : (ring 0 s1 ++ ring s1 s2).length = s1 + s2 := by simp [ring_len]
    have hok : RowsOk (s1 + s2) (ring 0 s1 ++ ring s1 s2) := ((ring_ok (tot := 0) p1).mono (by omega)).app (ring_ok p3)
    refine ⟨ring 0 s1 ++ ring s1 s2, L3, M3, ⟨by omega, by omega, by rw [tot]; exact hok⟩, ok3, ?_⟩
    have hrl : rs2.length = s1 + s2 := by rw [r2.1, tot]
    have at2 : (h.set b (bagO L3 M3) ++ (t ++ [MO.lst []] ++ J1 ++ J2))[h.length + i2]? = some (.lst (rs2.map .ref)) := by
      rw [List.getElem?_append_right (by simp), show h.length + i2 - (h.set b (bagO L3 M3)).length = i2 by simp]
      exact a2
    have body : mDef 2 7 b_law_ringed [.ref b, .d (.int 10)] (h.set b (bagO L M) ++ t) = .ok (.ref (h.length + (t ++ [MO.lst []] ++ J1 ++ J2).length)) (h.set b (bagO L3 M3) ++ (t ++ [MO.lst []] ++ J1 ++ J2) ++ [MO.lst (rs2.map .ref)]) := by
      rw [rg_eq]
      refine mDef_rt ((mSeq_nx (μ' := [some (.ref b), some (.d (.int 10)), none, none, none, none, none]) (h' := h.set b (bagO L1 M1) ++ t) (by simp (disch := first | omega | decide | assumption | (unfold szL; simp only [List.length_cons, List.length_nil, List.length_append, List.length_map, List.length_singleton]; omega) | (unfold szL; simp only [List.length_cons, List.length_nil, Nat.reduceAdd, Nat.reduceLeDiff])) only [mDef, mStar, mSeq, mRet, mVar, mD, mBin, mCB, mCons, mNil, mIfS, mIf, mTB, mTru, mTAnd, mTOr, mTNot, mAnd, mOr, mNot, mNeg, mChain, mExpr, mAsg, mPar, gNm, gTp, gsCons, gsNil, gSb, mTup, mLst, mNext, mNever, mBreak, mCont, mFor, mAug, mIsi, mFld, mMeth, mBM, mCM, mSlice, mPart, mNoP, mDk, mDt, mIA, mIL, mIT, mIS, mIR1, mIR2, mIZ, mIE, mLc, mLc2, mYes, mRev, mRepr, mIsiC, mHas, mEqI, mLenI, Mini.R.bind_ok, Mini.R.thn_ok, Mini.R.bind_bad, Mini.R.thn_bad, ofO, asB, rB, rN, rI, List.length_cons, List.length_nil, List.map_cons, List.map_nil, List.cons_append, List.nil_append, List.getElem?_cons_zero, List.getElem?_cons_succ, List.getElem?_nil, List.replicate_succ, List.replicate_zero, Nat.reduceAdd, Nat.reduceSub, if_true, if_false, List.append_nil, List.set_cons_zero, List.set_cons_succ, reduceIte, Nat.reduceEqDiff, lst_d, lst_rl, lst_t, tup_d, tup_t, ix_dl, ix_rl, ix_dt, add_int, sub_int, lt_int, le_int, gt_int, ge_int, abs_int, max_int, min_int, rL_ok, rT_ok, len_dl, len_dt, len_rl, mul_int, div_int, mod_int, pow_int, atI_of, Int.reducePow, Int.reduceToNat, Int.reduceMod, Int.reduceAdd, Int.reduceSub, Int.reduceMul, Int.reduceDiv, Int.reduceLT, Int.reduceLE, decide_true, decide_false, tr_non, tr_bl, tr_int, tr_lst, tr_tup, ty_non, ty_bl, ty_int, ty_str, ty_lst, ty_tup, ty_tupm, instB, String.reduceBEq, Bool.or_true, Bool.or_false, Bool.true_or, Bool.false_or, Bool.and_true, Bool.and_false, Bool.true_and, Bool.false_and, Bool.not_true, Bool.not_false, beq_self_eq_true, pureAll, mkTup, pureAll_map, mkTup_d, List.length_append, List.length_singleton, e1, c])).trans
        ((mSeq_nx (μ' := [some (.ref b), some (.d (.int 10)), some (.ref (h.length + t.length)), some (.d (.int 0)), none, none, none]) (h' := h.set b (bagO L1 M1) ++ (t ++ [MO.lst []])) ?_).trans
        ((mSeq_nx (μ' := [some (.ref b), some (.d (.int 10)), some (.ref (h.length + i2)), some (.d (.int (s1 + s2 : Nat))), some (.d (.int 1)), x2, none]) (h' := h.set b (bagO L3 M3) ++ (t ++ [MO.lst []] ++ J1 ++ J2)) ?_).trans ?_)))
      · simp (disch := first | omega | decide | assumption | (unfold szL; simp only [List.length_cons, List.length_nil, List.length_append, List.length_map, List.length_singleton]; omega) | (unfold szL; simp only [List.length_cons, List.length_nil, Nat.reduceAdd, Nat.reduceLeDiff])) only [mDef, mStar, mSeq, mRet, mVar, mD, mBin, mCB, mCons, mNil, mIfS, mIf, mTB, mTru, mTAnd, mTOr, mTNot, mAnd, mOr, mNot, mNeg, mChain, mExpr, mAsg, mPar, gNm, gTp, gsCons, gsNil, gSb, mTup, mLst, mNext, mNever, mBreak, mCont, mFor, mAug, mIsi, mFld, mMeth, mBM, mCM, mSlice, mPart, mNoP, mDk, mDt, mIA, mIL, mIT, mIS, mIR1, mIR2, mIZ, mIE, mLc, mLc2, mYes, mRev, mRepr, mIsiC, mHas, mEqI, mLenI, Mini.R.bind_ok, Mini.R.thn_ok, Mini.R.bind_bad, Mini.R.thn_bad, ofO, asB, rB, rN, rI, List.length_cons, List.length_nil, List.map_cons, List.map_nil, List.cons_append, List.nil_append, List.getElem?_cons_zero, List.getElem?_cons_succ, List.getElem?_nil, List.replicate_succ, List.replicate_zero, Nat.reduceAdd, Nat.reduceSub, if_true, if_false, List.append_nil, List.set_cons_zero, List.set_cons_succ, reduceIte, Nat.reduceEqDiff, lst_d, lst_rl, lst_t, tup_d, tup_t, ix_dl, ix_rl, ix_dt, add_int, sub_int, lt_int, le_int, gt_int, ge_int, abs_int, max_int, min_int, rL_ok, rT_ok, len_dl, len_dt, len_rl, mul_int, div_int, mod_int, pow_int, atI_of, Int.reducePow, Int.reduceToNat, Int.reduceMod, Int.reduceAdd, Int.reduceSub, Int.reduceMul, Int.reduceDiv, Int.reduceLT, Int.reduceLE, decide_true, decide_false, tr_non, tr_bl, tr_int, tr_lst, tr_tup, ty_non, ty_bl, ty_int, ty_str, ty_lst, ty_tup, ty_tupm, instB, String.reduceBEq, Bool.or_true, Bool.or_false, Bool.true_or, Bool.false_or, Bool.and_true, Bool.and_false, Bool.true_and, Bool.false_and, Bool.not_true, Bool.not_false, beq_self_eq_true, pureAll, mkTup, pureAll_map, mkTup_d, List.length_append, List.length_singleton, List.append_assoc]
        simp [pureAll, tupOf]
      · have e0 : (mIR1 (mD (.int 2))) [some (.ref b), some (.d (.int 10)), some (.ref (h.length + t.length)), some (.d (.int 0)), none, none, none] (h.set b (bagO L1 M1) ++ (t ++ [MO.lst []])) = .ok ([.d (.int 0), .d (.int 1)], noChk) (h.set b (bagO L1 M1) ++ (t ++ [MO.lst []])) := by
          simp (disch := first | omega | decide | assumption | (unfold szL; simp only [List.length_cons, List.length_nil, List.length_append, List.length_map, List.length_singleton]; omega) | (unfold szL; simp only [List.length_cons, List.length_nil, Nat.reduceAdd, Nat.reduceLeDiff])) only [mDef, mStar, mSeq, mRet, mVar, mD, mBin, mCB, mCons, mNil, mIfS, mIf, mTB, mTru, mTAnd, mTOr, mTNot, mAnd, mOr, mNot, mNeg, mChain, mExpr, mAsg, mPar, gNm, gTp, gsCons, gsNil, gSb, mTup, mLst, mNext, mNever, mBreak, mCont, mFor, mAug, mIsi, mFld, mMeth, mBM, mCM, mSlice, mPart, mNoP, mDk, mDt, mIA, mIL, mIT, mIS, mIR1, mIR2, mIZ, mIE, mLc, mLc2, mYes, mRev, mRepr, mIsiC, mHas, mEqI, mLenI, Mini.R.bind_ok, Mini.R.thn_ok, Mini.R.bind_bad, Mini.R.thn_bad, ofO, asB, rB, rN, rI, List.length_cons, List.length_nil, List.map_cons, List.map_nil, List.cons_append, List.nil_append, List.getElem?_cons_zero, List.getElem?_cons_succ, List.getElem?_nil, List.replicate_succ, List.replicate_zero, Nat.reduceAdd, Nat.reduceSub, if_true, if_false, List.append_nil, List.set_cons_zero, List.set_cons_succ, reduceIte, Nat.reduceEqDiff, lst_d, lst_rl, lst_t, tup_d, tup_t, ix_dl, ix_rl, ix_dt, add_int, sub_int, lt_int, le_int, gt_int, ge_int, abs_int, max_int, min_int, rL_ok, rT_ok, len_dl, len_dt, len_rl, mul_int, div_int, mod_int, pow_int, atI_of, Int.reducePow, Int.reduceToNat, Int.reduceMod, Int.reduceAdd, Int.reduceSub, Int.reduceMul, Int.reduceDiv, Int.reduceLT, Int.reduceLE, decide_true, decide_false, tr_non, tr_bl, tr_int, tr_lst, tr_tup, ty_non, ty_bl, ty_int, ty_str, ty_lst, ty_tup, ty_tupm, instB, String.reduceBEq, Bool.or_true, Bool.or_false, Bool.true_or, Bool.false_or, Bool.and_true, Bool.and_false, Bool.true_and, Bool.false_and, Bool.not_true, Bool.not_false, beq_self_eq_true, pureAll, mkTup, pureAll_map, mkTup_d, List.length_append, List.length_singleton]
          rfl
        unfold mFor
        rw [e0]
        simp only [Mini.R.thn_ok]
        have e2' := e2
        have e3' := e3
        simp only [Nat.zero_add] at e2'
        exact (forGo_cons rfl rfl e2').trans ((forGo_cons rfl rfl e3').trans rfl)
      · have sl : fSl (.ref (h.length + i2)) none (some 10) (h.set b (bagO L3 M3) ++ (t ++ [MO.lst []] ++ J1 ++ J2)) = .ok (.ref (h.length + (t ++ [MO.lst []] ++ J1 ++ J2).length)) (h.set b (bagO L3 M3) ++ (t ++ [MO.lst []] ++ J1 ++ J2) ++ [MO.lst (rs2.map .ref)]) := by
          simp only [fSl, lst_ref at2]
          have cut : cutM (rs2.map MV.ref) none (some 10) = rs2.map MV.ref := by
            unfold cutM
            rw [HT.sIx_none, show ((some 10 : Option Int)) = some ((10 : Nat) : Int) from rfl, HT.sIx_nat]
            simp
            rw [List.take_of_length_le (by simp; omega)]
          rw [cut, rL_ok (by simp [szL]; omega)]
          simp
        have hle : ((s1 + s2 : Nat) : Int) ≤ 10 := by omega
        simp (disch := first | omega | decide | assumption | (unfold szL; simp only [List.length_cons, List.length_nil, List.length_append, List.length_map, List.length_singleton]; omega) | (unfold szL; simp only [List.length_cons, List.length_nil, Nat.reduceAdd, Nat.reduceLeDiff])) only [mDef, mStar, mSeq, mRet, mVar, mD, mBin, mCB, mCons, mNil, mIfS, mIf, mTB, mTru, mTAnd, mTOr, mTNot, mAnd, mOr, mNot, mNeg, mChain, mExpr, mAsg, mPar, gNm, gTp, gsCons, gsNil, gSb, mTup, mLst, mNext, mNever, mBreak, mCont, mFor, mAug, mIsi, mFld, mMeth, mBM, mCM, mSlice, mPart, mNoP, mDk, mDt, mIA, mIL, mIT, mIS, mIR1, mIR2, mIZ, mIE, mLc, mLc2, mYes, mRev, mRepr, mIsiC, mHas, mEqI, mLenI, Mini.R.bind_ok, Mini.R.thn_ok, Mini.R.bind_bad, Mini.R.thn_bad, ofO, asB, rB, rN, rI, List.length_cons, List.length_nil, List.map_cons, List.map_nil, List.cons_append, List.nil_append, List.getElem?_cons_zero, List.getElem?_cons_succ, List.getElem?_nil, List.replicate_succ, List.replicate_zero, Nat.reduceAdd, Nat.reduceSub, if_true, if_false, List.append_nil, List.set_cons_zero, List.set_cons_succ, reduceIte, Nat.reduceEqDiff, lst_d, lst_rl, lst_t, tup_d, tup_t, ix_dl, ix_rl, ix_dt, add_int, sub_int, lt_int, le_int, gt_int, ge_int, abs_int, max_int, min_int, rL_ok, rT_ok, len_dl, len_dt, len_rl, mul_int, div_int, mod_int, pow_int, atI_of, Int.reducePow, Int.reduceToNat, Int.reduceMod, Int.reduceAdd, Int.reduceSub, Int.reduceMul, Int.reduceDiv, Int.reduceLT, Int.reduceLE, decide_true, decide_false, tr_non, tr_bl, tr_int, tr_lst, tr_tup, ty_non, ty_bl, ty_int, ty_str, ty_lst, ty_tup, ty_tupm, instB, String.reduceBEq, Bool.or_true, Bool.or_false, Bool.true_or, Bool.false_or, Bool.and_true, Bool.and_false, Bool.true_and, Bool.false_and, Bool.not_true, Bool.not_false, beq_self_eq_true, pureAll, mkTup, pureAll_map, mkTup_d, List.length_append, List.length_singleton, hle, sl]
    have := frz_ls (m := mDef 2 7 b_law_ringed) (us := [.ref b, .d (.int 10)]) (h := h.set b (bagO L M) ++ t) (b := b) (o := bagO L3 M3) (t := [MO.lst []] ++ J1 ++ J2 ++ [MO.lst (rs2.map .ref)]) (i := h.length + (t ++ [MO.lst []] ++ J1 ++ J2).length) (p := .list ((ring 0 s1 ++ ring s1 s2).map .list)) rfl (by
      rw [set_left (by simpa using hb), List.set_set]
      simpa [List.append_assoc] using body) (by simp) (by
      rw [set_left (by simpa using hb), List.set_set]
      refine toF_l (l := rs2.map .ref) (by simp) ?_ (mapO_refs (by rw [r2.1]; simp) fun k r a h1 h2 => ?_)
      · have := at_last (A := h.set b (bagO L3 M3) ++ (t ++ [MO.lst []] ++ J1 ++ J2)) (o := MO.lst (rs2.map .ref)) (i := h.length + (t ++ [MO.lst []] ++ J1 ++ J2).length) (by simp)
        simpa [List.append_assoc] using this
      · rw [List.getElem?_map] at h2
        obtain ⟨row, h3, h4⟩ := Option.map_eq_some_iff.mp h2
        obtain ⟨r', e', q'⟩ := r2.2 k r row h1 h3
        subst h4 e'
        refine toF_l (l := row.map .d) (by subst ht0; simp) ?_ (mapO_d row)
        have := at_left (A := h.set b (bagO L3 M3) ++ (t ++ [MO.lst []] ++ J1 ++ J2)) (B := [MO.lst (rs2.map .ref)]) (i := h.length + r') (o := MO.lst (row.map .d)) (by
          rw [List.getElem?_append_right (by simp), show h.length + r' - (h.set b (bagO L3 M3)).length = r' by simp]
          exact q')
        simpa [List.append_assoc] using this)
    rw [set_left (by simpa using hb), List.set_set] at this
    exact this
theorem ringed_at {b : Nat} {L M : Int} {h t : MH} (hb : b < h.length) (ok : BagOk L M) :
    ∃ Lst L' M', LawOk Lst ∧ BagOk L' M' ∧ m_law_ringed [.ref b, .d (.int 10)] (h.set b (bagO L M) ++ t) = .ok (.d (.list (Lst.map .list))) (h.set b (bagO L' M') ++ t) := by
  obtain ⟨Lst, L', M', a1, a2, e⟩ := ringed_at0 (b := b) (h := h ++ t) rfl (by simp; omega) ok
  rw [List.append_nil, List.append_nil, set_left hb, set_left hb] at e
  exact ⟨Lst, L', M', a1, a2, e⟩
end Law
namespace Law
open Mini
open PySem (PyData Str)
/-! ### items -/
section
variable {h : MH}
theorem integer_i {i : Int} : m_is_integer [.d (.int i)] h = .ok (.d (.bool true)) h := by
  refine frz_d1 ?_; unfold b_is_integer; simp (disch := first | omega | decide | assumption | (unfold szL; simp only [List.length_cons, List.length_nil, List.length_append, List.length_map, List.length_singleton]; omega) | (unfold szL; simp only [List.length_cons, List.length_nil, Nat.reduceAdd, Nat.reduceLeDiff])) only [mDef, mStar, mSeq, mRet, mVar, mD, mBin, mCB, mCons, mNil, mIfS, mIf, mTB, mTru, mTAnd, mTOr, mTNot, mAnd, mOr, mNot, mNeg, mChain, mExpr, mAsg, mPar, gNm, gTp, gsCons, gsNil, gSb, mTup, mLst, mNext, mNever, mBreak, mCont, mFor, mAug, mIsi, mFld, mMeth, mBM, mCM, mSlice, mPart, mNoP, mDk, mDt, mIA, mIL, mIT, mIS, mIR1, mIR2, mIZ, mIE, mLc, mLc2, mYes, mRev, mRepr, mIsiC, mHas, mEqI, mLenI, Mini.R.bind_ok, Mini.R.thn_ok, Mini.R.bind_bad, Mini.R.thn_bad, ofO, asB, rB, rN, rI, List.length_cons, List.length_nil, List.map_cons, List.map_nil, List.cons_append, List.nil_append, List.getElem?_cons_zero, List.getElem?_cons_succ, List.getElem?_nil, List.replicate_succ, List.replicate_zero, Nat.reduceAdd, Nat.reduceSub, if_true, if_false, List.append_nil, List.set_cons_zero, List.set_cons_succ, reduceIte, Nat.reduceEqDiff, lst_d, lst_rl, lst_t, tup_d, tup_t, ix_dl, ix_rl, ix_dt, add_int, sub_int, lt_int, le_int, gt_int, ge_int, abs_int, max_int, min_int, rL_ok, rT_ok, len_dl, len_dt, len_rl, mul_int, div_int, mod_int, pow_int, atI_of, Int.reducePow, Int.reduceToNat, Int.reduceMod, Int.reduceAdd, Int.reduceSub, Int.reduceMul, Int.reduceDiv, Int.reduceLT, Int.reduceLE, decide_true, decide_false, tr_non, tr_bl, tr_int, tr_lst, tr_tup, ty_non, ty_bl, ty_int, ty_str, ty_lst, ty_tup, ty_tupm, instB, String.reduceBEq, Bool.or_true, Bool.or_false, Bool.true_or, Bool.false_or, Bool.and_true, Bool.and_false, Bool.true_and, Bool.false_and, Bool.not_true, Bool.not_false, beq_self_eq_true, pureAll, mkTup, pureAll_map, mkTup_d, List.length_append, List.length_singleton]
theorem integer_s {i : Str} : m_is_integer [.d (.str i)] h = .ok (.d (.bool false)) h := by
  refine frz_d1 ?_; unfold b_is_integer; simp (disch := first | omega | decide | assumption | (unfold szL; simp only [List.length_cons, List.length_nil, List.length_append, List.length_map, List.length_singleton]; omega) | (unfold szL; simp only [List.length_cons, List.length_nil, Nat.reduceAdd, Nat.reduceLeDiff])) only [mDef, mStar, mSeq, mRet, mVar, mD, mBin, mCB, mCons, mNil, mIfS, mIf, mTB, mTru, mTAnd, mTOr, mTNot, mAnd, mOr, mNot, mNeg, mChain, mExpr, mAsg, mPar, gNm, gTp, gsCons, gsNil, gSb, mTup, mLst, mNext, mNever, mBreak, mCont, mFor, mAug, mIsi, mFld, mMeth, mBM, mCM, mSlice, mPart, mNoP, mDk, mDt, mIA, mIL, mIT, mIS, mIR1, mIR2, mIZ, mIE, mLc, mLc2, mYes, mRev, mRepr, mIsiC, mHas, mEqI, mLenI, Mini.R.bind_ok, Mini.R.thn_ok, Mini.R.bind_bad, Mini.R.thn_bad, ofO, asB, rB, rN, rI, List.length_cons, List.length_nil, List.map_cons, List.map_nil, List.cons_append, List.nil_append, List.getElem?_cons_zero, List.getElem?_cons_succ, List.getElem?_nil, List.replicate_succ, List.replicate_zero, Nat.reduceAdd, Nat.reduceSub, if_true, if_false, List.append_nil, List.set_cons_zero, List.set_cons_succ, reduceIte, Nat.reduceEqDiff, lst_d, lst_rl, lst_t, tup_d, tup_t, ix_dl, ix_rl, ix_dt, add_int, sub_int, lt_int, le_int, gt_int, ge_int, abs_int, max_int, min_int, rL_ok, rT_ok, len_dl, len_dt, len_rl, mul_int, div_int, mod_int, pow_int, atI_of, Int.reducePow, Int.reduceToNat, Int.reduceMod, Int.reduceAdd, Int.reduceSub, Int.reduceMul, Int.reduceDiv, Int.reduceLT, Int.reduceLE, decide_true, decide_false, tr_non, tr_bl, tr_int, tr_lst, tr_tup, ty_non, ty_bl, ty_int, ty_str, ty_lst, ty_tup, ty_tupm, instB, String.reduceBEq, Bool.or_true, Bool.or_false, Bool.true_or, Bool.false_or, Bool.and_true, Bool.and_false, Bool.true_and, Bool.false_and, Bool.not_true, Bool.not_false, beq_self_eq_true, pureAll, mkTup, pureAll_map, mkTup_d, List.length_append, List.length_singleton]
theorem integer_t {i : List PyData} : m_is_integer [.d (.tuple i)] h = .ok (.d (.bool false)) h := by
  refine frz_d1 ?_; unfold b_is_integer; simp (disch := first | omega | decide | assumption | (unfold szL; simp only [List.length_cons, List.length_nil, List.length_append, List.length_map, List.length_singleton]; omega) | (unfold szL; simp only [List.length_cons, List.length_nil, Nat.reduceAdd, Nat.reduceLeDiff])) only [mDef, mStar, mSeq, mRet, mVar, mD, mBin, mCB, mCons, mNil, mIfS, mIf, mTB, mTru, mTAnd, mTOr, mTNot, mAnd, mOr, mNot, mNeg, mChain, mExpr, mAsg, mPar, gNm, gTp, gsCons, gsNil, gSb, mTup, mLst, mNext, mNever, mBreak, mCont, mFor, mAug, mIsi, mFld, mMeth, mBM, mCM, mSlice, mPart, mNoP, mDk, mDt, mIA, mIL, mIT, mIS, mIR1, mIR2, mIZ, mIE, mLc, mLc2, mYes, mRev, mRepr, mIsiC, mHas, mEqI, mLenI, Mini.R.bind_ok, Mini.R.thn_ok, Mini.R.bind_bad, Mini.R.thn_bad, ofO, asB, rB, rN, rI, List.length_cons, List.length_nil, List.map_cons, List.map_nil, List.cons_append, List.nil_append, List.getElem?_cons_zero, List.getElem?_cons_succ, List.getElem?_nil, List.replicate_succ, List.replicate_zero, Nat.reduceAdd, Nat.reduceSub, if_true, if_false, List.append_nil, List.set_cons_zero, List.set_cons_succ, reduceIte, Nat.reduceEqDiff, lst_d, lst_rl, lst_t, tup_d, tup_t, ix_dl, ix_rl, ix_dt, add_int, sub_int, lt_int, le_int, gt_int, ge_int, abs_int, max_int, min_int, rL_ok, rT_ok, len_dl, len_dt, len_rl, mul_int, div_int, mod_int, pow_int, atI_of, Int.reducePow, Int.reduceToNat, Int.reduceMod, Int.reduceAdd, Int.reduceSub, Int.reduceMul, Int.reduceDiv, Int.reduceLT, Int.reduceLE, decide_true, decide_false, tr_non, tr_bl, tr_int, tr_lst, tr_tup, ty_non, ty_bl, ty_int, ty_str, ty_lst, ty_tup, ty_tupm, instB, String.reduceBEq, Bool.or_true, Bool.or_false, Bool.true_or, Bool.false_or, Bool.and_true, Bool.and_false, Bool.true_and, Bool.false_and, Bool.not_true, Bool.not_false, beq_self_eq_true, pureAll, mkTup, pureAll_map, mkTup_d, List.length_append, List.length_singleton]
theorem word_i {i : Int} : m_is_word [.d (.int i)] h = .ok (.d (.bool false)) h := by
  refine frz_d1 ?_; unfold b_is_word
  simp only [mDef, mRet, mAnd, mIsi, mVar, List.map_cons, List.map_nil, List.cons_append, List.getElem?_cons_zero, Mini.R.bind_ok, ty_int, instB]
  simp (disch := first | omega | decide | assumption | (unfold szL; simp only [List.length_cons, List.length_nil, List.length_append, List.length_map, List.length_singleton]; omega) | (unfold szL; simp only [List.length_cons, List.length_nil, Nat.reduceAdd, Nat.reduceLeDiff])) only [mDef, mStar, mSeq, mRet, mVar, mD, mBin, mCB, mCons, mNil, mIfS, mIf, mTB, mTru, mTAnd, mTOr, mTNot, mAnd, mOr, mNot, mNeg, mChain, mExpr, mAsg, mPar, gNm, gTp, gsCons, gsNil, gSb, mTup, mLst, mNext, mNever, mBreak, mCont, mFor, mAug, mIsi, mFld, mMeth, mBM, mCM, mSlice, mPart, mNoP, mDk, mDt, mIA, mIL, mIT, mIS, mIR1, mIR2, mIZ, mIE, mLc, mLc2, mYes, mRev, mRepr, mIsiC, mHas, mEqI, mLenI, Mini.R.bind_ok, Mini.R.thn_ok, Mini.R.bind_bad, Mini.R.thn_bad, ofO, asB, rB, rN, rI, List.length_cons, List.length_nil, List.map_cons, List.map_nil, List.cons_append, List.nil_append, List.getElem?_cons_zero, List.getElem?_cons_succ, List.getElem?_nil, List.replicate_succ, List.replicate_zero, Nat.reduceAdd, Nat.reduceSub, if_true, if_false, List.append_nil, List.set_cons_zero, List.set_cons_succ, reduceIte, Nat.reduceEqDiff, lst_d, lst_rl, lst_t, tup_d, tup_t, ix_dl, ix_rl, ix_dt, add_int, sub_int, lt_int, le_int, gt_int, ge_int, abs_int, max_int, min_int, rL_ok, rT_ok, len_dl, len_dt, len_rl, mul_int, div_int, mod_int, pow_int, atI_of, Int.reducePow, Int.reduceToNat, Int.reduceMod, Int.reduceAdd, Int.reduceSub, Int.reduceMul, Int.reduceDiv, Int.reduceLT, Int.reduceLE, decide_true, decide_false, tr_non, tr_bl, tr_int, tr_lst, tr_tup, ty_non, ty_bl, ty_int, ty_str, ty_lst, ty_tup, ty_tupm, instB, String.reduceBEq, Bool.or_true, Bool.or_false, Bool.true_or, Bool.false_or, Bool.and_true, Bool.and_false, Bool.true_and, Bool.false_and, Bool.not_true, Bool.not_false, beq_self_eq_true, pureAll, mkTup, pureAll_map, mkTup_d, List.length_append, List.length_singleton]
theorem word_t {i : List PyData} : m_is_word [.d (.tuple i)] h = .ok (.d (.bool false)) h := by
  refine frz_d1 ?_; unfold b_is_word
  simp only [mDef, mRet, mAnd, mIsi, mVar, List.map_cons, List.map_nil, List.cons_append, List.getElem?_cons_zero, Mini.R.bind_ok, ty_tup, instB]
  simp (disch := first | omega | decide | assumption | (unfold szL; simp only [List.length_cons, List.length_nil, List.length_append, List.length_map, List.length_singleton]; omega) | (unfold szL; simp only [List.length_cons, List.length_nil, Nat.reduceAdd, Nat.reduceLeDiff])) only [mDef, mStar, mSeq, mRet, mVar, mD, mBin, mCB, mCons, mNil, mIfS, mIf, mTB, mTru, mTAnd, mTOr, mTNot, mAnd, mOr, mNot, mNeg, mChain, mExpr, mAsg, mPar, gNm, gTp, gsCons, gsNil, gSb, mTup, mLst, mNext, mNever, mBreak, mCont, mFor, mAug, mIsi, mFld, mMeth, mBM, mCM, mSlice, mPart, mNoP, mDk, mDt, mIA, mIL, mIT, mIS, mIR1, mIR2, mIZ, mIE, mLc, mLc2, mYes, mRev, mRepr, mIsiC, mHas, mEqI, mLenI, Mini.R.bind_ok, Mini.R.thn_ok, Mini.R.bind_bad, Mini.R.thn_bad, ofO, asB, rB, rN, rI, List.length_cons, List.length_nil, List.map_cons, List.map_nil, List.cons_append, List.nil_append, List.getElem?_cons_zero, List.getElem?_cons_succ, List.getElem?_nil, List.replicate_succ, List.replicate_zero, Nat.reduceAdd, Nat.reduceSub, if_true, if_false, List.append_nil, List.set_cons_zero, List.set_cons_succ, reduceIte, Nat.reduceEqDiff, lst_d, lst_rl, lst_t, tup_d, tup_t, ix_dl, ix_rl, ix_dt, add_int, sub_int, lt_int, le_int, gt_int, ge_int, abs_int, max_int, min_int, rL_ok, rT_ok, len_dl, len_dt, len_rl, mul_int, div_int, mod_int, pow_int, atI_of, Int.reducePow, Int.reduceToNat, Int.reduceMod, Int.reduceAdd, Int.reduceSub, Int.reduceMul, Int.reduceDiv, Int.reduceLT, Int.reduceLE, decide_true, decide_false, tr_non, tr_bl, tr_int, tr_lst, tr_tup, ty_non, ty_bl, ty_int, ty_str, ty_lst, ty_tup, ty_tupm, instB, String.reduceBEq, Bool.or_true, Bool.or_false, Bool.true_or, Bool.false_or, Bool.and_true, Bool.and_false, Bool.true_and, Bool.false_and, Bool.not_true, Bool.not_false, beq_self_eq_true, pureAll, mkTup, pureAll_map, mkTup_d, List.length_append, List.length_singleton]
/-- a text of few small letters -/
structure WordOk (s : Str) : Prop where
  few : s.length ≤ 8
  let_ : ∀ c ∈ s.cps.toList, c ∈ ("abcdefghijklmnopqrstuvwxyz" : Str).cps.toList
theorem word_s {s : Str} (w : WordOk s) : m_is_word [.d (.str s)] h = .ok (.d (.bool true)) h := by
  have hlen : s.cps.toList.length ≤ 8 := by
    have := w.few
    simpa [PySem.Str.length] using this
  have hsz : s.cps.size ≤ 8 := by simpa using hlen
  have lc : (mLc (mIS (mVar 0)) (gNm 1) mYes (mBin (fIn false) (mVar 1) (mD (.str "abcdefghijklmnopqrstuvwxyz"))) [1]) [some (.d (.str s)), none] h = .ok (.ref h.length) (h ++ [.lst (s.cps.toList.map fun _ => .d (.bool true))]) := by
    have e := lcGo_pure (chk := noChk) (g := gNm 1) (tt := mYes) (te := mBin (fIn false) (mVar 1) (mD (.str "abcdefghijklmnopqrstuvwxyz"))) (μ0 := wipeM [some (.d (.str s)), none] [1]) (h := h) (f := fun _ => .d (.bool true)) rfl (chars s) [] (fun x hx => by
      obtain ⟨c, hc, rfl⟩ := List.mem_map.mp hx
      refine ⟨_, rfl, rfl, ?_⟩
      have ci : charIn ⟨#[c]⟩ "abcdefghijklmnopqrstuvwxyz" = some true := by
        simp only [charIn, decide_eq_true (w.let_ c hc)]
      have hf : fIn false (.d (.str ⟨#[c]⟩)) (.d (.str "abcdefghijklmnopqrstuvwxyz")) h = .ok (.d (.bool true)) h := by
        simp only [fIn, dlook, ci]
        rfl
      simp only [wipeM]
      simp (disch := first | omega | decide | assumption | (unfold szL; simp only [List.length_cons, List.length_nil, List.length_append, List.length_map, List.length_singleton]; omega) | (unfold szL; simp only [List.length_cons, List.length_nil, Nat.reduceAdd, Nat.reduceLeDiff])) only [mDef, mStar, mSeq, mRet, mVar, mD, mBin, mCB, mCons, mNil, mIfS, mIf, mTB, mTru, mTAnd, mTOr, mTNot, mAnd, mOr, mNot, mNeg, mChain, mExpr, mAsg, mPar, gNm, gTp, gsCons, gsNil, gSb, mTup, mLst, mNext, mNever, mBreak, mCont, mFor, mAug, mIsi, mFld, mMeth, mBM, mCM, mSlice, mPart, mNoP, mDk, mDt, mIA, mIL, mIT, mIS, mIR1, mIR2, mIZ, mIE, mLc, mLc2, mYes, mRev, mRepr, mIsiC, mHas, mEqI, mLenI, Mini.R.bind_ok, Mini.R.thn_ok, Mini.R.bind_bad, Mini.R.thn_bad, ofO, asB, rB, rN, rI, List.length_cons, List.length_nil, List.map_cons, List.map_nil, List.cons_append, List.nil_append, List.getElem?_cons_zero, List.getElem?_cons_succ, List.getElem?_nil, List.replicate_succ, List.replicate_zero, Nat.reduceAdd, Nat.reduceSub, if_true, if_false, List.append_nil, List.set_cons_zero, List.set_cons_succ, reduceIte, Nat.reduceEqDiff, lst_d, lst_rl, lst_t, tup_d, tup_t, ix_dl, ix_rl, ix_dt, add_int, sub_int, lt_int, le_int, gt_int, ge_int, abs_int, max_int, min_int, rL_ok, rT_ok, len_dl, len_dt, len_rl, mul_int, div_int, mod_int, pow_int, atI_of, Int.reducePow, Int.reduceToNat, Int.reduceMod, Int.reduceAdd, Int.reduceSub, Int.reduceMul, Int.reduceDiv, Int.reduceLT, Int.reduceLE, decide_true, decide_false, tr_non, tr_bl, tr_int, tr_lst, tr_tup, ty_non, ty_bl, ty_int, ty_str, ty_lst, ty_tup, ty_tupm, instB, String.reduceBEq, Bool.or_true, Bool.or_false, Bool.true_or, Bool.false_or, Bool.and_true, Bool.and_false, Bool.true_and, Bool.false_and, Bool.not_true, Bool.not_false, beq_self_eq_true, pureAll, mkTup, pureAll_map, mkTup_d, List.length_append, List.length_singleton, hf]) (by simp [chars, szL]; omega)
    unfold mLc
    simp (disch := first | omega | decide | assumption | (unfold szL; simp only [List.length_cons, List.length_nil, List.length_append, List.length_map, List.length_singleton]; omega) | (unfold szL; simp only [List.length_cons, List.length_nil, Nat.reduceAdd, Nat.reduceLeDiff])) only [mDef, mStar, mSeq, mRet, mVar, mD, mBin, mCB, mCons, mNil, mIfS, mIf, mTB, mTru, mTAnd, mTOr, mTNot, mAnd, mOr, mNot, mNeg, mChain, mExpr, mAsg, mPar, gNm, gTp, gsCons, gsNil, gSb, mTup, mLst, mNext, mNever, mBreak, mCont, mFor, mAug, mIsi, mFld, mMeth, mBM, mCM, mSlice, mPart, mNoP, mDk, mDt, mIA, mIL, mIT, mIS, mIR1, mIR2, mIZ, mIE, mLc, mLc2, mYes, mRev, mRepr, mIsiC, mHas, mEqI, mLenI, Mini.R.bind_ok, Mini.R.thn_ok, Mini.R.bind_bad, Mini.R.thn_bad, ofO, asB, rB, rN, rI, List.length_cons, List.length_nil, List.map_cons, List.map_nil, List.cons_append, List.nil_append, List.getElem?_cons_zero, List.getElem?_cons_succ, List.getElem?_nil, List.replicate_succ, List.replicate_zero, Nat.reduceAdd, Nat.reduceSub, if_true, if_false, List.append_nil, List.set_cons_zero, List.set_cons_succ, reduceIte, Nat.reduceEqDiff, lst_d, lst_rl, lst_t, tup_d, tup_t, ix_dl, ix_rl, ix_dt, add_int, sub_int, lt_int, le_int, gt_int, ge_int, abs_int, max_int, min_int, rL_ok, rT_ok, len_dl, len_dt, len_rl, mul_int, div_int, mod_int, pow_int, atI_of, Int.reducePow, Int.reduceToNat, Int.reduceMod, Int.reduceAdd, Int.reduceSub, Int.reduceMul, Int.reduceDiv, Int.reduceLT, Int.reduceLE, decide_true, decide_false, tr_non, tr_bl, tr_int, tr_lst, tr_tup, ty_non, ty_bl, ty_int, ty_str, ty_lst, ty_tup, ty_tupm, instB, String.reduceBEq, Bool.or_true, Bool.or_false, Bool.true_or, Bool.false_or, Bool.and_true, Bool.and_false, Bool.true_and, Bool.false_and, Bool.not_true, Bool.not_false, beq_self_eq_true, pureAll, mkTup, pureAll_map, mkTup_d, List.length_append, List.length_singleton, e]
    rw [rL_ok (by simp [chars, szL]; omega)]
    simp [chars, Function.comp_def]
  have al : fAll [.ref h.length] (h ++ [.lst (s.cps.toList.map fun _ => .d (.bool true))]) = .ok (.d (.bool true)) (h ++ [.lst (s.cps.toList.map fun _ => .d (.bool true))]) := by
    have e : ∀ l : List Nat, boolsOf (l.map fun _ => MV.d (.bool true)) = some (l.map fun _ => true) := by
      intro l
      induction l with
      | nil => rfl
      | cons x l ih =>
        unfold boolsOf at ih ⊢
        simp only [List.map_cons, mapO, ih]
    simp only [fAll, lst_ref (at_last rfl), Option.bind_some, e]
    simp [rB]
  refine frz_d0 (t := [.lst (s.cps.toList.map fun _ => .d (.bool true))]) ?_
  unfold b_is_word
  have l8 : ((s.length : Int) ≤ 8) := by have := w.few; omega
  have sz : s.length ≤ szL := by have := w.few; unfold szL; omega
  simp only [mDef, mRet, mAnd, mIsi, mBin, mCB, mCons, mNil, mD, List.map_cons, List.map_nil, List.cons_append, Mini.R.bind_ok, List.length_cons, List.length_nil, Nat.reduceAdd, Nat.reduceSub, List.replicate_succ, List.replicate_zero, List.nil_append, if_true]
  have v0 : (mVar 0) [some (.d (.str s)), none] h = .ok (.d (.str s)) h := rfl
  simp only [v0, Mini.R.bind_ok, ty_str, instB, len_str sz, le_int, l8, decide_true, lc, al]
  rfl
theorem leaf_i {i : Int} : m_is_leaf [.d (.int i)] h = .ok (.d (.bool true)) h := by
  refine frz_d1 ?_; unfold b_is_leaf; simp (disch := first | omega | decide | assumption | (unfold szL; simp only [List.length_cons, List.length_nil, List.length_append, List.length_map, List.length_singleton]; omega) | (unfold szL; simp only [List.length_cons, List.length_nil, Nat.reduceAdd, Nat.reduceLeDiff])) only [mDef, mStar, mSeq, mRet, mVar, mD, mBin, mCB, mCons, mNil, mIfS, mIf, mTB, mTru, mTAnd, mTOr, mTNot, mAnd, mOr, mNot, mNeg, mChain, mExpr, mAsg, mPar, gNm, gTp, gsCons, gsNil, gSb, mTup, mLst, mNext, mNever, mBreak, mCont, mFor, mAug, mIsi, mFld, mMeth, mBM, mCM, mSlice, mPart, mNoP, mDk, mDt, mIA, mIL, mIT, mIS, mIR1, mIR2, mIZ, mIE, mLc, mLc2, mYes, mRev, mRepr, mIsiC, mHas, mEqI, mLenI, Mini.R.bind_ok, Mini.R.thn_ok, Mini.R.bind_bad, Mini.R.thn_bad, ofO, asB, rB, rN, rI, List.length_cons, List.length_nil, List.map_cons, List.map_nil, List.cons_append, List.nil_append, List.getElem?_cons_zero, List.getElem?_cons_succ, List.getElem?_nil, List.replicate_succ, List.replicate_zero, Nat.reduceAdd, Nat.reduceSub, if_true, if_false, List.append_nil, List.set_cons_zero, List.set_cons_succ, reduceIte, Nat.reduceEqDiff, lst_d, lst_rl, lst_t, tup_d, tup_t, ix_dl, ix_rl, ix_dt, add_int, sub_int, lt_int, le_int, gt_int, ge_int, abs_int, max_int, min_int, rL_ok, rT_ok, len_dl, len_dt, len_rl, mul_int, div_int, mod_int, pow_int, atI_of, Int.reducePow, Int.reduceToNat, Int.reduceMod, Int.reduceAdd, Int.reduceSub, Int.reduceMul, Int.reduceDiv, Int.reduceLT, Int.reduceLE, decide_true, decide_false, tr_non, tr_bl, tr_int, tr_lst, tr_tup, ty_non, ty_bl, ty_int, ty_str, ty_lst, ty_tup, ty_tupm, instB, String.reduceBEq, Bool.or_true, Bool.or_false, Bool.true_or, Bool.false_or, Bool.and_true, Bool.and_false, Bool.true_and, Bool.false_and, Bool.not_true, Bool.not_false, beq_self_eq_true, pureAll, mkTup, pureAll_map, mkTup_d, List.length_append, List.length_singleton, integer_i]
theorem leaf_s {s : Str} (w : WordOk s) : m_is_leaf [.d (.str s)] h = .ok (.d (.bool true)) h := by
  refine frz_d1 ?_; unfold b_is_leaf; simp (disch := first | omega | decide | assumption | (unfold szL; simp only [List.length_cons, List.length_nil, List.length_append, List.length_map, List.length_singleton]; omega) | (unfold szL; simp only [List.length_cons, List.length_nil, Nat.reduceAdd, Nat.reduceLeDiff])) only [mDef, mStar, mSeq, mRet, mVar, mD, mBin, mCB, mCons, mNil, mIfS, mIf, mTB, mTru, mTAnd, mTOr, mTNot, mAnd, mOr, mNot, mNeg, mChain, mExpr, mAsg, mPar, gNm, gTp, gsCons, gsNil, gSb, mTup, mLst, mNext, mNever, mBreak, mCont, mFor, mAug, mIsi, mFld, mMeth, mBM, mCM, mSlice, mPart, mNoP, mDk, mDt, mIA, mIL, mIT, mIS, mIR1, mIR2, mIZ, mIE, mLc, mLc2, mYes, mRev, mRepr, mIsiC, mHas, mEqI, mLenI, Mini.R.bind_ok, Mini.R.thn_ok, Mini.R.bind_bad, Mini.R.thn_bad, ofO, asB, rB, rN, rI, List.length_cons, List.length_nil, List.map_cons, List.map_nil, List.cons_append, List.nil_append, List.getElem?_cons_zero, List.getElem?_cons_succ, List.getElem?_nil, List.replicate_succ, List.replicate_zero, Nat.reduceAdd, Nat.reduceSub, if_true, if_false, List.append_nil, List.set_cons_zero, List.set_cons_succ, reduceIte, Nat.reduceEqDiff, lst_d, lst_rl, lst_t, tup_d, tup_t, ix_dl, ix_rl, ix_dt, add_int, sub_int, lt_int, le_int, gt_int, ge_int, abs_int, max_int, min_int, rL_ok, rT_ok, len_dl, len_dt, len_rl, mul_int, div_int, mod_int, pow_int, atI_of, Int.reducePow, Int.reduceToNat, Int.reduceMod, Int.reduceAdd, Int.reduceSub, Int.reduceMul, Int.reduceDiv, Int.reduceLT, Int.reduceLE, decide_true, decide_false, tr_non, tr_bl, tr_int, tr_lst, tr_tup, ty_non, ty_bl, ty_int, ty_str, ty_lst, ty_tup, ty_tupm, instB, String.reduceBEq, Bool.or_true, Bool.or_false, Bool.true_or, Bool.false_or, Bool.and_true, Bool.and_false, Bool.true_and, Bool.false_and, Bool.not_true, Bool.not_false, beq_self_eq_true, pureAll, mkTup, pureAll_map, mkTup_d, List.length_append, List.length_singleton, integer_s, word_s w]
theorem leaf_t {i : List PyData} : m_is_leaf [.d (.tuple i)] h = .ok (.d (.bool false)) h := by
  refine frz_d1 ?_; unfold b_is_leaf; simp (disch := first | omega | decide | assumption | (unfold szL; simp only [List.length_cons, List.length_nil, List.length_append, List.length_map, List.length_singleton]; omega) | (unfold szL; simp only [List.length_cons, List.length_nil, Nat.reduceAdd, Nat.reduceLeDiff])) only [mDef, mStar, mSeq, mRet, mVar, mD, mBin, mCB, mCons, mNil, mIfS, mIf, mTB, mTru, mTAnd, mTOr, mTNot, mAnd, mOr, mNot, mNeg, mChain, mExpr, mAsg, mPar, gNm, gTp, gsCons, gsNil, gSb, mTup, mLst, mNext, mNever, mBreak, mCont, mFor, mAug, mIsi, mFld, mMeth, mBM, mCM, mSlice, mPart, mNoP, mDk, mDt, mIA, mIL, mIT, mIS, mIR1, mIR2, mIZ, mIE, mLc, mLc2, mYes, mRev, mRepr, mIsiC, mHas, mEqI, mLenI, Mini.R.bind_ok, Mini.R.thn_ok, Mini.R.bind_bad, Mini.R.thn_bad, ofO, asB, rB, rN, rI, List.length_cons, List.length_nil, List.map_cons, List.map_nil, List.cons_append, List.nil_append, List.getElem?_cons_zero, List.getElem?_cons_succ, List.getElem?_nil, List.replicate_succ, List.replicate_zero, Nat.reduceAdd, Nat.reduceSub, if_true, if_false, List.append_nil, List.set_cons_zero, List.set_cons_succ, reduceIte, Nat.reduceEqDiff, lst_d, lst_rl, lst_t, tup_d, tup_t, ix_dl, ix_rl, ix_dt, add_int, sub_int, lt_int, le_int, gt_int, ge_int, abs_int, max_int, min_int, rL_ok, rT_ok, len_dl, len_dt, len_rl, mul_int, div_int, mod_int, pow_int, atI_of, Int.reducePow, Int.reduceToNat, Int.reduceMod, Int.reduceAdd, Int.reduceSub, Int.reduceMul, Int.reduceDiv, Int.reduceLT, Int.reduceLE, decide_true, decide_false, tr_non, tr_bl, tr_int, tr_lst, tr_tup, ty_non, ty_bl, ty_int, ty_str, ty_lst, ty_tup, ty_tupm, instB, String.reduceBEq, Bool.or_true, Bool.or_false, Bool.true_or, Bool.false_or, Bool.and_true, Bool.and_false, Bool.true_and, Bool.false_and, Bool.not_true, Bool.not_false, beq_self_eq_true, pureAll, mkTup, pureAll_map, mkTup_d, List.length_append, List.length_singleton, integer_t, word_t]
theorem within_i {x lo hi : Int} : m_is_within [.d (.int x), .d (.int lo), .d (.int hi)] h = .ok (.d (.bool (decide (lo ≤ x) && decide (x ≤ hi)))) h := by
  refine frz_d1 ?_; unfold b_is_within
  by_cases c : lo ≤ x
  · simp (disch := first | omega | decide | assumption | (unfold szL; simp only [List.length_cons, List.length_nil, List.length_append, List.length_map, List.length_singleton]; omega) | (unfold szL; simp only [List.length_cons, List.length_nil, Nat.reduceAdd, Nat.reduceLeDiff])) only [mDef, mStar, mSeq, mRet, mVar, mD, mBin, mCB, mCons, mNil, mIfS, mIf, mTB, mTru, mTAnd, mTOr, mTNot, mAnd, mOr, mNot, mNeg, mChain, mExpr, mAsg, mPar, gNm, gTp, gsCons, gsNil, gSb, mTup, mLst, mNext, mNever, mBreak, mCont, mFor, mAug, mIsi, mFld, mMeth, mBM, mCM, mSlice, mPart, mNoP, mDk, mDt, mIA, mIL, mIT, mIS, mIR1, mIR2, mIZ, mIE, mLc, mLc2, mYes, mRev, mRepr, mIsiC, mHas, mEqI, mLenI, Mini.R.bind_ok, Mini.R.thn_ok, Mini.R.bind_bad, Mini.R.thn_bad, ofO, asB, rB, rN, rI, List.length_cons, List.length_nil, List.map_cons, List.map_nil, List.cons_append, List.nil_append, List.getElem?_cons_zero, List.getElem?_cons_succ, List.getElem?_nil, List.replicate_succ, List.replicate_zero, Nat.reduceAdd, Nat.reduceSub, if_true, if_false, List.append_nil, List.set_cons_zero, List.set_cons_succ, reduceIte, Nat.reduceEqDiff, lst_d, lst_rl, lst_t, tup_d, tup_t, ix_dl, ix_rl, ix_dt, add_int, sub_int, lt_int, le_int, gt_int, ge_int, abs_int, max_int, min_int, rL_ok, rT_ok, len_dl, len_dt, len_rl, mul_int, div_int, mod_int, pow_int, atI_of, Int.reducePow, Int.reduceToNat, Int.reduceMod, Int.reduceAdd, Int.reduceSub, Int.reduceMul, Int.reduceDiv, Int.reduceLT, Int.reduceLE, decide_true, decide_false, tr_non, tr_bl, tr_int, tr_lst, tr_tup, ty_non, ty_bl, ty_int, ty_str, ty_lst, ty_tup, ty_tupm, instB, String.reduceBEq, Bool.or_true, Bool.or_false, Bool.true_or, Bool.false_or, Bool.and_true, Bool.and_false, Bool.true_and, Bool.false_and, Bool.not_true, Bool.not_false, beq_self_eq_true, pureAll, mkTup, pureAll_map, mkTup_d, List.length_append, List.length_singleton, integer_i, c]
  · simp (disch := first | omega | decide | assumption | (unfold szL; simp only [List.length_cons, List.length_nil, List.length_append, List.length_map, List.length_singleton]; omega) | (unfold szL; simp only [List.length_cons, List.length_nil, Nat.reduceAdd, Nat.reduceLeDiff])) only [mDef, mStar, mSeq, mRet, mVar, mD, mBin, mCB, mCons, mNil, mIfS, mIf, mTB, mTru, mTAnd, mTOr, mTNot, mAnd, mOr, mNot, mNeg, mChain, mExpr, mAsg, mPar, gNm, gTp, gsCons, gsNil, gSb, mTup, mLst, mNext, mNever, mBreak, mCont, mFor, mAug, mIsi, mFld, mMeth, mBM, mCM, mSlice, mPart, mNoP, mDk, mDt, mIA, mIL, mIT, mIS, mIR1, mIR2, mIZ, mIE, mLc, mLc2, mYes, mRev, mRepr, mIsiC, mHas, mEqI, mLenI, Mini.R.bind_ok, Mini.R.thn_ok, Mini.R.bind_bad, Mini.R.thn_bad, ofO, asB, rB, rN, rI, List.length_cons, List.length_nil, List.map_cons, List.map_nil, List.cons_append, List.nil_append, List.getElem?_cons_zero, List.getElem?_cons_succ, List.getElem?_nil, List.replicate_succ, List.replicate_zero, Nat.reduceAdd, Nat.reduceSub, if_true, if_false, List.append_nil, List.set_cons_zero, List.set_cons_succ, reduceIte, Nat.reduceEqDiff, lst_d, lst_rl, lst_t, tup_d, tup_t, ix_dl, ix_rl, ix_dt, add_int, sub_int, lt_int, le_int, gt_int, ge_int, abs_int, max_int, min_int, rL_ok, rT_ok, len_dl, len_dt, len_rl, mul_int, div_int, mod_int, pow_int, atI_of, Int.reducePow, Int.reduceToNat, Int.reduceMod, Int.reduceAdd, Int.reduceSub, Int.reduceMul, Int.reduceDiv, Int.reduceLT, Int.reduceLE, decide_true, decide_false, tr_non, tr_bl, tr_int, tr_lst, tr_tup, ty_non, ty_bl, ty_int, ty_str, ty_lst, ty_tup, ty_tupm, instB, String.reduceBEq, Bool.or_true, Bool.or_false, Bool.true_or, Bool.false_or, Bool.and_true, Bool.and_false, Bool.true_and, Bool.false_and, Bool.not_true, Bool.not_false, beq_self_eq_true, pureAll, mkTup, pureAll_map, mkTup_d, List.length_append, List.length_singleton, integer_i, c]
theorem ref_b {k : Int} {T : Int} : m_is_reference [.d (boxD k), .d (.int T)] h = .ok (.d (.bool (decide (0 ≤ k) && decide (k ≤ T - 1)))) h := by
  refine frz_d1 ?_; unfold b_is_reference
  have q : ∀ neg, fEq neg (.d (.str "box")) (.d (.str "box")) h = .ok (.d (.bool (neg != true))) h := fun neg => by
    rw [eq_d (p := .str "box") (q := .str "box") rfl rfl (by decide +kernel) (by decide +kernel)]
    simp [PyData.eqv]
  have q2 : (true != (((2 : Nat) : Int) == 2)) = false := rfl
  simp (disch := first | omega | decide | assumption | (unfold szL; simp only [List.length_cons, List.length_nil, List.length_append, List.length_map, List.length_singleton]; omega) | (unfold szL; simp only [List.length_cons, List.length_nil, Nat.reduceAdd, Nat.reduceLeDiff])) only [mDef, mStar, mSeq, mRet, mVar, mD, mBin, mCB, mCons, mNil, mIfS, mIf, mTB, mTru, mTAnd, mTOr, mTNot, mAnd, mOr, mNot, mNeg, mChain, mExpr, mAsg, mPar, gNm, gTp, gsCons, gsNil, gSb, mTup, mLst, mNext, mNever, mBreak, mCont, mFor, mAug, mIsi, mFld, mMeth, mBM, mCM, mSlice, mPart, mNoP, mDk, mDt, mIA, mIL, mIT, mIS, mIR1, mIR2, mIZ, mIE, mLc, mLc2, mYes, mRev, mRepr, mIsiC, mHas, mEqI, mLenI, Mini.R.bind_ok, Mini.R.thn_ok, Mini.R.bind_bad, Mini.R.thn_bad, ofO, asB, rB, rN, rI, List.length_cons, List.length_nil, List.map_cons, List.map_nil, List.cons_append, List.nil_append, List.getElem?_cons_zero, List.getElem?_cons_succ, List.getElem?_nil, List.replicate_succ, List.replicate_zero, Nat.reduceAdd, Nat.reduceSub, if_true, if_false, List.append_nil, List.set_cons_zero, List.set_cons_succ, reduceIte, Nat.reduceEqDiff, lst_d, lst_rl, lst_t, tup_d, tup_t, ix_dl, ix_rl, ix_dt, add_int, sub_int, lt_int, le_int, gt_int, ge_int, abs_int, max_int, min_int, rL_ok, rT_ok, len_dl, len_dt, len_rl, mul_int, div_int, mod_int, pow_int, atI_of, Int.reducePow, Int.reduceToNat, Int.reduceMod, Int.reduceAdd, Int.reduceSub, Int.reduceMul, Int.reduceDiv, Int.reduceLT, Int.reduceLE, decide_true, decide_false, tr_non, tr_bl, tr_int, tr_lst, tr_tup, ty_non, ty_bl, ty_int, ty_str, ty_lst, ty_tup, ty_tupm, instB, String.reduceBEq, Bool.or_true, Bool.or_false, Bool.true_or, Bool.false_or, Bool.and_true, Bool.and_false, Bool.true_and, Bool.false_and, Bool.not_true, Bool.not_false, beq_self_eq_true, pureAll, mkTup, pureAll_map, mkTup_d, List.length_append, List.length_singleton, eq_int, q, q2, within_i, List.length_map, bne_self_eq_false]
/-- what a heap may hold -/
def GItem (T : Nat) (d : PyData) : Prop := (∃ i, d = .int i) ∨ (∃ s, WordOk s ∧ d = .str s) ∨ ∃ k : Int, 0 ≤ k ∧ k < T ∧ d = boxD k
theorem item_g {T : Nat} {d : PyData} (g : GItem T d) : m_is_item [.d d, .d (.int T)] h = .ok (.d (.bool true)) h := by
  refine frz_d1 ?_; unfold b_is_item
  rcases g with ⟨i, rfl⟩ | ⟨s, w, rfl⟩ | ⟨k, k0, k1, rfl⟩
  · simp (disch := first | omega | decide | assumption | (unfold szL; simp only [List.length_cons, List.length_nil, List.length_append, List.length_map, List.length_singleton]; omega) | (unfold szL; simp only [List.length_cons, List.length_nil, Nat.reduceAdd, Nat.reduceLeDiff])) only [mDef, mStar, mSeq, mRet, mVar, mD, mBin, mCB, mCons, mNil, mIfS, mIf, mTB, mTru, mTAnd, mTOr, mTNot, mAnd, mOr, mNot, mNeg, mChain, mExpr, mAsg, mPar, gNm, gTp, gsCons, gsNil, gSb, mTup, mLst, mNext, mNever, mBreak, mCont, mFor, mAug, mIsi, mFld, mMeth, mBM, mCM, mSlice, mPart, mNoP, mDk, mDt, mIA, mIL, mIT, mIS, mIR1, mIR2, mIZ, mIE, mLc, mLc2, mYes, mRev, mRepr, mIsiC, mHas, mEqI, mLenI, Mini.R.bind_ok, Mini.R.thn_ok, Mini.R.bind_bad, Mini.R.thn_bad, ofO, asB, rB, rN, rI, List.length_cons, List.length_nil, List.map_cons, List.map_nil, List.cons_append, List.nil_append, List.getElem?_cons_zero, List.getElem?_cons_succ, List.getElem?_nil, List.replicate_succ, List.replicate_zero, Nat.reduceAdd, Nat.reduceSub, if_true, if_false, List.append_nil, List.set_cons_zero, List.set_cons_succ, reduceIte, Nat.reduceEqDiff, lst_d, lst_rl, lst_t, tup_d, tup_t, ix_dl, ix_rl, ix_dt, add_int, sub_int, lt_int, le_int, gt_int, ge_int, abs_int, max_int, min_int, rL_ok, rT_ok, len_dl, len_dt, len_rl, mul_int, div_int, mod_int, pow_int, atI_of, Int.reducePow, Int.reduceToNat, Int.reduceMod, Int.reduceAdd, Int.reduceSub, Int.reduceMul, Int.reduceDiv, Int.reduceLT, Int.reduceLE, decide_true, decide_false, tr_non, tr_bl, tr_int, tr_lst, tr_tup, ty_non, ty_bl, ty_int, ty_str, ty_lst, ty_tup, ty_tupm, instB, String.reduceBEq, Bool.or_true, Bool.or_false, Bool.true_or, Bool.false_or, Bool.and_true, Bool.and_false, Bool.true_and, Bool.false_and, Bool.not_true, Bool.not_false, beq_self_eq_true, pureAll, mkTup, pureAll_map, mkTup_d, List.length_append, List.length_singleton, leaf_i]
  · simp (disch := first | omega | decide | assumption | (unfold szL; simp only [List.length_cons, List.length_nil, List.length_append, List.length_map, List.length_singleton]; omega) | (unfold szL; simp only [List.length_cons, List.length_nil, Nat.reduceAdd, Nat.reduceLeDiff])) only [mDef, mStar, mSeq, mRet, mVar, mD, mBin, mCB, mCons, mNil, mIfS, mIf, mTB, mTru, mTAnd, mTOr, mTNot, mAnd, mOr, mNot, mNeg, mChain, mExpr, mAsg, mPar, gNm, gTp, gsCons, gsNil, gSb, mTup, mLst, mNext, mNever, mBreak, mCont, mFor, mAug, mIsi, mFld, mMeth, mBM, mCM, mSlice, mPart, mNoP, mDk, mDt, mIA, mIL, mIT, mIS, mIR1, mIR2, mIZ, mIE, mLc, mLc2, mYes, mRev, mRepr, mIsiC, mHas, mEqI, mLenI, Mini.R.bind_ok, Mini.R.thn_ok, Mini.R.bind_bad, Mini.R.thn_bad, ofO, asB, rB, rN, rI, List.length_cons, List.length_nil, List.map_cons, List.map_nil, List.cons_append, List.nil_append, List.getElem?_cons_zero, List.getElem?_cons_succ, List.getElem?_nil, List.replicate_succ, List.replicate_zero, Nat.reduceAdd, Nat.reduceSub, if_true, if_false, List.append_nil, List.set_cons_zero, List.set_cons_succ, reduceIte, Nat.reduceEqDiff, lst_d, lst_rl, lst_t, tup_d, tup_t, ix_dl, ix_rl, ix_dt, add_int, sub_int, lt_int, le_int, gt_int, ge_int, abs_int, max_int, min_int, rL_ok, rT_ok, len_dl, len_dt, len_rl, mul_int, div_int, mod_int, pow_int, atI_of, Int.reducePow, Int.reduceToNat, Int.reduceMod, Int.reduceAdd, Int.reduceSub, Int.reduceMul, Int.reduceDiv, Int.reduceLT, Int.reduceLE, decide_true, decide_false, tr_non, tr_bl, tr_int, tr_lst, tr_tup, ty_non, ty_bl, ty_int, ty_str, ty_lst, ty_tup, ty_tupm, instB, String.reduceBEq, Bool.or_true, Bool.or_false, Bool.true_or, Bool.false_or, Bool.and_true, Bool.and_false, Bool.true_and, Bool.false_and, Bool.not_true, Bool.not_false, beq_self_eq_true, pureAll, mkTup, pureAll_map, mkTup_d, List.length_append, List.length_singleton, leaf_s w]
  · have c2 : k ≤ (T : Int) - 1 := by omega
    simp (disch := first | omega | decide | assumption | (unfold szL; simp only [List.length_cons, List.length_nil, List.length_append, List.length_map, List.length_singleton]; omega) | (unfold szL; simp only [List.length_cons, List.length_nil, Nat.reduceAdd, Nat.reduceLeDiff])) only [mDef, mStar, mSeq, mRet, mVar, mD, mBin, mCB, mCons, mNil, mIfS, mIf, mTB, mTru, mTAnd, mTOr, mTNot, mAnd, mOr, mNot, mNeg, mChain, mExpr, mAsg, mPar, gNm, gTp, gsCons, gsNil, gSb, mTup, mLst, mNext, mNever, mBreak, mCont, mFor, mAug, mIsi, mFld, mMeth, mBM, mCM, mSlice, mPart, mNoP, mDk, mDt, mIA, mIL, mIT, mIS, mIR1, mIR2, mIZ, mIE, mLc, mLc2, mYes, mRev, mRepr, mIsiC, mHas, mEqI, mLenI, Mini.R.bind_ok, Mini.R.thn_ok, Mini.R.bind_bad, Mini.R.thn_bad, ofO, asB, rB, rN, rI, List.length_cons, List.length_nil, List.map_cons, List.map_nil, List.cons_append, List.nil_append, List.getElem?_cons_zero, List.getElem?_cons_succ, List.getElem?_nil, List.replicate_succ, List.replicate_zero, Nat.reduceAdd, Nat.reduceSub, if_true, if_false, List.append_nil, List.set_cons_zero, List.set_cons_succ, reduceIte, Nat.reduceEqDiff, lst_d, lst_rl, lst_t, tup_d, tup_t, ix_dl, ix_rl, ix_dt, add_int, sub_int, lt_int, le_int, gt_int, ge_int, abs_int, max_int, min_int, rL_ok, rT_ok, len_dl, len_dt, len_rl, mul_int, div_int, mod_int, pow_int, atI_of, Int.reducePow, Int.reduceToNat, Int.reduceMod, Int.reduceAdd, Int.reduceSub, Int.reduceMul, Int.reduceDiv, Int.reduceLT, Int.reduceLE, decide_true, decide_false, tr_non, tr_bl, tr_int, tr_lst, tr_tup, ty_non, ty_bl, ty_int, ty_str, ty_lst, ty_tup, ty_tupm, instB, String.reduceBEq, Bool.or_true, Bool.or_false, Bool.true_or, Bool.false_or, Bool.and_true, Bool.and_false, Bool.true_and, Bool.false_and, Bool.not_true, Bool.not_false, beq_self_eq_true, pureAll, mkTup, pureAll_map, mkTup_d, List.length_append, List.length_singleton, leaf_t, ref_b, k0, c2]
end
end Law
namespace Law
open Mini
open PySem (PyData Str)
/-! ### heaps -/
/-- rows that stand at rs -/
def RowsAt (n0 : Nat) (h : MH) (rs : List Nat) (L : List (List PyData)) : Prop := rs.length = L.length ∧ ∀ (k r : Nat) (row : List PyData), rs[k]? = some r → L[k]? = some row → n0 ≤ r ∧ h[r]? = some (.lst (row.map .d))
structure HeapIs (n0 : Nat) (h : MH) (i j : Nat) (rs : List Nat) (L : List (List PyData)) : Prop where
  i0 : n0 ≤ i
  j0 : n0 ≤ j
  ins : h[i]? = some (.ins 0 [.ref j])
  lst : h[j]? = some (.lst (rs.map .ref))
  rows : RowsAt n0 h rs L
  nd : rs.Nodup
  jn : j ∉ rs
def HeapAt (n0 : Nat) (h : MH) (i : Nat) (L : List (List PyData)) : Prop := ∃ j rs, HeapIs n0 h i j rs L
theorem RowsAt.of {n0 : Nat} {h h' : MH} {rs : List Nat} {L : List (List PyData)} (r : RowsAt n0 h rs L) (e : ∀ k, n0 ≤ k → ∀ o, h[k]? = some o → h'[k]? = some o) : RowsAt n0 h' rs L := ⟨r.1, fun k x row h1 h2 => ⟨(r.2 k x row h1 h2).1, e _ (r.2 k x row h1 h2).1 _ (r.2 k x row h1 h2).2⟩⟩
theorem HeapIs.of {n0 i j : Nat} {h h' : MH} {rs : List Nat} {L : List (List PyData)} (H : HeapIs n0 h i j rs L) (e : ∀ k, n0 ≤ k → ∀ o, h[k]? = some o → h'[k]? = some o) : HeapIs n0 h' i j rs L := ⟨H.i0, H.j0, e _ H.i0 _ H.ins, e _ H.j0 _ H.lst, H.rows.of e, H.nd, H.jn⟩
theorem HeapAt.of {n0 i : Nat} {h h' : MH} {L : List (List PyData)} (H : HeapAt n0 h i L) (e : ∀ k, n0 ≤ k → ∀ o, h[k]? = some o → h'[k]? = some o) : HeapAt n0 h' i L := let ⟨j, rs, q⟩ := H; ⟨j, rs, q.of e⟩
theorem HeapAt.app {n0 i : Nat} {h t : MH} {L : List (List PyData)} (H : HeapAt n0 h i L) : HeapAt n0 (h ++ t) i L := H.of fun k _ o e => at_left e
theorem HeapAt.set {n0 i b : Nat} {h : MH} {o : MO} {L : List (List PyData)} (H : HeapAt n0 h i L) (hb : b < n0) : HeapAt n0 (h.set b o) i L := H.of fun k hk o' e => by rw [at_set_ne (by omega)]; exact e
theorem HeapAt.lower {n0 n1 i : Nat} {h : MH} {L : List (List PyData)} (H : HeapAt n0 h i L) (hn : n1 ≤ n0) : HeapAt n1 h i L := by
  obtain ⟨j, rs, q⟩ := H
  exact ⟨j, rs, Nat.le_trans hn q.i0, Nat.le_trans hn q.j0, q.ins, q.lst, ⟨q.rows.1, fun k r row h1 h2 => ⟨Nat.le_trans hn (q.rows.2 k r row h1 h2).1, (q.rows.2 k r row h1 h2).2⟩⟩, q.nd, q.jn⟩
theorem ins_of {h : MH} {i c : Nat} {fs : List MV} (e : h[i]? = some (.ins c fs)) : insOf c h (.ref i) = some (i, fs) := by simp [insOf, e]
def total (L : List (List PyData)) : Nat := L.flatten.length
section
variable {n0 i j : Nat} {h : MH} {rs : List Nat} {L : List (List PyData)}
theorem RowsAt.mem (r : RowsAt n0 h rs L) {x : Nat} (hx : x ∈ rs) : ∃ row ∈ L, h[x]? = some (.lst (row.map .d)) := by
  obtain ⟨k, hk, rfl⟩ := List.getElem_of_mem hx
  have hk2 : k < L.length := by rw [← r.1]; exact hk
  exact ⟨L[k], List.getElem_mem hk2, (r.2 k _ _ (List.getElem?_eq_getElem hk) (List.getElem?_eq_getElem hk2)).2⟩
/-- the row that stands at x -/
def rowAt (h : MH) (v : MV) : List MV := (lstOf h v).getD []
theorem rows_flat : ∀ {rs : List Nat} {L : List (List PyData)}, RowsAt n0 h rs L → (rs.map .ref).flatMap (rowAt h) = (L.flatten).map .d
  | [], [], _ => rfl
  | r :: rs, row :: L, q => by
    have h1 := (q.2 0 r row rfl rfl).2
    have h2 : RowsAt n0 h rs L := ⟨by simpa using q.1, fun k x row' e1 e2 => q.2 (k + 1) x row' (by simpa using e1) (by simpa using e2)⟩
    rw [List.map_cons, List.flatMap_cons, rows_flat h2, List.flatten_cons, List.map_append]
    simp [rowAt, lst_ref h1]
  | [], _ :: _, q => by simp [RowsAt] at q
  | _ :: _, [], q => by simp [RowsAt] at q
theorem len_eq (H : HeapIs n0 h i j rs L) (ht : total L ≤ 100000) : m_Heap_len [.ref i] h = .ok (.d (.int (total L))) h := by
  have fl := rows_flat H.rows
  have lc : (mLc2 (mIA (mFld 0 0 (mVar 0))) (gNm 1) mYes (mIA (mVar 1)) (gNm 2) mYes (mVar 2) [1, 2] [2]) [some (.ref i), none, none] h = .ok (.ref h.length) (h ++ [.lst ((L.flatten).map .d)]) := by
    have e := lc2Go_pure (chk := sameL (.ref j) (rs.map .ref)) (g := gNm 1) (tt := mYes) (mi1 := mIA (mVar 1)) (g1 := gNm 2) (tt1 := mYes) (te := mVar 2) (μ0 := wipeM [some (.ref i), none, none] [1, 2]) (vs1 := [2]) (h := h) (f := rowAt h) (sameL_at H.lst) (rs.map .ref) [] (fun x hx acc hz => by
      obtain ⟨r, hr, rfl⟩ := List.mem_map.mp hx
      obtain ⟨row, _, hrow⟩ := H.rows.mem hr
      refine ⟨[some (.ref i), some (.ref r), none], (row.map .d, sameL (.ref r) (row.map .d)), rfl, rfl, ?_, ?_⟩
      · simp only [mIA, mVar, List.getElem?_cons_zero, List.getElem?_cons_succ, Mini.R.bind_ok, lst_ref hrow]
      · have er : rowAt h (.ref r) = row.map .d := by simp [rowAt, lst_ref hrow]
        rw [er] at hz ⊢
        have := lcGo_pure (chk := sameL (.ref r) (row.map .d)) (g := gNm 2) (tt := mYes) (te := mVar 2) (μ0 := wipeM [some (.ref i), some (.ref r), none] [2]) (h := h) (f := id) (sameL_at hrow) (row.map .d) acc (fun y hy => ⟨_, rfl, rfl, rfl⟩) hz
        simpa using this) (by rw [fl, List.length_map]; unfold szL; have : total L = L.flatten.length := rfl; simp only [List.length_nil]; omega)
    rw [fl] at e
    unfold mLc2
    simp (disch := first | omega | decide | assumption | (unfold szL; simp only [List.length_cons, List.length_nil, List.length_append, List.length_map, List.length_singleton]; omega) | (unfold szL; simp only [List.length_cons, List.length_nil, Nat.reduceAdd, Nat.reduceLeDiff])) only [mDef, mStar, mSeq, mRet, mVar, mD, mBin, mCB, mCons, mNil, mIfS, mIf, mTB, mTru, mTAnd, mTOr, mTNot, mAnd, mOr, mNot, mNeg, mChain, mExpr, mAsg, mPar, gNm, gTp, gsCons, gsNil, gSb, mTup, mLst, mNext, mNever, mBreak, mCont, mFor, mAug, mIsi, mFld, mMeth, mBM, mCM, mSlice, mPart, mNoP, mDk, mDt, mIA, mIL, mIT, mIS, mIR1, mIR2, mIZ, mIE, mLc, mLc2, mYes, mRev, mRepr, mIsiC, mHas, mEqI, mLenI, Mini.R.bind_ok, Mini.R.thn_ok, Mini.R.bind_bad, Mini.R.thn_bad, ofO, asB, rB, rN, rI, List.length_cons, List.length_nil, List.map_cons, List.map_nil, List.cons_append, List.nil_append, List.getElem?_cons_zero, List.getElem?_cons_succ, List.getElem?_nil, List.replicate_succ, List.replicate_zero, Nat.reduceAdd, Nat.reduceSub, if_true, if_false, List.append_nil, List.set_cons_zero, List.set_cons_succ, reduceIte, Nat.reduceEqDiff, lst_d, lst_rl, lst_t, tup_d, tup_t, ix_dl, ix_rl, ix_dt, add_int, sub_int, lt_int, le_int, gt_int, ge_int, abs_int, max_int, min_int, rL_ok, rT_ok, len_dl, len_dt, len_rl, mul_int, div_int, mod_int, pow_int, atI_of, Int.reducePow, Int.reduceToNat, Int.reduceMod, Int.reduceAdd, Int.reduceSub, Int.reduceMul, Int.reduceDiv, Int.reduceLT, Int.reduceLE, decide_true, decide_false, tr_non, tr_bl, tr_int, tr_lst, tr_tup, ty_non, ty_bl, ty_int, ty_str, ty_lst, ty_tup, ty_tupm, instB, String.reduceBEq, Bool.or_true, Bool.or_false, Bool.true_or, Bool.false_or, Bool.and_true, Bool.and_false, Bool.true_and, Bool.false_and, Bool.not_true, Bool.not_false, beq_self_eq_true, pureAll, mkTup, pureAll_map, mkTup_d, List.length_append, List.length_singleton, ins_of H.ins, lst_ref H.lst]
    rw [e]
    simp only [Mini.R.bind_ok, List.nil_append]
    rw [rL_ok (by simp only [List.length_map]; unfold szL; have : total L = L.flatten.length := rfl; omega)]
  refine frz_d0 (t := [.lst ((L.flatten).map .d)]) ?_
  unfold b_Heap_len
  simp only [mDef, mRet, mCB, mCons, mNil, List.map_cons, List.map_nil, List.cons_append, Mini.R.bind_ok, List.length_cons, List.length_nil, Nat.reduceAdd, Nat.reduceSub, List.replicate_succ, List.replicate_zero, List.nil_append, if_true, lc, len_ref (at_last (A := h) (o := MO.lst ((L.flatten).map .d)) rfl), Mini.R.thn_ok, List.length_map]
  rfl
theorem room_eq {x y : Int} (H : HeapIs n0 h i j rs L) (ht : total L ≤ 100000) (h1 : (L.length : Int) + x ≤ 60) (h2 : (total L : Int) + y ≤ 300) : m_Heap_need_room [.ref i, .d (.int x), .d (.int y)] h = .ok (.d .none) h := by
  refine frz_d1 ?_
  have hl : fLen [.ref j] h = .ok (.d (.int L.length)) h := by rw [len_ref H.lst]; simp [H.rows.1]
  have hi : fLenI 0 m_Heap_len [.ref i] h = .ok (.d (.int (total L))) h := lenI_ok (ins_of H.ins) (len_eq H ht) (by omega) (by omega)
  unfold b_Heap_need_room
  have c1 : ¬ (60 : Int) < L.length + x := by omega
  have c2 : ¬ (300 : Int) < total L + y := by omega
  simp (disch := first | omega | decide | assumption | (unfold szL; simp only [List.length_cons, List.length_nil, List.length_append, List.length_map, List.length_singleton]; omega) | (unfold szL; simp only [List.length_cons, List.length_nil, Nat.reduceAdd, Nat.reduceLeDiff])) only [mDef, mStar, mSeq, mRet, mVar, mD, mBin, mCB, mCons, mNil, mIfS, mIf, mTB, mTru, mTAnd, mTOr, mTNot, mAnd, mOr, mNot, mNeg, mChain, mExpr, mAsg, mPar, gNm, gTp, gsCons, gsNil, gSb, mTup, mLst, mNext, mNever, mBreak, mCont, mFor, mAug, mIsi, mFld, mMeth, mBM, mCM, mSlice, mPart, mNoP, mDk, mDt, mIA, mIL, mIT, mIS, mIR1, mIR2, mIZ, mIE, mLc, mLc2, mYes, mRev, mRepr, mIsiC, mHas, mEqI, mLenI, Mini.R.bind_ok, Mini.R.thn_ok, Mini.R.bind_bad, Mini.R.thn_bad, ofO, asB, rB, rN, rI, List.length_cons, List.length_nil, List.map_cons, List.map_nil, List.cons_append, List.nil_append, List.getElem?_cons_zero, List.getElem?_cons_succ, List.getElem?_nil, List.replicate_succ, List.replicate_zero, Nat.reduceAdd, Nat.reduceSub, if_true, if_false, List.append_nil, List.set_cons_zero, List.set_cons_succ, reduceIte, Nat.reduceEqDiff, lst_d, lst_rl, lst_t, tup_d, tup_t, ix_dl, ix_rl, ix_dt, add_int, sub_int, lt_int, le_int, gt_int, ge_int, abs_int, max_int, min_int, rL_ok, rT_ok, len_dl, len_dt, len_rl, mul_int, div_int, mod_int, pow_int, atI_of, Int.reducePow, Int.reduceToNat, Int.reduceMod, Int.reduceAdd, Int.reduceSub, Int.reduceMul, Int.reduceDiv, Int.reduceLT, Int.reduceLE, decide_true, decide_false, tr_non, tr_bl, tr_int, tr_lst, tr_tup, ty_non, ty_bl, ty_int, ty_str, ty_lst, ty_tup, ty_tupm, instB, String.reduceBEq, Bool.or_true, Bool.or_false, Bool.true_or, Bool.false_or, Bool.and_true, Bool.and_false, Bool.true_and, Bool.false_and, Bool.not_true, Bool.not_false, beq_self_eq_true, pureAll, mkTup, pureAll_map, mkTup_d, List.length_append, List.length_singleton, ins_of H.ins, hl, hi, c1, c2]
theorem rows_get (r : RowsAt n0 h rs L) {x : Nat} (hx : x ∈ rs) : ∃ row ∈ L, lstOf h (.ref x) = some (row.map .d) := by
  obtain ⟨row, h1, h2⟩ := r.mem hx
  exact ⟨row, h1, lst_ref h2⟩
/-- new copies of rows -/
theorem copy_map : ∀ {rs : List Nat} {L : List (List PyData)}, RowsAt n0 h rs L → ((rs.map .ref).map fun x => MO.lst (rowAt h x)) = rowsO L
  | [], [], _ => rfl
  | r :: rs, row :: L, q => by
    have h1 := (q.2 0 r row rfl rfl).2
    have h2 : RowsAt n0 h rs L := ⟨by simpa using q.1, fun k x row' e1 e2 => q.2 (k + 1) x row' (by simpa using e1) (by simpa using e2)⟩
    rw [List.map_cons, List.map_cons, copy_map h2]
    simp [rowAt, lst_ref h1, rowsO]
  | [], _ :: _, q => by simp [RowsAt] at q
  | _ :: _, [], q => by simp [RowsAt] at q
theorem lst_app {t : MH} {v : MV} {l : List MV} (e : lstOf h v = some l) : lstOf (h ++ t) v = some l := by
  cases v with
  | ref i =>
    simp only [lstOf] at e ⊢
    split at e
    · rename_i k ek
      rw [at_left ek]
      exact e
    · cases e
  | d p => cases p <;> simpa [lstOf] using e
  | rl ns => exact e
  | _ => simp [lstOf] at e
/-- [list(one) for one in xs], xs a list or a tuple of rows -/
theorem copy_lc {μ0 : MSt} {k : Nat} {chk : MH → Bool} (hc : ∀ t, chk (h ++ t) = true) (hk : k < μ0.length) (r : RowsAt n0 h rs L) (hL : ∀ row ∈ L, row.length ≤ 100000) (hl : L.length ≤ 100000) :
    lcGo chk (gNm k) mYes (mCB fListOf (mCons (mVar k) mNil)) μ0 [] (rs.map .ref) h = .ok (refsO h.length L.length) (h ++ rowsO L) := by
  have e := lcGo_new (chk := chk) (g := gNm k) (tt := mYes) (te := mCB fListOf (mCons (mVar k) mNil)) (μ0 := μ0) (f := rowAt h) (h0 := h) hc (rs.map .ref) [] [] (fun x hx t => by
    obtain ⟨y, hy, rfl⟩ := List.mem_map.mp hx
    obtain ⟨row, hr, e1⟩ := rows_get r hy
    refine ⟨_, rfl, rfl, ?_⟩
    have ek : (μ0.set k (some (.ref y)))[k]? = some (some (.ref y)) := by simp [hk]
    simp only [mCB, mCons, mNil, mVar, ek, Mini.R.bind_ok]
    rw [listOf_l (lst_app e1) (by rw [List.length_map]; have := hL row hr; unfold szL; omega)]
    simp [rowAt, e1]) (by rw [List.length_map, r.1]; unfold szL; simp only [List.length_nil]; omega)
  rw [List.append_nil] at e
  rw [e, copy_map r, List.length_map, r.1]
  rfl
theorem contents_eq (H : HeapIs n0 h i j rs L) (hL : ∀ row ∈ L, row.length ≤ 100000) (hl : L.length ≤ 100000) : m_Heap_contents [.ref i] h = .ok (.d (.list (L.map .list))) h := by
  have lc := copy_lc (μ0 := wipeM [some (.ref i), none] [1]) (k := 1) (chk := sameL (.ref j) (rs.map .ref)) (fun t => sameL_at (at_left H.lst)) (by simp [wipeM]) H.rows hL hl
  refine frz_l0 (t := rowsO L ++ [.lst (refsO h.length L.length)]) (i := h.length + L.length) ?_ (by omega) ?_
  · unfold b_Heap_contents
    simp (disch := first | omega | decide | assumption | (unfold szL; simp only [List.length_cons, List.length_nil, List.length_append, List.length_map, List.length_singleton]; omega) | (unfold szL; simp only [List.length_cons, List.length_nil, Nat.reduceAdd, Nat.reduceLeDiff])) only [mDef, mStar, mSeq, mRet, mVar, mD, mBin, mCB, mCons, mNil, mIfS, mIf, mTB, mTru, mTAnd, mTOr, mTNot, mAnd, mOr, mNot, mNeg, mChain, mExpr, mAsg, mPar, gNm, gTp, gsCons, gsNil, gSb, mTup, mLst, mNext, mNever, mBreak, mCont, mFor, mAug, mIsi, mFld, mMeth, mBM, mCM, mSlice, mPart, mNoP, mDk, mDt, mIA, mIL, mIT, mIS, mIR1, mIR2, mIZ, mIE, mLc, mLc2, mYes, mRev, mRepr, mIsiC, mHas, mEqI, mLenI, Mini.R.bind_ok, Mini.R.thn_ok, Mini.R.bind_bad, Mini.R.thn_bad, ofO, asB, rB, rN, rI, List.length_cons, List.length_nil, List.map_cons, List.map_nil, List.cons_append, List.nil_append, List.getElem?_cons_zero, List.getElem?_cons_succ, List.getElem?_nil, List.replicate_succ, List.replicate_zero, Nat.reduceAdd, Nat.reduceSub, if_true, if_false, List.append_nil, List.set_cons_zero, List.set_cons_succ, reduceIte, Nat.reduceEqDiff, lst_d, lst_rl, lst_t, tup_d, tup_t, ix_dl, ix_rl, ix_dt, add_int, sub_int, lt_int, le_int, gt_int, ge_int, abs_int, max_int, min_int, rL_ok, rT_ok, len_dl, len_dt, len_rl, mul_int, div_int, mod_int, pow_int, atI_of, Int.reducePow, Int.reduceToNat, Int.reduceMod, Int.reduceAdd, Int.reduceSub, Int.reduceMul, Int.reduceDiv, Int.reduceLT, Int.reduceLE, decide_true, decide_false, tr_non, tr_bl, tr_int, tr_lst, tr_tup, ty_non, ty_bl, ty_int, ty_str, ty_lst, ty_tup, ty_tupm, instB, String.reduceBEq, Bool.or_true, Bool.or_false, Bool.true_or, Bool.false_or, Bool.and_true, Bool.and_false, Bool.true_and, Bool.false_and, Bool.not_true, Bool.not_false, beq_self_eq_true, pureAll, mkTup, pureAll_map, mkTup_d, List.length_append, List.length_singleton, ins_of H.ins, lst_ref H.lst]
    rw [lc]
    simp only [Mini.R.bind_ok]
    rw [rL_ok (by simp only [refsO, List.length_map, List.length_range']; unfold szL; omega)]
    simp [rows_len]
  · refine toF_l (l := refsO h.length L.length) (by omega) ?_ (mapO_refs (by simp) fun k r a h1 h2 => ?_)
    · have := at_last (A := h ++ rowsO L) (o := .lst (refsO h.length L.length)) (i := h.length + L.length) (by simp [rows_len])
      simpa [List.append_assoc] using this
    · rw [List.getElem?_map] at h2
      obtain ⟨row, h3, h4⟩ := Option.map_eq_some_iff.mp h2
      have hk : k < L.length := (List.getElem?_eq_some_iff.mp h3).1
      rw [List.getElem?_range' hk] at h1
      have h5 : r = h.length + k := by
        have := Option.some.inj h1
        omega
      subst h4 h5
      refine toF_l (l := row.map .d) (by omega) ?_ (mapO_d row)
      rw [List.getElem?_append_right (by omega), show h.length + k - h.length = k by omega, List.getElem?_append_left (by simpa [rowsO] using hk)]
      simp [rowsO, h3]
end
end Law
namespace Law
open Mini
open PySem (PyData Str)
/-- a new heap with these rows, behind n objects -/
def newH (n : Nat) (L : List (List PyData)) : MH := .ins 0 [.ref (n + 1 + L.length)] :: (rowsO L ++ [.lst (refsO (n + 1) L.length)])
theorem newH_is {h : MH} {L : List (List PyData)} : HeapIs h.length (h ++ newH h.length L) h.length (h.length + 1 + L.length) (List.range' (h.length + 1) L.length) L := by
  refine ⟨Nat.le_refl _, by omega, at_mid rfl, ?_, ⟨by simp, fun k r row h1 h2 => ?_⟩, List.nodup_range', ?_⟩
  · have := at_last (A := h ++ (.ins 0 [.ref (h.length + 1 + L.length)] :: rowsO L)) (o := .lst (refsO (h.length + 1) L.length)) (i := h.length + 1 + L.length) (by simp [rows_len]; omega)
    simpa [newH, refsO, List.append_assoc] using this
  · have hk : k < L.length := (List.getElem?_eq_some_iff.mp h2).1
    rw [List.getElem?_range' hk] at h1
    have h5 : r = h.length + 1 + k := by
      have := Option.some.inj h1
      omega
    subst h5
    refine ⟨by omega, ?_⟩
    rw [List.getElem?_append_right (by omega), show h.length + 1 + k - h.length = k + 1 by omega]
    simp only [newH, List.getElem?_cons_succ]
    rw [List.getElem?_append_left (by simpa [rowsO] using hk)]
    simp [rowsO, h2]
  · simp
structure Fits (L : List (List PyData)) : Prop where
  pos : 1 ≤ L.length
  few : L.length ≤ 60
  tot : total L ≤ 300
  row : ∀ row ∈ L, row.length ≤ 300
  itm : ∀ row ∈ L, ∀ d ∈ row, GItem L.length d
section
variable {h : MH} {rs : List Nat} {L : List (List PyData)} {i : Nat}
def in_in : MS := (mIfS (mTNot (mTru (mCB m_is_item (mCons (mVar 3) (mCons (mCB fLen (mCons (mVar 1) mNil)) mNil))))) mNever mNext)
def in_out : MS := (mSeq (mIfS (mTNot (mTru (mIsi "list" (mVar 2)))) mNever mNext) (mFor (mIA (mVar 2)) (gNm 3) in_in))
theorem in_eq : b_Heap_init = (mSeq (mFor (mIA (mVar 1)) (gNm 2) in_out)
    (mSeq (sSetF 0 0 (mVar 0) (mLc (mIA (mVar 1)) (gNm 2) mYes (mCB fListOf (mCons (mVar 2) mNil)) [2]))
    (mExpr (mMeth 0 m_Heap_need_room (mVar 0) (mCons (mD (.int 0)) (mCons (mD (.int 0)) mNil)))))) := rfl
theorem init_loop (r : RowsAt 0 h rs L) (F : Fits L) : ∃ x y, forGo noChk (gNm 2) in_out (rs.map .ref) [some (.ref i), some (.tup (rs.map .ref)), none, none] h = .nx [some (.ref i), some (.tup (rs.map .ref)), x, y] h := by
  refine (forGo_inv (chk := noChk) (g := gNm 2) (b := in_out) (fun k μ h' => h' = h ∧ ∃ x y, μ = [some (.ref i), some (.tup (rs.map .ref)), x, y]) (rs.map .ref) 0 _ _ ⟨rfl, none, none, rfl⟩ (fun k z μ h' hz ⟨hh, x, y, hμ⟩ => ?_) (fun _ _ _ => rfl)).elim fun μ' ⟨h', e, hh, x, y, hμ⟩ => ⟨x, y, e.trans (by rw [hh, hμ])⟩
  subst hh hμ
  refine ⟨rfl, _, _, rfl, ?_⟩
  obtain ⟨q, hq, rfl⟩ := List.mem_map.mp (List.mem_of_getElem? hz)
  obtain ⟨row, hr, e1⟩ := r.mem hq
  have inner : ∃ y', forGo (sameL (.ref q) (row.map .d)) (gNm 3) in_in (row.map .d) [some (.ref i), some (.tup (rs.map .ref)), some (.ref q), y] h' = .nx [some (.ref i), some (.tup (rs.map .ref)), some (.ref q), y'] h' := by
    refine (forGo_inv (chk := sameL (.ref q) (row.map .d)) (g := gNm 3) (b := in_in) (fun k μ h2 => h2 = h' ∧ ∃ y, μ = [some (.ref i), some (.tup (rs.map .ref)), some (.ref q), y]) (row.map .d) 0 _ _ ⟨rfl, y, rfl⟩ (fun k z μ h2 hz ⟨hh, y, hμ⟩ => ?_) (fun _ h2 hh => by rw [hh.1]; exact sameL_at e1)).elim fun μ' ⟨h2, e, hh, y, hμ⟩ => ⟨y, e.trans (by rw [hh, hμ])⟩
    subst hh hμ
    refine ⟨sameL_at e1, _, _, rfl, ?_⟩
    obtain ⟨d, hd, rfl⟩ := List.mem_map.mp (List.mem_of_getElem? hz)
    refine ⟨_, h2, .inl ?_, rfl, some (.d d), rfl⟩
    have hl : fLen [.tup (rs.map .ref)] h2 = .ok (.d (.int L.length)) h2 := by simp [fLen, lstOf, tupOf, r.1]
    unfold in_in
    simp (disch := first | omega | decide | assumption | (unfold szL; simp only [List.length_cons, List.length_nil, List.length_append, List.length_map, List.length_singleton]; omega) | (unfold szL; simp only [List.length_cons, List.length_nil, Nat.reduceAdd, Nat.reduceLeDiff])) only [mDef, mStar, mSeq, mRet, mVar, mD, mBin, mCB, mCons, mNil, mIfS, mIf, mTB, mTru, mTAnd, mTOr, mTNot, mAnd, mOr, mNot, mNeg, mChain, mExpr, mAsg, mPar, gNm, gTp, gsCons, gsNil, gSb, mTup, mLst, mNext, mNever, mBreak, mCont, mFor, mAug, mIsi, mFld, mMeth, mBM, mCM, mSlice, mPart, mNoP, mDk, mDt, mIA, mIL, mIT, mIS, mIR1, mIR2, mIZ, mIE, mLc, mLc2, mYes, mRev, mRepr, mIsiC, mHas, mEqI, mLenI, Mini.R.bind_ok, Mini.R.thn_ok, Mini.R.bind_bad, Mini.R.thn_bad, ofO, asB, rB, rN, rI, List.length_cons, List.length_nil, List.map_cons, List.map_nil, List.cons_append, List.nil_append, List.getElem?_cons_zero, List.getElem?_cons_succ, List.getElem?_nil, List.replicate_succ, List.replicate_zero, Nat.reduceAdd, Nat.reduceSub, if_true, if_false, List.append_nil, List.set_cons_zero, List.set_cons_succ, reduceIte, Nat.reduceEqDiff, lst_d, lst_rl, lst_t, tup_d, tup_t, ix_dl, ix_rl, ix_dt, add_int, sub_int, lt_int, le_int, gt_int, ge_int, abs_int, max_int, min_int, rL_ok, rT_ok, len_dl, len_dt, len_rl, mul_int, div_int, mod_int, pow_int, atI_of, Int.reducePow, Int.reduceToNat, Int.reduceMod, Int.reduceAdd, Int.reduceSub, Int.reduceMul, Int.reduceDiv, Int.reduceLT, Int.reduceLE, decide_true, decide_false, tr_non, tr_bl, tr_int, tr_lst, tr_tup, ty_non, ty_bl, ty_int, ty_str, ty_lst, ty_tup, ty_tupm, instB, String.reduceBEq, Bool.or_true, Bool.or_false, Bool.true_or, Bool.false_or, Bool.and_true, Bool.and_false, Bool.true_and, Bool.false_and, Bool.not_true, Bool.not_false, beq_self_eq_true, pureAll, mkTup, pureAll_map, mkTup_d, List.length_append, List.length_singleton, hl, item_g (F.itm row hr d hd)]
  obtain ⟨y', e2⟩ := inner
  refine ⟨[some (.ref i), some (.tup (rs.map .ref)), some (.ref q), y'], h', .inl ?_, rfl, _, _, rfl⟩
  unfold in_out
  refine (mSeq_nx (μ' := [some (.ref i), some (.tup (rs.map .ref)), some (.ref q), y]) (h' := h') ?_).trans ?_
  · simp (disch := first | omega | decide | assumption | (unfold szL; simp only [List.length_cons, List.length_nil, List.length_append, List.length_map, List.length_singleton]; omega) | (unfold szL; simp only [List.length_cons, List.length_nil, Nat.reduceAdd, Nat.reduceLeDiff])) only [mDef, mStar, mSeq, mRet, mVar, mD, mBin, mCB, mCons, mNil, mIfS, mIf, mTB, mTru, mTAnd, mTOr, mTNot, mAnd, mOr, mNot, mNeg, mChain, mExpr, mAsg, mPar, gNm, gTp, gsCons, gsNil, gSb, mTup, mLst, mNext, mNever, mBreak, mCont, mFor, mAug, mIsi, mFld, mMeth, mBM, mCM, mSlice, mPart, mNoP, mDk, mDt, mIA, mIL, mIT, mIS, mIR1, mIR2, mIZ, mIE, mLc, mLc2, mYes, mRev, mRepr, mIsiC, mHas, mEqI, mLenI, Mini.R.bind_ok, Mini.R.thn_ok, Mini.R.bind_bad, Mini.R.thn_bad, ofO, asB, rB, rN, rI, List.length_cons, List.length_nil, List.map_cons, List.map_nil, List.cons_append, List.nil_append, List.getElem?_cons_zero, List.getElem?_cons_succ, List.getElem?_nil, List.replicate_succ, List.replicate_zero, Nat.reduceAdd, Nat.reduceSub, if_true, if_false, List.append_nil, List.set_cons_zero, List.set_cons_succ, reduceIte, Nat.reduceEqDiff, lst_d, lst_rl, lst_t, tup_d, tup_t, ix_dl, ix_rl, ix_dt, add_int, sub_int, lt_int, le_int, gt_int, ge_int, abs_int, max_int, min_int, rL_ok, rT_ok, len_dl, len_dt, len_rl, mul_int, div_int, mod_int, pow_int, atI_of, Int.reducePow, Int.reduceToNat, Int.reduceMod, Int.reduceAdd, Int.reduceSub, Int.reduceMul, Int.reduceDiv, Int.reduceLT, Int.reduceLE, decide_true, decide_false, tr_non, tr_bl, tr_int, tr_lst, tr_tup, ty_non, ty_bl, ty_int, ty_str, ty_lst, ty_tup, ty_tupm, instB, String.reduceBEq, Bool.or_true, Bool.or_false, Bool.true_or, Bool.false_or, Bool.and_true, Bool.and_false, Bool.true_and, Bool.false_and, Bool.not_true, Bool.not_false, beq_self_eq_true, pureAll, mkTup, pureAll_map, mkTup_d, List.length_append, List.length_singleton, ty_ref e1]
  · have e0 : (mIA (mVar 2)) [some (.ref i), some (.tup (rs.map .ref)), some (.ref q), y] h' = .ok (row.map .d, sameL (.ref q) (row.map .d)) h' := by
      simp (disch := first | omega | decide | assumption | (unfold szL; simp only [List.length_cons, List.length_nil, List.length_append, List.length_map, List.length_singleton]; omega) | (unfold szL; simp only [List.length_cons, List.length_nil, Nat.reduceAdd, Nat.reduceLeDiff])) only [mDef, mStar, mSeq, mRet, mVar, mD, mBin, mCB, mCons, mNil, mIfS, mIf, mTB, mTru, mTAnd, mTOr, mTNot, mAnd, mOr, mNot, mNeg, mChain, mExpr, mAsg, mPar, gNm, gTp, gsCons, gsNil, gSb, mTup, mLst, mNext, mNever, mBreak, mCont, mFor, mAug, mIsi, mFld, mMeth, mBM, mCM, mSlice, mPart, mNoP, mDk, mDt, mIA, mIL, mIT, mIS, mIR1, mIR2, mIZ, mIE, mLc, mLc2, mYes, mRev, mRepr, mIsiC, mHas, mEqI, mLenI, Mini.R.bind_ok, Mini.R.thn_ok, Mini.R.bind_bad, Mini.R.thn_bad, ofO, asB, rB, rN, rI, List.length_cons, List.length_nil, List.map_cons, List.map_nil, List.cons_append, List.nil_append, List.getElem?_cons_zero, List.getElem?_cons_succ, List.getElem?_nil, List.replicate_succ, List.replicate_zero, Nat.reduceAdd, Nat.reduceSub, if_true, if_false, List.append_nil, List.set_cons_zero, List.set_cons_succ, reduceIte, Nat.reduceEqDiff, lst_d, lst_rl, lst_t, tup_d, tup_t, ix_dl, ix_rl, ix_dt, add_int, sub_int, lt_int, le_int, gt_int, ge_int, abs_int, max_int, min_int, rL_ok, rT_ok, len_dl, len_dt, len_rl, mul_int, div_int, mod_int, pow_int, atI_of, Int.reducePow, Int.reduceToNat, Int.reduceMod, Int.reduceAdd, Int.reduceSub, Int.reduceMul, Int.reduceDiv, Int.reduceLT, Int.reduceLE, decide_true, decide_false, tr_non, tr_bl, tr_int, tr_lst, tr_tup, ty_non, ty_bl, ty_int, ty_str, ty_lst, ty_tup, ty_tupm, instB, String.reduceBEq, Bool.or_true, Bool.or_false, Bool.true_or, Bool.false_or, Bool.and_true, Bool.and_false, Bool.true_and, Bool.false_and, Bool.not_true, Bool.not_false, beq_self_eq_true, pureAll, mkTup, pureAll_map, mkTup_d, List.length_append, List.length_singleton, lst_ref e1]
    unfold mFor
    rw [e0]
    simp only [Mini.R.thn_ok]
    exact e2
theorem init_eq (hi : h[i]? = some (.ins 0 [])) (hil : i < h.length) (r : RowsAt 0 h rs L) (F : Fits L) : m_Heap_init (.ref i :: rs.map .ref) h = .ok (.d .none) (h.set i (.ins 0 [.ref (h.length + L.length)]) ++ (rowsO L ++ [.lst (refsO h.length L.length)])) := by
  obtain ⟨x, y, e1⟩ := init_loop (i := i) r F
  have hne : rs ≠ [] := by
    intro e
    have := F.pos
    rw [← r.1, e] at this
    simp at this
  have hp : mkTup (rs.map .ref) = .tup (rs.map .ref) := by
    cases rs with
    | nil => exact absurd rfl hne
    | cons a rs => rfl
  have hf := F.few
  have hrl := r.1
  have lc := copy_lc (μ0 := wipeM [some (.ref i), some (.tup (rs.map .ref)), x, y] [2]) (k := 2) (chk := noChk) (fun t => rfl) (by simp [wipeM]) r (fun row hr => Nat.le_trans (F.row row hr) (by omega)) (by omega)
  have hI : HeapIs 0 (h.set i (.ins 0 [.ref (h.length + L.length)]) ++ (rowsO L ++ [.lst (refsO h.length L.length)])) i (h.length + L.length) (List.range' h.length L.length) L := by
    refine ⟨Nat.zero_le _, Nat.zero_le _, at_left (at_set hil), ?_, ⟨by simp, fun k r' row h1 h2 => ?_⟩, List.nodup_range', by simp⟩
    · have := at_last (A := h.set i (.ins 0 [.ref (h.length + L.length)]) ++ rowsO L) (o := .lst (refsO h.length L.length)) (i := h.length + L.length) (by simp [rows_len])
      simpa [refsO, List.append_assoc] using this
    · have hk : k < L.length := (List.getElem?_eq_some_iff.mp h2).1
      rw [List.getElem?_range' hk] at h1
      have h5 : r' = h.length + k := by
        have := Option.some.inj h1
        omega
      subst h5
      refine ⟨by omega, ?_⟩
      rw [List.getElem?_append_right (by simp), show h.length + k - (h.set i (.ins 0 [.ref (h.length + L.length)])).length = k by simp, List.getElem?_append_left (by simpa [rowsO] using hk)]
      simp [rowsO, h2]
  unfold m_Heap_init mStar
  rw [if_pos (by simp; omega)]
  simp only [List.take_succ_cons, List.take_zero, List.drop_succ_cons, List.drop_zero, hp, List.cons_append, List.nil_append]
  rw [in_eq]
  refine mDef_nx (μ := [some (.ref i), some (.tup (rs.map .ref)), x, y]) ((mSeq_nx (μ' := [some (.ref i), some (.tup (rs.map .ref)), x, y]) (h' := h) ?_).trans ((mSeq_nx (μ' := [some (.ref i), some (.tup (rs.map .ref)), x, y]) (h' := h.set i (.ins 0 [.ref (h.length + L.length)]) ++ (rowsO L ++ [.lst (refsO h.length L.length)])) ?_).trans ?_))
  · have e0 : (mIA (mVar 1)) [some (.ref i), some (.tup (rs.map .ref)), none, none] h = .ok (rs.map .ref, noChk) h := rfl
    show mFor _ _ _ [some (.ref i), some (.tup (rs.map .ref)), none, none] h = _
    unfold mFor
    rw [e0]
    simp only [Mini.R.thn_ok]
    exact e1
  · have em : (mLc (mIA (mVar 1)) (gNm 2) mYes (mCB fListOf (mCons (mVar 2) mNil)) [2]) [some (.ref i), some (.tup (rs.map .ref)), x, y] h = .ok (.ref (h.length + L.length)) (h ++ (rowsO L ++ [.lst (refsO h.length L.length)])) := by
      have e0 : (mIA (mVar 1)) [some (.ref i), some (.tup (rs.map .ref)), x, y] h = .ok (rs.map .ref, noChk) h := rfl
      unfold mLc
      rw [e0]
      simp only [Mini.R.bind_ok]
      rw [lc]
      simp only [Mini.R.bind_ok]
      rw [rL_ok (by simp only [refsO, List.length_map, List.length_range']; unfold szL; omega)]
      simp [rows_len]
    have v0 : (mVar 0) [some (.ref i), some (.tup (rs.map .ref)), x, y] (h ++ (rowsO L ++ [.lst (refsO h.length L.length)])) = .ok (.ref i) (h ++ (rowsO L ++ [.lst (refsO h.length L.length)])) := rfl
    unfold sSetF
    simp only [em, v0, Mini.R.thn_ok, ins_of (at_left (B := rowsO L ++ [.lst (refsO h.length L.length)]) hi), List.length_nil, Nat.lt_irrefl, if_false, if_true, List.nil_append]
    rw [set_left hil]
  · have rm := room_eq (x := 0) (y := 0) hI (Nat.le_trans F.tot (by omega)) (by omega) (by have := F.tot; omega)
    simp (disch := first | omega | decide | assumption | (unfold szL; simp only [List.length_cons, List.length_nil, List.length_append, List.length_map, List.length_singleton]; omega) | (unfold szL; simp only [List.length_cons, List.length_nil, Nat.reduceAdd, Nat.reduceLeDiff])) only [mDef, mStar, mSeq, mRet, mVar, mD, mBin, mCB, mCons, mNil, mIfS, mIf, mTB, mTru, mTAnd, mTOr, mTNot, mAnd, mOr, mNot, mNeg, mChain, mExpr, mAsg, mPar, gNm, gTp, gsCons, gsNil, gSb, mTup, mLst, mNext, mNever, mBreak, mCont, mFor, mAug, mIsi, mFld, mMeth, mBM, mCM, mSlice, mPart, mNoP, mDk, mDt, mIA, mIL, mIT, mIS, mIR1, mIR2, mIZ, mIE, mLc, mLc2, mYes, mRev, mRepr, mIsiC, mHas, mEqI, mLenI, Mini.R.bind_ok, Mini.R.thn_ok, Mini.R.bind_bad, Mini.R.thn_bad, ofO, asB, rB, rN, rI, List.length_cons, List.length_nil, List.map_cons, List.map_nil, List.cons_append, List.nil_append, List.getElem?_cons_zero, List.getElem?_cons_succ, List.getElem?_nil, List.replicate_succ, List.replicate_zero, Nat.reduceAdd, Nat.reduceSub, if_true, if_false, List.append_nil, List.set_cons_zero, List.set_cons_succ, reduceIte, Nat.reduceEqDiff, lst_d, lst_rl, lst_t, tup_d, tup_t, ix_dl, ix_rl, ix_dt, add_int, sub_int, lt_int, le_int, gt_int, ge_int, abs_int, max_int, min_int, rL_ok, rT_ok, len_dl, len_dt, len_rl, mul_int, div_int, mod_int, pow_int, atI_of, Int.reducePow, Int.reduceToNat, Int.reduceMod, Int.reduceAdd, Int.reduceSub, Int.reduceMul, Int.reduceDiv, Int.reduceLT, Int.reduceLE, decide_true, decide_false, tr_non, tr_bl, tr_int, tr_lst, tr_tup, ty_non, ty_bl, ty_int, ty_str, ty_lst, ty_tup, ty_tupm, instB, String.reduceBEq, Bool.or_true, Bool.or_false, Bool.true_or, Bool.false_or, Bool.and_true, Bool.and_false, Bool.true_and, Bool.false_and, Bool.not_true, Bool.not_false, beq_self_eq_true, pureAll, mkTup, pureAll_map, mkTup_d, List.length_append, List.length_singleton, ins_of hI.ins, rm]
theorem make_eq (r : RowsAt 0 h rs L) (F : Fits L) : fMake 0 m_Heap_init (rs.map .ref) h = .ok (.ref h.length) (h ++ newH h.length L) := by
  have := init_eq (h := h ++ [.ins 0 []]) (i := h.length) (at_last rfl) (by simp) (r.of fun k _ o e => at_left e) F
  unfold fMake
  rw [this, set_last rfl]
  simp [newH, List.append_assoc, Nat.add_assoc]
end
end Law
namespace Law
open Mini
open PySem (PyData Str)
section
variable {n0 : Nat} {h : MH} {rs : List Nat} {L : List (List PyData)} {i j : Nat}
theorem RowsAt.zero (r : RowsAt n0 h rs L) : RowsAt 0 h rs L := ⟨r.1, fun k x row h1 h2 => ⟨Nat.zero_le _, (r.2 k x row h1 h2).2⟩⟩
theorem of_eq {c : Nat} (hc : h[c]? = some (.lst (rs.map .ref))) (r : RowsAt 0 h rs L) (F : Fits L) : m_Heap_of [.glb "Heap", .ref c] h = .ok (.ref h.length) (h ++ newH h.length L) := by
  unfold m_Heap_of b_Heap_of
  refine mDef_rt ?_
  simp only [mRet, mMakeStar, mVar, List.map_cons, List.map_nil, List.cons_append, List.getElem?_cons_zero, List.getElem?_cons_succ, Mini.R.bind_ok, if_true, lst_ref hc, make_eq r F, Mini.R.thn_ok]
/-- behind the copies of rows and their list, the heap -/
theorem law_heap_eq (F : Fits L) : ∃ J, m_law_heap [.d (.list (L.map .list))] h = .ok (.ref (h.length + L.length + 1)) (h ++ J) ∧ HeapAt h.length (h ++ J) (h.length + L.length + 1) L := by
  have hf := F.few
  have lc : lcGo (sameL (.d (.list (L.map .list))) (L.map fun r => .d (.list r))) (gNm 1) mYes (mCB fListOf (mCons (mVar 1) mNil)) (wipeM [some (.d (.list (L.map .list))), none] [1]) [] (L.map fun r => .d (.list r)) h = .ok (refsO h.length L.length) (h ++ rowsO L) := by
    have e := lcGo_new (chk := sameL (.d (.list (L.map .list))) (L.map fun r => .d (.list r))) (g := gNm 1) (tt := mYes) (te := mCB fListOf (mCons (mVar 1) mNil)) (μ0 := wipeM [some (.d (.list (L.map .list))), none] [1]) (f := fun v => (lstOf [] v).getD []) (h0 := h) (fun _ => rfl) (L.map fun r => .d (.list r)) [] [] (fun x hx t => by
      obtain ⟨row, hr, rfl⟩ := List.mem_map.mp hx
      refine ⟨_, rfl, rfl, ?_⟩
      simp only [wipeM]
      have := F.row row hr
      simp (disch := first | omega | decide | assumption | (unfold szL; simp only [List.length_cons, List.length_nil, List.length_append, List.length_map, List.length_singleton]; omega) | (unfold szL; simp only [List.length_cons, List.length_nil, Nat.reduceAdd, Nat.reduceLeDiff])) only [mDef, mStar, mSeq, mRet, mVar, mD, mBin, mCB, mCons, mNil, mIfS, mIf, mTB, mTru, mTAnd, mTOr, mTNot, mAnd, mOr, mNot, mNeg, mChain, mExpr, mAsg, mPar, gNm, gTp, gsCons, gsNil, gSb, mTup, mLst, mNext, mNever, mBreak, mCont, mFor, mAug, mIsi, mFld, mMeth, mBM, mCM, mSlice, mPart, mNoP, mDk, mDt, mIA, mIL, mIT, mIS, mIR1, mIR2, mIZ, mIE, mLc, mLc2, mYes, mRev, mRepr, mIsiC, mHas, mEqI, mLenI, Mini.R.bind_ok, Mini.R.thn_ok, Mini.R.bind_bad, Mini.R.thn_bad, ofO, asB, rB, rN, rI, List.length_cons, List.length_nil, List.map_cons, List.map_nil, List.cons_append, List.nil_append, List.getElem?_cons_zero, List.getElem?_cons_succ, List.getElem?_nil, List.replicate_succ, List.replicate_zero, Nat.reduceAdd, Nat.reduceSub, if_true, if_false, List.append_nil, List.set_cons_zero, List.set_cons_succ, reduceIte, Nat.reduceEqDiff, lst_d, lst_rl, lst_t, tup_d, tup_t, ix_dl, ix_rl, ix_dt, add_int, sub_int, lt_int, le_int, gt_int, ge_int, abs_int, max_int, min_int, rL_ok, rT_ok, len_dl, len_dt, len_rl, mul_int, div_int, mod_int, pow_int, atI_of, Int.reducePow, Int.reduceToNat, Int.reduceMod, Int.reduceAdd, Int.reduceSub, Int.reduceMul, Int.reduceDiv, Int.reduceLT, Int.reduceLE, decide_true, decide_false, tr_non, tr_bl, tr_int, tr_lst, tr_tup, ty_non, ty_bl, ty_int, ty_str, ty_lst, ty_tup, ty_tupm, instB, String.reduceBEq, Bool.or_true, Bool.or_false, Bool.true_or, Bool.false_or, Bool.and_true, Bool.and_false, Bool.true_and, Bool.false_and, Bool.not_true, Bool.not_false, beq_self_eq_true, pureAll, mkTup, pureAll_map, mkTup_d, List.length_append, List.length_singleton, listOf_l (h := h ++ t) (x := .d (.list row)) (l := row.map .d) rfl (by rw [List.length_map]; unfold szL; omega)]
      simp) (by rw [List.length_map]; unfold szL; simp only [List.length_nil]; omega)
    rw [List.append_nil] at e
    rw [e]
    simp [refsO, rowsO, Function.comp_def]
  have hr : RowsAt 0 (h ++ (rowsO L ++ [.lst (refsO h.length L.length)])) (List.range' h.length L.length) L := by
    refine ⟨by simp, fun k r' row h1 h2 => ?_⟩
    have hk : k < L.length := (List.getElem?_eq_some_iff.mp h2).1
    rw [List.getElem?_range' hk] at h1
    have h5 : r' = h.length + k := by
      have := Option.some.inj h1
      omega
    subst h5
    refine ⟨by omega, ?_⟩
    rw [List.getElem?_append_right (by omega), show h.length + k - h.length = k by omega, List.getElem?_append_left (by simpa [rowsO] using hk)]
    simp [rowsO, h2]
  have hc : (h ++ (rowsO L ++ [.lst (refsO h.length L.length)]))[h.length + L.length]? = some (.lst ((List.range' h.length L.length).map .ref)) := by
    have := at_last (A := h ++ rowsO L) (o := .lst (refsO h.length L.length)) (i := h.length + L.length) (by simp [rows_len])
    simpa [refsO, List.append_assoc] using this
  have ho := of_eq hc hr F
  have hlen : (h ++ (rowsO L ++ [MO.lst (refsO h.length L.length)])).length = h.length + L.length + 1 := by simp [rows_len]; omega
  rw [hlen] at ho
  refine ⟨(rowsO L ++ [MO.lst (refsO h.length L.length)]) ++ newH (h.length + L.length + 1) L, ?_, ?_⟩
  · unfold m_law_heap b_law_heap
    refine mDef_rt ?_
    have em : (mLc (mIA (mVar 0)) (gNm 1) mYes (mCB fListOf (mCons (mVar 1) mNil)) [1]) [some (.d (.list (L.map .list))), none] h = .ok (.ref (h.length + L.length)) (h ++ (rowsO L ++ [.lst (refsO h.length L.length)])) := by
      have e0 : (mIA (mVar 0)) [some (.d (.list (L.map .list))), none] h = .ok (L.map fun r => .d (.list r), sameL (.d (.list (L.map .list))) (L.map fun r => .d (.list r))) h := by
        simp (disch := first | omega | decide | assumption | (unfold szL; simp only [List.length_cons, List.length_nil, List.length_append, List.length_map, List.length_singleton]; omega) | (unfold szL; simp only [List.length_cons, List.length_nil, Nat.reduceAdd, Nat.reduceLeDiff])) only [mDef, mStar, mSeq, mRet, mVar, mD, mBin, mCB, mCons, mNil, mIfS, mIf, mTB, mTru, mTAnd, mTOr, mTNot, mAnd, mOr, mNot, mNeg, mChain, mExpr, mAsg, mPar, gNm, gTp, gsCons, gsNil, gSb, mTup, mLst, mNext, mNever, mBreak, mCont, mFor, mAug, mIsi, mFld, mMeth, mBM, mCM, mSlice, mPart, mNoP, mDk, mDt, mIA, mIL, mIT, mIS, mIR1, mIR2, mIZ, mIE, mLc, mLc2, mYes, mRev, mRepr, mIsiC, mHas, mEqI, mLenI, Mini.R.bind_ok, Mini.R.thn_ok, Mini.R.bind_bad, Mini.R.thn_bad, ofO, asB, rB, rN, rI, List.length_cons, List.length_nil, List.map_cons, List.map_nil, List.cons_append, List.nil_append, List.getElem?_cons_zero, List.getElem?_cons_succ, List.getElem?_nil, List.replicate_succ, List.replicate_zero, Nat.reduceAdd, Nat.reduceSub, if_true, if_false, List.append_nil, List.set_cons_zero, List.set_cons_succ, reduceIte, Nat.reduceEqDiff, lst_d, lst_rl, lst_t, tup_d, tup_t, ix_dl, ix_rl, ix_dt, add_int, sub_int, lt_int, le_int, gt_int, ge_int, abs_int, max_int, min_int, rL_ok, rT_ok, len_dl, len_dt, len_rl, mul_int, div_int, mod_int, pow_int, atI_of, Int.reducePow, Int.reduceToNat, Int.reduceMod, Int.reduceAdd, Int.reduceSub, Int.reduceMul, Int.reduceDiv, Int.reduceLT, Int.reduceLE, decide_true, decide_false, tr_non, tr_bl, tr_int, tr_lst, tr_tup, ty_non, ty_bl, ty_int, ty_str, ty_lst, ty_tup, ty_tupm, instB, String.reduceBEq, Bool.or_true, Bool.or_false, Bool.true_or, Bool.false_or, Bool.and_true, Bool.and_false, Bool.true_and, Bool.false_and, Bool.not_true, Bool.not_false, beq_self_eq_true, pureAll, mkTup, pureAll_map, mkTup_d, List.length_append, List.length_singleton]
        simp
        rfl
      unfold mLc
      rw [e0]
      simp only [Mini.R.bind_ok]
      rw [lc]
      simp only [Mini.R.bind_ok]
      rw [rL_ok (by simp only [refsO, List.length_map, List.length_range']; unfold szL; omega)]
      simp [rows_len]
    simp only [mRet, mCM, mCons, mNil, List.map_cons, List.map_nil, List.cons_append, List.length_cons, List.length_nil, Nat.reduceAdd, Nat.reduceSub, List.replicate_succ, List.replicate_zero, List.nil_append, em, Mini.R.bind_ok, ho, Mini.R.thn_ok, List.append_assoc]
  · have := newH_is (h := h ++ (rowsO L ++ [.lst (refsO h.length L.length)])) (L := L)
    rw [hlen, List.append_assoc] at this
    exact (HeapAt.lower ⟨_, _, this⟩ (by omega))
/-! ### filled -/
abbrev dict := List (L2.Key × MV)
def fillD (kvs : dict) (d : PyData) : PyData := match d with
  | .str s => match dget kvs (Sum.inr s) with
    | some (.d p) => p
    | _ => .none
  | d => d
/-- an item that can be filled -/
def FillOk (kvs : dict) (d : PyData) : Prop := (∃ i, d = .int i) ∨ (∃ k, d = boxD k) ∨ ∃ s i, WordOk s ∧ d = .str s ∧ dget kvs (Sum.inr s) = some (.d (.int i))
def fl_te : ME := (mIf (mTru (mCB m_is_word (mCons (mVar 3) mNil))) (mBin fIx (mVar 1) (mVar 3)) (mVar 3))
theorem fl_item {kvs : dict} {f : Nat} {d : PyData} {m0 m2 : Option MV} (hf : h[f]? = some (.dk kvs)) (ok : FillOk kvs d) : fl_te [m0, some (.ref f), m2, some (.d d)] h = .ok (.d (fillD kvs d)) h := by
  unfold fl_te
  rcases ok with ⟨i, rfl⟩ | ⟨k, rfl⟩ | ⟨s, i, w, rfl, e⟩
  · simp (disch := first | omega | decide | assumption | (unfold szL; simp only [List.length_cons, List.length_nil, List.length_append, List.length_map, List.length_singleton]; omega) | (unfold szL; simp only [List.length_cons, List.length_nil, Nat.reduceAdd, Nat.reduceLeDiff])) only [mDef, mStar, mSeq, mRet, mVar, mD, mBin, mCB, mCons, mNil, mIfS, mIf, mTB, mTru, mTAnd, mTOr, mTNot, mAnd, mOr, mNot, mNeg, mChain, mExpr, mAsg, mPar, gNm, gTp, gsCons, gsNil, gSb, mTup, mLst, mNext, mNever, mBreak, mCont, mFor, mAug, mIsi, mFld, mMeth, mBM, mCM, mSlice, mPart, mNoP, mDk, mDt, mIA, mIL, mIT, mIS, mIR1, mIR2, mIZ, mIE, mLc, mLc2, mYes, mRev, mRepr, mIsiC, mHas, mEqI, mLenI, Mini.R.bind_ok, Mini.R.thn_ok, Mini.R.bind_bad, Mini.R.thn_bad, ofO, asB, rB, rN, rI, List.length_cons, List.length_nil, List.map_cons, List.map_nil, List.cons_append, List.nil_append, List.getElem?_cons_zero, List.getElem?_cons_succ, List.getElem?_nil, List.replicate_succ, List.replicate_zero, Nat.reduceAdd, Nat.reduceSub, if_true, if_false, List.append_nil, List.set_cons_zero, List.set_cons_succ, reduceIte, Nat.reduceEqDiff, lst_d, lst_rl, lst_t, tup_d, tup_t, ix_dl, ix_rl, ix_dt, add_int, sub_int, lt_int, le_int, gt_int, ge_int, abs_int, max_int, min_int, rL_ok, rT_ok, len_dl, len_dt, len_rl, mul_int, div_int, mod_int, pow_int, atI_of, Int.reducePow, Int.reduceToNat, Int.reduceMod, Int.reduceAdd, Int.reduceSub, Int.reduceMul, Int.reduceDiv, Int.reduceLT, Int.reduceLE, decide_true, decide_false, tr_non, tr_bl, tr_int, tr_lst, tr_tup, ty_non, ty_bl, ty_int, ty_str, ty_lst, ty_tup, ty_tupm, instB, String.reduceBEq, Bool.or_true, Bool.or_false, Bool.true_or, Bool.false_or, Bool.and_true, Bool.and_false, Bool.true_and, Bool.false_and, Bool.not_true, Bool.not_false, beq_self_eq_true, pureAll, mkTup, pureAll_map, mkTup_d, List.length_append, List.length_singleton, word_i]; rfl
  · simp (disch := first | omega | decide | assumption | (unfold szL; simp only [List.length_cons, List.length_nil, List.length_append, List.length_map, List.length_singleton]; omega) | (unfold szL; simp only [List.length_cons, List.length_nil, Nat.reduceAdd, Nat.reduceLeDiff])) only [mDef, mStar, mSeq, mRet, mVar, mD, mBin, mCB, mCons, mNil, mIfS, mIf, mTB, mTru, mTAnd, mTOr, mTNot, mAnd, mOr, mNot, mNeg, mChain, mExpr, mAsg, mPar, gNm, gTp, gsCons, gsNil, gSb, mTup, mLst, mNext, mNever, mBreak, mCont, mFor, mAug, mIsi, mFld, mMeth, mBM, mCM, mSlice, mPart, mNoP, mDk, mDt, mIA, mIL, mIT, mIS, mIR1, mIR2, mIZ, mIE, mLc, mLc2, mYes, mRev, mRepr, mIsiC, mHas, mEqI, mLenI, Mini.R.bind_ok, Mini.R.thn_ok, Mini.R.bind_bad, Mini.R.thn_bad, ofO, asB, rB, rN, rI, List.length_cons, List.length_nil, List.map_cons, List.map_nil, List.cons_append, List.nil_append, List.getElem?_cons_zero, List.getElem?_cons_succ, List.getElem?_nil, List.replicate_succ, List.replicate_zero, Nat.reduceAdd, Nat.reduceSub, if_true, if_false, List.append_nil, List.set_cons_zero, List.set_cons_succ, reduceIte, Nat.reduceEqDiff, lst_d, lst_rl, lst_t, tup_d, tup_t, ix_dl, ix_rl, ix_dt, add_int, sub_int, lt_int, le_int, gt_int, ge_int, abs_int, max_int, min_int, rL_ok, rT_ok, len_dl, len_dt, len_rl, mul_int, div_int, mod_int, pow_int, atI_of, Int.reducePow, Int.reduceToNat, Int.reduceMod, Int.reduceAdd, Int.reduceSub, Int.reduceMul, Int.reduceDiv, Int.reduceLT, Int.reduceLE, decide_true, decide_false, tr_non, tr_bl, tr_int, tr_lst, tr_tup, ty_non, ty_bl, ty_int, ty_str, ty_lst, ty_tup, ty_tupm, instB, String.reduceBEq, Bool.or_true, Bool.or_false, Bool.true_or, Bool.false_or, Bool.and_true, Bool.and_false, Bool.true_and, Bool.false_and, Bool.not_true, Bool.not_false, beq_self_eq_true, pureAll, mkTup, pureAll_map, mkTup_d, List.length_append, List.length_singleton, word_t]; rfl
  · simp (disch := first | omega | decide | assumption | (unfold szL; simp only [List.length_cons, List.length_nil, List.length_append, List.length_map, List.length_singleton]; omega) | (unfold szL; simp only [List.length_cons, List.length_nil, Nat.reduceAdd, Nat.reduceLeDiff])) only [mDef, mStar, mSeq, mRet, mVar, mD, mBin, mCB, mCons, mNil, mIfS, mIf, mTB, mTru, mTAnd, mTOr, mTNot, mAnd, mOr, mNot, mNeg, mChain, mExpr, mAsg, mPar, gNm, gTp, gsCons, gsNil, gSb, mTup, mLst, mNext, mNever, mBreak, mCont, mFor, mAug, mIsi, mFld, mMeth, mBM, mCM, mSlice, mPart, mNoP, mDk, mDt, mIA, mIL, mIT, mIS, mIR1, mIR2, mIZ, mIE, mLc, mLc2, mYes, mRev, mRepr, mIsiC, mHas, mEqI, mLenI, Mini.R.bind_ok, Mini.R.thn_ok, Mini.R.bind_bad, Mini.R.thn_bad, ofO, asB, rB, rN, rI, List.length_cons, List.length_nil, List.map_cons, List.map_nil, List.cons_append, List.nil_append, List.getElem?_cons_zero, List.getElem?_cons_succ, List.getElem?_nil, List.replicate_succ, List.replicate_zero, Nat.reduceAdd, Nat.reduceSub, if_true, if_false, List.append_nil, List.set_cons_zero, List.set_cons_succ, reduceIte, Nat.reduceEqDiff, lst_d, lst_rl, lst_t, tup_d, tup_t, ix_dl, ix_rl, ix_dt, add_int, sub_int, lt_int, le_int, gt_int, ge_int, abs_int, max_int, min_int, rL_ok, rT_ok, len_dl, len_dt, len_rl, mul_int, div_int, mod_int, pow_int, atI_of, Int.reducePow, Int.reduceToNat, Int.reduceMod, Int.reduceAdd, Int.reduceSub, Int.reduceMul, Int.reduceDiv, Int.reduceLT, Int.reduceLE, decide_true, decide_false, tr_non, tr_bl, tr_int, tr_lst, tr_tup, ty_non, ty_bl, ty_int, ty_str, ty_lst, ty_tup, ty_tupm, instB, String.reduceBEq, Bool.or_true, Bool.or_false, Bool.true_or, Bool.false_or, Bool.and_true, Bool.and_false, Bool.true_and, Bool.false_and, Bool.not_true, Bool.not_false, beq_self_eq_true, pureAll, mkTup, pureAll_map, mkTup_d, List.length_append, List.length_singleton, word_s w, ix_dk hf (x := .d (.str s)) (k := Sum.inr s) rfl e]
    simp [fillD, e]
theorem filled_eq {kvs : dict} {f : Nat} (H : HeapIs n0 h i j rs L) (hf : h[f]? = some (.dk kvs)) (hw : ∀ row ∈ L, ∀ d ∈ row, FillOk kvs d) (hl : L.length ≤ 60) (hL : ∀ row ∈ L, row.length ≤ 300) (F : Fits (L.map fun r => r.map (fillD kvs))) :
    ∃ J I, m_filled [.ref i, .ref f] h = .ok (.ref I) (h ++ J) ∧ HeapAt h.length (h ++ J) I (L.map fun r => r.map (fillD kvs)) := by
  have hc := contents_eq H (fun row hr => Nat.le_trans (hL row hr) (by omega)) (by omega)
  have inner : ∀ (row : List PyData) (hr : row ∈ L) (t : MH) (y : Option MV), (mLc (mIA (mVar 2)) (gNm 3) mYes fl_te [3]) [some (.ref i), some (.ref f), some (.d (.list row)), y] (h ++ t) = .ok (.ref (h ++ t).length) (h ++ t ++ [.lst ((row.map (fillD kvs)).map .d)]) := by
    intro row hr t y
    have e := lcGo_pure (chk := sameL (.d (.list row)) (row.map .d)) (g := gNm 3) (tt := mYes) (te := fl_te) (μ0 := wipeM [some (.ref i), some (.ref f), some (.d (.list row)), y] [3]) (h := h ++ t) (f := fun v => match v with | .d d => .d (fillD kvs d) | v => v) rfl (row.map .d) [] (fun x hx => by
      obtain ⟨d, hd, rfl⟩ := List.mem_map.mp hx
      exact ⟨_, rfl, rfl, fl_item (at_left hf) (hw row hr d hd)⟩) (by rw [List.length_map]; have := hL row hr; unfold szL; simp only [List.length_nil]; omega)
    have e0 : (mIA (mVar 2)) [some (.ref i), some (.ref f), some (.d (.list row)), y] (h ++ t) = .ok (row.map .d, sameL (.d (.list row)) (row.map .d)) (h ++ t) := by
      simp (disch := first | omega | decide | assumption | (unfold szL; simp only [List.length_cons, List.length_nil, List.length_append, List.length_map, List.length_singleton]; omega) | (unfold szL; simp only [List.length_cons, List.length_nil, Nat.reduceAdd, Nat.reduceLeDiff])) only [mDef, mStar, mSeq, mRet, mVar, mD, mBin, mCB, mCons, mNil, mIfS, mIf, mTB, mTru, mTAnd, mTOr, mTNot, mAnd, mOr, mNot, mNeg, mChain, mExpr, mAsg, mPar, gNm, gTp, gsCons, gsNil, gSb, mTup, mLst, mNext, mNever, mBreak, mCont, mFor, mAug, mIsi, mFld, mMeth, mBM, mCM, mSlice, mPart, mNoP, mDk, mDt, mIA, mIL, mIT, mIS, mIR1, mIR2, mIZ, mIE, mLc, mLc2, mYes, mRev, mRepr, mIsiC, mHas, mEqI, mLenI, Mini.R.bind_ok, Mini.R.thn_ok, Mini.R.bind_bad, Mini.R.thn_bad, ofO, asB, rB, rN, rI, List.length_cons, List.length_nil, List.map_cons, List.map_nil, List.cons_append, List.nil_append, List.getElem?_cons_zero, List.getElem?_cons_succ, List.getElem?_nil, List.replicate_succ, List.replicate_zero, Nat.reduceAdd, Nat.reduceSub, if_true, if_false, List.append_nil, List.set_cons_zero, List.set_cons_succ, reduceIte, Nat.reduceEqDiff, lst_d, lst_rl, lst_t, tup_d, tup_t, ix_dl, ix_rl, ix_dt, add_int, sub_int, lt_int, le_int, gt_int, ge_int, abs_int, max_int, min_int, rL_ok, rT_ok, len_dl, len_dt, len_rl, mul_int, div_int, mod_int, pow_int, atI_of, Int.reducePow, Int.reduceToNat, Int.reduceMod, Int.reduceAdd, Int.reduceSub, Int.reduceMul, Int.reduceDiv, Int.reduceLT, Int.reduceLE, decide_true, decide_false, tr_non, tr_bl, tr_int, tr_lst, tr_tup, ty_non, ty_bl, ty_int, ty_str, ty_lst, ty_tup, ty_tupm, instB, String.reduceBEq, Bool.or_true, Bool.or_false, Bool.true_or, Bool.false_or, Bool.and_true, Bool.and_false, Bool.true_and, Bool.false_and, Bool.not_true, Bool.not_false, beq_self_eq_true, pureAll, mkTup, pureAll_map, mkTup_d, List.length_append, List.length_singleton]
    unfold mLc
    rw [e0]
    simp only [Mini.R.bind_ok]
    rw [e]
    simp only [Mini.R.bind_ok, List.nil_append]
    rw [rL_ok (by simp only [List.length_map]; have := hL row hr; unfold szL; omega)]
    simp [Function.comp_def]
  have lc : lcGo (sameL (.d (.list (L.map .list))) (L.map fun r => .d (.list r))) (gNm 2) mYes (mLc (mIA (mVar 2)) (gNm 3) mYes fl_te [3]) (wipeM [some (.ref i), some (.ref f), none, none] [2]) [] (L.map fun r => .d (.list r)) h = .ok (refsO h.length L.length) (h ++ rowsO (L.map fun r => r.map (fillD kvs))) := by
    have e := lcGo_new (chk := sameL (.d (.list (L.map .list))) (L.map fun r => .d (.list r))) (g := gNm 2) (tt := mYes) (te := mLc (mIA (mVar 2)) (gNm 3) mYes fl_te [3]) (μ0 := wipeM [some (.ref i), some (.ref f), none, none] [2]) (f := fun v => match v with | .d (.list row) => (row.map (fillD kvs)).map .d | _ => []) (h0 := h) (fun _ => rfl) (L.map fun r => .d (.list r)) [] [] (fun x hx t => by
      obtain ⟨row, hr, rfl⟩ := List.mem_map.mp hx
      exact ⟨_, rfl, rfl, inner row hr t none⟩) (by rw [List.length_map]; unfold szL; simp only [List.length_nil]; omega)
    rw [List.append_nil] at e
    rw [e]
    simp [refsO, rowsO, Function.comp_def]
  have hl2 : (L.map fun r => r.map (fillD kvs)).length = L.length := by simp
  generalize hM : (L.map fun r => r.map (fillD kvs)) = M at *
  have hr : RowsAt 0 (h ++ (rowsO M ++ [.lst (refsO h.length M.length)])) (List.range' h.length M.length) M := by
    refine ⟨by simp, fun k r' row h1 h2 => ?_⟩
    have hk : k < M.length := (List.getElem?_eq_some_iff.mp h2).1
    rw [List.getElem?_range' hk] at h1
    have h5 : r' = h.length + k := by
      have := Option.some.inj h1
      omega
    subst h5
    refine ⟨by omega, ?_⟩
    rw [List.getElem?_append_right (by omega), show h.length + k - h.length = k by omega, List.getElem?_append_left (by simpa [rowsO] using hk)]
    simp [rowsO, h2]
  have hcc : (h ++ (rowsO M ++ [.lst (refsO h.length M.length)]))[h.length + M.length]? = some (.lst ((List.range' h.length M.length).map .ref)) := by
    have := at_last (A := h ++ rowsO M) (o := .lst (refsO h.length M.length)) (i := h.length + M.length) (by simp [rows_len])
    simpa [refsO, List.append_assoc] using this
  have ho := of_eq hcc hr F
  have hlen : (h ++ (rowsO M ++ [MO.lst (refsO h.length M.length)])).length = h.length + M.length + 1 := by simp [rows_len]; omega
  rw [hlen] at ho
  refine ⟨(rowsO M ++ [MO.lst (refsO h.length M.length)]) ++ newH (h.length + M.length + 1) M, h.length + M.length + 1, ?_, ?_⟩
  · unfold m_filled b_filled
    refine mDef_rt ?_
    have em : (mLc (mIA (mMeth 0 m_Heap_contents (mVar 0) mNil)) (gNm 2) mYes (mLc (mIA (mVar 2)) (gNm 3) mYes fl_te [3]) [2]) [some (.ref i), some (.ref f), none, none] h = .ok (.ref (h.length + M.length)) (h ++ (rowsO M ++ [.lst (refsO h.length M.length)])) := by
      have e0 : (mIA (mMeth 0 m_Heap_contents (mVar 0) mNil)) [some (.ref i), some (.ref f), none, none] h = .ok (L.map fun r => .d (.list r), sameL (.d (.list (L.map .list))) (L.map fun r => .d (.list r))) h := by
        simp (disch := first | omega | decide | assumption | (unfold szL; simp only [List.length_cons, List.length_nil, List.length_append, List.length_map, List.length_singleton]; omega) | (unfold szL; simp only [List.length_cons, List.length_nil, Nat.reduceAdd, Nat.reduceLeDiff])) only [mDef, mStar, mSeq, mRet, mVar, mD, mBin, mCB, mCons, mNil, mIfS, mIf, mTB, mTru, mTAnd, mTOr, mTNot, mAnd, mOr, mNot, mNeg, mChain, mExpr, mAsg, mPar, gNm, gTp, gsCons, gsNil, gSb, mTup, mLst, mNext, mNever, mBreak, mCont, mFor, mAug, mIsi, mFld, mMeth, mBM, mCM, mSlice, mPart, mNoP, mDk, mDt, mIA, mIL, mIT, mIS, mIR1, mIR2, mIZ, mIE, mLc, mLc2, mYes, mRev, mRepr, mIsiC, mHas, mEqI, mLenI, Mini.R.bind_ok, Mini.R.thn_ok, Mini.R.bind_bad, Mini.R.thn_bad, ofO, asB, rB, rN, rI, List.length_cons, List.length_nil, List.map_cons, List.map_nil, List.cons_append, List.nil_append, List.getElem?_cons_zero, List.getElem?_cons_succ, List.getElem?_nil, List.replicate_succ, List.replicate_zero, Nat.reduceAdd, Nat.reduceSub, if_true, if_false, List.append_nil, List.set_cons_zero, List.set_cons_succ, reduceIte, Nat.reduceEqDiff, lst_d, lst_rl, lst_t, tup_d, tup_t, ix_dl, ix_rl, ix_dt, add_int, sub_int, lt_int, le_int, gt_int, ge_int, abs_int, max_int, min_int, rL_ok, rT_ok, len_dl, len_dt, len_rl, mul_int, div_int, mod_int, pow_int, atI_of, Int.reducePow, Int.reduceToNat, Int.reduceMod, Int.reduceAdd, Int.reduceSub, Int.reduceMul, Int.reduceDiv, Int.reduceLT, Int.reduceLE, decide_true, decide_false, tr_non, tr_bl, tr_int, tr_lst, tr_tup, ty_non, ty_bl, ty_int, ty_str, ty_lst, ty_tup, ty_tupm, instB, String.reduceBEq, Bool.or_true, Bool.or_false, Bool.true_or, Bool.false_or, Bool.and_true, Bool.and_false, Bool.true_and, Bool.false_and, Bool.not_true, Bool.not_false, beq_self_eq_true, pureAll, mkTup, pureAll_map, mkTup_d, List.length_append, List.length_singleton, ins_of H.ins, hc]
        simp
        rfl
      unfold mLc
      rw [e0]
      simp only [Mini.R.bind_ok]
      have lc' := lc
      unfold mLc at lc'
      rw [lc', ← hl2]
      simp only [Mini.R.bind_ok]
      rw [rL_ok (by simp only [refsO, List.length_map, List.length_range']; unfold szL; omega)]
      simp [rows_len]
    have em2 := em
    simp only [mRet, mCM, mCons, mNil, List.map_cons, List.map_nil, List.cons_append, List.length_cons, List.length_nil, Nat.reduceAdd, Nat.reduceSub, List.replicate_succ, List.replicate_zero, List.nil_append]
    have em3 : (mLc (mIA (mMeth 0 m_Heap_contents (mVar 0) mNil)) (gNm 2) mYes (mLc (mIA (mVar 2)) (gNm 3) mYes (mIf (mTru (mCB m_is_word (mCons (mVar 3) mNil))) (mBin fIx (mVar 1) (mVar 3)) (mVar 3)) [3]) [2]) [some (.ref i), some (.ref f), none, none] h = .ok (.ref (h.length + M.length)) (h ++ (rowsO M ++ [.lst (refsO h.length M.length)])) := em
    simp only [em3, Mini.R.bind_ok, ho, Mini.R.thn_ok, List.append_assoc]
  · have := newH_is (h := h ++ (rowsO M ++ [.lst (refsO h.length M.length)])) (L := M)
    rw [hlen, List.append_assoc] at this
    exact (HeapAt.lower ⟨_, _, this⟩ (by omega))
end
end Law
namespace Law
open Mini
open PySem (PyData Str)
section
variable {n0 : Nat} {h : MH} {rs : List Nat} {L : List (List PyData)} {i j : Nat}
theorem contains_eq {x : Int} (H : HeapIs n0 h i j rs L) : m_Heap_contains [.ref i, .d (.int x)] h = .ok (.d (.bool (decide (0 ≤ x) && decide (x ≤ (L.length : Int) - 1)))) h := by
  refine frz_d1 ?_
  have hl : fLen [.ref j] h = .ok (.d (.int L.length)) h := by rw [len_ref H.lst]; simp [H.rows.1]
  unfold b_Heap_contains
  simp (disch := first | omega | decide | assumption | (unfold szL; simp only [List.length_cons, List.length_nil, List.length_append, List.length_map, List.length_singleton]; omega) | (unfold szL; simp only [List.length_cons, List.length_nil, Nat.reduceAdd, Nat.reduceLeDiff])) only [mDef, mStar, mSeq, mRet, mVar, mD, mBin, mCB, mCons, mNil, mIfS, mIf, mTB, mTru, mTAnd, mTOr, mTNot, mAnd, mOr, mNot, mNeg, mChain, mExpr, mAsg, mPar, gNm, gTp, gsCons, gsNil, gSb, mTup, mLst, mNext, mNever, mBreak, mCont, mFor, mAug, mIsi, mFld, mMeth, mBM, mCM, mSlice, mPart, mNoP, mDk, mDt, mIA, mIL, mIT, mIS, mIR1, mIR2, mIZ, mIE, mLc, mLc2, mYes, mRev, mRepr, mIsiC, mHas, mEqI, mLenI, Mini.R.bind_ok, Mini.R.thn_ok, Mini.R.bind_bad, Mini.R.thn_bad, ofO, asB, rB, rN, rI, List.length_cons, List.length_nil, List.map_cons, List.map_nil, List.cons_append, List.nil_append, List.getElem?_cons_zero, List.getElem?_cons_succ, List.getElem?_nil, List.replicate_succ, List.replicate_zero, Nat.reduceAdd, Nat.reduceSub, if_true, if_false, List.append_nil, List.set_cons_zero, List.set_cons_succ, reduceIte, Nat.reduceEqDiff, lst_d, lst_rl, lst_t, tup_d, tup_t, ix_dl, ix_rl, ix_dt, add_int, sub_int, lt_int, le_int, gt_int, ge_int, abs_int, max_int, min_int, rL_ok, rT_ok, len_dl, len_dt, len_rl, mul_int, div_int, mod_int, pow_int, atI_of, Int.reducePow, Int.reduceToNat, Int.reduceMod, Int.reduceAdd, Int.reduceSub, Int.reduceMul, Int.reduceDiv, Int.reduceLT, Int.reduceLE, decide_true, decide_false, tr_non, tr_bl, tr_int, tr_lst, tr_tup, ty_non, ty_bl, ty_int, ty_str, ty_lst, ty_tup, ty_tupm, instB, String.reduceBEq, Bool.or_true, Bool.or_false, Bool.true_or, Bool.false_or, Bool.and_true, Bool.and_false, Bool.true_and, Bool.false_and, Bool.not_true, Bool.not_false, beq_self_eq_true, pureAll, mkTup, pureAll_map, mkTup_d, List.length_append, List.length_singleton, ins_of H.ins, hl, within_i]
theorem need_box_eq {x : Int} (H : HeapIs n0 h i j rs L) (h0 : 0 ≤ x) (h1 : x < L.length) : m_Heap_need_box [.ref i, .d (.int x)] h = .ok (.d .none) h := by
  refine frz_d1 ?_
  have c2 : x ≤ (L.length : Int) - 1 := by omega
  have ff : fHas true 0 m_Heap_contains (.d (.int x)) (.ref i) h = .ok (.d (.bool false)) h := by
    simp only [fHas, ins_of H.ins, contains_eq H, h0, c2, decide_true, Bool.and_self, Mini.R.bind_ok, if_true, Bool.not_true]
  unfold b_Heap_need_box
  simp (disch := first | omega | decide | assumption | (unfold szL; simp only [List.length_cons, List.length_nil, List.length_append, List.length_map, List.length_singleton]; omega) | (unfold szL; simp only [List.length_cons, List.length_nil, Nat.reduceAdd, Nat.reduceLeDiff])) only [mDef, mStar, mSeq, mRet, mVar, mD, mBin, mCB, mCons, mNil, mIfS, mIf, mTB, mTru, mTAnd, mTOr, mTNot, mAnd, mOr, mNot, mNeg, mChain, mExpr, mAsg, mPar, gNm, gTp, gsCons, gsNil, gSb, mTup, mLst, mNext, mNever, mBreak, mCont, mFor, mAug, mIsi, mFld, mMeth, mBM, mCM, mSlice, mPart, mNoP, mDk, mDt, mIA, mIL, mIT, mIS, mIR1, mIR2, mIZ, mIE, mLc, mLc2, mYes, mRev, mRepr, mIsiC, mHas, mEqI, mLenI, Mini.R.bind_ok, Mini.R.thn_ok, Mini.R.bind_bad, Mini.R.thn_bad, ofO, asB, rB, rN, rI, List.length_cons, List.length_nil, List.map_cons, List.map_nil, List.cons_append, List.nil_append, List.getElem?_cons_zero, List.getElem?_cons_succ, List.getElem?_nil, List.replicate_succ, List.replicate_zero, Nat.reduceAdd, Nat.reduceSub, if_true, if_false, List.append_nil, List.set_cons_zero, List.set_cons_succ, reduceIte, Nat.reduceEqDiff, lst_d, lst_rl, lst_t, tup_d, tup_t, ix_dl, ix_rl, ix_dt, add_int, sub_int, lt_int, le_int, gt_int, ge_int, abs_int, max_int, min_int, rL_ok, rT_ok, len_dl, len_dt, len_rl, mul_int, div_int, mod_int, pow_int, atI_of, Int.reducePow, Int.reduceToNat, Int.reduceMod, Int.reduceAdd, Int.reduceSub, Int.reduceMul, Int.reduceDiv, Int.reduceLT, Int.reduceLE, decide_true, decide_false, tr_non, tr_bl, tr_int, tr_lst, tr_tup, ty_non, ty_bl, ty_int, ty_str, ty_lst, ty_tup, ty_tupm, instB, String.reduceBEq, Bool.or_true, Bool.or_false, Bool.true_or, Bool.false_or, Bool.and_true, Bool.and_false, Bool.true_and, Bool.false_and, Bool.not_true, Bool.not_false, beq_self_eq_true, pureAll, mkTup, pureAll_map, mkTup_d, List.length_append, List.length_singleton, ff]
theorem box_ix {x : Int} {r : Nat} {row : List PyData} (H : HeapIs n0 h i j rs L) (h0 : 0 ≤ x) (hr : rs[x.toNat]? = some r) : fIx (.ref j) (.d (.int x)) h = .ok (.ref r) h := by
  rw [ix_ref H.lst, atI_of _ h0, List.getElem?_map, hr]
  rfl
theorem need_place_eq {x p m : Int} {r : Nat} {row : List PyData} (H : HeapIs n0 h i j rs L) (h0 : 0 ≤ x) (hr : rs[x.toNat]? = some r) (hw : h[r]? = some (.lst (row.map .d))) (p0 : 0 ≤ p) (p1 : p ≤ (row.length : Int) - 1 + m) : m_Heap_need_place [.ref i, .d (.int x), .d (.int p), .d (.int m)] h = .ok (.d .none) h := by
  refine frz_d1 ?_
  have bx := box_ix (row := row) H h0 hr
  have hl : fLen [.ref r] h = .ok (.d (.int row.length)) h := by rw [len_ref hw]; simp
  unfold b_Heap_need_place
  simp (disch := first | omega | decide | assumption | (unfold szL; simp only [List.length_cons, List.length_nil, List.length_append, List.length_map, List.length_singleton]; omega) | (unfold szL; simp only [List.length_cons, List.length_nil, Nat.reduceAdd, Nat.reduceLeDiff])) only [mDef, mStar, mSeq, mRet, mVar, mD, mBin, mCB, mCons, mNil, mIfS, mIf, mTB, mTru, mTAnd, mTOr, mTNot, mAnd, mOr, mNot, mNeg, mChain, mExpr, mAsg, mPar, gNm, gTp, gsCons, gsNil, gSb, mTup, mLst, mNext, mNever, mBreak, mCont, mFor, mAug, mIsi, mFld, mMeth, mBM, mCM, mSlice, mPart, mNoP, mDk, mDt, mIA, mIL, mIT, mIS, mIR1, mIR2, mIZ, mIE, mLc, mLc2, mYes, mRev, mRepr, mIsiC, mHas, mEqI, mLenI, Mini.R.bind_ok, Mini.R.thn_ok, Mini.R.bind_bad, Mini.R.thn_bad, ofO, asB, rB, rN, rI, List.length_cons, List.length_nil, List.map_cons, List.map_nil, List.cons_append, List.nil_append, List.getElem?_cons_zero, List.getElem?_cons_succ, List.getElem?_nil, List.replicate_succ, List.replicate_zero, Nat.reduceAdd, Nat.reduceSub, if_true, if_false, List.append_nil, List.set_cons_zero, List.set_cons_succ, reduceIte, Nat.reduceEqDiff, lst_d, lst_rl, lst_t, tup_d, tup_t, ix_dl, ix_rl, ix_dt, add_int, sub_int, lt_int, le_int, gt_int, ge_int, abs_int, max_int, min_int, rL_ok, rT_ok, len_dl, len_dt, len_rl, mul_int, div_int, mod_int, pow_int, atI_of, Int.reducePow, Int.reduceToNat, Int.reduceMod, Int.reduceAdd, Int.reduceSub, Int.reduceMul, Int.reduceDiv, Int.reduceLT, Int.reduceLE, decide_true, decide_false, tr_non, tr_bl, tr_int, tr_lst, tr_tup, ty_non, ty_bl, ty_int, ty_str, ty_lst, ty_tup, ty_tupm, instB, String.reduceBEq, Bool.or_true, Bool.or_false, Bool.true_or, Bool.false_or, Bool.and_true, Bool.and_false, Bool.true_and, Bool.false_and, Bool.not_true, Bool.not_false, beq_self_eq_true, pureAll, mkTup, pureAll_map, mkTup_d, List.length_append, List.length_singleton, ins_of H.ins, bx, hl, within_i, p0, p1]
theorem need_item_eq {d : PyData} {m T : Nat} (H : HeapIs n0 h i j rs L) (hT : T = L.length + m) (g : GItem T d) : m_Heap_need_item [.ref i, .d d, .d (.int m)] h = .ok (.d .none) h := by
  refine frz_d1 ?_
  have hl : fLen [.ref j] h = .ok (.d (.int L.length)) h := by rw [len_ref H.lst]; simp [H.rows.1]
  have it := item_g (h := h) g
  rw [show ((T : Nat) : Int) = (L.length : Int) + (m : Int) by omega] at it
  unfold b_Heap_need_item
  simp (disch := first | omega | decide | assumption | (unfold szL; simp only [List.length_cons, List.length_nil, List.length_append, List.length_map, List.length_singleton]; omega) | (unfold szL; simp only [List.length_cons, List.length_nil, Nat.reduceAdd, Nat.reduceLeDiff])) only [mDef, mStar, mSeq, mRet, mVar, mD, mBin, mCB, mCons, mNil, mIfS, mIf, mTB, mTru, mTAnd, mTOr, mTNot, mAnd, mOr, mNot, mNeg, mChain, mExpr, mAsg, mPar, gNm, gTp, gsCons, gsNil, gSb, mTup, mLst, mNext, mNever, mBreak, mCont, mFor, mAug, mIsi, mFld, mMeth, mBM, mCM, mSlice, mPart, mNoP, mDk, mDt, mIA, mIL, mIT, mIS, mIR1, mIR2, mIZ, mIE, mLc, mLc2, mYes, mRev, mRepr, mIsiC, mHas, mEqI, mLenI, Mini.R.bind_ok, Mini.R.thn_ok, Mini.R.bind_bad, Mini.R.thn_bad, ofO, asB, rB, rN, rI, List.length_cons, List.length_nil, List.map_cons, List.map_nil, List.cons_append, List.nil_append, List.getElem?_cons_zero, List.getElem?_cons_succ, List.getElem?_nil, List.replicate_succ, List.replicate_zero, Nat.reduceAdd, Nat.reduceSub, if_true, if_false, List.append_nil, List.set_cons_zero, List.set_cons_succ, reduceIte, Nat.reduceEqDiff, lst_d, lst_rl, lst_t, tup_d, tup_t, ix_dl, ix_rl, ix_dt, add_int, sub_int, lt_int, le_int, gt_int, ge_int, abs_int, max_int, min_int, rL_ok, rT_ok, len_dl, len_dt, len_rl, mul_int, div_int, mod_int, pow_int, atI_of, Int.reducePow, Int.reduceToNat, Int.reduceMod, Int.reduceAdd, Int.reduceSub, Int.reduceMul, Int.reduceDiv, Int.reduceLT, Int.reduceLE, decide_true, decide_false, tr_non, tr_bl, tr_int, tr_lst, tr_tup, ty_non, ty_bl, ty_int, ty_str, ty_lst, ty_tup, ty_tupm, instB, String.reduceBEq, Bool.or_true, Bool.or_false, Bool.true_or, Bool.false_or, Bool.and_true, Bool.and_false, Bool.true_and, Bool.false_and, Bool.not_true, Bool.not_false, beq_self_eq_true, pureAll, mkTup, pureAll_map, mkTup_d, List.length_append, List.length_singleton, ins_of H.ins, hl, it]
theorem add_last_eq {row : List PyData} {L' : List (List PyData)} {v : Int} (H : HeapIs n0 h i j rs L) (hL : L = row :: L') (hf : L.length ≤ 60) (ht : total L + 1 ≤ 300) (hz : row.length ≤ 300) :
    ∃ r, r ∈ rs ∧ n0 ≤ r ∧ m_Heap_add_last [.ref i, .d (.int 0), .d (.int v)] h = .ok (.d .none) (h.set r (.lst ((row ++ [PyData.int v]).map .d))) ∧ HeapIs n0 (h.set r (.lst ((row ++ [PyData.int v]).map .d))) i j rs ((row ++ [PyData.int v]) :: L') := by
  have hl1 : rs.length = L.length := H.rows.1
  obtain ⟨r, rs', hrs⟩ : ∃ r rs', rs = r :: rs' := by
    cases rs with
    | nil => rw [hL] at hl1; simp at hl1
    | cons r rs' => exact ⟨r, rs', rfl⟩
  have hr : rs[(0 : Int).toNat]? = some r := by rw [hrs]; rfl
  obtain ⟨hn, hw⟩ := H.rows.2 0 r row (by rw [hrs]; rfl) (by rw [hL]; rfl)
  have hrl : r < h.length := (List.getElem?_eq_some_iff.mp hw).1
  have c1 : (0 : Int) < L.length := by rw [hL]; simp
  have nb := need_box_eq (x := 0) H (by omega) c1
  have np := need_place_eq (x := 0) (p := (row.length : Int)) (m := 1) H (by omega) hr hw (by omega) (by omega)
  have ni := need_item_eq (d := .int v) (m := 0) (T := L.length) H (by omega) (.inl ⟨v, rfl⟩)
  have nr := room_eq (x := 0) (y := 1) H (by omega) (by omega) (by omega)
  have bx := box_ix (row := row) (x := 0) H (by omega) hr
  have hl : fLen [.ref r] h = .ok (.d (.int row.length)) h := by rw [len_ref hw]; simp
  have ins : fInsert (.ref r) [.d (.int row.length), .d (.int v)] h = .ok (.d .none) (h.set r (.lst ((row ++ [PyData.int v]).map .d))) := by
    simp only [fInsert, wlst, hw]
    rw [if_pos (by simp [szL]; omega)]
    have t1 : (row.map MV.d).take row.length = row.map MV.d := List.take_of_length_le (by simp)
    have t2 : (row.map MV.d).drop row.length = [] := List.drop_of_length_le (by simp)
    simp [t1, t2]
  have at_ : m_Heap_add_at [.ref i, .d (.int 0), .d (.int row.length), .d (.int v)] h = .ok (.d .none) (h.set r (.lst ((row ++ [PyData.int v]).map .d))) := by
    unfold m_Heap_add_at b_Heap_add_at
    have ni' : m_Heap_need_item [.ref i, .d (.int v), .d (.int 0)] h = .ok (.d .none) h := ni
    simp (disch := first | omega | decide | assumption | (unfold szL; simp only [List.length_cons, List.length_nil, List.length_append, List.length_map, List.length_singleton]; omega) | (unfold szL; simp only [List.length_cons, List.length_nil, Nat.reduceAdd, Nat.reduceLeDiff])) only [mDef, mStar, mSeq, mRet, mVar, mD, mBin, mCB, mCons, mNil, mIfS, mIf, mTB, mTru, mTAnd, mTOr, mTNot, mAnd, mOr, mNot, mNeg, mChain, mExpr, mAsg, mPar, gNm, gTp, gsCons, gsNil, gSb, mTup, mLst, mNext, mNever, mBreak, mCont, mFor, mAug, mIsi, mFld, mMeth, mBM, mCM, mSlice, mPart, mNoP, mDk, mDt, mIA, mIL, mIT, mIS, mIR1, mIR2, mIZ, mIE, mLc, mLc2, mYes, mRev, mRepr, mIsiC, mHas, mEqI, mLenI, Mini.R.bind_ok, Mini.R.thn_ok, Mini.R.bind_bad, Mini.R.thn_bad, ofO, asB, rB, rN, rI, List.length_cons, List.length_nil, List.map_cons, List.map_nil, List.cons_append, List.nil_append, List.getElem?_cons_zero, List.getElem?_cons_succ, List.getElem?_nil, List.replicate_succ, List.replicate_zero, Nat.reduceAdd, Nat.reduceSub, if_true, if_false, List.append_nil, List.set_cons_zero, List.set_cons_succ, reduceIte, Nat.reduceEqDiff, lst_d, lst_rl, lst_t, tup_d, tup_t, ix_dl, ix_rl, ix_dt, add_int, sub_int, lt_int, le_int, gt_int, ge_int, abs_int, max_int, min_int, rL_ok, rT_ok, len_dl, len_dt, len_rl, mul_int, div_int, mod_int, pow_int, atI_of, Int.reducePow, Int.reduceToNat, Int.reduceMod, Int.reduceAdd, Int.reduceSub, Int.reduceMul, Int.reduceDiv, Int.reduceLT, Int.reduceLE, decide_true, decide_false, tr_non, tr_bl, tr_int, tr_lst, tr_tup, ty_non, ty_bl, ty_int, ty_str, ty_lst, ty_tup, ty_tupm, instB, String.reduceBEq, Bool.or_true, Bool.or_false, Bool.true_or, Bool.false_or, Bool.and_true, Bool.and_false, Bool.true_and, Bool.false_and, Bool.not_true, Bool.not_false, beq_self_eq_true, pureAll, mkTup, pureAll_map, mkTup_d, List.length_append, List.length_singleton, ins_of H.ins, nb, np, ni', nr, bx, isTy_l hw, ins]
  refine ⟨r, by rw [hrs]; exact List.mem_cons_self, hn, ?_, ?_⟩
  · unfold m_Heap_add_last b_Heap_add_last
    simp (disch := first | omega | decide | assumption | (unfold szL; simp only [List.length_cons, List.length_nil, List.length_append, List.length_map, List.length_singleton]; omega) | (unfold szL; simp only [List.length_cons, List.length_nil, Nat.reduceAdd, Nat.reduceLeDiff])) only [mDef, mStar, mSeq, mRet, mVar, mD, mBin, mCB, mCons, mNil, mIfS, mIf, mTB, mTru, mTAnd, mTOr, mTNot, mAnd, mOr, mNot, mNeg, mChain, mExpr, mAsg, mPar, gNm, gTp, gsCons, gsNil, gSb, mTup, mLst, mNext, mNever, mBreak, mCont, mFor, mAug, mIsi, mFld, mMeth, mBM, mCM, mSlice, mPart, mNoP, mDk, mDt, mIA, mIL, mIT, mIS, mIR1, mIR2, mIZ, mIE, mLc, mLc2, mYes, mRev, mRepr, mIsiC, mHas, mEqI, mLenI, Mini.R.bind_ok, Mini.R.thn_ok, Mini.R.bind_bad, Mini.R.thn_bad, ofO, asB, rB, rN, rI, List.length_cons, List.length_nil, List.map_cons, List.map_nil, List.cons_append, List.nil_append, List.getElem?_cons_zero, List.getElem?_cons_succ, List.getElem?_nil, List.replicate_succ, List.replicate_zero, Nat.reduceAdd, Nat.reduceSub, if_true, if_false, List.append_nil, List.set_cons_zero, List.set_cons_succ, reduceIte, Nat.reduceEqDiff, lst_d, lst_rl, lst_t, tup_d, tup_t, ix_dl, ix_rl, ix_dt, add_int, sub_int, lt_int, le_int, gt_int, ge_int, abs_int, max_int, min_int, rL_ok, rT_ok, len_dl, len_dt, len_rl, mul_int, div_int, mod_int, pow_int, atI_of, Int.reducePow, Int.reduceToNat, Int.reduceMod, Int.reduceAdd, Int.reduceSub, Int.reduceMul, Int.reduceDiv, Int.reduceLT, Int.reduceLE, decide_true, decide_false, tr_non, tr_bl, tr_int, tr_lst, tr_tup, ty_non, ty_bl, ty_int, ty_str, ty_lst, ty_tup, ty_tupm, instB, String.reduceBEq, Bool.or_true, Bool.or_false, Bool.true_or, Bool.false_or, Bool.and_true, Bool.and_false, Bool.true_and, Bool.false_and, Bool.not_true, Bool.not_false, beq_self_eq_true, pureAll, mkTup, pureAll_map, mkTup_d, List.length_append, List.length_singleton, ins_of H.ins, nb, bx, hl, at_]
  · have hne : ∀ k, k ≠ r → ∀ o, h[k]? = some o → (h.set r (.lst ((row ++ [PyData.int v]).map .d)))[k]? = some o := fun k hk o e => by rw [at_set_ne (Ne.symm hk)]; exact e
    have hi : i ≠ r := fun q => by
      have := H.ins
      rw [q, hw] at this
      cases this
    have hj : j ≠ r := fun q => H.jn (by rw [q, hrs]; exact List.mem_cons_self)
    refine ⟨H.i0, H.j0, hne i hi _ H.ins, hne j hj _ H.lst, ⟨by rw [hl1, hL]; rfl, fun k x row' h1 h2 => ?_⟩, H.nd, H.jn⟩
    cases k with
    | zero =>
      rw [hrs] at h1
      simp at h1 h2
      subst h1 h2
      exact ⟨hn, at_set hrl⟩
    | succ k =>
      have h3 := H.rows.2 (k + 1) x row' h1 (by rw [hL]; simpa using h2)
      refine ⟨h3.1, hne x (fun q => ?_) _ h3.2⟩
      have nd := H.nd
      rw [hrs] at nd h1
      simp at h1
      exact (List.nodup_cons.mp nd).1 (by rw [← q]; exact List.mem_of_getElem? h1)
theorem new_eq (H : HeapIs n0 h i j rs L) (hf : L.length + 1 ≤ 60) (ht : total L ≤ 300) : ∃ v, m_Heap_new [.ref i] h = .ok v ((h ++ [MO.lst []]).set j (MO.lst (rs.map MV.ref ++ [MV.ref h.length]))) := by
  have hl1 : rs.length = L.length := H.rows.1
  have jl : j < h.length := (List.getElem?_eq_some_iff.mp H.lst).1
  have nr := room_eq (x := 1) (y := 0) H (by omega) (by omega) (by omega)
  have lo : fListOf [.d (.tuple [])] h = .ok (.ref h.length) (h ++ [MO.lst []]) := rfl
  have H1 : (h ++ [MO.lst []])[j]? = some (.lst (rs.map .ref)) := at_left H.lst
  have ap : fAppend (.ref j) [.ref h.length] (h ++ [MO.lst []]) = .ok (.d .none) ((h ++ [MO.lst []]).set j (MO.lst (rs.map MV.ref ++ [MV.ref h.length]))) := app_ok H1 (by simp [szL]; omega)
  have i1 : ((h ++ [MO.lst []]).set j (MO.lst (rs.map MV.ref ++ [MV.ref h.length])))[i]? = some (.ins 0 [.ref j]) := by
    rw [at_set_ne (fun q => by
      have := H.ins
      rw [← q, H.lst] at this
      cases this)]
    exact at_left H.ins
  have j1 : ((h ++ [MO.lst []]).set j (MO.lst (rs.map MV.ref ++ [MV.ref h.length])))[j]? = some (MO.lst (rs.map MV.ref ++ [MV.ref h.length])) := at_set (by simp; omega)
  have e0 : (mFor (mIA (mVar 1)) (gNm 2) (mExpr (mMeth 0 m_Heap_need_item (mVar 0) (mCons (mVar 2) (mCons (mD (.int 1)) mNil))))) [some (.ref i), some (.d (.tuple [])), none] h = .nx [some (.ref i), some (.d (.tuple [])), none] h := rfl
  have lt : fLen [.d (.tuple [])] h = .ok (.d (.int 0)) h := rfl
  refine ⟨.d (.int (((rs.length + 1 : Nat) : Int) - 1)), ?_⟩
  · unfold m_Heap_new mStar
    rw [if_pos (by simp)]
    have e1 : List.take 1 [MV.ref i] ++ [mkTup (List.drop 1 [MV.ref i])] = [.ref i, .d (.tuple [])] := rfl
    rw [e1]
    unfold b_Heap_new
    refine mDef_rt ((mSeq_nx e0).trans ?_)
    have nr' : m_Heap_need_room [.ref i, .d (.int 1), .d (.int ((0 : Nat) : Int))] h = .ok (.d .none) h := nr
    simp (disch := first | omega | decide | assumption | (unfold szL; simp only [List.length_cons, List.length_nil, List.length_append, List.length_map, List.length_singleton]; omega) | (unfold szL; simp only [List.length_cons, List.length_nil, Nat.reduceAdd, Nat.reduceLeDiff])) only [mDef, mStar, mSeq, mRet, mVar, mD, mBin, mCB, mCons, mNil, mIfS, mIf, mTB, mTru, mTAnd, mTOr, mTNot, mAnd, mOr, mNot, mNeg, mChain, mExpr, mAsg, mPar, gNm, gTp, gsCons, gsNil, gSb, mTup, mLst, mNext, mNever, mBreak, mCont, mFor, mAug, mIsi, mFld, mMeth, mBM, mCM, mSlice, mPart, mNoP, mDk, mDt, mIA, mIL, mIT, mIS, mIR1, mIR2, mIZ, mIE, mLc, mLc2, mYes, mRev, mRepr, mIsiC, mHas, mEqI, mLenI, Mini.R.bind_ok, Mini.R.thn_ok, Mini.R.bind_bad, Mini.R.thn_bad, ofO, asB, rB, rN, rI, List.length_cons, List.length_nil, List.map_cons, List.map_nil, List.cons_append, List.nil_append, List.getElem?_cons_zero, List.getElem?_cons_succ, List.getElem?_nil, List.replicate_succ, List.replicate_zero, Nat.reduceAdd, Nat.reduceSub, if_true, if_false, List.append_nil, List.set_cons_zero, List.set_cons_succ, reduceIte, Nat.reduceEqDiff, lst_d, lst_rl, lst_t, tup_d, tup_t, ix_dl, ix_rl, ix_dt, add_int, sub_int, lt_int, le_int, gt_int, ge_int, abs_int, max_int, min_int, rL_ok, rT_ok, len_dl, len_dt, len_rl, mul_int, div_int, mod_int, pow_int, atI_of, Int.reducePow, Int.reduceToNat, Int.reduceMod, Int.reduceAdd, Int.reduceSub, Int.reduceMul, Int.reduceDiv, Int.reduceLT, Int.reduceLE, decide_true, decide_false, tr_non, tr_bl, tr_int, tr_lst, tr_tup, ty_non, ty_bl, ty_int, ty_str, ty_lst, ty_tup, ty_tupm, instB, String.reduceBEq, Bool.or_true, Bool.or_false, Bool.true_or, Bool.false_or, Bool.and_true, Bool.and_false, Bool.true_and, Bool.false_and, Bool.not_true, Bool.not_false, beq_self_eq_true, pureAll, mkTup, pureAll_map, mkTup_d, List.length_append, List.length_singleton, ins_of H.ins, ins_of (at_left (B := [MO.lst []]) H.ins), ins_of i1, lt, nr, nr', isTy_l H.lst, lo, ap, len_ref j1]
    rw [List.length_map]
theorem toD_heap (H : HeapIs n0 h i j rs L) : toD 40 h (.ref j) = some (.list (L.map .list)) := by
  have : mapO (toD 39 h) (rs.map .ref) = some (L.map .list) := mapO_refs (by simp [H.rows.1]) fun k r a h1 h2 => by
    rw [List.getElem?_map] at h2
    obtain ⟨row, h3, h4⟩ := Option.map_eq_some_iff.mp h2
    subst h4
    exact toD_row (H.rows.2 k r row h1 h3).2
  simp only [toD, H.lst, this]
theorem heap_eq {i' j' : Nat} {n1 : Nat} {rs' : List Nat} (H : HeapIs n0 h i j rs L) (H' : HeapIs n1 h i' j' rs' L) (hs : (PyData.list (L.map .list)).canLay0 = true ∧ (PyData.list (L.map .list)).depth ≤ 3) : m_Heap_eq [.ref i, .ref i'] h = .ok (.d (.bool true)) h := by
  refine frz_d1 ?_
  have q : fEq false (.ref j) (.ref j') h = .ok (.d (.bool true)) h := by
    rw [eq_d (toD_heap H) (toD_heap H') (shaped_of hs (by decide)) (shaped_of hs (by decide)), PySem.SeqAt.eqv_refl _ hs.1]
    rfl
  unfold b_Heap_eq
  simp (disch := first | omega | decide | assumption | (unfold szL; simp only [List.length_cons, List.length_nil, List.length_append, List.length_map, List.length_singleton]; omega) | (unfold szL; simp only [List.length_cons, List.length_nil, Nat.reduceAdd, Nat.reduceLeDiff])) only [mDef, mStar, mSeq, mRet, mVar, mD, mBin, mCB, mCons, mNil, mIfS, mIf, mTB, mTru, mTAnd, mTOr, mTNot, mAnd, mOr, mNot, mNeg, mChain, mExpr, mAsg, mPar, gNm, gTp, gsCons, gsNil, gSb, mTup, mLst, mNext, mNever, mBreak, mCont, mFor, mAug, mIsi, mFld, mMeth, mBM, mCM, mSlice, mPart, mNoP, mDk, mDt, mIA, mIL, mIT, mIS, mIR1, mIR2, mIZ, mIE, mLc, mLc2, mYes, mRev, mRepr, mIsiC, mHas, mEqI, mLenI, Mini.R.bind_ok, Mini.R.thn_ok, Mini.R.bind_bad, Mini.R.thn_bad, ofO, asB, rB, rN, rI, List.length_cons, List.length_nil, List.map_cons, List.map_nil, List.cons_append, List.nil_append, List.getElem?_cons_zero, List.getElem?_cons_succ, List.getElem?_nil, List.replicate_succ, List.replicate_zero, Nat.reduceAdd, Nat.reduceSub, if_true, if_false, List.append_nil, List.set_cons_zero, List.set_cons_succ, reduceIte, Nat.reduceEqDiff, lst_d, lst_rl, lst_t, tup_d, tup_t, ix_dl, ix_rl, ix_dt, add_int, sub_int, lt_int, le_int, gt_int, ge_int, abs_int, max_int, min_int, rL_ok, rT_ok, len_dl, len_dt, len_rl, mul_int, div_int, mod_int, pow_int, atI_of, Int.reducePow, Int.reduceToNat, Int.reduceMod, Int.reduceAdd, Int.reduceSub, Int.reduceMul, Int.reduceDiv, Int.reduceLT, Int.reduceLE, decide_true, decide_false, tr_non, tr_bl, tr_int, tr_lst, tr_tup, ty_non, ty_bl, ty_int, ty_str, ty_lst, ty_tup, ty_tupm, instB, String.reduceBEq, Bool.or_true, Bool.or_false, Bool.true_or, Bool.false_or, Bool.and_true, Bool.and_false, Bool.true_and, Bool.false_and, Bool.not_true, Bool.not_false, beq_self_eq_true, pureAll, mkTup, pureAll_map, mkTup_d, List.length_append, List.length_singleton, ins_of H.ins, ins_of H'.ins, q]
end
end Law
namespace Law
open Mini
open PySem (PyData Str)
/-! ### what is written of a heap of integers and boxes -/
def NItem (d : PyData) : Prop := (∃ i : Int, d = .int i ∧ i.natAbs < 10 ^ 42) ∨ ∃ k : Int, 0 ≤ k ∧ k < 1000 ∧ d = boxD k
structure Nice (d : PyData) (B : Nat) : Prop where
  sh : d.showable = true
  nd : d.hasDict = false
  lv : d.leavesShort 60 = true
  wt : d.weight ≤ B
  dp : d.depth ≤ B
  cl : d.canLay0 = true
theorem int_wt {i : Int} (h : i.natAbs < 10 ^ 42) : (PyData.int i).weight ≤ 140 := by
  simp only [PyData.weight]
  split
  · omega
  · have h2 : i.natAbs < 2 ^ 140 := Nat.lt_of_lt_of_le h (by decide)
    have := PySem.Flt.log2_lt_of (n := i.natAbs) (k := 140) (by decide) h2
    omega
theorem int_show {i : Int} (h : i.natAbs < 10 ^ 42) : (PyData.int i).showable = true := by
  simp only [PyData.showable, decide_eq_true_eq]
  have h2 : i.natAbs < 2 ^ 140 := Nat.lt_of_lt_of_le h (by decide)
  have := PySem.Flt.log2_lt_of (n := i.natAbs) (k := 140) (by decide) h2
  omega
theorem int_lv {i : Int} (h : i.natAbs < 10 ^ 42) : (PyData.int i).leavesShort 60 = true := by
  simp only [PyData.leavesShort, decide_eq_true_eq]
  have e := PySem.int_text_length_le10 (k := 42) (by decide) h
  show (PySem.Str.ofString (toString i)).length ≤ 60
  rw [PySem.ofString_length]
  omega
theorem nice_item {d : PyData} (h : NItem d) : Nice d 160 := by
  rcases h with ⟨i, rfl, hi⟩ | ⟨k, k0, k1, rfl⟩
  · exact ⟨int_show hi, rfl, int_lv hi, Nat.le_trans (int_wt hi) (by omega), Nat.zero_le _, rfl⟩
  · have hk : k.natAbs < 10 ^ 42 := Nat.lt_of_lt_of_le (by omega : k.natAbs < 1000) (by decide)
    have h1 := int_wt hk
    refine ⟨?_, ?_, ?_, ?_, ?_, ?_⟩
    · simp only [PyData.showable, PyData.showableAll, Bool.true_and, Bool.and_true]
      exact int_show hk
    · rfl
    · have := int_lv hk
      simp only [PyData.leavesShort, PyData.leavesShortAll, Bool.and_true, Bool.and_eq_true] at this ⊢
      exact ⟨by decide +kernel, this⟩
    · simp only [PyData.weight, PyData.weightAll] at h1 ⊢
      have : (("box" : Str)).cps.size = 3 := by decide +kernel
      omega
    · simp [PyData.depth, PyData.depthAll]
    · simp only [PyData.canLay0, PyData.canLayAll0, Bool.and_true]
      decide +kernel
theorem nice_all {B : Nat} : ∀ {l : List PyData}, (∀ d ∈ l, Nice d B) → PyData.showableAll l = true ∧ PyData.hasDictAll l = false ∧ PyData.leavesShortAll 60 l = true ∧ PyData.weightAll l ≤ l.length * (B + 1) ∧ PyData.depthAll l ≤ B ∧ PyData.canLayAll0 l = true
  | [], _ => ⟨rfl, rfl, rfl, by simp [PyData.weightAll], Nat.zero_le _, rfl⟩
  | d :: l, h => by
    have h1 := h d List.mem_cons_self
    obtain ⟨a1, a2, a3, a4, a5, a6⟩ := nice_all fun x hx => h x (List.mem_cons_of_mem _ hx)
    refine ⟨by simp [PyData.showableAll, h1.sh, a1], by simp [PyData.hasDictAll, h1.nd, a2], by simp [PyData.leavesShortAll, h1.lv, a3], ?_, Nat.max_le.mpr ⟨h1.dp, a5⟩, by simp [PyData.canLayAll0, h1.cl, a6]⟩
    simp only [PyData.weightAll, List.length_cons]
    have := h1.wt
    rw [Nat.add_mul]
    omega
theorem nice_list {B N : Nat} {l : List PyData} (h : ∀ d ∈ l, Nice d B) (hN : l.length * (B + 1) ≤ N) (hB : B + 1 ≤ N) : Nice (.list l) N := by
  obtain ⟨a1, a2, a3, a4, a5, a6⟩ := nice_all h
  exact ⟨a1, a2, a3, Nat.le_trans a4 hN, by show PyData.depthAll l + 1 ≤ N; omega, a6⟩
/-- rows of a heap, filled -/
def NRows (L : List (List PyData)) : Prop := L.length ≤ 10 ∧ ∀ row ∈ L, row.length ≤ 3 ∧ ∀ d ∈ row, NItem d
theorem nrows_nice {L : List (List PyData)} (h : NRows L) : (PyData.list (L.map .list)).showable = true ∧ (PyData.list (L.map .list)).hasDict = false ∧ (PyData.list (L.map .list)).depth ≤ 60 ∧ (PyData.list (L.map .list)).shown.length ≤ 16777216 := by
  have hr : ∀ d ∈ L.map PyData.list, Nice d 483 := fun d hd => by
    obtain ⟨row, hrow, rfl⟩ := List.mem_map.mp hd
    obtain ⟨h1, h2⟩ := h.2 row hrow
    refine nice_list (B := 160) (fun d hd => nice_item (h2 d hd)) ?_ (by omega)
    have := Nat.mul_le_mul_right 161 h1
    omega
  have hN : Nice (.list (L.map .list)) 4840 := nice_list hr (by
    have := Nat.mul_le_mul_right 484 (show (L.map PyData.list).length ≤ 10 by simpa using h.1)
    omega) (by omega)
  refine ⟨hN.sh, hN.nd, ?_, ?_⟩
  · have : PyData.depthAll (L.map .list) ≤ 2 := depthAll_of fun d hd => by
      obtain ⟨row, hrow, rfl⟩ := List.mem_map.mp hd
      show PyData.depthAll row + 1 ≤ 2
      have : PyData.depthAll row ≤ 1 := depthAll_of fun d hd => by
        rcases (h.2 row hrow).2 d hd with ⟨i, rfl, _⟩ | ⟨k, _, _, rfl⟩
        · simp [PyData.depth]
        · simp [PyData.depth, PyData.depthAll]
      omega
    show PyData.depthAll (L.map .list) + 1 ≤ 60
    omega
  · have := PySem.PyData.shown_le 60 (by decide) _ hN.lv
    have h2 := Nat.mul_le_mul_left 62 hN.wt
    omega
end Law
namespace Law
open Mini
open PySem (PyData Str)
def rt_body : MS := (mSeq (mAsg (mLst (mCons (mBin fSub (mCB m_law_take (mCons (mVar 0) (mCons (mD (.int 9)) mNil))) (mD (.int 4))) (mCons (mCB m_law_take (mCons (mVar 0) (mCons (mBin fPow (mD (.int 10)) (mD (.int 40))) mNil))) (mCons (mBin fSub (mD (.int 0)) (mCB m_law_take (mCons (mVar 0) (mCons (mBin fPow (mD (.int 10)) (mD (.int 39))) mNil)))) mNil)))) (gNm 5))
    (mAsg (mBin fIx (mVar 5) (mCB m_law_take (mCons (mVar 0) (mCons (mD (.int 3)) mNil)))) (gSb (mVar 3) (mVar 4))))
theorem w_step {b : Nat} {L M : Int} {h tt : MH} {f : Nat} {kvs : dict} {w : Str} {m1 m2 m5 m6 m7 m8 m9 m10 m11 m12 : Option MV} (hb : b < h.length) (ok : BagOk L M) (hf : tt[f]? = some (.dk kvs)) (hz : kvs.length < 100) :
    ∃ L' M' i tt' y, BagOk L' M' ∧ i.natAbs < 10 ^ 42 ∧ tt'[f]? = some (.dk (dput kvs (Sum.inr w) (.d (.int i)))) ∧ (∀ k < tt.length, k ≠ f → tt'[k]? = tt[k]?) ∧ tt.length ≤ tt'.length ∧
      rt_body [some (.ref b), m1, m2, some (.ref (h.length + f)), some (.d (.str w)), m5, m6, m7, m8, m9, m10, m11, m12] (h.set b (bagO L M) ++ tt) = .nx [some (.ref b), m1, m2, some (.ref (h.length + f)), some (.d (.str w)), y, m6, m7, m8, m9, m10, m11, m12] (h.set b (bagO L' M') ++ tt') := by
  obtain ⟨d1, L1, M1, a0, a1, ok1, e1⟩ := take_at (t := tt) hb ok (n := 9) (by decide) (by decide)
  obtain ⟨d2, L2, M2, b0, b1, ok2, e2⟩ := take_at (t := tt) hb ok1 (n := 10000000000000000000000000000000000000000) (by decide) (by decide)
  obtain ⟨d3, L3, M3, c0, c1, ok3, e3⟩ := take_at (t := tt) hb ok2 (n := 1000000000000000000000000000000000000000) (by decide) (by decide)
  obtain ⟨d4, L4, M4, q0, q1, ok4, e4⟩ := take_at (t := tt ++ [.lst [.d (.int (d1 - 4)), .d (.int d2), .d (.int (0 - d3))]]) hb ok3 (n := 3) (by decide) (by decide)
  have hfl : f < tt.length := (List.getElem?_eq_some_iff.mp hf).1
  have e10 : (10 : Int) ^ 42 = 1000000000000000000000000000000000000000000 := by decide
  obtain ⟨i, hi, hi2⟩ : ∃ i : Int, i.natAbs < 10 ^ 42 ∧ fIx (.ref (h.length + tt.length)) (.d (.int d4)) (h.set b (bagO L4 M4) ++ (tt ++ [.lst [.d (.int (d1 - 4)), .d (.int d2), .d (.int (0 - d3))]])) = .ok (.d (.int i)) (h.set b (bagO L4 M4) ++ (tt ++ [.lst [.d (.int (d1 - 4)), .d (.int d2), .d (.int (0 - d3))]])) := by
    have at1 : (h.set b (bagO L4 M4) ++ (tt ++ [MO.lst [.d (.int (d1 - 4)), .d (.int d2), .d (.int (0 - d3))]]))[h.length + tt.length]? = some (.lst [.d (.int (d1 - 4)), .d (.int d2), .d (.int (0 - d3))]) := by
      have := at_last (A := h.set b (bagO L4 M4) ++ tt) (o := .lst [.d (.int (d1 - 4)), .d (.int d2), .d (.int (0 - d3))]) (i := h.length + tt.length) (by simp)
      simpa [List.append_assoc] using this
    have e : ∀ x : Nat, ((x : Int) < 10 ^ 42) → x < 10 ^ 42 := fun x hx => by exact_mod_cast hx
    rcases (by omega : d4 = 0 ∨ d4 = 1 ∨ d4 = 2) with rfl | rfl | rfl
    · exact ⟨d1 - 4, by omega, by rw [ix_ref at1]; rfl⟩
    · exact ⟨d2, by omega, by rw [ix_ref at1]; rfl⟩
    · exact ⟨0 - d3, by omega, by rw [ix_ref at1]; rfl⟩
  have at2 : (h.set b (bagO L4 M4) ++ (tt ++ [MO.lst [.d (.int (d1 - 4)), .d (.int d2), .d (.int (0 - d3))]]))[h.length + f]? = some (.dk kvs) := by
    rw [List.getElem?_append_right (by simp), show h.length + f - (h.set b (bagO L4 M4)).length = f by simp]
    exact at_left hf
  have st : fSet (.ref (h.length + f)) (.d (.str w)) (.d (.int i)) (h.set b (bagO L4 M4) ++ (tt ++ [MO.lst [.d (.int (d1 - 4)), .d (.int d2), .d (.int (0 - d3))]])) = .ok () (h.set b (bagO L4 M4) ++ (tt.set f (.dk (dput kvs (Sum.inr w) (.d (.int i)))) ++ [MO.lst [.d (.int (d1 - 4)), .d (.int d2), .d (.int (0 - d3))]])) := by
    rw [set_dk at2 (k := Sum.inr w) rfl (by unfold szL; omega), List.set_append_right _ _ (by simp), show h.length + f - (h.set b (bagO L4 M4)).length = f by simp, set_left hfl]
  refine ⟨L4, M4, i, tt.set f (.dk (dput kvs (Sum.inr w) (.d (.int i)))) ++ [MO.lst [.d (.int (d1 - 4)), .d (.int d2), .d (.int (0 - d3))]], some (.ref (h.length + tt.length)), ok4, hi, at_left (at_set hfl), fun k hk hne => ?_, by simp, ?_⟩
  · rw [List.getElem?_append_left (by simpa using hk), at_set_ne (Ne.symm hne)]
  · unfold rt_body
    simp (disch := first | omega | decide | assumption | (unfold szL; simp only [List.length_cons, List.length_nil, List.length_append, List.length_map, List.length_singleton]; omega) | (unfold szL; simp only [List.length_cons, List.length_nil, Nat.reduceAdd, Nat.reduceLeDiff])) only [mDef, mStar, mSeq, mRet, mVar, mD, mBin, mCB, mCons, mNil, mIfS, mIf, mTB, mTru, mTAnd, mTOr, mTNot, mAnd, mOr, mNot, mNeg, mChain, mExpr, mAsg, mPar, gNm, gTp, gsCons, gsNil, gSb, mTup, mLst, mNext, mNever, mBreak, mCont, mFor, mAug, mIsi, mFld, mMeth, mBM, mCM, mSlice, mPart, mNoP, mDk, mDt, mIA, mIL, mIT, mIS, mIR1, mIR2, mIZ, mIE, mLc, mLc2, mYes, mRev, mRepr, mIsiC, mHas, mEqI, mLenI, Mini.R.bind_ok, Mini.R.thn_ok, Mini.R.bind_bad, Mini.R.thn_bad, ofO, asB, rB, rN, rI, List.length_cons, List.length_nil, List.map_cons, List.map_nil, List.cons_append, List.nil_append, List.getElem?_cons_zero, List.getElem?_cons_succ, List.getElem?_nil, List.replicate_succ, List.replicate_zero, Nat.reduceAdd, Nat.reduceSub, if_true, if_false, List.append_nil, List.set_cons_zero, List.set_cons_succ, reduceIte, Nat.reduceEqDiff, lst_d, lst_rl, lst_t, tup_d, tup_t, ix_dl, ix_rl, ix_dt, add_int, sub_int, lt_int, le_int, gt_int, ge_int, abs_int, max_int, min_int, rL_ok, rT_ok, len_dl, len_dt, len_rl, mul_int, div_int, mod_int, pow_int, atI_of, Int.reducePow, Int.reduceToNat, Int.reduceMod, Int.reduceAdd, Int.reduceSub, Int.reduceMul, Int.reduceDiv, Int.reduceLT, Int.reduceLE, decide_true, decide_false, tr_non, tr_bl, tr_int, tr_lst, tr_tup, ty_non, ty_bl, ty_int, ty_str, ty_lst, ty_tup, ty_tupm, instB, String.reduceBEq, Bool.or_true, Bool.or_false, Bool.true_or, Bool.false_or, Bool.and_true, Bool.and_false, Bool.true_and, Bool.false_and, Bool.not_true, Bool.not_false, beq_self_eq_true, pureAll, mkTup, pureAll_map, mkTup_d, List.length_append, List.length_singleton, e1, e2, e3, e4, hi2, st, List.length_set, List.append_assoc]
end Law
namespace Law
open Mini
open PySem (PyData Str)
def wordsM : List MV := [.d (.str "a"), .d (.str "b"), .d (.str ""), .d (.str "abcdefgh"), .d (.str "zz")]
def kv5 (i1 i2 i3 i4 i5 : Int) : dict := [(Sum.inr "a", .d (.int i1)), (Sum.inr "b", .d (.int i2)), (Sum.inr "", .d (.int i3)), (Sum.inr "abcdefgh", .d (.int i4)), (Sum.inr "zz", .d (.int i5))]
theorem ne_ab : ¬ ("a" : Str) = "b" := by decide +kernel
theorem ne_ae : ¬ ("a" : Str) = "" := by decide +kernel
theorem ne_ac : ¬ ("a" : Str) = "abcdefgh" := by decide +kernel
theorem ne_az : ¬ ("a" : Str) = "zz" := by decide +kernel
theorem ne_be : ¬ ("b" : Str) = "" := by decide +kernel
theorem ne_bc : ¬ ("b" : Str) = "abcdefgh" := by decide +kernel
theorem ne_bz : ¬ ("b" : Str) = "zz" := by decide +kernel
theorem ne_ec : ¬ ("" : Str) = "abcdefgh" := by decide +kernel
theorem ne_ez : ¬ ("" : Str) = "zz" := by decide +kernel
theorem ne_cz : ¬ ("abcdefgh" : Str) = "zz" := by decide +kernel
theorem fold5 (v1 v2 v3 v4 v5 : MV) : dput (dput (dput (dput (dput ([] : dict) (Sum.inr "a") v1) (Sum.inr "b") v2) (Sum.inr "") v3) (Sum.inr "abcdefgh") v4) (Sum.inr "zz") v5 = ([(Sum.inr "a", v1), (Sum.inr "b", v2), (Sum.inr "", v3), (Sum.inr "abcdefgh", v4), (Sum.inr "zz", v5)] : dict) := by
  simp [dput, ne_ab, ne_ae, ne_ac, ne_az, ne_be, ne_bc, ne_bz, ne_ec, ne_ez, ne_cz]
theorem fold5r (v1 v2 v3 v4 v5 : MV) : dput (dput (dput (dput (dput ([] : dict) (Sum.inr "zz") v5) (Sum.inr "abcdefgh") v4) (Sum.inr "") v3) (Sum.inr "b") v2) (Sum.inr "a") v1 = ([(Sum.inr "zz", v5), (Sum.inr "abcdefgh", v4), (Sum.inr "", v3), (Sum.inr "b", v2), (Sum.inr "a", v1)] : dict) := by
  simp [dput, Ne.symm ne_ab, Ne.symm ne_ae, Ne.symm ne_ac, Ne.symm ne_az, Ne.symm ne_be, Ne.symm ne_bc, Ne.symm ne_bz, Ne.symm ne_ec, Ne.symm ne_ez, Ne.symm ne_cz]
theorem dput_len {kvs : dict} {k : L2.Key} {v : MV} : (dput kvs k v).length ≤ kvs.length + 1 := by
  unfold dput
  split <;> simp
theorem words_loop {b : Nat} {L M : Int} {h tt : MH} {f w : Nat} {m1 m2 m4 m5 m6 m7 m8 m9 m10 m11 m12 : Option MV} (hb : b < h.length) (ok : BagOk L M) (hf : tt[f]? = some (.dk [])) (hw : tt[w]? = some (.lst wordsM)) (hn : w ≠ f) :
    ∃ L' M' i1 i2 i3 i4 i5 tt' x y, BagOk L' M' ∧ (∀ i ∈ [i1, i2, i3, i4, i5], i.natAbs < 10 ^ 42) ∧ tt'[f]? = some (.dk (kv5 i1 i2 i3 i4 i5)) ∧ (∀ k < tt.length, k ≠ f → tt'[k]? = tt[k]?) ∧ tt.length ≤ tt'.length ∧
      forGo (sameL (.ref (h.length + w)) wordsM) (gNm 4) rt_body wordsM [some (.ref b), m1, m2, some (.ref (h.length + f)), m4, m5, m6, m7, m8, m9, m10, m11, m12] (h.set b (bagO L M) ++ tt) = .nx [some (.ref b), m1, m2, some (.ref (h.length + f)), x, y, m6, m7, m8, m9, m10, m11, m12] (h.set b (bagO L' M') ++ tt') := by
  have hwl : w < tt.length := (List.getElem?_eq_some_iff.mp hw).1
  have chk : ∀ (L M : Int) (t' : MH), t'[w]? = tt[w]? → sameL (.ref (h.length + w)) wordsM (h.set b (bagO L M) ++ t') = true := fun L M t' e => sameL_at (by
    rw [List.getElem?_append_right (by simp), show h.length + w - (h.set b (bagO L M)).length = w by simp, e]
    exact hw)
  obtain ⟨L1, M1, i1, t1, y1, ok1, q1, f1, g1, l1, e1⟩ := w_step (w := "a") (m1 := m1) (m2 := m2) (m5 := m5) (m6 := m6) (m7 := m7) (m8 := m8) (m9 := m9) (m10 := m10) (m11 := m11) (m12 := m12) hb ok hf (by simp)
  obtain ⟨L2, M2, i2, t2, y2, ok2, q2, f2, g2, l2, e2⟩ := w_step (w := "b") (m1 := m1) (m2 := m2) (m5 := y1) (m6 := m6) (m7 := m7) (m8 := m8) (m9 := m9) (m10 := m10) (m11 := m11) (m12 := m12) hb ok1 f1 (by have := dput_len (kvs := []) (k := Sum.inr "a") (v := .d (.int i1)); simp at this ⊢; omega)
  obtain ⟨L3, M3, i3, t3, y3, ok3, q3, f3, g3, l3, e3⟩ := w_step (w := "") (m1 := m1) (m2 := m2) (m5 := y2) (m6 := m6) (m7 := m7) (m8 := m8) (m9 := m9) (m10 := m10) (m11 := m11) (m12 := m12) hb ok2 f2 (by simp [dput]; split <;> simp)
  obtain ⟨L4, M4, i4, t4, y4, ok4, q4, f4, g4, l4, e4⟩ := w_step (w := "abcdefgh") (m1 := m1) (m2 := m2) (m5 := y3) (m6 := m6) (m7 := m7) (m8 := m8) (m9 := m9) (m10 := m10) (m11 := m11) (m12 := m12) hb ok3 f3 (by simp [dput, ne_ab, ne_ae, ne_be])
  obtain ⟨L5, M5, i5, t5, y5, ok5, q5, f5, g5, l5, e5⟩ := w_step (w := "zz") (m1 := m1) (m2 := m2) (m5 := y4) (m6 := m6) (m7 := m7) (m8 := m8) (m9 := m9) (m10 := m10) (m11 := m11) (m12 := m12) hb ok4 f4 (by simp [dput, ne_ab, ne_ae, ne_be, ne_ac, ne_bc, ne_ec])
  have k1 : ∀ k < tt.length, k ≠ f → t1[k]? = tt[k]? := g1
  have k2 : ∀ k < tt.length, k ≠ f → t2[k]? = tt[k]? := fun k a c => (g2 k (by omega) c).trans (k1 k a c)
  have k3 : ∀ k < tt.length, k ≠ f → t3[k]? = tt[k]? := fun k a c => (g3 k (by omega) c).trans (k2 k a c)
  have k4 : ∀ k < tt.length, k ≠ f → t4[k]? = tt[k]? := fun k a c => (g4 k (by omega) c).trans (k3 k a c)
  have k5 : ∀ k < tt.length, k ≠ f → t5[k]? = tt[k]? := fun k a c => (g5 k (by omega) c).trans (k4 k a c)
  refine ⟨L5, M5, i1, i2, i3, i4, i5, t5, some (.d (.str "zz")), y5, ok5, ?_, ?_, k5, by omega, ?_⟩
  · intro i hi
    simp only [List.mem_cons, List.not_mem_nil, or_false] at hi
    rcases hi with rfl | rfl | rfl | rfl | rfl <;> assumption
  · rw [f5, fold5]; rfl
  · exact (forGo_cons (chk L M tt rfl) rfl e1).trans ((forGo_cons (chk L1 M1 t1 (k1 w hwl hn)) rfl e2).trans ((forGo_cons (chk L2 M2 t2 (k2 w hwl hn)) rfl e3).trans ((forGo_cons (chk L3 M3 t3 (k3 w hwl hn)) rfl e4).trans ((forGo_cons (chk L4 M4 t4 (k4 w hwl hn)) rfl e5).trans (by
      unfold forGo
      rw [if_pos (chk L5 M5 t5 (k5 w hwl hn))])))))
/-- the words that a heap has here -/
theorem leaf_g {T : Nat} {d : PyData} (h : ItemOk T d) : GItem T d := by
  rcases h with hl | ⟨k, h0, h1, rfl⟩
  · simp only [leafL, List.mem_cons, List.not_mem_nil, or_false] at hl
    rcases hl with rfl | rfl | rfl | rfl | rfl | rfl | rfl | rfl | rfl | rfl
    all_goals first
      | exact .inl ⟨_, rfl⟩
      | exact .inr (.inl ⟨_, ⟨by decide +kernel, by decide +kernel⟩, rfl⟩)
  · exact .inr (.inr ⟨k, h0, h1, rfl⟩)
theorem total_le {L : List (List PyData)} (h : ∀ row ∈ L, row.length ≤ 3) : total L ≤ 3 * L.length := by
  induction L with
  | nil => simp [total]
  | cons r L ih =>
    have := ih fun row hr => h row (List.mem_cons_of_mem _ hr)
    have h1 := h r List.mem_cons_self
    unfold total at this ⊢
    rw [List.flatten_cons, List.length_append, List.length_cons]
    omega
theorem law_fits {L : List (List PyData)} (h : LawOk L) : Fits L := by
  have h1 := h.few
  have h2 := total_le fun row hr => (h.rows row hr).1
  exact ⟨h.pos, by omega, by omega, fun row hr => Nat.le_trans (h.rows row hr).1 (by omega), fun row hr d hd => leaf_g ((h.rows row hr).2 d hd)⟩
section
variable {i1 i2 i3 i4 i5 : Int}
/-- both orders give the same integers -/
def kv5r (i1 i2 i3 i4 i5 : Int) : dict := [(Sum.inr "zz", .d (.int i5)), (Sum.inr "abcdefgh", .d (.int i4)), (Sum.inr "", .d (.int i3)), (Sum.inr "b", .d (.int i2)), (Sum.inr "a", .d (.int i1))]
theorem get_a : dget (kv5 i1 i2 i3 i4 i5) (Sum.inr "a") = some (.d (.int i1)) ∧ dget (kv5r i1 i2 i3 i4 i5) (Sum.inr "a") = some (.d (.int i1)) := by
  simp [dget, kv5, kv5r, List.find?_cons, Ne.symm ne_ab, Ne.symm ne_ae, Ne.symm ne_ac, Ne.symm ne_az]
theorem get_b : dget (kv5 i1 i2 i3 i4 i5) (Sum.inr "b") = some (.d (.int i2)) ∧ dget (kv5r i1 i2 i3 i4 i5) (Sum.inr "b") = some (.d (.int i2)) := by
  simp [dget, kv5, kv5r, List.find?_cons, ne_ab, Ne.symm ne_be, Ne.symm ne_bc, Ne.symm ne_bz]
theorem get_e : dget (kv5 i1 i2 i3 i4 i5) (Sum.inr "") = some (.d (.int i3)) ∧ dget (kv5r i1 i2 i3 i4 i5) (Sum.inr "") = some (.d (.int i3)) := by
  simp [dget, kv5, kv5r, List.find?_cons, ne_ae, ne_be, Ne.symm ne_ec, Ne.symm ne_ez]
theorem get_c : dget (kv5 i1 i2 i3 i4 i5) (Sum.inr "abcdefgh") = some (.d (.int i4)) ∧ dget (kv5r i1 i2 i3 i4 i5) (Sum.inr "abcdefgh") = some (.d (.int i4)) := by
  simp [dget, kv5, kv5r, List.find?_cons, ne_ac, ne_bc, ne_ec, Ne.symm ne_cz]
theorem get_z : dget (kv5 i1 i2 i3 i4 i5) (Sum.inr "zz") = some (.d (.int i5)) ∧ dget (kv5r i1 i2 i3 i4 i5) (Sum.inr "zz") = some (.d (.int i5)) := by
  simp [dget, kv5, kv5r, List.find?_cons, ne_az, ne_bz, ne_ez, ne_cz]
theorem fill_item {T : Nat} {d : PyData} (hi : ∀ i ∈ [i1, i2, i3, i4, i5], i.natAbs < 10 ^ 42) (hT : T ≤ 1000) (h : ItemOk T d) :
    FillOk (kv5 i1 i2 i3 i4 i5) d ∧ FillOk (kv5r i1 i2 i3 i4 i5) d ∧ fillD (kv5r i1 i2 i3 i4 i5) d = fillD (kv5 i1 i2 i3 i4 i5) d ∧ NItem (fillD (kv5 i1 i2 i3 i4 i5) d) ∧ GItem T (fillD (kv5 i1 i2 i3 i4 i5) d) := by
  have e42 : (1000000000000000000000000000000000000000 : Nat) < 10 ^ 42 := by decide
  rcases h with hl | ⟨k, h0, h1, rfl⟩
  · simp only [leafL, List.mem_cons, List.not_mem_nil, or_false] at hl
    rcases hl with rfl | rfl | rfl | rfl | rfl | rfl | rfl | rfl | rfl | rfl
    · exact ⟨.inl ⟨_, rfl⟩, .inl ⟨_, rfl⟩, rfl, .inl ⟨_, rfl, by decide⟩, .inl ⟨_, rfl⟩⟩
    · exact ⟨.inl ⟨_, rfl⟩, .inl ⟨_, rfl⟩, rfl, .inl ⟨_, rfl, by decide⟩, .inl ⟨_, rfl⟩⟩
    · exact ⟨.inl ⟨_, rfl⟩, .inl ⟨_, rfl⟩, rfl, .inl ⟨_, rfl, by decide⟩, .inl ⟨_, rfl⟩⟩
    · refine ⟨.inr (.inr ⟨_, i1, ⟨by decide +kernel, by decide +kernel⟩, rfl, get_a.1⟩), .inr (.inr ⟨_, i1, ⟨by decide +kernel, by decide +kernel⟩, rfl, get_a.2⟩), ?_, .inl ⟨i1, ?_, hi _ (by simp)⟩, .inl ⟨i1, ?_⟩⟩ <;> simp [fillD, get_a]
    · refine ⟨.inr (.inr ⟨_, i2, ⟨by decide +kernel, by decide +kernel⟩, rfl, get_b.1⟩), .inr (.inr ⟨_, i2, ⟨by decide +kernel, by decide +kernel⟩, rfl, get_b.2⟩), ?_, .inl ⟨i2, ?_, hi _ (by simp)⟩, .inl ⟨i2, ?_⟩⟩ <;> simp [fillD, get_b]
    · refine ⟨.inr (.inr ⟨_, i3, ⟨by decide +kernel, by decide +kernel⟩, rfl, get_e.1⟩), .inr (.inr ⟨_, i3, ⟨by decide +kernel, by decide +kernel⟩, rfl, get_e.2⟩), ?_, .inl ⟨i3, ?_, hi _ (by simp)⟩, .inl ⟨i3, ?_⟩⟩ <;> simp [fillD, get_e]
    · exact ⟨.inl ⟨_, rfl⟩, .inl ⟨_, rfl⟩, rfl, .inl ⟨_, rfl, by decide⟩, .inl ⟨_, rfl⟩⟩
    · exact ⟨.inl ⟨_, rfl⟩, .inl ⟨_, rfl⟩, rfl, .inl ⟨_, rfl, by decide⟩, .inl ⟨_, rfl⟩⟩
    · refine ⟨.inr (.inr ⟨_, i4, ⟨by decide +kernel, by decide +kernel⟩, rfl, get_c.1⟩), .inr (.inr ⟨_, i4, ⟨by decide +kernel, by decide +kernel⟩, rfl, get_c.2⟩), ?_, .inl ⟨i4, ?_, hi _ (by simp)⟩, .inl ⟨i4, ?_⟩⟩ <;> simp [fillD, get_c]
    · exact ⟨.inl ⟨_, rfl⟩, .inl ⟨_, rfl⟩, rfl, .inl ⟨_, rfl, by decide⟩, .inl ⟨_, rfl⟩⟩
  · exact ⟨.inr (.inl ⟨k, rfl⟩), .inr (.inl ⟨k, rfl⟩), rfl, .inr ⟨k, h0, by omega, rfl⟩, .inr (.inr ⟨k, h0, h1, rfl⟩)⟩
end
end Law
namespace Law
open Mini
open PySem (PyData Str)
/-! ### growing heaps -/
structure Grow (h h' : MH) : Prop where
  le : h.length ≤ h'.length
  eq : ∀ k, k < h.length → h'[k]? = h[k]?
theorem Grow.refl (h : MH) : Grow h h := ⟨Nat.le_refl _, fun _ _ => rfl⟩
theorem Grow.app {h h' t : MH} (g : Grow h h') : Grow h (h' ++ t) := ⟨by rw [List.length_append]; have := g.le; omega, fun k hk => by rw [List.getElem?_append_left (Nat.lt_of_lt_of_le hk g.le)]; exact g.eq k hk⟩
theorem Grow.set {h h' : MH} {i : Nat} {o : MO} (g : Grow h h') (hi : h.length ≤ i) : Grow h (h'.set i o) := ⟨by simpa using g.le, fun k hk => by rw [at_set_ne (by omega)]; exact g.eq k hk⟩
theorem Grow.trans {a b c : MH} (g : Grow a b) (g' : Grow b c) : Grow a c := ⟨Nat.le_trans g.le g'.le, fun k hk => (g'.eq k (Nat.lt_of_lt_of_le hk g.le)).trans (g.eq k hk)⟩
theorem Grow.at {h h' : MH} {k : Nat} {o : MO} (g : Grow h h') (e : h[k]? = some o) : h'[k]? = some o := (g.eq k (List.getElem?_eq_some_iff.mp e).1).trans e
theorem Grow.cut {h h' : MH} (g : Grow h h') : h' = h ++ h'.drop h.length := by
  apply List.ext_getElem?
  intro k
  by_cases c : k < h.length
  · rw [List.getElem?_append_left c]; exact g.eq k c
  · rw [List.getElem?_append_right (by omega), List.getElem?_drop, show h.length + (k - h.length) = k by omega]
theorem RowsAt.grow {n0 : Nat} {h h' : MH} {rs : List Nat} {L : List (List PyData)} (r : RowsAt n0 h rs L) (g : Grow h h') : RowsAt n0 h' rs L := r.of fun _ _ _ e => g.at e
theorem HeapIs.grow {n0 i j : Nat} {h h' : MH} {rs : List Nat} {L : List (List PyData)} (H : HeapIs n0 h i j rs L) (g : Grow h h') : HeapIs n0 h' i j rs L := H.of fun _ _ _ e => g.at e
theorem HeapAt.grow {n0 i : Nat} {h h' : MH} {L : List (List PyData)} (H : HeapAt n0 h i L) (g : Grow h h') : HeapAt n0 h' i L := let ⟨j, rs, q⟩ := H; ⟨j, rs, q.grow g⟩
theorem HeapIs.lt {n0 h i j rs L} (H : HeapIs n0 h i j rs L) : j < h.length ∧ ∀ r ∈ rs, r < h.length := ⟨(List.getElem?_eq_some_iff.mp H.lst).1, fun r hr => by
  obtain ⟨row, _, e⟩ := H.rows.mem hr
  exact (List.getElem?_eq_some_iff.mp e).1⟩
theorem HeapIs.low {n0 h i j rs L} (H : HeapIs n0 h i j rs L) : ∀ r ∈ rs, n0 ≤ r := fun r hr => by
  obtain ⟨k, hk, rfl⟩ := List.getElem_of_mem hr
  have hk2 : k < L.length := by rw [← H.rows.1]; exact hk
  exact (H.rows.2 k _ _ (List.getElem?_eq_getElem hk) (List.getElem?_eq_getElem hk2)).1
/-! ### what is due -/
def due_te : ME := (mIf (mTru (mIsi "str" (mVar 12))) (mBin fIx (mVar 3) (mVar 12)) (mVar 12))
section
variable {h : MH} {kvs : dict} {f : Nat} {m0 m1 m2 m4 m5 m6 m7 m8 m9 m10 m11 m12 : Option MV} {L : List (List PyData)}
theorem due_item {d : PyData} (hf : h[f]? = some (.dk kvs)) (ok : FillOk kvs d) : due_te [m0, m1, m2, some (.ref f), m4, m5, m6, m7, m8, m9, m10, m11, some (.d d)] h = .ok (.d (fillD kvs d)) h := by
  unfold due_te
  rcases ok with ⟨i, rfl⟩ | ⟨k, rfl⟩ | ⟨s, i, w, rfl, e⟩
  · simp (disch := first | omega | decide | assumption | (unfold szL; simp only [List.length_cons, List.length_nil, List.length_append, List.length_map, List.length_singleton]; omega) | (unfold szL; simp only [List.length_cons, List.length_nil, Nat.reduceAdd, Nat.reduceLeDiff])) only [mDef, mStar, mSeq, mRet, mVar, mD, mBin, mCB, mCons, mNil, mIfS, mIf, mTB, mTru, mTAnd, mTOr, mTNot, mAnd, mOr, mNot, mNeg, mChain, mExpr, mAsg, mPar, gNm, gTp, gsCons, gsNil, gSb, mTup, mLst, mNext, mNever, mBreak, mCont, mFor, mAug, mIsi, mFld, mMeth, mBM, mCM, mSlice, mPart, mNoP, mDk, mDt, mIA, mIL, mIT, mIS, mIR1, mIR2, mIZ, mIE, mLc, mLc2, mYes, mRev, mRepr, mIsiC, mHas, mEqI, mLenI, Mini.R.bind_ok, Mini.R.thn_ok, Mini.R.bind_bad, Mini.R.thn_bad, ofO, asB, rB, rN, rI, List.length_cons, List.length_nil, List.map_cons, List.map_nil, List.cons_append, List.nil_append, List.getElem?_cons_zero, List.getElem?_cons_succ, List.getElem?_nil, List.replicate_succ, List.replicate_zero, Nat.reduceAdd, Nat.reduceSub, if_true, if_false, List.append_nil, List.set_cons_zero, List.set_cons_succ, reduceIte, Nat.reduceEqDiff, lst_d, lst_rl, lst_t, tup_d, tup_t, ix_dl, ix_rl, ix_dt, add_int, sub_int, lt_int, le_int, gt_int, ge_int, abs_int, max_int, min_int, rL_ok, rT_ok, len_dl, len_dt, len_rl, mul_int, div_int, mod_int, pow_int, atI_of, Int.reducePow, Int.reduceToNat, Int.reduceMod, Int.reduceAdd, Int.reduceSub, Int.reduceMul, Int.reduceDiv, Int.reduceLT, Int.reduceLE, decide_true, decide_false, tr_non, tr_bl, tr_int, tr_lst, tr_tup, ty_non, ty_bl, ty_int, ty_str, ty_lst, ty_tup, ty_tupm, instB, String.reduceBEq, Bool.or_true, Bool.or_false, Bool.true_or, Bool.false_or, Bool.and_true, Bool.and_false, Bool.true_and, Bool.false_and, Bool.not_true, Bool.not_false, beq_self_eq_true, pureAll, mkTup, pureAll_map, mkTup_d, List.length_append, List.length_singleton]; rfl
  · simp (disch := first | omega | decide | assumption | (unfold szL; simp only [List.length_cons, List.length_nil, List.length_append, List.length_map, List.length_singleton]; omega) | (unfold szL; simp only [List.length_cons, List.length_nil, Nat.reduceAdd, Nat.reduceLeDiff])) only [mDef, mStar, mSeq, mRet, mVar, mD, mBin, mCB, mCons, mNil, mIfS, mIf, mTB, mTru, mTAnd, mTOr, mTNot, mAnd, mOr, mNot, mNeg, mChain, mExpr, mAsg, mPar, gNm, gTp, gsCons, gsNil, gSb, mTup, mLst, mNext, mNever, mBreak, mCont, mFor, mAug, mIsi, mFld, mMeth, mBM, mCM, mSlice, mPart, mNoP, mDk, mDt, mIA, mIL, mIT, mIS, mIR1, mIR2, mIZ, mIE, mLc, mLc2, mYes, mRev, mRepr, mIsiC, mHas, mEqI, mLenI, Mini.R.bind_ok, Mini.R.thn_ok, Mini.R.bind_bad, Mini.R.thn_bad, ofO, asB, rB, rN, rI, List.length_cons, List.length_nil, List.map_cons, List.map_nil, List.cons_append, List.nil_append, List.getElem?_cons_zero, List.getElem?_cons_succ, List.getElem?_nil, List.replicate_succ, List.replicate_zero, Nat.reduceAdd, Nat.reduceSub, if_true, if_false, List.append_nil, List.set_cons_zero, List.set_cons_succ, reduceIte, Nat.reduceEqDiff, lst_d, lst_rl, lst_t, tup_d, tup_t, ix_dl, ix_rl, ix_dt, add_int, sub_int, lt_int, le_int, gt_int, ge_int, abs_int, max_int, min_int, rL_ok, rT_ok, len_dl, len_dt, len_rl, mul_int, div_int, mod_int, pow_int, atI_of, Int.reducePow, Int.reduceToNat, Int.reduceMod, Int.reduceAdd, Int.reduceSub, Int.reduceMul, Int.reduceDiv, Int.reduceLT, Int.reduceLE, decide_true, decide_false, tr_non, tr_bl, tr_int, tr_lst, tr_tup, ty_non, ty_bl, ty_int, ty_str, ty_lst, ty_tup, ty_tupm, instB, String.reduceBEq, Bool.or_true, Bool.or_false, Bool.true_or, Bool.false_or, Bool.and_true, Bool.and_false, Bool.true_and, Bool.false_and, Bool.not_true, Bool.not_false, beq_self_eq_true, pureAll, mkTup, pureAll_map, mkTup_d, List.length_append, List.length_singleton]; rfl
  · simp (disch := first | omega | decide | assumption | (unfold szL; simp only [List.length_cons, List.length_nil, List.length_append, List.length_map, List.length_singleton]; omega) | (unfold szL; simp only [List.length_cons, List.length_nil, Nat.reduceAdd, Nat.reduceLeDiff])) only [mDef, mStar, mSeq, mRet, mVar, mD, mBin, mCB, mCons, mNil, mIfS, mIf, mTB, mTru, mTAnd, mTOr, mTNot, mAnd, mOr, mNot, mNeg, mChain, mExpr, mAsg, mPar, gNm, gTp, gsCons, gsNil, gSb, mTup, mLst, mNext, mNever, mBreak, mCont, mFor, mAug, mIsi, mFld, mMeth, mBM, mCM, mSlice, mPart, mNoP, mDk, mDt, mIA, mIL, mIT, mIS, mIR1, mIR2, mIZ, mIE, mLc, mLc2, mYes, mRev, mRepr, mIsiC, mHas, mEqI, mLenI, Mini.R.bind_ok, Mini.R.thn_ok, Mini.R.bind_bad, Mini.R.thn_bad, ofO, asB, rB, rN, rI, List.length_cons, List.length_nil, List.map_cons, List.map_nil, List.cons_append, List.nil_append, List.getElem?_cons_zero, List.getElem?_cons_succ, List.getElem?_nil, List.replicate_succ, List.replicate_zero, Nat.reduceAdd, Nat.reduceSub, if_true, if_false, List.append_nil, List.set_cons_zero, List.set_cons_succ, reduceIte, Nat.reduceEqDiff, lst_d, lst_rl, lst_t, tup_d, tup_t, ix_dl, ix_rl, ix_dt, add_int, sub_int, lt_int, le_int, gt_int, ge_int, abs_int, max_int, min_int, rL_ok, rT_ok, len_dl, len_dt, len_rl, mul_int, div_int, mod_int, pow_int, atI_of, Int.reducePow, Int.reduceToNat, Int.reduceMod, Int.reduceAdd, Int.reduceSub, Int.reduceMul, Int.reduceDiv, Int.reduceLT, Int.reduceLE, decide_true, decide_false, tr_non, tr_bl, tr_int, tr_lst, tr_tup, ty_non, ty_bl, ty_int, ty_str, ty_lst, ty_tup, ty_tupm, instB, String.reduceBEq, Bool.or_true, Bool.or_false, Bool.true_or, Bool.false_or, Bool.and_true, Bool.and_false, Bool.true_and, Bool.false_and, Bool.not_true, Bool.not_false, beq_self_eq_true, pureAll, mkTup, pureAll_map, mkTup_d, List.length_append, List.length_singleton, ix_dk hf (x := .d (.str s)) (k := Sum.inr s) rfl e]
    simp [fillD, e]
theorem due_lc (hf : h[f]? = some (.dk kvs)) (hw : ∀ row ∈ L, ∀ d ∈ row, FillOk kvs d) (hl : L.length ≤ 60) (hL : ∀ row ∈ L, row.length ≤ 300) :
    (mLc (mIA (mVar 1)) (gNm 11) mYes (mLc (mIA (mVar 11)) (gNm 12) mYes due_te [12]) [11]) [m0, some (.d (.list (L.map .list))), m2, some (.ref f), m4, m5, m6, m7, m8, m9, m10, m11, m12] h = .ok (.ref (h.length + L.length)) (h ++ (rowsO (L.map fun r => r.map (fillD kvs)) ++ [.lst (refsO h.length L.length)])) := by
  have inner : ∀ (row : List PyData) (hr : row ∈ L) (t : MH), (mLc (mIA (mVar 11)) (gNm 12) mYes due_te [12]) [m0, some (.d (.list (L.map .list))), m2, some (.ref f), m4, m5, m6, m7, m8, m9, m10, some (.d (.list row)), m12] (h ++ t) = .ok (.ref (h ++ t).length) (h ++ t ++ [.lst ((row.map (fillD kvs)).map .d)]) := by
    intro row hr t
    have e := lcGo_pure (chk := sameL (.d (.list row)) (row.map .d)) (g := gNm 12) (tt := mYes) (te := due_te) (μ0 := wipeM [m0, some (.d (.list (L.map .list))), m2, some (.ref f), m4, m5, m6, m7, m8, m9, m10, some (.d (.list row)), m12] [12]) (h := h ++ t) (f := fun v => match v with | .d d => .d (fillD kvs d) | v => v) rfl (row.map .d) [] (fun x hx => by
      obtain ⟨d, hd, rfl⟩ := List.mem_map.mp hx
      exact ⟨_, rfl, rfl, due_item (at_left hf) (hw row hr d hd)⟩) (by rw [List.length_map]; have := hL row hr; unfold szL; simp only [List.length_nil]; omega)
    have e0 : (mIA (mVar 11)) [m0, some (.d (.list (L.map .list))), m2, some (.ref f), m4, m5, m6, m7, m8, m9, m10, some (.d (.list row)), m12] (h ++ t) = .ok (row.map .d, sameL (.d (.list row)) (row.map .d)) (h ++ t) := by
      simp (disch := first | omega | decide | assumption | (unfold szL; simp only [List.length_cons, List.length_nil, List.length_append, List.length_map, List.length_singleton]; omega) | (unfold szL; simp only [List.length_cons, List.length_nil, Nat.reduceAdd, Nat.reduceLeDiff])) only [mDef, mStar, mSeq, mRet, mVar, mD, mBin, mCB, mCons, mNil, mIfS, mIf, mTB, mTru, mTAnd, mTOr, mTNot, mAnd, mOr, mNot, mNeg, mChain, mExpr, mAsg, mPar, gNm, gTp, gsCons, gsNil, gSb, mTup, mLst, mNext, mNever, mBreak, mCont, mFor, mAug, mIsi, mFld, mMeth, mBM, mCM, mSlice, mPart, mNoP, mDk, mDt, mIA, mIL, mIT, mIS, mIR1, mIR2, mIZ, mIE, mLc, mLc2, mYes, mRev, mRepr, mIsiC, mHas, mEqI, mLenI, Mini.R.bind_ok, Mini.R.thn_ok, Mini.R.bind_bad, Mini.R.thn_bad, ofO, asB, rB, rN, rI, List.length_cons, List.length_nil, List.map_cons, List.map_nil, List.cons_append, List.nil_append, List.getElem?_cons_zero, List.getElem?_cons_succ, List.getElem?_nil, List.replicate_succ, List.replicate_zero, Nat.reduceAdd, Nat.reduceSub, if_true, if_false, List.append_nil, List.set_cons_zero, List.set_cons_succ, reduceIte, Nat.reduceEqDiff, lst_d, lst_rl, lst_t, tup_d, tup_t, ix_dl, ix_rl, ix_dt, add_int, sub_int, lt_int, le_int, gt_int, ge_int, abs_int, max_int, min_int, rL_ok, rT_ok, len_dl, len_dt, len_rl, mul_int, div_int, mod_int, pow_int, atI_of, Int.reducePow, Int.reduceToNat, Int.reduceMod, Int.reduceAdd, Int.reduceSub, Int.reduceMul, Int.reduceDiv, Int.reduceLT, Int.reduceLE, decide_true, decide_false, tr_non, tr_bl, tr_int, tr_lst, tr_tup, ty_non, ty_bl, ty_int, ty_str, ty_lst, ty_tup, ty_tupm, instB, String.reduceBEq, Bool.or_true, Bool.or_false, Bool.true_or, Bool.false_or, Bool.and_true, Bool.and_false, Bool.true_and, Bool.false_and, Bool.not_true, Bool.not_false, beq_self_eq_true, pureAll, mkTup, pureAll_map, mkTup_d, List.length_append, List.length_singleton]
    unfold mLc
    rw [e0]
    simp only [Mini.R.bind_ok]
    rw [e]
    simp only [Mini.R.bind_ok, List.nil_append]
    rw [rL_ok (by simp only [List.length_map]; have := hL row hr; unfold szL; omega)]
    simp [Function.comp_def]
  have lc : lcGo (sameL (.d (.list (L.map .list))) (L.map fun r => .d (.list r))) (gNm 11) mYes (mLc (mIA (mVar 11)) (gNm 12) mYes due_te [12]) (wipeM [m0, some (.d (.list (L.map .list))), m2, some (.ref f), m4, m5, m6, m7, m8, m9, m10, m11, m12] [11]) [] (L.map fun r => .d (.list r)) h = .ok (refsO h.length L.length) (h ++ rowsO (L.map fun r => r.map (fillD kvs))) := by
    have e := lcGo_new (chk := sameL (.d (.list (L.map .list))) (L.map fun r => .d (.list r))) (g := gNm 11) (tt := mYes) (te := mLc (mIA (mVar 11)) (gNm 12) mYes due_te [12]) (μ0 := wipeM [m0, some (.d (.list (L.map .list))), m2, some (.ref f), m4, m5, m6, m7, m8, m9, m10, m11, m12] [11]) (f := fun v => match v with | .d (.list row) => (row.map (fillD kvs)).map .d | _ => []) (h0 := h) (fun _ => rfl) (L.map fun r => .d (.list r)) [] [] (fun x hx t => by
      obtain ⟨row, hr, rfl⟩ := List.mem_map.mp hx
      exact ⟨_, rfl, rfl, inner row hr t⟩) (by rw [List.length_map]; unfold szL; simp only [List.length_nil]; omega)
    rw [List.append_nil] at e
    rw [e]
    simp [refsO, rowsO, Function.comp_def]
  have e0 : (mIA (mVar 1)) [m0, some (.d (.list (L.map .list))), m2, some (.ref f), m4, m5, m6, m7, m8, m9, m10, m11, m12] h = .ok (L.map fun r => .d (.list r), sameL (.d (.list (L.map .list))) (L.map fun r => .d (.list r))) h := by
    simp (disch := first | omega | decide | assumption | (unfold szL; simp only [List.length_cons, List.length_nil, List.length_append, List.length_map, List.length_singleton]; omega) | (unfold szL; simp only [List.length_cons, List.length_nil, Nat.reduceAdd, Nat.reduceLeDiff])) only [mDef, mStar, mSeq, mRet, mVar, mD, mBin, mCB, mCons, mNil, mIfS, mIf, mTB, mTru, mTAnd, mTOr, mTNot, mAnd, mOr, mNot, mNeg, mChain, mExpr, mAsg, mPar, gNm, gTp, gsCons, gsNil, gSb, mTup, mLst, mNext, mNever, mBreak, mCont, mFor, mAug, mIsi, mFld, mMeth, mBM, mCM, mSlice, mPart, mNoP, mDk, mDt, mIA, mIL, mIT, mIS, mIR1, mIR2, mIZ, mIE, mLc, mLc2, mYes, mRev, mRepr, mIsiC, mHas, mEqI, mLenI, Mini.R.bind_ok, Mini.R.thn_ok, Mini.R.bind_bad, Mini.R.thn_bad, ofO, asB, rB, rN, rI, List.length_cons, List.length_nil, List.map_cons, List.map_nil, List.cons_append, List.nil_append, List.getElem?_cons_zero, List.getElem?_cons_succ, List.getElem?_nil, List.replicate_succ, List.replicate_zero, Nat.reduceAdd, Nat.reduceSub, if_true, if_false, List.append_nil, List.set_cons_zero, List.set_cons_succ, reduceIte, Nat.reduceEqDiff, lst_d, lst_rl, lst_t, tup_d, tup_t, ix_dl, ix_rl, ix_dt, add_int, sub_int, lt_int, le_int, gt_int, ge_int, abs_int, max_int, min_int, rL_ok, rT_ok, len_dl, len_dt, len_rl, mul_int, div_int, mod_int, pow_int, atI_of, Int.reducePow, Int.reduceToNat, Int.reduceMod, Int.reduceAdd, Int.reduceSub, Int.reduceMul, Int.reduceDiv, Int.reduceLT, Int.reduceLE, decide_true, decide_false, tr_non, tr_bl, tr_int, tr_lst, tr_tup, ty_non, ty_bl, ty_int, ty_str, ty_lst, ty_tup, ty_tupm, instB, String.reduceBEq, Bool.or_true, Bool.or_false, Bool.true_or, Bool.false_or, Bool.and_true, Bool.and_false, Bool.true_and, Bool.false_and, Bool.not_true, Bool.not_false, beq_self_eq_true, pureAll, mkTup, pureAll_map, mkTup_d, List.length_append, List.length_singleton]
    simp
    rfl
  unfold mLc at lc ⊢
  rw [e0]
  simp only [Mini.R.bind_ok]
  rw [lc]
  simp only [Mini.R.bind_ok]
  rw [rL_ok (by simp only [refsO, List.length_map, List.length_range']; unfold szL; omega)]
  simp [rows_len]
/-- a list of such rows in the heap, read as data -/
theorem toD_rows {n0 j : Nat} {rs : List Nat} (hj : h[j]? = some (.lst (rs.map .ref))) (r : RowsAt n0 h rs L) : toD 40 h (.ref j) = some (.list (L.map .list)) := by
  have : mapO (toD 39 h) (rs.map .ref) = some (L.map .list) := mapO_refs (by simp [r.1]) fun k x a h1 h2 => by
    rw [List.getElem?_map] at h2
    obtain ⟨row, h3, h4⟩ := Option.map_eq_some_iff.mp h2
    subst h4
    exact toD_row (r.2 k x row h1 h3).2
  simp only [toD, hj, this]
theorem repr_eq {μ : MSt} {m : ME} {h' : MH} {v : MV} (e : m μ h = .ok v h') (ed : toD 40 h' v = some (.list (L.map .list))) (hn : NRows L) : mRepr m μ h = .ok (.d (.str (PyData.list (L.map .list)).shown)) h' := by
  unfold mRepr
  rw [e]
  simp only [Mini.R.bind_ok, ed]
  rw [if_pos (nrows_nice hn)]
end
end Law
namespace Law
open Mini
open PySem (PyData Str)
theorem dictOf_eq {h : MH} {f : Nat} {kvs : dict} (e : h[f]? = some (.dk kvs)) : fDictOf [.ref f] h = .ok (.ref h.length) (h ++ [.dk kvs]) := by simp [fDictOf, dkOf, e]
theorem keys_eq {h : MH} {f : Nat} {kvs : dict} (e : h[f]? = some (.dk kvs)) : fKeys [.ref f] h = .ok (.ref h.length) (h ++ [.lst (kvs.map fun kv => keyMV kv.1)]) := by simp [fKeys, dkOf, e]
theorem fits_map {L : List (List PyData)} {g : PyData → PyData} (lo : LawOk L) (hg : ∀ row ∈ L, ∀ d ∈ row, GItem L.length (g d)) : Fits (L.map fun r => r.map g) := by
  have h1 := lo.few
  have h3 : ∀ row ∈ (L.map fun r => r.map g), row.length ≤ 3 := fun row hr => by
    obtain ⟨r, hr', rfl⟩ := List.mem_map.mp hr
    simpa using (lo.rows r hr').1
  have h2 := total_le h3
  rw [List.length_map] at h2
  refine ⟨by simpa using lo.pos, by simp; omega, by omega, fun row hr => Nat.le_trans (h3 row hr) (by omega), fun row hr d hd => ?_⟩
  obtain ⟨r, hr', rfl⟩ := List.mem_map.mp hr
  obtain ⟨d', hd', rfl⟩ := List.mem_map.mp hd
  rw [List.length_map]
  exact hg r hr' d' hd'
theorem nrows_map {L : List (List PyData)} {g : PyData → PyData} (lo : LawOk L) (hg : ∀ row ∈ L, ∀ d ∈ row, NItem (g d)) : NRows (L.map fun r => r.map g) := by
  refine ⟨by simpa using lo.few, fun row hr => ?_⟩
  obtain ⟨r, hr', rfl⟩ := List.mem_map.mp hr
  refine ⟨by simpa using (lo.rows r hr').1, fun d hd => ?_⟩
  obtain ⟨d', hd', rfl⟩ := List.mem_map.mp hd
  exact hg r hr' d' hd'
theorem rows_cl {L : List (List PyData)} (h : ∀ row ∈ L, ∀ d ∈ row, d.canLay0 = true ∧ d.depth ≤ 1) : (PyData.list (L.map .list)).canLay0 = true ∧ (PyData.list (L.map .list)).depth ≤ 3 :=
  shaped_list (n := 2) (fun d hd => by
    obtain ⟨row, hr, rfl⟩ := List.mem_map.mp hd
    exact shaped_list (n := 1) (h row hr) (by decide)) (by decide)
theorem nitem_cl {d : PyData} (h : NItem d) : d.canLay0 = true ∧ d.depth ≤ 1 := by
  refine ⟨(nice_item h).cl, ?_⟩
  rcases h with ⟨i, rfl, _⟩ | ⟨k, _, _, rfl⟩
  · simp [PyData.depth]
  · simp [PyData.depth, PyData.depthAll]
theorem eq_same {neg : Bool} {x y : MV} {p : PyData} {h : MH} (e1 : toD 40 h x = some p) (e2 : toD 40 h y = some p) (s : p.canLay0 = true ∧ p.depth ≤ 3) : fEq neg x y h = .ok (.d (.bool (neg != true))) h := by
  rw [eq_d e1 e2 (shaped_of s (by decide)) (shaped_of s (by decide)), PySem.SeqAt.eqv_refl _ s.1]
theorem fill_nil {d : PyData} (h : NItem d) : FillOk [] d ∧ fillD [] d = d := by
  rcases h with ⟨i, rfl, _⟩ | ⟨k, _, _, rfl⟩
  · exact ⟨.inl ⟨i, rfl⟩, rfl⟩
  · exact ⟨.inr (.inl ⟨k, rfl⟩), rfl⟩
def turn_body : MS := (mAsg (mBin fIx (mVar 3) (mVar 4)) (gSb (mVar 9) (mVar 4)))
theorem turn_step {h : MH} {fi tu : Nat} {kv kvt : dict} {w : Str} {i : Int} {m0 m1 m2 m5 m6 m7 m8 m10 m11 m12 : Option MV} (hf : h[fi]? = some (.dk kv)) (ht : h[tu]? = some (.dk kvt)) (hg : dget kv (Sum.inr w) = some (.d (.int i))) (hz : kvt.length < 100) :
    turn_body [m0, m1, m2, some (.ref fi), some (.d (.str w)), m5, m6, m7, m8, some (.ref tu), m10, m11, m12] h = .nx [m0, m1, m2, some (.ref fi), some (.d (.str w)), m5, m6, m7, m8, some (.ref tu), m10, m11, m12] (h.set tu (.dk (dput kvt (Sum.inr w) (.d (.int i))))) := by
  have e1 := ix_dk hf (x := .d (.str w)) (k := Sum.inr w) rfl hg
  have e2 : fSet (.ref tu) (.d (.str w)) (.d (.int i)) h = .ok () (h.set tu (.dk (dput kvt (Sum.inr w) (.d (.int i))))) := set_dk ht rfl (by unfold szL; omega)
  unfold turn_body
  simp (disch := first | omega | decide | assumption | (unfold szL; simp only [List.length_cons, List.length_nil, List.length_append, List.length_map, List.length_singleton]; omega) | (unfold szL; simp only [List.length_cons, List.length_nil, Nat.reduceAdd, Nat.reduceLeDiff])) only [mDef, mStar, mSeq, mRet, mVar, mD, mBin, mCB, mCons, mNil, mIfS, mIf, mTB, mTru, mTAnd, mTOr, mTNot, mAnd, mOr, mNot, mNeg, mChain, mExpr, mAsg, mPar, gNm, gTp, gsCons, gsNil, gSb, mTup, mLst, mNext, mNever, mBreak, mCont, mFor, mAug, mIsi, mFld, mMeth, mBM, mCM, mSlice, mPart, mNoP, mDk, mDt, mIA, mIL, mIT, mIS, mIR1, mIR2, mIZ, mIE, mLc, mLc2, mYes, mRev, mRepr, mIsiC, mHas, mEqI, mLenI, Mini.R.bind_ok, Mini.R.thn_ok, Mini.R.bind_bad, Mini.R.thn_bad, ofO, asB, rB, rN, rI, List.length_cons, List.length_nil, List.map_cons, List.map_nil, List.cons_append, List.nil_append, List.getElem?_cons_zero, List.getElem?_cons_succ, List.getElem?_nil, List.replicate_succ, List.replicate_zero, Nat.reduceAdd, Nat.reduceSub, if_true, if_false, List.append_nil, List.set_cons_zero, List.set_cons_succ, reduceIte, Nat.reduceEqDiff, lst_d, lst_rl, lst_t, tup_d, tup_t, ix_dl, ix_rl, ix_dt, add_int, sub_int, lt_int, le_int, gt_int, ge_int, abs_int, max_int, min_int, rL_ok, rT_ok, len_dl, len_dt, len_rl, mul_int, div_int, mod_int, pow_int, atI_of, Int.reducePow, Int.reduceToNat, Int.reduceMod, Int.reduceAdd, Int.reduceSub, Int.reduceMul, Int.reduceDiv, Int.reduceLT, Int.reduceLE, decide_true, decide_false, tr_non, tr_bl, tr_int, tr_lst, tr_tup, ty_non, ty_bl, ty_int, ty_str, ty_lst, ty_tup, ty_tupm, instB, String.reduceBEq, Bool.or_true, Bool.or_false, Bool.true_or, Bool.false_or, Bool.and_true, Bool.and_false, Bool.true_and, Bool.false_and, Bool.not_true, Bool.not_false, beq_self_eq_true, pureAll, mkTup, pureAll_map, mkTup_d, List.length_append, List.length_singleton, e1, e2]
def rwordsM : List MV := [.d (.str "zz"), .d (.str "abcdefgh"), .d (.str ""), .d (.str "b"), .d (.str "a")]
theorem turn_loop {H J : MH} {fi : Nat} {i1 i2 i3 i4 i5 : Int} {m0 m1 m2 m4 m5 m6 m7 m8 m10 m11 m12 : Option MV} {rk : Nat} (hf : H[fi]? = some (.dk (kv5 i1 i2 i3 i4 i5))) (hr : (H ++ (.dk [] :: J))[rk]? = some (.lst rwordsM)) (hn : rk ≠ H.length) :
    ∃ x, forGo (sameL (.ref rk) rwordsM) (gNm 4) turn_body rwordsM [m0, m1, m2, some (.ref fi), m4, m5, m6, m7, m8, some (.ref H.length), m10, m11, m12] (H ++ (.dk [] :: J)) = .nx [m0, m1, m2, some (.ref fi), x, m5, m6, m7, m8, some (.ref H.length), m10, m11, m12] (H ++ (.dk (kv5r i1 i2 i3 i4 i5) :: J)) := by
  have hfl : fi < H.length := (List.getElem?_eq_some_iff.mp hf).1
  have fa : ∀ kv, (H ++ (.dk kv :: J))[fi]? = some (.dk (kv5 i1 i2 i3 i4 i5)) := fun kv => at_left hf
  have ta : ∀ kv, (H ++ (.dk kv :: J))[H.length]? = some (.dk kv) := fun kv => at_mid rfl
  have ch : ∀ kv, sameL (.ref rk) rwordsM (H ++ (.dk kv :: J)) = true := fun kv => sameL_at (by
    have e : H ++ (.dk kv :: J) = (H ++ (.dk [] :: J)).set H.length (.dk kv) := (set_mid rfl).symm
    rw [e, at_set_ne (Ne.symm hn)]
    exact hr)
  have st : ∀ (kvt : dict) (w : Str) (i : Int) (m4 : Option MV), dget (kv5 i1 i2 i3 i4 i5) (Sum.inr w) = some (.d (.int i)) → kvt.length < 100 → turn_body [m0, m1, m2, some (.ref fi), some (.d (.str w)), m5, m6, m7, m8, some (.ref H.length), m10, m11, m12] (H ++ (.dk kvt :: J)) = .nx [m0, m1, m2, some (.ref fi), some (.d (.str w)), m5, m6, m7, m8, some (.ref H.length), m10, m11, m12] (H ++ (.dk (dput kvt (Sum.inr w) (.d (.int i))) :: J)) := fun kvt w i m4 hg hz => by
    rw [turn_step (fa kvt) (ta kvt) hg hz, set_mid rfl]
  have d1 : (dput ([] : dict) (Sum.inr "zz") (.d (.int i5))).length < 100 := by simp [dput]
  have d2 := dput_len (kvs := dput ([] : dict) (Sum.inr "zz") (.d (.int i5))) (k := Sum.inr "abcdefgh") (v := .d (.int i4))
  have d3 := dput_len (kvs := dput (dput ([] : dict) (Sum.inr "zz") (.d (.int i5))) (Sum.inr "abcdefgh") (.d (.int i4))) (k := Sum.inr "") (v := .d (.int i3))
  have d4 := dput_len (kvs := dput (dput (dput ([] : dict) (Sum.inr "zz") (.d (.int i5))) (Sum.inr "abcdefgh") (.d (.int i4))) (Sum.inr "") (.d (.int i3))) (k := Sum.inr "b") (v := .d (.int i2))
  have d0 := dput_len (kvs := ([] : dict)) (k := Sum.inr "zz") (v := .d (.int i5))
  simp only [List.length_nil] at d0
  refine ⟨some (.d (.str "a")), ?_⟩
  refine (forGo_cons (ch _) rfl (st [] "zz" i5 m4 get_z.1 (by simp))).trans ((forGo_cons (ch _) rfl (st _ "abcdefgh" i4 m4 get_c.1 (by omega))).trans ((forGo_cons (ch _) rfl (st _ "" i3 m4 get_e.1 (by omega))).trans ((forGo_cons (ch _) rfl (st _ "b" i2 m4 get_b.1 (by omega))).trans ((forGo_cons (ch _) rfl (st _ "a" i1 m4 get_a.1 (by omega))).trans ?_))))
  unfold forGo
  rw [if_pos (ch _), fold5r]
  rfl
end Law
namespace Law
open Mini
open PySem (PyData Str)
def ri_if1 : MS := (mIfS (mTOr (mTNot (mTru (mIsiC 0 (mVar 8)))) (mTOr (mTB (mBin (fEqS true) (mRepr (mMeth 0 m_Heap_contents (mVar 8) mNil)) (mRepr (mVar 6)))) (mTB (mBin (fDEq true) (mVar 7) (mVar 3))))) (mRet (mD (.bool false))) mNext)
def ri_for2 : MS := (mFor (mIA (mRev (mCB fKeys (mCons (mVar 3) mNil)))) (gNm 4) turn_body)
def ri_if2 : MS := (mIfS (mTOr (mTB (mBin (fEqS true) (mRepr (mMeth 0 m_Heap_contents (mCB m_filled (mCons (mVar 2) (mCons (mVar 9) mNil))) mNil)) (mRepr (mVar 6)))) (mTB (mBin (fEq true) (mCB fKeys (mCons (mVar 9) mNil)) (mRev (mCB fKeys (mCons (mVar 3) mNil)))))) (mRet (mD (.bool false))) mNext)
def ri_ret : MS := (mRet (mAnd (mBin (fEq false) (mMeth 0 m_Heap_contents (mVar 10) mNil) (mVar 6)) (mAnd (mBin (fEq false) (mMeth 0 m_Heap_contents (mVar 2) mNil) (mVar 1)) (mEqI false 0 m_Heap_eq (mCB m_filled (mCons (mVar 2) (mCons (mVar 7) mNil))) (mVar 10)))))
theorem ri_eq : b_law_right = (mSeq (mAsg (mCB m_law_ringed (mCons (mVar 0) (mCons (mD (.int 10)) mNil))) (gNm 1))
    (mSeq (mAsg (mTup (mCons (mCB m_law_heap (mCons (mVar 1) mNil)) (mCons mDk mNil))) (gTp 2 (gsCons (gNm 2) (gsCons (gNm 3) gsNil))))
    (mSeq (mFor (mIA (mLst (mCons (mD (.str "a")) (mCons (mD (.str "b")) (mCons (mD (.str "")) (mCons (mD (.str "abcdefgh")) (mCons (mD (.str "zz")) mNil))))))) (gNm 4) rt_body)
    (mSeq (mAsg (mLc (mIA (mVar 1)) (gNm 11) mYes (mLc (mIA (mVar 11)) (gNm 12) mYes due_te [12]) [11]) (gNm 6))
    (mSeq (mAsg (mCB fDictOf (mCons (mVar 3) mNil)) (gNm 7))
    (mSeq (mAsg (mCB m_filled (mCons (mVar 2) (mCons (mVar 7) mNil))) (gNm 8))
    (mSeq ri_if1
    (mSeq (mAsg mDk (gNm 9))
    (mSeq ri_for2
    (mSeq ri_if2
    (mSeq (mAsg (mCB m_filled (mCons (mVar 8) (mCons mDk mNil))) (gNm 10))
    (mSeq (mExpr (mMeth 0 m_Heap_add_last (mVar 8) (mCons (mD (.int 0)) (mCons (mD (.int 7)) mNil))))
    (mSeq (mExpr (mMeth 0 m_Heap_new (mVar 8) mNil)) ri_ret))))))))))))) := rfl
theorem kv5_all {i1 i2 i3 i4 i5 : Int} : ((kv5 i1 i2 i3 i4 i5).all fun p => match dget (kv5 i1 i2 i3 i4 i5) p.1 with
    | some m => flatD p.2 m
    | none => false) = true := by
  rw [List.all_eq_true]
  intro p hp
  have hp' : p = ((Sum.inr "a" : L2.Key), MV.d (.int i1)) ∨ p = ((Sum.inr "b" : L2.Key), MV.d (.int i2)) ∨ p = ((Sum.inr "" : L2.Key), MV.d (.int i3)) ∨ p = ((Sum.inr "abcdefgh" : L2.Key), MV.d (.int i4)) ∨ p = ((Sum.inr "zz" : L2.Key), MV.d (.int i5)) := by simpa [kv5] using hp
  rcases hp' with rfl | rfl | rfl | rfl | rfl
  · simp only [get_a.1, flatD]; simp
  · simp only [get_b.1, flatD]; simp
  · simp only [get_e.1, flatD]; simp
  · simp only [get_c.1, flatD]; simp
  · simp only [get_z.1, flatD]; simp
/-- the second half: from the heap where all is filled -/
theorem half2 {N : Nat} {H6 : MH} {Lst : List (List PyData)} {i1 i2 i3 i4 i5 : Int} {b hh fi du hd mk jm : Nat} {rsm rsd : List Nat} {n5 : Nat} {x y : Option MV} (lo : LawOk Lst) (hi : ∀ i ∈ [i1, i2, i3, i4, i5], i.natAbs < 10 ^ 42)
    (hH : HeapAt N H6 hh Lst) (hF : H6[fi]? = some (.dk (kv5 i1 i2 i3 i4 i5))) (hD : H6[hd]? = some (.dk (kv5 i1 i2 i3 i4 i5))) (hM : HeapIs n5 H6 mk jm rsm (Lst.map fun r => r.map (fillD (kv5 i1 i2 i3 i4 i5)))) (hU : H6[du]? = some (.lst (rsd.map .ref))) (hR : RowsAt 0 H6 rsd (Lst.map fun r => r.map (fillD (kv5 i1 i2 i3 i4 i5))))
    (hN5 : n5 ≤ H6.length) (hNn : N ≤ n5) {H5 : MH} (g5 : Grow H5 H6) (hn5 : H5.length = n5) (hH5 : HeapAt N H5 hh Lst) (hU5 : H5[du]? = some (.lst (rsd.map .ref))) (hR5 : RowsAt 0 H5 rsd (Lst.map fun r => r.map (fillD (kv5 i1 i2 i3 i4 i5)))) (hD5 : H5[hd]? = some (.dk (kv5 i1 i2 i3 i4 i5))) :
    ∃ Hf, Grow H5 Hf ∧ (mSeq ri_if1 (mSeq (mAsg mDk (gNm 9)) (mSeq ri_for2 (mSeq ri_if2 (mSeq (mAsg (mCB m_filled (mCons (mVar 8) (mCons mDk mNil))) (gNm 10)) (mSeq (mExpr (mMeth 0 m_Heap_add_last (mVar 8) (mCons (mD (.int 0)) (mCons (mD (.int 7)) mNil)))) (mSeq (mExpr (mMeth 0 m_Heap_new (mVar 8) mNil)) ri_ret)))))))
      [some (.ref b), some (.d (.list (Lst.map .list))), some (.ref hh), some (.ref fi), x, y, some (.ref du), some (.ref hd), some (.ref mk), none, none, none, none] H6 = .rt (.d (.bool true)) Hf := by
  have few := lo.few
  have key := fun row hr d hd => fill_item (i1 := i1) (i2 := i2) (i3 := i3) (i4 := i4) (i5 := i5) (T := Lst.length) hi (by omega) ((lo.rows row hr).2 d hd)
  have nr := nrows_map (g := fillD (kv5 i1 i2 i3 i4 i5)) lo fun row hr d hd => (key row hr d hd).2.2.2.1
  have ft := fits_map (g := fillD (kv5 i1 i2 i3 i4 i5)) lo fun row hr d hd => (key row hr d hd).2.2.2.2
  have hr3 : ∀ row ∈ Lst, row.length ≤ 300 := fun row hr => Nat.le_trans (lo.rows row hr).1 (by omega)
  have emap : (Lst.map fun r => r.map (fillD (kv5r i1 i2 i3 i4 i5))) = Lst.map fun r => r.map (fillD (kv5 i1 i2 i3 i4 i5)) := List.map_congr_left fun row hr => List.map_congr_left fun d hd => (key row hr d hd).2.2.1
  have hw5 : ∀ row ∈ Lst, ∀ d ∈ row, FillOk (kv5 i1 i2 i3 i4 i5) d := fun row hr d hd => (key row hr d hd).1
  have hw5r : ∀ row ∈ Lst, ∀ d ∈ row, FillOk (kv5r i1 i2 i3 i4 i5) d := fun row hr d hd => (key row hr d hd).2.1
  generalize hMx : (Lst.map fun r => r.map (fillD (kv5 i1 i2 i3 i4 i5))) = Mx at *
  have mlen : Mx.length ≤ 10 := nr.1
  have mrow : ∀ row ∈ Mx, row.length ≤ 100000 := fun row hr => Nat.le_trans (nr.2 row hr).1 (by omega)
  have mcl := rows_cl (L := Mx) fun row hr d hd => nitem_cl ((nr.2 row hr).2 d hd)
  have mpos := ft.pos
  have mtot := total_le fun row hr => (nr.2 row hr).1
  -- the first test
  have c1 := contents_eq hM mrow (by omega)
  have r1 : mRepr (mMeth 0 m_Heap_contents (mVar 8) mNil) [some (.ref b), some (.d (.list (Lst.map .list))), some (.ref hh), some (.ref fi), x, y, some (.ref du), some (.ref hd), some (.ref mk), none, none, none, none] H6 = .ok (.d (.str (PyData.list (Mx.map .list)).shown)) H6 := repr_eq (v := .d (.list (Mx.map .list))) (by simp (disch := first | omega | decide | assumption | (unfold szL; simp only [List.length_cons, List.length_nil, List.length_append, List.length_map, List.length_singleton]; omega) | (unfold szL; simp only [List.length_cons, List.length_nil, Nat.reduceAdd, Nat.reduceLeDiff])) only [mDef, mStar, mSeq, mRet, mVar, mD, mBin, mCB, mCons, mNil, mIfS, mIf, mTB, mTru, mTAnd, mTOr, mTNot, mAnd, mOr, mNot, mNeg, mChain, mExpr, mAsg, mPar, gNm, gTp, gsCons, gsNil, gSb, mTup, mLst, mNext, mNever, mBreak, mCont, mFor, mAug, mIsi, mFld, mMeth, mBM, mCM, mSlice, mPart, mNoP, mDk, mDt, mIA, mIL, mIT, mIS, mIR1, mIR2, mIZ, mIE, mLc, mLc2, mYes, mRev, mRepr, mIsiC, mHas, mEqI, mLenI, Mini.R.bind_ok, Mini.R.thn_ok, Mini.R.bind_bad, Mini.R.thn_bad, ofO, asB, rB, rN, rI, List.length_cons, List.length_nil, List.map_cons, List.map_nil, List.cons_append, List.nil_append, List.getElem?_cons_zero, List.getElem?_cons_succ, List.getElem?_nil, List.replicate_succ, List.replicate_zero, Nat.reduceAdd, Nat.reduceSub, if_true, if_false, List.append_nil, List.set_cons_zero, List.set_cons_succ, reduceIte, Nat.reduceEqDiff, lst_d, lst_rl, lst_t, tup_d, tup_t, ix_dl, ix_rl, ix_dt, add_int, sub_int, lt_int, le_int, gt_int, ge_int, abs_int, max_int, min_int, rL_ok, rT_ok, len_dl, len_dt, len_rl, mul_int, div_int, mod_int, pow_int, atI_of, Int.reducePow, Int.reduceToNat, Int.reduceMod, Int.reduceAdd, Int.reduceSub, Int.reduceMul, Int.reduceDiv, Int.reduceLT, Int.reduceLE, decide_true, decide_false, tr_non, tr_bl, tr_int, tr_lst, tr_tup, ty_non, ty_bl, ty_int, ty_str, ty_lst, ty_tup, ty_tupm, instB, String.reduceBEq, Bool.or_true, Bool.or_false, Bool.true_or, Bool.false_or, Bool.and_true, Bool.and_false, Bool.true_and, Bool.false_and, Bool.not_true, Bool.not_false, beq_self_eq_true, pureAll, mkTup, pureAll_map, mkTup_d, List.length_append, List.length_singleton, ins_of hM.ins, c1]) toD_dat nr
  have r2 : mRepr (mVar 6) [some (.ref b), some (.d (.list (Lst.map .list))), some (.ref hh), some (.ref fi), x, y, some (.ref du), some (.ref hd), some (.ref mk), none, none, none, none] H6 = .ok (.d (.str (PyData.list (Mx.map .list)).shown)) H6 := repr_eq (v := .ref du) rfl (toD_rows hU hR) nr
  have dq : fDEq true (.ref hd) (.ref fi) H6 = .ok (.d (.bool false)) H6 := by
    simp only [fDEq, dkOf, hD, hF]
    rw [if_pos ⟨trivial, kv5_all⟩]
    rfl
  have s1 : ri_if1 [some (.ref b), some (.d (.list (Lst.map .list))), some (.ref hh), some (.ref fi), x, y, some (.ref du), some (.ref hd), some (.ref mk), none, none, none, none] H6 = .nx [some (.ref b), some (.d (.list (Lst.map .list))), some (.ref hh), some (.ref fi), x, y, some (.ref du), some (.ref hd), some (.ref mk), none, none, none, none] H6 := by
    have i0 : mIsiC 0 (mVar 8) [some (.ref b), some (.d (.list (Lst.map .list))), some (.ref hh), some (.ref fi), x, y, some (.ref du), some (.ref hd), some (.ref mk), none, none, none, none] H6 = .ok (.d (.bool true)) H6 := by simp (disch := first | omega | decide | assumption | (unfold szL; simp only [List.length_cons, List.length_nil, List.length_append, List.length_map, List.length_singleton]; omega) | (unfold szL; simp only [List.length_cons, List.length_nil, Nat.reduceAdd, Nat.reduceLeDiff])) only [mDef, mStar, mSeq, mRet, mVar, mD, mBin, mCB, mCons, mNil, mIfS, mIf, mTB, mTru, mTAnd, mTOr, mTNot, mAnd, mOr, mNot, mNeg, mChain, mExpr, mAsg, mPar, gNm, gTp, gsCons, gsNil, gSb, mTup, mLst, mNext, mNever, mBreak, mCont, mFor, mAug, mIsi, mFld, mMeth, mBM, mCM, mSlice, mPart, mNoP, mDk, mDt, mIA, mIL, mIT, mIS, mIR1, mIR2, mIZ, mIE, mLc, mLc2, mYes, mRev, mRepr, mIsiC, mHas, mEqI, mLenI, Mini.R.bind_ok, Mini.R.thn_ok, Mini.R.bind_bad, Mini.R.thn_bad, ofO, asB, rB, rN, rI, List.length_cons, List.length_nil, List.map_cons, List.map_nil, List.cons_append, List.nil_append, List.getElem?_cons_zero, List.getElem?_cons_succ, List.getElem?_nil, List.replicate_succ, List.replicate_zero, Nat.reduceAdd, Nat.reduceSub, if_true, if_false, List.append_nil, List.set_cons_zero, List.set_cons_succ, reduceIte, Nat.reduceEqDiff, lst_d, lst_rl, lst_t, tup_d, tup_t, ix_dl, ix_rl, ix_dt, add_int, sub_int, lt_int, le_int, gt_int, ge_int, abs_int, max_int, min_int, rL_ok, rT_ok, len_dl, len_dt, len_rl, mul_int, div_int, mod_int, pow_int, atI_of, Int.reducePow, Int.reduceToNat, Int.reduceMod, Int.reduceAdd, Int.reduceSub, Int.reduceMul, Int.reduceDiv, Int.reduceLT, Int.reduceLE, decide_true, decide_false, tr_non, tr_bl, tr_int, tr_lst, tr_tup, ty_non, ty_bl, ty_int, ty_str, ty_lst, ty_tup, ty_tupm, instB, String.reduceBEq, Bool.or_true, Bool.or_false, Bool.true_or, Bool.false_or, Bool.and_true, Bool.and_false, Bool.true_and, Bool.false_and, Bool.not_true, Bool.not_false, beq_self_eq_true, pureAll, mkTup, pureAll_map, mkTup_d, List.length_append, List.length_singleton, ins_of hM.ins]
    have v7 : mVar 7 [some (.ref b), some (.d (.list (Lst.map .list))), some (.ref hh), some (.ref fi), x, y, some (.ref du), some (.ref hd), some (.ref mk), none, none, none, none] H6 = .ok (.ref hd) H6 := rfl
    have v3 : mVar 3 [some (.ref b), some (.d (.list (Lst.map .list))), some (.ref hh), some (.ref fi), x, y, some (.ref du), some (.ref hd), some (.ref mk), none, none, none, none] H6 = .ok (.ref fi) H6 := rfl
    unfold ri_if1
    simp only [mIfS, mTOr, mTNot, mTru, mTB, mBin, i0, r1, r2, v7, v3, dq, Mini.R.bind_ok, Mini.R.thn_ok, ofO, tr_bl, Bool.not_true, fEqS, decide_true, bne_self_eq_false, asB]
    rfl
  -- the other order
  obtain ⟨H7, hH7⟩ : ∃ H7, H7 = H6 ++ [MO.dk []] := ⟨_, rfl⟩
  have s2 : mAsg mDk (gNm 9) [some (.ref b), some (.d (.list (Lst.map .list))), some (.ref hh), some (.ref fi), x, y, some (.ref du), some (.ref hd), some (.ref mk), none, none, none, none] H6 = .nx [some (.ref b), some (.d (.list (Lst.map .list))), some (.ref hh), some (.ref fi), x, y, some (.ref du), some (.ref hd), some (.ref mk), some (.ref H6.length), none, none, none] (H6 ++ [.dk []]) := by simp (disch := first | omega | decide | assumption | (unfold szL; simp only [List.length_cons, List.length_nil, List.length_append, List.length_map, List.length_singleton]; omega) | (unfold szL; simp only [List.length_cons, List.length_nil, Nat.reduceAdd, Nat.reduceLeDiff])) only [mDef, mStar, mSeq, mRet, mVar, mD, mBin, mCB, mCons, mNil, mIfS, mIf, mTB, mTru, mTAnd, mTOr, mTNot, mAnd, mOr, mNot, mNeg, mChain, mExpr, mAsg, mPar, gNm, gTp, gsCons, gsNil, gSb, mTup, mLst, mNext, mNever, mBreak, mCont, mFor, mAug, mIsi, mFld, mMeth, mBM, mCM, mSlice, mPart, mNoP, mDk, mDt, mIA, mIL, mIT, mIS, mIR1, mIR2, mIZ, mIE, mLc, mLc2, mYes, mRev, mRepr, mIsiC, mHas, mEqI, mLenI, Mini.R.bind_ok, Mini.R.thn_ok, Mini.R.bind_bad, Mini.R.thn_bad, ofO, asB, rB, rN, rI, List.length_cons, List.length_nil, List.map_cons, List.map_nil, List.cons_append, List.nil_append, List.getElem?_cons_zero, List.getElem?_cons_succ, List.getElem?_nil, List.replicate_succ, List.replicate_zero, Nat.reduceAdd, Nat.reduceSub, if_true, if_false, List.append_nil, List.set_cons_zero, List.set_cons_succ, reduceIte, Nat.reduceEqDiff, lst_d, lst_rl, lst_t, tup_d, tup_t, ix_dl, ix_rl, ix_dt, add_int, sub_int, lt_int, le_int, gt_int, ge_int, abs_int, max_int, min_int, rL_ok, rT_ok, len_dl, len_dt, len_rl, mul_int, div_int, mod_int, pow_int, atI_of, Int.reducePow, Int.reduceToNat, Int.reduceMod, Int.reduceAdd, Int.reduceSub, Int.reduceMul, Int.reduceDiv, Int.reduceLT, Int.reduceLE, decide_true, decide_false, tr_non, tr_bl, tr_int, tr_lst, tr_tup, ty_non, ty_bl, ty_int, ty_str, ty_lst, ty_tup, ty_tupm, instB, String.reduceBEq, Bool.or_true, Bool.or_false, Bool.true_or, Bool.false_or, Bool.and_true, Bool.and_false, Bool.true_and, Bool.false_and, Bool.not_true, Bool.not_false, beq_self_eq_true, pureAll, mkTup, pureAll_map, mkTup_d, List.length_append, List.length_singleton]
  have kl : fKeys [.ref fi] (H6 ++ [.dk []]) = .ok (.ref (H6.length + 1)) (H6 ++ (.dk [] :: [.lst wordsM])) := by
    rw [keys_eq (at_left hF)]
    simp [kv5, keyMV, wordsM]
  have kr : ∀ (m : ME) (μ : MSt), m μ (H6 ++ [.dk []]) = .ok (.ref (H6.length + 1)) (H6 ++ (.dk [] :: [.lst wordsM])) → mRev m μ (H6 ++ [.dk []]) = .ok (.ref (H6.length + 2)) (H6 ++ (.dk [] :: [.lst wordsM, .lst rwordsM])) := fun m μ e => by
    have a : (H6 ++ (MO.dk [] :: [.lst wordsM]))[H6.length + 1]? = some (.lst wordsM) := by
      have := at_last (A := H6 ++ [MO.dk []]) (o := .lst wordsM) (i := H6.length + 1) (by simp)
      simpa [List.append_assoc] using this
    unfold mRev
    rw [e]
    simp only [Mini.R.bind_ok, lst_ref a]
    rw [rL_ok (by decide)]
    simp [wordsM, rwordsM]
  obtain ⟨z4, e3⟩ := turn_loop (H := H6) (J := [.lst wordsM, .lst rwordsM]) (fi := fi) (i1 := i1) (i2 := i2) (i3 := i3) (i4 := i4) (i5 := i5) (m0 := some (.ref b)) (m1 := some (.d (.list (Lst.map .list)))) (m2 := some (.ref hh)) (m4 := x) (m5 := y) (m6 := some (.ref du)) (m7 := some (.ref hd)) (m8 := some (.ref mk)) (m10 := none) (m11 := none) (m12 := none) (rk := H6.length + 2) hF (by
    have := at_last (A := H6 ++ [MO.dk [], .lst wordsM]) (o := .lst rwordsM) (i := H6.length + 2) (by simp)
    simpa [List.append_assoc] using this) (by omega)
  obtain ⟨H8, hH8⟩ : ∃ H8, H8 = H6 ++ (.dk (kv5r i1 i2 i3 i4 i5) :: [.lst wordsM, .lst rwordsM]) := ⟨_, rfl⟩
  have s3 : ri_for2 [some (.ref b), some (.d (.list (Lst.map .list))), some (.ref hh), some (.ref fi), x, y, some (.ref du), some (.ref hd), some (.ref mk), some (.ref H6.length), none, none, none] (H6 ++ [.dk []]) = .nx [some (.ref b), some (.d (.list (Lst.map .list))), some (.ref hh), some (.ref fi), z4, y, some (.ref du), some (.ref hd), some (.ref mk), some (.ref H6.length), none, none, none] H8 := by
    have ek : (mCB fKeys (mCons (mVar 3) mNil)) [some (.ref b), some (.d (.list (Lst.map .list))), some (.ref hh), some (.ref fi), x, y, some (.ref du), some (.ref hd), some (.ref mk), some (.ref H6.length), none, none, none] (H6 ++ [.dk []]) = .ok (.ref (H6.length + 1)) (H6 ++ (.dk [] :: [.lst wordsM])) := by simp (disch := first | omega | decide | assumption | (unfold szL; simp only [List.length_cons, List.length_nil, List.length_append, List.length_map, List.length_singleton]; omega) | (unfold szL; simp only [List.length_cons, List.length_nil, Nat.reduceAdd, Nat.reduceLeDiff])) only [mDef, mStar, mSeq, mRet, mVar, mD, mBin, mCB, mCons, mNil, mIfS, mIf, mTB, mTru, mTAnd, mTOr, mTNot, mAnd, mOr, mNot, mNeg, mChain, mExpr, mAsg, mPar, gNm, gTp, gsCons, gsNil, gSb, mTup, mLst, mNext, mNever, mBreak, mCont, mFor, mAug, mIsi, mFld, mMeth, mBM, mCM, mSlice, mPart, mNoP, mDk, mDt, mIA, mIL, mIT, mIS, mIR1, mIR2, mIZ, mIE, mLc, mLc2, mYes, mRev, mRepr, mIsiC, mHas, mEqI, mLenI, Mini.R.bind_ok, Mini.R.thn_ok, Mini.R.bind_bad, Mini.R.thn_bad, ofO, asB, rB, rN, rI, List.length_cons, List.length_nil, List.map_cons, List.map_nil, List.cons_append, List.nil_append, List.getElem?_cons_zero, List.getElem?_cons_succ, List.getElem?_nil, List.replicate_succ, List.replicate_zero, Nat.reduceAdd, Nat.reduceSub, if_true, if_false, List.append_nil, List.set_cons_zero, List.set_cons_succ, reduceIte, Nat.reduceEqDiff, lst_d, lst_rl, lst_t, tup_d, tup_t, ix_dl, ix_rl, ix_dt, add_int, sub_int, lt_int, le_int, gt_int, ge_int, abs_int, max_int, min_int, rL_ok, rT_ok, len_dl, len_dt, len_rl, mul_int, div_int, mod_int, pow_int, atI_of, Int.reducePow, Int.reduceToNat, Int.reduceMod, Int.reduceAdd, Int.reduceSub, Int.reduceMul, Int.reduceDiv, Int.reduceLT, Int.reduceLE, decide_true, decide_false, tr_non, tr_bl, tr_int, tr_lst, tr_tup, ty_non, ty_bl, ty_int, ty_str, ty_lst, ty_tup, ty_tupm, instB, String.reduceBEq, Bool.or_true, Bool.or_false, Bool.true_or, Bool.false_or, Bool.and_true, Bool.and_false, Bool.true_and, Bool.false_and, Bool.not_true, Bool.not_false, beq_self_eq_true, pureAll, mkTup, pureAll_map, mkTup_d, List.length_append, List.length_singleton, kl]
    have er := kr _ _ ek
    have a : (H6 ++ (MO.dk [] :: [.lst wordsM, .lst rwordsM]))[H6.length + 2]? = some (.lst rwordsM) := by
      have := at_last (A := H6 ++ [MO.dk [], .lst wordsM]) (o := .lst rwordsM) (i := H6.length + 2) (by simp)
      simpa [List.append_assoc] using this
    unfold ri_for2 mFor mIA
    simp only [er, Mini.R.bind_ok, Mini.R.thn_ok, lst_ref a]
    rw [hH8]
    exact e3
  have g68 : Grow H6 H8 := by rw [hH8]; exact (Grow.refl H6).app
  have hT8 : H8[H6.length]? = some (.dk (kv5r i1 i2 i3 i4 i5)) := by rw [hH8]; exact at_mid rfl
  obtain ⟨jh, rsh, hI⟩ := id hH
  obtain ⟨J9, m9, e9, h9⟩ := filled_eq (hI.grow g68) hT8 hw5r (by omega) hr3 (by rw [emap]; exact ft)
  rw [emap] at h9
  obtain ⟨H9, hH9⟩ : ∃ H9, H9 = H8 ++ J9 := ⟨_, rfl⟩
  rw [← hH9] at e9 h9
  have g89 : Grow H8 H9 := by rw [hH9]; exact (Grow.refl H8).app
  have g69 := g68.trans g89
  obtain ⟨j9, rs9, hI9⟩ := id h9
  have c9 := contents_eq hI9 mrow (by omega)
  obtain ⟨H10, hH10⟩ : ∃ H10, H10 = H9 ++ [MO.lst rwordsM, .lst wordsM, .lst rwordsM] := ⟨_, rfl⟩
  have g910 : Grow H9 H10 := by rw [hH10]; exact (Grow.refl H9).app
  have s4 : ri_if2 [some (.ref b), some (.d (.list (Lst.map .list))), some (.ref hh), some (.ref fi), z4, y, some (.ref du), some (.ref hd), some (.ref mk), some (.ref H6.length), none, none, none] H8 = .nx [some (.ref b), some (.d (.list (Lst.map .list))), some (.ref hh), some (.ref fi), z4, y, some (.ref du), some (.ref hd), some (.ref mk), some (.ref H6.length), none, none, none] H10 := by
    have q1 : mRepr (mMeth 0 m_Heap_contents (mCB m_filled (mCons (mVar 2) (mCons (mVar 9) mNil))) mNil) [some (.ref b), some (.d (.list (Lst.map .list))), some (.ref hh), some (.ref fi), z4, y, some (.ref du), some (.ref hd), some (.ref mk), some (.ref H6.length), none, none, none] H8 = .ok (.d (.str (PyData.list (Mx.map .list)).shown)) H9 := repr_eq (v := .d (.list (Mx.map .list))) (by simp (disch := first | omega | decide | assumption | (unfold szL; simp only [List.length_cons, List.length_nil, List.length_append, List.length_map, List.length_singleton]; omega) | (unfold szL; simp only [List.length_cons, List.length_nil, Nat.reduceAdd, Nat.reduceLeDiff])) only [mDef, mStar, mSeq, mRet, mVar, mD, mBin, mCB, mCons, mNil, mIfS, mIf, mTB, mTru, mTAnd, mTOr, mTNot, mAnd, mOr, mNot, mNeg, mChain, mExpr, mAsg, mPar, gNm, gTp, gsCons, gsNil, gSb, mTup, mLst, mNext, mNever, mBreak, mCont, mFor, mAug, mIsi, mFld, mMeth, mBM, mCM, mSlice, mPart, mNoP, mDk, mDt, mIA, mIL, mIT, mIS, mIR1, mIR2, mIZ, mIE, mLc, mLc2, mYes, mRev, mRepr, mIsiC, mHas, mEqI, mLenI, Mini.R.bind_ok, Mini.R.thn_ok, Mini.R.bind_bad, Mini.R.thn_bad, ofO, asB, rB, rN, rI, List.length_cons, List.length_nil, List.map_cons, List.map_nil, List.cons_append, List.nil_append, List.getElem?_cons_zero, List.getElem?_cons_succ, List.getElem?_nil, List.replicate_succ, List.replicate_zero, Nat.reduceAdd, Nat.reduceSub, if_true, if_false, List.append_nil, List.set_cons_zero, List.set_cons_succ, reduceIte, Nat.reduceEqDiff, lst_d, lst_rl, lst_t, tup_d, tup_t, ix_dl, ix_rl, ix_dt, add_int, sub_int, lt_int, le_int, gt_int, ge_int, abs_int, max_int, min_int, rL_ok, rT_ok, len_dl, len_dt, len_rl, mul_int, div_int, mod_int, pow_int, atI_of, Int.reducePow, Int.reduceToNat, Int.reduceMod, Int.reduceAdd, Int.reduceSub, Int.reduceMul, Int.reduceDiv, Int.reduceLT, Int.reduceLE, decide_true, decide_false, tr_non, tr_bl, tr_int, tr_lst, tr_tup, ty_non, ty_bl, ty_int, ty_str, ty_lst, ty_tup, ty_tupm, instB, String.reduceBEq, Bool.or_true, Bool.or_false, Bool.true_or, Bool.false_or, Bool.and_true, Bool.and_false, Bool.true_and, Bool.false_and, Bool.not_true, Bool.not_false, beq_self_eq_true, pureAll, mkTup, pureAll_map, mkTup_d, List.length_append, List.length_singleton, e9, ins_of hI9.ins, c9]) toD_dat nr
    have q2 : mRepr (mVar 6) [some (.ref b), some (.d (.list (Lst.map .list))), some (.ref hh), some (.ref fi), z4, y, some (.ref du), some (.ref hd), some (.ref mk), some (.ref H6.length), none, none, none] H9 = .ok (.d (.str (PyData.list (Mx.map .list)).shown)) H9 := repr_eq (v := .ref du) rfl (toD_rows (g69.at hU) (hR.grow g69)) nr
    have k1 : (mCB fKeys (mCons (mVar 9) mNil)) [some (.ref b), some (.d (.list (Lst.map .list))), some (.ref hh), some (.ref fi), z4, y, some (.ref du), some (.ref hd), some (.ref mk), some (.ref H6.length), none, none, none] H9 = .ok (.ref H9.length) (H9 ++ [.lst rwordsM]) := by
      have := keys_eq (g89.at hT8)
      simp (disch := first | omega | decide | assumption | (unfold szL; simp only [List.length_cons, List.length_nil, List.length_append, List.length_map, List.length_singleton]; omega) | (unfold szL; simp only [List.length_cons, List.length_nil, Nat.reduceAdd, Nat.reduceLeDiff])) only [mDef, mStar, mSeq, mRet, mVar, mD, mBin, mCB, mCons, mNil, mIfS, mIf, mTB, mTru, mTAnd, mTOr, mTNot, mAnd, mOr, mNot, mNeg, mChain, mExpr, mAsg, mPar, gNm, gTp, gsCons, gsNil, gSb, mTup, mLst, mNext, mNever, mBreak, mCont, mFor, mAug, mIsi, mFld, mMeth, mBM, mCM, mSlice, mPart, mNoP, mDk, mDt, mIA, mIL, mIT, mIS, mIR1, mIR2, mIZ, mIE, mLc, mLc2, mYes, mRev, mRepr, mIsiC, mHas, mEqI, mLenI, Mini.R.bind_ok, Mini.R.thn_ok, Mini.R.bind_bad, Mini.R.thn_bad, ofO, asB, rB, rN, rI, List.length_cons, List.length_nil, List.map_cons, List.map_nil, List.cons_append, List.nil_append, List.getElem?_cons_zero, List.getElem?_cons_succ, List.getElem?_nil, List.replicate_succ, List.replicate_zero, Nat.reduceAdd, Nat.reduceSub, if_true, if_false, List.append_nil, List.set_cons_zero, List.set_cons_succ, reduceIte, Nat.reduceEqDiff, lst_d, lst_rl, lst_t, tup_d, tup_t, ix_dl, ix_rl, ix_dt, add_int, sub_int, lt_int, le_int, gt_int, ge_int, abs_int, max_int, min_int, rL_ok, rT_ok, len_dl, len_dt, len_rl, mul_int, div_int, mod_int, pow_int, atI_of, Int.reducePow, Int.reduceToNat, Int.reduceMod, Int.reduceAdd, Int.reduceSub, Int.reduceMul, Int.reduceDiv, Int.reduceLT, Int.reduceLE, decide_true, decide_false, tr_non, tr_bl, tr_int, tr_lst, tr_tup, ty_non, ty_bl, ty_int, ty_str, ty_lst, ty_tup, ty_tupm, instB, String.reduceBEq, Bool.or_true, Bool.or_false, Bool.true_or, Bool.false_or, Bool.and_true, Bool.and_false, Bool.true_and, Bool.false_and, Bool.not_true, Bool.not_false, beq_self_eq_true, pureAll, mkTup, pureAll_map, mkTup_d, List.length_append, List.length_singleton, this]
      rfl
    have k2 : (mCB fKeys (mCons (mVar 3) mNil)) [some (.ref b), some (.d (.list (Lst.map .list))), some (.ref hh), some (.ref fi), z4, y, some (.ref du), some (.ref hd), some (.ref mk), some (.ref H6.length), none, none, none] (H9 ++ [.lst rwordsM]) = .ok (.ref (H9.length + 1)) (H9 ++ [.lst rwordsM, .lst wordsM]) := by
      have := keys_eq (at_left (B := [MO.lst rwordsM]) (g69.at hF))
      simp (disch := first | omega | decide | assumption | (unfold szL; simp only [List.length_cons, List.length_nil, List.length_append, List.length_map, List.length_singleton]; omega) | (unfold szL; simp only [List.length_cons, List.length_nil, Nat.reduceAdd, Nat.reduceLeDiff])) only [mDef, mStar, mSeq, mRet, mVar, mD, mBin, mCB, mCons, mNil, mIfS, mIf, mTB, mTru, mTAnd, mTOr, mTNot, mAnd, mOr, mNot, mNeg, mChain, mExpr, mAsg, mPar, gNm, gTp, gsCons, gsNil, gSb, mTup, mLst, mNext, mNever, mBreak, mCont, mFor, mAug, mIsi, mFld, mMeth, mBM, mCM, mSlice, mPart, mNoP, mDk, mDt, mIA, mIL, mIT, mIS, mIR1, mIR2, mIZ, mIE, mLc, mLc2, mYes, mRev, mRepr, mIsiC, mHas, mEqI, mLenI, Mini.R.bind_ok, Mini.R.thn_ok, Mini.R.bind_bad, Mini.R.thn_bad, ofO, asB, rB, rN, rI, List.length_cons, List.length_nil, List.map_cons, List.map_nil, List.cons_append, List.nil_append, List.getElem?_cons_zero, List.getElem?_cons_succ, List.getElem?_nil, List.replicate_succ, List.replicate_zero, Nat.reduceAdd, Nat.reduceSub, if_true, if_false, List.append_nil, List.set_cons_zero, List.set_cons_succ, reduceIte, Nat.reduceEqDiff, lst_d, lst_rl, lst_t, tup_d, tup_t, ix_dl, ix_rl, ix_dt, add_int, sub_int, lt_int, le_int, gt_int, ge_int, abs_int, max_int, min_int, rL_ok, rT_ok, len_dl, len_dt, len_rl, mul_int, div_int, mod_int, pow_int, atI_of, Int.reducePow, Int.reduceToNat, Int.reduceMod, Int.reduceAdd, Int.reduceSub, Int.reduceMul, Int.reduceDiv, Int.reduceLT, Int.reduceLE, decide_true, decide_false, tr_non, tr_bl, tr_int, tr_lst, tr_tup, ty_non, ty_bl, ty_int, ty_str, ty_lst, ty_tup, ty_tupm, instB, String.reduceBEq, Bool.or_true, Bool.or_false, Bool.true_or, Bool.false_or, Bool.and_true, Bool.and_false, Bool.true_and, Bool.false_and, Bool.not_true, Bool.not_false, beq_self_eq_true, pureAll, mkTup, pureAll_map, mkTup_d, List.length_append, List.length_singleton, this]
      simp [kv5, keyMV, wordsM]
    have a1 : (H9 ++ [MO.lst rwordsM, .lst wordsM])[H9.length + 1]? = some (.lst wordsM) := by
      have := at_last (A := H9 ++ [MO.lst rwordsM]) (o := .lst wordsM) (i := H9.length + 1) (by simp)
      simpa [List.append_assoc] using this
    have k3 : (mRev (mCB fKeys (mCons (mVar 3) mNil))) [some (.ref b), some (.d (.list (Lst.map .list))), some (.ref hh), some (.ref fi), z4, y, some (.ref du), some (.ref hd), some (.ref mk), some (.ref H6.length), none, none, none] (H9 ++ [.lst rwordsM]) = .ok (.ref (H9.length + 2)) H10 := by
      unfold mRev
      rw [k2, hH10]
      simp only [Mini.R.bind_ok, lst_ref a1]
      rw [rL_ok (by decide)]
      simp [wordsM, rwordsM]
    have t1 : H10[H9.length]? = some (.lst (([.str "zz", .str "abcdefgh", .str "", .str "b", .str "a"] : List PyData).map .d)) := by
      rw [hH10]; exact at_mid rfl
    have t2 : H10[H9.length + 2]? = some (.lst (([.str "zz", .str "abcdefgh", .str "", .str "b", .str "a"] : List PyData).map .d)) := by
      rw [hH10]
      show _ = some (MO.lst rwordsM)
      have := at_last (A := H9 ++ [MO.lst rwordsM, .lst wordsM]) (o := .lst rwordsM) (i := H9.length + 2) (by simp)
      simpa [List.append_assoc] using this
    have qk : fEq true (.ref H9.length) (.ref (H9.length + 2)) H10 = .ok (.d (.bool (true != true))) H10 := eq_same (toD_row t1) (toD_row t2) ⟨by simp only [PyData.canLay0, PyData.canLayAll0]; decide +kernel, by simp [PyData.depth, PyData.depthAll]⟩
    unfold ri_if2
    simp only [mIfS, mTOr, mTB, mBin, q1, q2, k1, k3, qk, Mini.R.bind_ok, Mini.R.thn_ok, ofO, fEqS, decide_true, bne_self_eq_false, asB]
    rfl
  -- filled again
  have g6a := g69.trans g910
  obtain ⟨H11, hH11⟩ : ∃ H11, H11 = H10 ++ [MO.dk []] := ⟨_, rfl⟩
  have g611 : Grow H6 H11 := by rw [hH11]; exact g6a.app
  have fn : ∀ row ∈ Mx, ∀ d ∈ row, FillOk [] d ∧ fillD [] d = d := fun row hr d hd => fill_nil ((nr.2 row hr).2 d hd)
  have em0 : (Mx.map fun r => r.map (fillD [])) = Mx := by
    conv => rhs; rw [← List.map_id Mx]
    refine List.map_congr_left fun row hr => ?_
    conv => rhs; rw [id, ← List.map_id row]
    exact List.map_congr_left fun d hd => (fn row hr d hd).2
  have hM11 := hM.grow g611
  obtain ⟨J12, ag, e12, h12⟩ := filled_eq (kvs := []) (f := H10.length) hM11 (by rw [hH11]; exact at_last rfl) (fun row hr d hd => (fn row hr d hd).1) (by omega) (fun row hr => Nat.le_trans (nr.2 row hr).1 (by omega)) (by rw [em0]; exact ft)
  rw [em0] at h12
  obtain ⟨H12, hH12⟩ : ∃ H12, H12 = H11 ++ J12 := ⟨_, rfl⟩
  rw [← hH12] at e12 h12
  have g1112 : Grow H11 H12 := by rw [hH12]; exact (Grow.refl H11).app
  have g612 := g611.trans g1112
  have s5 : (mAsg (mCB m_filled (mCons (mVar 8) (mCons mDk mNil))) (gNm 10)) [some (.ref b), some (.d (.list (Lst.map .list))), some (.ref hh), some (.ref fi), z4, y, some (.ref du), some (.ref hd), some (.ref mk), some (.ref H6.length), none, none, none] H10 = .nx [some (.ref b), some (.d (.list (Lst.map .list))), some (.ref hh), some (.ref fi), z4, y, some (.ref du), some (.ref hd), some (.ref mk), some (.ref H6.length), some (.ref ag), none, none] H12 := by
    simp (disch := first | omega | decide | assumption | (unfold szL; simp only [List.length_cons, List.length_nil, List.length_append, List.length_map, List.length_singleton]; omega) | (unfold szL; simp only [List.length_cons, List.length_nil, Nat.reduceAdd, Nat.reduceLeDiff])) only [mDef, mStar, mSeq, mRet, mVar, mD, mBin, mCB, mCons, mNil, mIfS, mIf, mTB, mTru, mTAnd, mTOr, mTNot, mAnd, mOr, mNot, mNeg, mChain, mExpr, mAsg, mPar, gNm, gTp, gsCons, gsNil, gSb, mTup, mLst, mNext, mNever, mBreak, mCont, mFor, mAug, mIsi, mFld, mMeth, mBM, mCM, mSlice, mPart, mNoP, mDk, mDt, mIA, mIL, mIT, mIS, mIR1, mIR2, mIZ, mIE, mLc, mLc2, mYes, mRev, mRepr, mIsiC, mHas, mEqI, mLenI, Mini.R.bind_ok, Mini.R.thn_ok, Mini.R.bind_bad, Mini.R.thn_bad, ofO, asB, rB, rN, rI, List.length_cons, List.length_nil, List.map_cons, List.map_nil, List.cons_append, List.nil_append, List.getElem?_cons_zero, List.getElem?_cons_succ, List.getElem?_nil, List.replicate_succ, List.replicate_zero, Nat.reduceAdd, Nat.reduceSub, if_true, if_false, List.append_nil, List.set_cons_zero, List.set_cons_succ, reduceIte, Nat.reduceEqDiff, lst_d, lst_rl, lst_t, tup_d, tup_t, ix_dl, ix_rl, ix_dt, add_int, sub_int, lt_int, le_int, gt_int, ge_int, abs_int, max_int, min_int, rL_ok, rT_ok, len_dl, len_dt, len_rl, mul_int, div_int, mod_int, pow_int, atI_of, Int.reducePow, Int.reduceToNat, Int.reduceMod, Int.reduceAdd, Int.reduceSub, Int.reduceMul, Int.reduceDiv, Int.reduceLT, Int.reduceLE, decide_true, decide_false, tr_non, tr_bl, tr_int, tr_lst, tr_tup, ty_non, ty_bl, ty_int, ty_str, ty_lst, ty_tup, ty_tupm, instB, String.reduceBEq, Bool.or_true, Bool.or_false, Bool.true_or, Bool.false_or, Bool.and_true, Bool.and_false, Bool.true_and, Bool.false_and, Bool.not_true, Bool.not_false, beq_self_eq_true, pureAll, mkTup, pureAll_map, mkTup_d, List.length_append, List.length_singleton, ← hH11, e12]
  -- the first one changed
  obtain ⟨row0, M', hM0⟩ : ∃ row0 M', Mx = row0 :: M' := by
    cases hq : Mx with
    | nil => rw [hq] at mpos; simp at mpos
    | cons a l => exact ⟨a, l, rfl⟩
  have hM12 := hM.grow g612
  have hr0 := (nr.2 row0 (by rw [hM0]; exact List.mem_cons_self)).1
  obtain ⟨r, rm, rn, e13, hI13⟩ := add_last_eq (v := 7) hM12 hM0 (by omega) (by omega) (by omega)
  obtain ⟨H13, hH13⟩ : ∃ H13, H13 = H12.set r (.lst ((row0 ++ [PyData.int 7]).map .d)) := ⟨_, rfl⟩
  rw [← hH13] at e13 hI13
  have s6 : (mExpr (mMeth 0 m_Heap_add_last (mVar 8) (mCons (mD (.int 0)) (mCons (mD (.int 7)) mNil)))) [some (.ref b), some (.d (.list (Lst.map .list))), some (.ref hh), some (.ref fi), z4, y, some (.ref du), some (.ref hd), some (.ref mk), some (.ref H6.length), some (.ref ag), none, none] H12 = .nx [some (.ref b), some (.d (.list (Lst.map .list))), some (.ref hh), some (.ref fi), z4, y, some (.ref du), some (.ref hd), some (.ref mk), some (.ref H6.length), some (.ref ag), none, none] H13 := by
    simp (disch := first | omega | decide | assumption | (unfold szL; simp only [List.length_cons, List.length_nil, List.length_append, List.length_map, List.length_singleton]; omega) | (unfold szL; simp only [List.length_cons, List.length_nil, Nat.reduceAdd, Nat.reduceLeDiff])) only [mDef, mStar, mSeq, mRet, mVar, mD, mBin, mCB, mCons, mNil, mIfS, mIf, mTB, mTru, mTAnd, mTOr, mTNot, mAnd, mOr, mNot, mNeg, mChain, mExpr, mAsg, mPar, gNm, gTp, gsCons, gsNil, gSb, mTup, mLst, mNext, mNever, mBreak, mCont, mFor, mAug, mIsi, mFld, mMeth, mBM, mCM, mSlice, mPart, mNoP, mDk, mDt, mIA, mIL, mIT, mIS, mIR1, mIR2, mIZ, mIE, mLc, mLc2, mYes, mRev, mRepr, mIsiC, mHas, mEqI, mLenI, Mini.R.bind_ok, Mini.R.thn_ok, Mini.R.bind_bad, Mini.R.thn_bad, ofO, asB, rB, rN, rI, List.length_cons, List.length_nil, List.map_cons, List.map_nil, List.cons_append, List.nil_append, List.getElem?_cons_zero, List.getElem?_cons_succ, List.getElem?_nil, List.replicate_succ, List.replicate_zero, Nat.reduceAdd, Nat.reduceSub, if_true, if_false, List.append_nil, List.set_cons_zero, List.set_cons_succ, reduceIte, Nat.reduceEqDiff, lst_d, lst_rl, lst_t, tup_d, tup_t, ix_dl, ix_rl, ix_dt, add_int, sub_int, lt_int, le_int, gt_int, ge_int, abs_int, max_int, min_int, rL_ok, rT_ok, len_dl, len_dt, len_rl, mul_int, div_int, mod_int, pow_int, atI_of, Int.reducePow, Int.reduceToNat, Int.reduceMod, Int.reduceAdd, Int.reduceSub, Int.reduceMul, Int.reduceDiv, Int.reduceLT, Int.reduceLE, decide_true, decide_false, tr_non, tr_bl, tr_int, tr_lst, tr_tup, ty_non, ty_bl, ty_int, ty_str, ty_lst, ty_tup, ty_tupm, instB, String.reduceBEq, Bool.or_true, Bool.or_false, Bool.true_or, Bool.false_or, Bool.and_true, Bool.and_false, Bool.true_and, Bool.false_and, Bool.not_true, Bool.not_false, beq_self_eq_true, pureAll, mkTup, pureAll_map, mkTup_d, List.length_append, List.length_singleton, ins_of hM12.ins, e13]
  have tot13 : total ((row0 ++ [PyData.int 7]) :: M') ≤ 300 := by
    have : total ((row0 ++ [PyData.int 7]) :: M') = total Mx + 1 := by
      rw [hM0]; simp [total]; omega
    omega
  obtain ⟨vn, e14⟩ := new_eq hI13 (by have : Mx.length = (row0 :: M').length := by rw [hM0]
                                      simp at this ⊢; omega) tot13
  obtain ⟨H14, hH14⟩ : ∃ H14, H14 = (H13 ++ [MO.lst []]).set jm (.lst (rsm.map MV.ref ++ [MV.ref H13.length])) := ⟨_, rfl⟩
  rw [← hH14] at e14
  have s7 : (mExpr (mMeth 0 m_Heap_new (mVar 8) mNil)) [some (.ref b), some (.d (.list (Lst.map .list))), some (.ref hh), some (.ref fi), z4, y, some (.ref du), some (.ref hd), some (.ref mk), some (.ref H6.length), some (.ref ag), none, none] H13 = .nx [some (.ref b), some (.d (.list (Lst.map .list))), some (.ref hh), some (.ref fi), z4, y, some (.ref du), some (.ref hd), some (.ref mk), some (.ref H6.length), some (.ref ag), none, none] H14 := by
    simp (disch := first | omega | decide | assumption | (unfold szL; simp only [List.length_cons, List.length_nil, List.length_append, List.length_map, List.length_singleton]; omega) | (unfold szL; simp only [List.length_cons, List.length_nil, Nat.reduceAdd, Nat.reduceLeDiff])) only [mDef, mStar, mSeq, mRet, mVar, mD, mBin, mCB, mCons, mNil, mIfS, mIf, mTB, mTru, mTAnd, mTOr, mTNot, mAnd, mOr, mNot, mNeg, mChain, mExpr, mAsg, mPar, gNm, gTp, gsCons, gsNil, gSb, mTup, mLst, mNext, mNever, mBreak, mCont, mFor, mAug, mIsi, mFld, mMeth, mBM, mCM, mSlice, mPart, mNoP, mDk, mDt, mIA, mIL, mIT, mIS, mIR1, mIR2, mIZ, mIE, mLc, mLc2, mYes, mRev, mRepr, mIsiC, mHas, mEqI, mLenI, Mini.R.bind_ok, Mini.R.thn_ok, Mini.R.bind_bad, Mini.R.thn_bad, ofO, asB, rB, rN, rI, List.length_cons, List.length_nil, List.map_cons, List.map_nil, List.cons_append, List.nil_append, List.getElem?_cons_zero, List.getElem?_cons_succ, List.getElem?_nil, List.replicate_succ, List.replicate_zero, Nat.reduceAdd, Nat.reduceSub, if_true, if_false, List.append_nil, List.set_cons_zero, List.set_cons_succ, reduceIte, Nat.reduceEqDiff, lst_d, lst_rl, lst_t, tup_d, tup_t, ix_dl, ix_rl, ix_dt, add_int, sub_int, lt_int, le_int, gt_int, ge_int, abs_int, max_int, min_int, rL_ok, rT_ok, len_dl, len_dt, len_rl, mul_int, div_int, mod_int, pow_int, atI_of, Int.reducePow, Int.reduceToNat, Int.reduceMod, Int.reduceAdd, Int.reduceSub, Int.reduceMul, Int.reduceDiv, Int.reduceLT, Int.reduceLE, decide_true, decide_false, tr_non, tr_bl, tr_int, tr_lst, tr_tup, ty_non, ty_bl, ty_int, ty_str, ty_lst, ty_tup, ty_tupm, instB, String.reduceBEq, Bool.or_true, Bool.or_false, Bool.true_or, Bool.false_or, Bool.and_true, Bool.and_false, Bool.true_and, Bool.false_and, Bool.not_true, Bool.not_false, beq_self_eq_true, pureAll, mkTup, pureAll_map, mkTup_d, List.length_append, List.length_singleton, ins_of hI13.ins, e14]
  have gA : Grow H5 H14 := by
    rw [hH14, hH13]
    exact (((g5.trans g612).set (by omega)).app).set (by rw [hn5]; exact hM.j0)
  have le11 := g611.le
  have rlt : r < H11.length := Nat.lt_of_lt_of_le (hM.lt.2 r rm) le11
  have jlt : jm < H11.length := Nat.lt_of_lt_of_le hM.lt.1 le11
  have hA14 : HeapAt H11.length H14 ag Mx := by
    rw [hH14, hH13]
    exact ((h12.set rlt).app).set jlt
  obtain ⟨ja, rsa, hIa⟩ := id hA14
  have ca := contents_eq hIa mrow (by omega)
  have q1 : fEq false (.d (.list (Mx.map .list))) (.ref du) H14 = .ok (.d (.bool (false != true))) H14 := eq_same toD_dat (toD_rows (gA.at hU5) (hR5.grow gA)) mcl
  obtain ⟨jb, rsb, hIb⟩ := hH5.grow gA
  have cb := contents_eq hIb (fun row hr => Nat.le_trans (hr3 row hr) (by omega)) (by omega)
  have q2 : fEq false (.d (.list (Lst.map .list))) (.d (.list (Lst.map .list))) H14 = .ok (.d (.bool (false != true))) H14 := eq_same toD_dat toD_dat (rows_cl fun row hr d hd => item_shape ((lo.rows row hr).2 d hd))
  obtain ⟨J15, m15, e15, h15⟩ := filled_eq hIb (gA.at hD5) hw5 (by omega) hr3 (by rw [hMx]; exact ft)
  rw [hMx] at h15
  obtain ⟨j15, rs15, hI15⟩ := id h15
  have he := heap_eq hI15 (hIa.grow (Grow.refl H14).app) mcl
  have q3 : fEqI false 0 m_Heap_eq (.ref m15) (.ref ag) (H14 ++ J15) = .ok (.d (.bool true)) (H14 ++ J15) := by
    simp only [fEqI, ins_of hI15.ins, ins_of (hIa.grow (Grow.refl H14).app).ins, he, Mini.R.bind_ok, Bool.false_eq_true, if_false]
  have s8 : ri_ret [some (.ref b), some (.d (.list (Lst.map .list))), some (.ref hh), some (.ref fi), z4, y, some (.ref du), some (.ref hd), some (.ref mk), some (.ref H6.length), some (.ref ag), none, none] H14 = .rt (.d (.bool true)) (H14 ++ J15) := by
    unfold ri_ret
    simp (disch := first | omega | decide | assumption | (unfold szL; simp only [List.length_cons, List.length_nil, List.length_append, List.length_map, List.length_singleton]; omega) | (unfold szL; simp only [List.length_cons, List.length_nil, Nat.reduceAdd, Nat.reduceLeDiff])) only [mDef, mStar, mSeq, mRet, mVar, mD, mBin, mCB, mCons, mNil, mIfS, mIf, mTB, mTru, mTAnd, mTOr, mTNot, mAnd, mOr, mNot, mNeg, mChain, mExpr, mAsg, mPar, gNm, gTp, gsCons, gsNil, gSb, mTup, mLst, mNext, mNever, mBreak, mCont, mFor, mAug, mIsi, mFld, mMeth, mBM, mCM, mSlice, mPart, mNoP, mDk, mDt, mIA, mIL, mIT, mIS, mIR1, mIR2, mIZ, mIE, mLc, mLc2, mYes, mRev, mRepr, mIsiC, mHas, mEqI, mLenI, Mini.R.bind_ok, Mini.R.thn_ok, Mini.R.bind_bad, Mini.R.thn_bad, ofO, asB, rB, rN, rI, List.length_cons, List.length_nil, List.map_cons, List.map_nil, List.cons_append, List.nil_append, List.getElem?_cons_zero, List.getElem?_cons_succ, List.getElem?_nil, List.replicate_succ, List.replicate_zero, Nat.reduceAdd, Nat.reduceSub, if_true, if_false, List.append_nil, List.set_cons_zero, List.set_cons_succ, reduceIte, Nat.reduceEqDiff, lst_d, lst_rl, lst_t, tup_d, tup_t, ix_dl, ix_rl, ix_dt, add_int, sub_int, lt_int, le_int, gt_int, ge_int, abs_int, max_int, min_int, rL_ok, rT_ok, len_dl, len_dt, len_rl, mul_int, div_int, mod_int, pow_int, atI_of, Int.reducePow, Int.reduceToNat, Int.reduceMod, Int.reduceAdd, Int.reduceSub, Int.reduceMul, Int.reduceDiv, Int.reduceLT, Int.reduceLE, decide_true, decide_false, tr_non, tr_bl, tr_int, tr_lst, tr_tup, ty_non, ty_bl, ty_int, ty_str, ty_lst, ty_tup, ty_tupm, instB, String.reduceBEq, Bool.or_true, Bool.or_false, Bool.true_or, Bool.false_or, Bool.and_true, Bool.and_false, Bool.true_and, Bool.false_and, Bool.not_true, Bool.not_false, beq_self_eq_true, pureAll, mkTup, pureAll_map, mkTup_d, List.length_append, List.length_singleton, ins_of hIa.ins, ins_of hIb.ins, ca, cb, q1, q2, e15, q3, Bool.bne_true, Bool.false_bne]
  exact ⟨H14 ++ J15, gA.app, (mSeq_nx s1).trans ((mSeq_nx s2).trans ((mSeq_nx s3).trans ((mSeq_nx s4).trans ((mSeq_nx s5).trans ((mSeq_nx s6).trans ((mSeq_nx s7).trans s8))))))⟩
end Law
namespace Law
open Mini
open PySem (PyData Str)
theorem right_at {b : Nat} {L M : Int} {h : MH} (hb : b < h.length) (ok : BagOk L M) : ∃ L' M', BagOk L' M' ∧ m_law_right [.ref b] (h.set b (bagO L M)) = .ok (.d (.bool true)) (h.set b (bagO L' M')) := by
  obtain ⟨Lst, L1, M1, lo, ok1, e1⟩ := ringed_at (t := []) hb ok
  rw [List.append_nil, List.append_nil] at e1
  have ft := law_fits lo
  obtain ⟨J1, e2, hh1⟩ := law_heap_eq (h := h.set b (bagO L1 M1)) ft
  rw [List.length_set] at e2 hh1
  obtain ⟨L3, M3, i1, i2, i3, i4, i5, tt, x, y, ok3, hi, hf3, g3, l3, e3⟩ := words_loop (m1 := some (.d (.list (Lst.map .list)))) (m2 := some (.ref (h.length + Lst.length + 1))) (m4 := none) (m5 := none) (m6 := none) (m7 := none) (m8 := none) (m9 := none) (m10 := none) (m11 := none) (m12 := none) (tt := J1 ++ [.dk [], .lst wordsM]) (f := J1.length) (w := J1.length + 1) hb ok1 (at_mid rfl) (by
    have := at_last (A := J1 ++ [MO.dk []]) (o := .lst wordsM) (i := J1.length + 1) (by simp)
    simpa [List.append_assoc] using this) (by omega)
  obtain ⟨H3, hH3⟩ : ∃ H3, H3 = h.set b (bagO L3 M3) ++ tt := ⟨_, rfl⟩
  have gA : Grow (h.set b (bagO L3 M3)) H3 := by rw [hH3]; exact (Grow.refl _).app
  have hF3 : H3[h.length + J1.length]? = some (.dk (kv5 i1 i2 i3 i4 i5)) := by
    rw [hH3, List.getElem?_append_right (by simp), show h.length + J1.length - (h.set b (bagO L3 M3)).length = J1.length by simp]
    exact hf3
  have hh3 : HeapAt h.length H3 (h.length + Lst.length + 1) Lst := by
    refine hh1.of fun k hk o e => ?_
    have hlt : k < h.length + J1.length := by
      have := (List.getElem?_eq_some_iff.mp e).1
      simpa using this
    rw [List.getElem?_append_right (by simpa using hk), show k - (h.set b (bagO L1 M1)).length = k - h.length by simp] at e
    rw [hH3, List.getElem?_append_right (by simpa using hk), show k - (h.set b (bagO L3 M3)).length = k - h.length by simp, g3 (k - h.length) (by simp; omega) (by omega)]
    exact at_left e
  have few := lo.few
  have hr3 : ∀ row ∈ Lst, row.length ≤ 300 := fun row hr => Nat.le_trans (lo.rows row hr).1 (by omega)
  have key := fun row hr d hd => fill_item (i1 := i1) (i2 := i2) (i3 := i3) (i4 := i4) (i5 := i5) (T := Lst.length) hi (by omega) ((lo.rows row hr).2 d hd)
  have hw5 : ∀ row ∈ Lst, ∀ d ∈ row, FillOk (kv5 i1 i2 i3 i4 i5) d := fun row hr d hd => (key row hr d hd).1
  have ftx := fits_map (g := fillD (kv5 i1 i2 i3 i4 i5)) lo fun row hr d hd => (key row hr d hd).2.2.2.2
  have e4 := due_lc (h := H3) (m0 := some (.ref b)) (m2 := some (.ref (h.length + Lst.length + 1))) (m4 := x) (m5 := y) (m6 := none) (m7 := none) (m8 := none) (m9 := none) (m10 := none) (m11 := none) (m12 := none) hF3 hw5 (by omega) hr3
  obtain ⟨H4, hH4⟩ : ∃ H4, H4 = H3 ++ (rowsO (Lst.map fun r => r.map (fillD (kv5 i1 i2 i3 i4 i5))) ++ [.lst (refsO H3.length Lst.length)]) := ⟨_, rfl⟩
  rw [← hH4] at e4
  have g34 : Grow H3 H4 := by rw [hH4]; exact (Grow.refl _).app
  have hU4 : H4[H3.length + Lst.length]? = some (.lst ((List.range' H3.length Lst.length).map .ref)) := by
    rw [hH4]
    have := at_last (A := H3 ++ rowsO (Lst.map fun r => r.map (fillD (kv5 i1 i2 i3 i4 i5)))) (o := .lst (refsO H3.length Lst.length)) (i := H3.length + Lst.length) (by simp [rows_len])
    simpa [refsO, List.append_assoc] using this
  have hR4 : RowsAt 0 H4 (List.range' H3.length Lst.length) (Lst.map fun r => r.map (fillD (kv5 i1 i2 i3 i4 i5))) := by
    refine ⟨by simp, fun k r row h1 h2 => ?_⟩
    have hk : k < Lst.length := by
      have := (List.getElem?_eq_some_iff.mp h2).1
      simpa using this
    rw [List.getElem?_range' hk] at h1
    have h5 : r = H3.length + k := by
      have := Option.some.inj h1
      omega
    subst h5
    refine ⟨Nat.zero_le _, ?_⟩
    rw [hH4, List.getElem?_append_right (by omega), show H3.length + k - H3.length = k by omega, List.getElem?_append_left (by simp [rowsO]; exact hk)]
    simp only [rowsO, List.getElem?_map, h2]
    rfl
  obtain ⟨H5, hH5⟩ : ∃ H5, H5 = H4 ++ [MO.dk (kv5 i1 i2 i3 i4 i5)] := ⟨_, rfl⟩
  have g45 : Grow H4 H5 := by rw [hH5]; exact (Grow.refl _).app
  have g35 := g34.trans g45
  have hD5 : H5[H4.length]? = some (.dk (kv5 i1 i2 i3 i4 i5)) := by rw [hH5]; exact at_last rfl
  have hh5 := hh3.grow g35
  obtain ⟨jh, rsh, hI⟩ := id hh5
  obtain ⟨J6, mk, e6, hM⟩ := filled_eq hI hD5 hw5 (by omega) hr3 ftx
  obtain ⟨H6, hH6⟩ : ∃ H6, H6 = H5 ++ J6 := ⟨_, rfl⟩
  rw [← hH6] at e6 hM
  have g56 : Grow H5 H6 := by rw [hH6]; exact (Grow.refl _).app
  have g36 := g35.trans g56
  have g46 := g45.trans g56
  obtain ⟨jm, rsm, hMI⟩ := hM
  obtain ⟨Hf, gf, ef⟩ := half2 (b := b) (x := x) (y := y) lo hi (hh5.grow g56) (g36.at hF3) (g56.at hD5) hMI (g46.at hU4) (hR4.grow g46) g56.le (by simpa using (gA.trans g35).le) g56 rfl hh5 (g45.at hU4) (hR4.grow g45) hD5
  have gAf := (gA.trans g35).trans gf
  refine ⟨L3, M3, ok3, ?_⟩
  have body : mDef 1 13 b_law_right [.ref b] (h.set b (bagO L M)) = .ok (.d (.bool true)) Hf := by
    rw [ri_eq]
    refine mDef_rt ((mSeq_nx (μ' := [some (.ref b), some (.d (.list (Lst.map .list))), none, none, none, none, none, none, none, none, none, none, none]) (h' := h.set b (bagO L1 M1)) (by simp (disch := first | omega | decide | assumption | (unfold szL; simp only [List.length_cons, List.length_nil, List.length_append, List.length_map, List.length_singleton]; omega) | (unfold szL; simp only [List.length_cons, List.length_nil, Nat.reduceAdd, Nat.reduceLeDiff])) only [mDef, mStar, mSeq, mRet, mVar, mD, mBin, mCB, mCons, mNil, mIfS, mIf, mTB, mTru, mTAnd, mTOr, mTNot, mAnd, mOr, mNot, mNeg, mChain, mExpr, mAsg, mPar, gNm, gTp, gsCons, gsNil, gSb, mTup, mLst, mNext, mNever, mBreak, mCont, mFor, mAug, mIsi, mFld, mMeth, mBM, mCM, mSlice, mPart, mNoP, mDk, mDt, mIA, mIL, mIT, mIS, mIR1, mIR2, mIZ, mIE, mLc, mLc2, mYes, mRev, mRepr, mIsiC, mHas, mEqI, mLenI, Mini.R.bind_ok, Mini.R.thn_ok, Mini.R.bind_bad, Mini.R.thn_bad, ofO, asB, rB, rN, rI, List.length_cons, List.length_nil, List.map_cons, List.map_nil, List.cons_append, List.nil_append, List.getElem?_cons_zero, List.getElem?_cons_succ, List.getElem?_nil, List.replicate_succ, List.replicate_zero, Nat.reduceAdd, Nat.reduceSub, if_true, if_false, List.append_nil, List.set_cons_zero, List.set_cons_succ, reduceIte, Nat.reduceEqDiff, lst_d, lst_rl, lst_t, tup_d, tup_t, ix_dl, ix_rl, ix_dt, add_int, sub_int, lt_int, le_int, gt_int, ge_int, abs_int, max_int, min_int, rL_ok, rT_ok, len_dl, len_dt, len_rl, mul_int, div_int, mod_int, pow_int, atI_of, Int.reducePow, Int.reduceToNat, Int.reduceMod, Int.reduceAdd, Int.reduceSub, Int.reduceMul, Int.reduceDiv, Int.reduceLT, Int.reduceLE, decide_true, decide_false, tr_non, tr_bl, tr_int, tr_lst, tr_tup, ty_non, ty_bl, ty_int, ty_str, ty_lst, ty_tup, ty_tupm, instB, String.reduceBEq, Bool.or_true, Bool.or_false, Bool.true_or, Bool.false_or, Bool.and_true, Bool.and_false, Bool.true_and, Bool.false_and, Bool.not_true, Bool.not_false, beq_self_eq_true, pureAll, mkTup, pureAll_map, mkTup_d, List.length_append, List.length_singleton, e1])).trans
      ((mSeq_nx (μ' := [some (.ref b), some (.d (.list (Lst.map .list))), some (.ref (h.length + Lst.length + 1)), some (.ref (h.length + J1.length)), none, none, none, none, none, none, none, none, none]) (h' := h.set b (bagO L1 M1) ++ (J1 ++ [.dk []])) ?_).trans
      ((mSeq_nx (μ' := [some (.ref b), some (.d (.list (Lst.map .list))), some (.ref (h.length + Lst.length + 1)), some (.ref (h.length + J1.length)), x, y, none, none, none, none, none, none, none]) (h' := H3) ?_).trans
      ((mSeq_nx (μ' := [some (.ref b), some (.d (.list (Lst.map .list))), some (.ref (h.length + Lst.length + 1)), some (.ref (h.length + J1.length)), x, y, some (.ref (H3.length + Lst.length)), none, none, none, none, none, none]) (h' := H4) ?_).trans
      ((mSeq_nx (μ' := [some (.ref b), some (.d (.list (Lst.map .list))), some (.ref (h.length + Lst.length + 1)), some (.ref (h.length + J1.length)), x, y, some (.ref (H3.length + Lst.length)), some (.ref H4.length), none, none, none, none, none]) (h' := H5) ?_).trans
      ((mSeq_nx (μ' := [some (.ref b), some (.d (.list (Lst.map .list))), some (.ref (h.length + Lst.length + 1)), some (.ref (h.length + J1.length)), x, y, some (.ref (H3.length + Lst.length)), some (.ref H4.length), some (.ref mk), none, none, none, none]) (h' := H6) ?_).trans ef))))))
    · simp (disch := first | omega | decide | assumption | (unfold szL; simp only [List.length_cons, List.length_nil, List.length_append, List.length_map, List.length_singleton]; omega) | (unfold szL; simp only [List.length_cons, List.length_nil, Nat.reduceAdd, Nat.reduceLeDiff])) only [mDef, mStar, mSeq, mRet, mVar, mD, mBin, mCB, mCons, mNil, mIfS, mIf, mTB, mTru, mTAnd, mTOr, mTNot, mAnd, mOr, mNot, mNeg, mChain, mExpr, mAsg, mPar, gNm, gTp, gsCons, gsNil, gSb, mTup, mLst, mNext, mNever, mBreak, mCont, mFor, mAug, mIsi, mFld, mMeth, mBM, mCM, mSlice, mPart, mNoP, mDk, mDt, mIA, mIL, mIT, mIS, mIR1, mIR2, mIZ, mIE, mLc, mLc2, mYes, mRev, mRepr, mIsiC, mHas, mEqI, mLenI, Mini.R.bind_ok, Mini.R.thn_ok, Mini.R.bind_bad, Mini.R.thn_bad, ofO, asB, rB, rN, rI, List.length_cons, List.length_nil, List.map_cons, List.map_nil, List.cons_append, List.nil_append, List.getElem?_cons_zero, List.getElem?_cons_succ, List.getElem?_nil, List.replicate_succ, List.replicate_zero, Nat.reduceAdd, Nat.reduceSub, if_true, if_false, List.append_nil, List.set_cons_zero, List.set_cons_succ, reduceIte, Nat.reduceEqDiff, lst_d, lst_rl, lst_t, tup_d, tup_t, ix_dl, ix_rl, ix_dt, add_int, sub_int, lt_int, le_int, gt_int, ge_int, abs_int, max_int, min_int, rL_ok, rT_ok, len_dl, len_dt, len_rl, mul_int, div_int, mod_int, pow_int, atI_of, Int.reducePow, Int.reduceToNat, Int.reduceMod, Int.reduceAdd, Int.reduceSub, Int.reduceMul, Int.reduceDiv, Int.reduceLT, Int.reduceLE, decide_true, decide_false, tr_non, tr_bl, tr_int, tr_lst, tr_tup, ty_non, ty_bl, ty_int, ty_str, ty_lst, ty_tup, ty_tupm, instB, String.reduceBEq, Bool.or_true, Bool.or_false, Bool.true_or, Bool.false_or, Bool.and_true, Bool.and_false, Bool.true_and, Bool.false_and, Bool.not_true, Bool.not_false, beq_self_eq_true, pureAll, mkTup, pureAll_map, mkTup_d, List.length_append, List.length_singleton, e2, List.append_assoc, List.length_set]
    · have e0 : (mIA (mLst (mCons (mD (.str "a")) (mCons (mD (.str "b")) (mCons (mD (.str "")) (mCons (mD (.str "abcdefgh")) (mCons (mD (.str "zz")) mNil))))))) [some (.ref b), some (.d (.list (Lst.map .list))), some (.ref (h.length + Lst.length + 1)), some (.ref (h.length + J1.length)), none, none, none, none, none, none, none, none, none] (h.set b (bagO L1 M1) ++ (J1 ++ [.dk []])) = .ok (wordsM, sameL (.ref (h.length + (J1.length + 1))) wordsM) (h.set b (bagO L1 M1) ++ (J1 ++ [.dk [], .lst wordsM])) := by
        have hl : (h.set b (bagO L1 M1) ++ (J1 ++ [MO.dk []])).length = h.length + (J1.length + 1) := by simp
        have al : lstOf (h.set b (bagO L1 M1) ++ (J1 ++ [.dk [], .lst wordsM])) (.ref (h.length + (J1.length + 1))) = some wordsM := lst_ref (by
          have := at_last (A := h.set b (bagO L1 M1) ++ (J1 ++ [MO.dk []])) (o := .lst wordsM) (i := h.length + (J1.length + 1)) (by simp)
          simpa [List.append_assoc] using this)
        have er : rL wordsM (h.set b (bagO L1 M1) ++ (J1 ++ [.dk []])) = .ok (.ref (h.length + (J1.length + 1))) (h.set b (bagO L1 M1) ++ (J1 ++ [.dk [], .lst wordsM])) := by
          rw [rL_ok (by decide), hl]
          simp [List.append_assoc]
        have ew : (mLst (mCons (mD (.str "a")) (mCons (mD (.str "b")) (mCons (mD (.str "")) (mCons (mD (.str "abcdefgh")) (mCons (mD (.str "zz")) mNil)))))) [some (.ref b), some (.d (.list (Lst.map .list))), some (.ref (h.length + Lst.length + 1)), some (.ref (h.length + J1.length)), none, none, none, none, none, none, none, none, none] (h.set b (bagO L1 M1) ++ (J1 ++ [.dk []])) = rL wordsM (h.set b (bagO L1 M1) ++ (J1 ++ [.dk []])) := rfl
        unfold mIA
        rw [ew, er]
        simp only [Mini.R.bind_ok, al]
      unfold mFor
      rw [e0]
      simp only [Mini.R.thn_ok]
      rw [hH3]
      exact e3
    · simp only [mAsg, e4, Mini.R.thn_ok, gNm, List.set_cons_succ, List.set_cons_zero]
    · have := dictOf_eq (g34.at hF3)
      rw [← hH5] at this
      simp (disch := first | omega | decide | assumption | (unfold szL; simp only [List.length_cons, List.length_nil, List.length_append, List.length_map, List.length_singleton]; omega) | (unfold szL; simp only [List.length_cons, List.length_nil, Nat.reduceAdd, Nat.reduceLeDiff])) only [mDef, mStar, mSeq, mRet, mVar, mD, mBin, mCB, mCons, mNil, mIfS, mIf, mTB, mTru, mTAnd, mTOr, mTNot, mAnd, mOr, mNot, mNeg, mChain, mExpr, mAsg, mPar, gNm, gTp, gsCons, gsNil, gSb, mTup, mLst, mNext, mNever, mBreak, mCont, mFor, mAug, mIsi, mFld, mMeth, mBM, mCM, mSlice, mPart, mNoP, mDk, mDt, mIA, mIL, mIT, mIS, mIR1, mIR2, mIZ, mIE, mLc, mLc2, mYes, mRev, mRepr, mIsiC, mHas, mEqI, mLenI, Mini.R.bind_ok, Mini.R.thn_ok, Mini.R.bind_bad, Mini.R.thn_bad, ofO, asB, rB, rN, rI, List.length_cons, List.length_nil, List.map_cons, List.map_nil, List.cons_append, List.nil_append, List.getElem?_cons_zero, List.getElem?_cons_succ, List.getElem?_nil, List.replicate_succ, List.replicate_zero, Nat.reduceAdd, Nat.reduceSub, if_true, if_false, List.append_nil, List.set_cons_zero, List.set_cons_succ, reduceIte, Nat.reduceEqDiff, lst_d, lst_rl, lst_t, tup_d, tup_t, ix_dl, ix_rl, ix_dt, add_int, sub_int, lt_int, le_int, gt_int, ge_int, abs_int, max_int, min_int, rL_ok, rT_ok, len_dl, len_dt, len_rl, mul_int, div_int, mod_int, pow_int, atI_of, Int.reducePow, Int.reduceToNat, Int.reduceMod, Int.reduceAdd, Int.reduceSub, Int.reduceMul, Int.reduceDiv, Int.reduceLT, Int.reduceLE, decide_true, decide_false, tr_non, tr_bl, tr_int, tr_lst, tr_tup, ty_non, ty_bl, ty_int, ty_str, ty_lst, ty_tup, ty_tupm, instB, String.reduceBEq, Bool.or_true, Bool.or_false, Bool.true_or, Bool.false_or, Bool.and_true, Bool.and_false, Bool.true_and, Bool.false_and, Bool.not_true, Bool.not_false, beq_self_eq_true, pureAll, mkTup, pureAll_map, mkTup_d, List.length_append, List.length_singleton, this]
    · simp (disch := first | omega | decide | assumption | (unfold szL; simp only [List.length_cons, List.length_nil, List.length_append, List.length_map, List.length_singleton]; omega) | (unfold szL; simp only [List.length_cons, List.length_nil, Nat.reduceAdd, Nat.reduceLeDiff])) only [mDef, mStar, mSeq, mRet, mVar, mD, mBin, mCB, mCons, mNil, mIfS, mIf, mTB, mTru, mTAnd, mTOr, mTNot, mAnd, mOr, mNot, mNeg, mChain, mExpr, mAsg, mPar, gNm, gTp, gsCons, gsNil, gSb, mTup, mLst, mNext, mNever, mBreak, mCont, mFor, mAug, mIsi, mFld, mMeth, mBM, mCM, mSlice, mPart, mNoP, mDk, mDt, mIA, mIL, mIT, mIS, mIR1, mIR2, mIZ, mIE, mLc, mLc2, mYes, mRev, mRepr, mIsiC, mHas, mEqI, mLenI, Mini.R.bind_ok, Mini.R.thn_ok, Mini.R.bind_bad, Mini.R.thn_bad, ofO, asB, rB, rN, rI, List.length_cons, List.length_nil, List.map_cons, List.map_nil, List.cons_append, List.nil_append, List.getElem?_cons_zero, List.getElem?_cons_succ, List.getElem?_nil, List.replicate_succ, List.replicate_zero, Nat.reduceAdd, Nat.reduceSub, if_true, if_false, List.append_nil, List.set_cons_zero, List.set_cons_succ, reduceIte, Nat.reduceEqDiff, lst_d, lst_rl, lst_t, tup_d, tup_t, ix_dl, ix_rl, ix_dt, add_int, sub_int, lt_int, le_int, gt_int, ge_int, abs_int, max_int, min_int, rL_ok, rT_ok, len_dl, len_dt, len_rl, mul_int, div_int, mod_int, pow_int, atI_of, Int.reducePow, Int.reduceToNat, Int.reduceMod, Int.reduceAdd, Int.reduceSub, Int.reduceMul, Int.reduceDiv, Int.reduceLT, Int.reduceLE, decide_true, decide_false, tr_non, tr_bl, tr_int, tr_lst, tr_tup, ty_non, ty_bl, ty_int, ty_str, ty_lst, ty_tup, ty_tupm, instB, String.reduceBEq, Bool.or_true, Bool.or_false, Bool.true_or, Bool.false_or, Bool.and_true, Bool.and_false, Bool.true_and, Bool.false_and, Bool.not_true, Bool.not_false, beq_self_eq_true, pureAll, mkTup, pureAll_map, mkTup_d, List.length_append, List.length_singleton, e6]
  have := frz_ds (m := mDef 1 13 b_law_right) (us := [.ref b]) (p := .bool true) (b := b) (h := h.set b (bagO L M)) (o := bagO L3 M3) (t := Hf.drop (h.set b (bagO L3 M3)).length) rfl (by
    rw [List.set_set]
    rw [body]
    exact congrArg _ gAf.cut)
  rw [List.set_set] at this
  exact this
theorem law_true : ∀ ns, GoodS ns → ∃ h', m_law [.rl ns] [] = .ok (.d (.bool true)) h' := by
  intro ns hg
  have hlen := hg.1
  -- how many bags
  obtain ⟨K, hK, eK⟩ : ∃ K : Nat, K ≤ 4 ∧ ∀ h : MH, (mIR1 (mCB fMax2 (mCons (mD (.int 2)) (mCons (mCB fMin2 (mCons (mD (.int 4)) (mCons (mCB fLen (mCons (mVar 0) mNil)) mNil))) mNil)))) [some (.rl ns), none, none, none] h = .ok (rng 0 K, noChk) h := by
    refine ⟨(if (if (ns.length : Int) < 4 then (ns.length : Int) else 4) > 2 then (if (ns.length : Int) < 4 then (ns.length : Int) else 4) else 2).toNat, by split <;> split <;> omega, fun h => ?_⟩
    simp (disch := first | omega | decide | assumption | (unfold szL; simp only [List.length_cons, List.length_nil, List.length_append, List.length_map, List.length_singleton]; omega) | (unfold szL; simp only [List.length_cons, List.length_nil, Nat.reduceAdd, Nat.reduceLeDiff])) only [mDef, mStar, mSeq, mRet, mVar, mD, mBin, mCB, mCons, mNil, mIfS, mIf, mTB, mTru, mTAnd, mTOr, mTNot, mAnd, mOr, mNot, mNeg, mChain, mExpr, mAsg, mPar, gNm, gTp, gsCons, gsNil, gSb, mTup, mLst, mNext, mNever, mBreak, mCont, mFor, mAug, mIsi, mFld, mMeth, mBM, mCM, mSlice, mPart, mNoP, mDk, mDt, mIA, mIL, mIT, mIS, mIR1, mIR2, mIZ, mIE, mLc, mLc2, mYes, mRev, mRepr, mIsiC, mHas, mEqI, mLenI, Mini.R.bind_ok, Mini.R.thn_ok, Mini.R.bind_bad, Mini.R.thn_bad, ofO, asB, rB, rN, rI, List.length_cons, List.length_nil, List.map_cons, List.map_nil, List.cons_append, List.nil_append, List.getElem?_cons_zero, List.getElem?_cons_succ, List.getElem?_nil, List.replicate_succ, List.replicate_zero, Nat.reduceAdd, Nat.reduceSub, if_true, if_false, List.append_nil, List.set_cons_zero, List.set_cons_succ, reduceIte, Nat.reduceEqDiff, lst_d, lst_rl, lst_t, tup_d, tup_t, ix_dl, ix_rl, ix_dt, add_int, sub_int, lt_int, le_int, gt_int, ge_int, abs_int, max_int, min_int, rL_ok, rT_ok, len_dl, len_dt, len_rl, mul_int, div_int, mod_int, pow_int, atI_of, Int.reducePow, Int.reduceToNat, Int.reduceMod, Int.reduceAdd, Int.reduceSub, Int.reduceMul, Int.reduceDiv, Int.reduceLT, Int.reduceLE, decide_true, decide_false, tr_non, tr_bl, tr_int, tr_lst, tr_tup, ty_non, ty_bl, ty_int, ty_str, ty_lst, ty_tup, ty_tupm, instB, String.reduceBEq, Bool.or_true, Bool.or_false, Bool.true_or, Bool.false_or, Bool.and_true, Bool.and_false, Bool.true_and, Bool.false_and, Bool.not_true, Bool.not_false, beq_self_eq_true, pureAll, mkTup, pureAll_map, mkTup_d, List.length_append, List.length_singleton]
    rw [if_pos (by split <;> split <;> omega)]
  have inner : ∀ (h : MH) (L M : Int) (b : Nat) (m0 m1 m3 : Option MV), b < h.length → BagOk L M → ∃ L' M' y, BagOk L' M' ∧ (mFor (mIR1 (mD (.int 8))) (gNm 3) (mIfS (mTNot (mTru (mCB m_law_right (mCons (mVar 2) mNil)))) (mRet (mD (.bool false))) mNext)) [m0, m1, some (.ref b), m3] (h.set b (bagO L M)) = .nx [m0, m1, some (.ref b), y] (h.set b (bagO L' M')) := by
    intro h L M b m0 m1 m3 hb ok
    have e0 : (mIR1 (mD (.int 8))) [m0, m1, some (.ref b), m3] (h.set b (bagO L M)) = .ok (rng 0 8, noChk) (h.set b (bagO L M)) := rfl
    unfold mFor
    rw [e0]
    simp only [Mini.R.thn_ok]
    refine (forGo_inv (chk := noChk) (g := gNm 3) (b := (mIfS (mTNot (mTru (mCB m_law_right (mCons (mVar 2) mNil)))) (mRet (mD (.bool false))) mNext)) (fun _ μ h' => ∃ L' M' y, BagOk L' M' ∧ μ = [m0, m1, some (.ref b), y] ∧ h' = h.set b (bagO L' M')) (rng 0 8) 0 _ _ ⟨L, M, m3, ok, rfl, rfl⟩ (fun k z μ h' hz ⟨L1, M1, y, ok1, hμ, hh⟩ => ?_) (fun _ _ _ => rfl)).elim fun μ' ⟨h', e, L1, M1, y, ok1, hμ, hh⟩ => ⟨L1, M1, y, ok1, e.trans (by rw [hμ, hh])⟩
    subst hμ hh
    obtain ⟨L2, M2, ok2, e2⟩ := right_at hb ok1
    refine ⟨rfl, _, _, rfl, _, _, .inl ?_, L2, M2, some z, ok2, rfl, rfl⟩
    simp (disch := first | omega | decide | assumption | (unfold szL; simp only [List.length_cons, List.length_nil, List.length_append, List.length_map, List.length_singleton]; omega) | (unfold szL; simp only [List.length_cons, List.length_nil, Nat.reduceAdd, Nat.reduceLeDiff])) only [mDef, mStar, mSeq, mRet, mVar, mD, mBin, mCB, mCons, mNil, mIfS, mIf, mTB, mTru, mTAnd, mTOr, mTNot, mAnd, mOr, mNot, mNeg, mChain, mExpr, mAsg, mPar, gNm, gTp, gsCons, gsNil, gSb, mTup, mLst, mNext, mNever, mBreak, mCont, mFor, mAug, mIsi, mFld, mMeth, mBM, mCM, mSlice, mPart, mNoP, mDk, mDt, mIA, mIL, mIT, mIS, mIR1, mIR2, mIZ, mIE, mLc, mLc2, mYes, mRev, mRepr, mIsiC, mHas, mEqI, mLenI, Mini.R.bind_ok, Mini.R.thn_ok, Mini.R.bind_bad, Mini.R.thn_bad, ofO, asB, rB, rN, rI, List.length_cons, List.length_nil, List.map_cons, List.map_nil, List.cons_append, List.nil_append, List.getElem?_cons_zero, List.getElem?_cons_succ, List.getElem?_nil, List.replicate_succ, List.replicate_zero, Nat.reduceAdd, Nat.reduceSub, if_true, if_false, List.append_nil, List.set_cons_zero, List.set_cons_succ, reduceIte, Nat.reduceEqDiff, lst_d, lst_rl, lst_t, tup_d, tup_t, ix_dl, ix_rl, ix_dt, add_int, sub_int, lt_int, le_int, gt_int, ge_int, abs_int, max_int, min_int, rL_ok, rT_ok, len_dl, len_dt, len_rl, mul_int, div_int, mod_int, pow_int, atI_of, Int.reducePow, Int.reduceToNat, Int.reduceMod, Int.reduceAdd, Int.reduceSub, Int.reduceMul, Int.reduceDiv, Int.reduceLT, Int.reduceLE, decide_true, decide_false, tr_non, tr_bl, tr_int, tr_lst, tr_tup, ty_non, ty_bl, ty_int, ty_str, ty_lst, ty_tup, ty_tupm, instB, String.reduceBEq, Bool.or_true, Bool.or_false, Bool.true_or, Bool.false_or, Bool.and_true, Bool.and_false, Bool.true_and, Bool.false_and, Bool.not_true, Bool.not_false, beq_self_eq_true, pureAll, mkTup, pureAll_map, mkTup_d, List.length_append, List.length_singleton, e2]
  have body : ∃ h', mDef 1 4 b_law [.rl ns] [] = .ok (.d (.bool true)) h' := by
    unfold b_law
    have lp : ∃ μ' h', (mFor (mIR1 (mCB fMax2 (mCons (mD (.int 2)) (mCons (mCB fMin2 (mCons (mD (.int 4)) (mCons (mCB fLen (mCons (mVar 0) mNil)) mNil))) mNil)))) (gNm 1) (mSeq (mAsg (mCB m_law_bag (mCons (mVar 0) (mCons (mVar 1) mNil))) (gNm 2))
    (mFor (mIR1 (mD (.int 8))) (gNm 3) (mIfS (mTNot (mTru (mCB m_law_right (mCons (mVar 2) mNil)))) (mRet (mD (.bool false))) mNext)))) [some (.rl ns), none, none, none] [] = .nx μ' h' := by
      unfold mFor
      rw [eK]
      simp only [Mini.R.thn_ok]
      refine (forGo_inv (chk := noChk) (g := gNm 1) (b := (mSeq (mAsg (mCB m_law_bag (mCons (mVar 0) (mCons (mVar 1) mNil))) (gNm 2))
    (mFor (mIR1 (mD (.int 8))) (gNm 3) (mIfS (mTNot (mTru (mCB m_law_right (mCons (mVar 2) mNil)))) (mRet (mD (.bool false))) mNext)))) (fun _ μ h' => ∃ m1 m2 m3, μ = [some (.rl ns), m1, m2, m3]) (rng 0 K) 0 _ _ ⟨none, none, none, rfl⟩ (fun k z μ h' hz ⟨m1, m2, m3, hμ⟩ => ?_) (fun _ _ _ => rfl)).elim fun μ' ⟨h', e, _⟩ => ⟨μ', h', e⟩
      subst hμ
      have hk : k < K := by
        have := (List.getElem?_eq_some_iff.mp hz).1
        simpa [rng] using this
      obtain rfl : z = .d (.int (k : Int)) := by
        have : (rng 0 K)[k]? = some (.d (.int (k : Int))) := by
          simp only [rng, List.getElem?_map, List.getElem?_range hk]
          simp
        rw [hz] at this
        exact Option.some.inj this
      obtain ⟨L, M, ok, eb⟩ := bag_eq ns (k : Int) (by omega) (by omega) h'
      obtain ⟨L2, M2, y, ok2, e2⟩ := inner (h' ++ [bagO L M]) L M h'.length (some (.rl ns)) (some (.d (.int (k : Int)))) m3 (by simp) ok
      rw [set_last rfl] at e2
      refine ⟨rfl, _, _, rfl, _, _, .inl ((mSeq_nx (μ' := [some (.rl ns), some (.d (.int (k : Int))), some (.ref h'.length), m3]) (h' := h' ++ [bagO L M]) ?_).trans e2), _, _, _, rfl⟩
      simp (disch := first | omega | decide | assumption | (unfold szL; simp only [List.length_cons, List.length_nil, List.length_append, List.length_map, List.length_singleton]; omega) | (unfold szL; simp only [List.length_cons, List.length_nil, Nat.reduceAdd, Nat.reduceLeDiff])) only [mDef, mStar, mSeq, mRet, mVar, mD, mBin, mCB, mCons, mNil, mIfS, mIf, mTB, mTru, mTAnd, mTOr, mTNot, mAnd, mOr, mNot, mNeg, mChain, mExpr, mAsg, mPar, gNm, gTp, gsCons, gsNil, gSb, mTup, mLst, mNext, mNever, mBreak, mCont, mFor, mAug, mIsi, mFld, mMeth, mBM, mCM, mSlice, mPart, mNoP, mDk, mDt, mIA, mIL, mIT, mIS, mIR1, mIR2, mIZ, mIE, mLc, mLc2, mYes, mRev, mRepr, mIsiC, mHas, mEqI, mLenI, Mini.R.bind_ok, Mini.R.thn_ok, Mini.R.bind_bad, Mini.R.thn_bad, ofO, asB, rB, rN, rI, List.length_cons, List.length_nil, List.map_cons, List.map_nil, List.cons_append, List.nil_append, List.getElem?_cons_zero, List.getElem?_cons_succ, List.getElem?_nil, List.replicate_succ, List.replicate_zero, Nat.reduceAdd, Nat.reduceSub, if_true, if_false, List.append_nil, List.set_cons_zero, List.set_cons_succ, reduceIte, Nat.reduceEqDiff, lst_d, lst_rl, lst_t, tup_d, tup_t, ix_dl, ix_rl, ix_dt, add_int, sub_int, lt_int, le_int, gt_int, ge_int, abs_int, max_int, min_int, rL_ok, rT_ok, len_dl, len_dt, len_rl, mul_int, div_int, mod_int, pow_int, atI_of, Int.reducePow, Int.reduceToNat, Int.reduceMod, Int.reduceAdd, Int.reduceSub, Int.reduceMul, Int.reduceDiv, Int.reduceLT, Int.reduceLE, decide_true, decide_false, tr_non, tr_bl, tr_int, tr_lst, tr_tup, ty_non, ty_bl, ty_int, ty_str, ty_lst, ty_tup, ty_tupm, instB, String.reduceBEq, Bool.or_true, Bool.or_false, Bool.true_or, Bool.false_or, Bool.and_true, Bool.and_false, Bool.true_and, Bool.false_and, Bool.not_true, Bool.not_false, beq_self_eq_true, pureAll, mkTup, pureAll_map, mkTup_d, List.length_append, List.length_singleton, eb]
    obtain ⟨μ', h', e⟩ := lp
    exact ⟨h', mDef_rt ((mSeq_nx e).trans rfl)⟩
  obtain ⟨h', e⟩ := body
  refine ⟨h'.take 0, ?_⟩
  exact frz_d e (fun _ => by simp)
end Law
namespace Law
open PySem PySem.Spec PyProof.Rows L2 Mini
abbrev RR : PySem.W.OpenRow := PySem.W.OpenLaw.row PySem.Challenge.rw_ringlists_k74_heaps_filled
abbrev hk : PySem.W.Hook := hookM 5 bfL fnL
def ob (s : PySem.W.SharedT) : AlM := obsMG 5 bfL fnL (HandSHeadRun.getT s)
theorem ob_eq (s : PySem.W.SharedT) : ob s = hk.obs s.abs := obsMG_eq (HandSHeadRun.getT_eq s)
def names : List Str := ["_wall", "RingError", "BadItem", "NoBox", "NoPlace", "Full", "BOX", "LETTERS", "MOST_LETTERS", "is_integer", "is_within", "is_word", "is_leaf", "is_reference", "is_item", "Heap", "filled", "_law_bag", "_law_take", "_law_leaf", "_law_contents", "_law_twofold", "_law_heap", "_law_ringed", "_law_right"]
theorem run (w : World) : HandSHeadRun.RunEq RR (PySem.W.view RR.prog [30]) hk ob 3000 names w := by
  intro os
  kernel_rfl
end Law
open PySem PySem.W PySem.Calls PyProof.Rows
theorem PySem.Challenge.cw_ringlists_k74_heaps_filled_holds : PySem.Challenge.rw_ringlists_k74_heaps_filled.Holds := by
  w_on; o_law
  refine HandSHeadRun.head_any (r := OpenLaw.row PySem.Challenge.rw_ringlists_k74_heaps_filled) (q := view (OpenLaw.row PySem.Challenge.rw_ringlists_k74_heaps_filled).prog [30]) (H := Law.hk) (ob := Law.ob) (M := 3000) (loose := Law.names) (d := HandSHeadRun.topDef (OpenLaw.row PySem.Challenge.rw_ringlists_k74_heaps_filled).prog 30) (kwd := []) Law.ob_eq
    (by kernel_rfl) (fun s => by kernel_rfl) Law.run (by kernel_rfl) (by kernel_rfl) (by kernel_rfl) (by rfl) (by first | assumption | decide +kernel) (by decide +kernel) ⟨rfl, rfl, rfl, rfl, rfl, by decide +kernel⟩ ?hw ?hc
  case hw => w_witness2
  case hc =>
    refine Mini.walk_end (l := PySem.Challenge.rw_ringlists_k74_heaps_filled) (k := 18) (cn := Law.cnT) (m := Law.m_law) rfl (by kernel_rfl) ⟨rfl, by decide, by decide⟩ ?F Law.law_true
    intro w mg fa h Y G hmg0
    obtain ⟨K, KX, c⟩ := Y
    have hmg : mg ("law" : PySem.Str) = some (.ref fa) := by
      have e : (HandSHeadRun.topDef (OpenLaw.row PySem.Challenge.rw_ringlists_k74_heaps_filled).prog 30).name = ("law" : PySem.Str) := by kernel_rfl
      rw [← e]
      exact hmg0
    exact ⟨K, KX, Law.facts KX G hmg c⟩
