import PyProof.Rows.All
import Wide.All
import OpenK.AllK
import Wide.FinOn
import HandS.ForMost
import HandS.ForExc
import HandS.IsInst
import HandS.ExcInit
import HandS.ExcField
import HandS.TryMany
import HandS.Wide
import HandS.FStr
import HandS.EndBits
import PyProof.ReprRoads
import HandS.Style
import HandS.SortInts
import HandS.WordsDict
import HandS.Replace
import HandS.Text
import HandS.SetFor
import HandS.Strs
import HandS.HotCalls
import HandS.Conv
import OpenK.KOps
import HandS.TupSets
import PyProof.StrOps2
import PyProof.MinMaxWalk
import HandS.SortKw
import HandS.SetBool
import HandS.MakeKwOnly
import HandS.Deep
import PySem.Challenge.RW_kettletones_k34_moments_that_show_a_crow
set_option Elab.async false
set_option linter.all false
set_option maxRecDepth 100000
set_option maxHeartbeats 4000000
/-! Kt1: data as trees over the abstract heap; a state of slots and named things; what stays. -/
namespace Kt
open PySem PySem.Spec L2

inductive D where
  | non | bl (b : Bool) | int (i : Int) | str (x : Str)
  | lst (ds : List D) | tup (ds : List D) | dct (ks : List (Key × D))
  | obj (n : Nat) | part (ns : List D) | frl (ds : List D)

structure Cf where
  K : PySem.W.Frag
  cl : String → Addr

mutual
inductive Rz (c : Cf) (F : Hp) (ν : List Addr) : V → D → Prop
  | non : Rz c F ν .non .non
  | bl (b : Bool) : Rz c F ν (.bl b) (.bl b)
  | int (i : Int) : Rz c F ν (.int i) (.int i)
  | str (x : Str) : Rz c F ν (.str x) (.str x)
  | lst {a : Addr} {xs : List V} {ds : List D} : F a = some (.lst xs) → RzAll c F ν xs ds → Rz c F ν (.ref a) (.lst ds)
  | frl {a : Addr} {xs : List V} {ds : List D} : SqL c.K F a xs → RzAll c F ν xs ds → Rz c F ν (.ref a) (.frl ds)
  | tup {a : Addr} {xs : List V} {ds : List D} : SqT c.K F a xs → RzAll c F ν xs ds → Rz c F ν (.ref a) (.tup ds)
  | dct {a : Addr} {kvs : List (Key × V)} {ks : List (Key × D)} : F a = some (.dK kvs) → RzKv c F ν kvs ks → Rz c F ν (.ref a) (.dct ks)
  | obj {a : Addr} {n : Nat} : ν[n]? = some a → Rz c F ν (.ref a) (.obj n)
  | part {a l dx : Addr} {vs : List V} {ns : List D} : F a = some (.ins (c.cl "Part") dx [("part_notes", .ref l)]) → F l = some (.lst vs) → RzAll c F ν vs ns → Rz c F ν (.ref a) (.part ns)
inductive RzAll (c : Cf) (F : Hp) (ν : List Addr) : List V → List D → Prop
  | nil : RzAll c F ν [] []
  | cons {v : V} {vs : List V} {d : D} {ds : List D} : Rz c F ν v d → RzAll c F ν vs ds → RzAll c F ν (v :: vs) (d :: ds)
inductive RzKv (c : Cf) (F : Hp) (ν : List Addr) : List (Key × V) → List (Key × D) → Prop
  | nil : RzKv c F ν [] []
  | cons {k : Key} {v : V} {vs : List (Key × V)} {d : D} {ds : List (Key × D)} : Rz c F ν v d → RzKv c F ν vs ds → RzKv c F ν ((k, v) :: vs) ((k, d) :: ds)
end

structure Ext (F : Hp) (ν : List Addr) (F' : Hp) (ν' : List Addr) : Prop where
  s : Same F F'
  p : ν <+: ν'
theorem Ext.refl {F : Hp} {ν : List Addr} : Ext F ν F ν := ⟨Same.refl F, List.prefix_refl ν⟩
theorem Ext.trans {F F1 F2 : Hp} {ν ν1 ν2 : List Addr} (a : Ext F ν F1 ν1) (b : Ext F1 ν1 F2 ν2) : Ext F ν F2 ν2 := ⟨a.s.trans b.s, a.p.trans b.p⟩
theorem pre_get {α : Type} {l l' : List α} (h : l <+: l') {n : Nat} {a : α} (e : l[n]? = some a) : l'[n]? = some a := by
  obtain ⟨t, rfl⟩ := h
  rw [List.getElem?_append_left (List.getElem?_eq_some_iff.mp e).1]
  exact e
theorem sql_mono {K : PySem.W.Frag} {F F' : Hp} {a : Addr} {xs : List V} (e : Same F F') (h : SqL K F a xs) : SqL K F' a xs := by
  rcases h with (q | ⟨o, q⟩) | q
  · exact Or.inl (Or.inl (e a _ q))
  · exact Or.inl (Or.inr ⟨o, e a _ q⟩)
  · exact Or.inr q
theorem sqt_mono {K : PySem.W.Frag} {F F' : Hp} {a : Addr} {xs : List V} (e : Same F F') (h : SqT K F a xs) : SqT K F' a xs := by
  rcases h with (q | ⟨o, q⟩) | q
  · exact Or.inl (Or.inl (e a _ q))
  · exact Or.inl (Or.inr ⟨o, e a _ q⟩)
  · exact Or.inr q
section
variable {c : Cf} {F F' : Hp} {ν ν' : List Addr}
mutual
theorem Rz.mono (x : Ext F ν F' ν') : ∀ {v : V} {d : D}, Rz c F ν v d → Rz c F' ν' v d
  | _, _, .non => .non
  | _, _, .bl b => .bl b
  | _, _, .int i => .int i
  | _, _, .str y => .str y
  | _, _, .lst h r => .lst (x.s _ _ h) (RzAll.mono x r)
  | _, _, .frl h r => .frl (sql_mono x.s h) (RzAll.mono x r)
  | _, _, .tup h r => .tup (sqt_mono x.s h) (RzAll.mono x r)
  | _, _, .dct h r => .dct (x.s _ _ h) (RzKv.mono x r)
  | _, _, .obj h => .obj (pre_get x.p h)
  | _, _, .part h h2 r => .part (x.s _ _ h) (x.s _ _ h2) (RzAll.mono x r)
theorem RzAll.mono (x : Ext F ν F' ν') : ∀ {v : List V} {d : List D}, RzAll c F ν v d → RzAll c F' ν' v d
  | _, _, .nil => .nil
  | _, _, .cons a r => .cons (Rz.mono x a) (RzAll.mono x r)
theorem RzKv.mono (x : Ext F ν F' ν') : ∀ {v : List (Key × V)} {d : List (Key × D)}, RzKv c F ν v d → RzKv c F' ν' v d
  | _, _, .nil => .nil
  | _, _, .cons a r => .cons (Rz.mono x a) (RzKv.mono x r)
end
theorem RzAll.length : ∀ {vs : List V} {ds : List D}, RzAll c F ν vs ds → vs.length = ds.length
  | _, _, .nil => rfl
  | _, _, .cons _ r => congrArg (· + 1) (RzAll.length r)
theorem RzAll.get : ∀ {vs : List V} {ds : List D} {i : Nat} {d : D}, RzAll c F ν vs ds → ds[i]? = some d → ∃ v, vs[i]? = some v ∧ Rz c F ν v d
  | _, _, _, _, .nil, e => by simp at e
  | _, _, 0, _, .cons a _, e => by simp at e; subst e; exact ⟨_, rfl, a⟩
  | _, _, i + 1, d, .cons _ r, e => by
    obtain ⟨v, h1, h2⟩ := RzAll.get (i := i) (d := d) r (by simpa using e)
    exact ⟨v, by simpa using h1, h2⟩
theorem RzAll.getV : ∀ {vs : List V} {ds : List D} {i : Nat} {v : V}, RzAll c F ν vs ds → vs[i]? = some v → ∃ d, ds[i]? = some d ∧ Rz c F ν v d
  | _, _, _, _, .nil, e => by simp at e
  | _, _, 0, _, .cons a _, e => by simp at e; subst e; exact ⟨_, rfl, a⟩
  | _, _, i + 1, d, .cons _ r, e => by
    obtain ⟨v, h1, h2⟩ := RzAll.getV (i := i) (v := d) r (by simpa using e)
    exact ⟨v, by simpa using h1, h2⟩
theorem RzAll.append : ∀ {vs vs' : List V} {ds ds' : List D}, RzAll c F ν vs ds → RzAll c F ν vs' ds' → RzAll c F ν (vs ++ vs') (ds ++ ds')
  | _, _, _, _, .nil, s => s
  | _, _, _, _, .cons a r, s => .cons a (RzAll.append r s)
theorem RzAll.set {v : V} {d : D} (r : Rz c F ν v d) : ∀ {vs : List V} {ds : List D} (i : Nat), RzAll c F ν vs ds → RzAll c F ν (vs.set i v) (ds.set i d)
  | _, _, _, .nil => .nil
  | _, _, 0, .cons _ t => .cons r t
  | _, _, i + 1, .cons q t => .cons q (RzAll.set r i t)
theorem RzAll.take : ∀ {vs : List V} {ds : List D} (n : Nat), RzAll c F ν vs ds → RzAll c F ν (vs.take n) (ds.take n)
  | _, _, 0, _ => .nil
  | _, _, _ + 1, .nil => .nil
  | _, _, n + 1, .cons q t => .cons q (RzAll.take n t)
theorem RzAll.drop : ∀ {vs : List V} {ds : List D} (n : Nat), RzAll c F ν vs ds → RzAll c F ν (vs.drop n) (ds.drop n)
  | _, _, 0, r => r
  | _, _, _ + 1, .nil => .nil
  | _, _, n + 1, .cons _ t => RzAll.drop n t
theorem RzAll.rev {vs : List V} {ds : List D} (r : RzAll c F ν vs ds) : RzAll c F ν vs.reverse ds.reverse := by
  induction vs generalizing ds with
  | nil => cases r; exact .nil
  | cons v vs ih =>
    cases r with
    | cons a t => rw [List.reverse_cons, List.reverse_cons]; exact (ih t).append (.cons a .nil)
theorem rz_ints : ∀ (ns : List Int), RzAll c F ν (ns.map V.int) (ns.map D.int)
  | [] => .nil
  | n :: ns => .cons (.int n) (rz_ints ns)
theorem rz_ints_inv : ∀ {vs : List V} {ns : List Int}, RzAll c F ν vs (ns.map D.int) → vs = ns.map V.int
  | _, [], .nil => rfl
  | _, n :: ns, .cons a r => by cases a; rw [rz_ints_inv r]; rfl
theorem rz_strs_inv : ∀ {vs : List V} {ns : List Str}, RzAll c F ν vs (ns.map D.str) → vs = ns.map V.str
  | _, [], .nil => rfl
  | _, n :: ns, .cons a r => by cases a; rw [rz_strs_inv r]; rfl
theorem rz_bls_inv : ∀ {vs : List V} {ns : List Bool}, RzAll c F ν vs (ns.map D.bl) → vs = ns.map V.bl
  | _, [], .nil => rfl
  | _, n :: ns, .cons a r => by cases a; rw [rz_bls_inv r]; rfl
end

/-! ### the state of a def's body -/
inductive Ob where
  | lst (ds : List D) | dct (ks : List (Key × D))
inductive SV where
  | d (x : D) | ol (ds : List D) | od (ks : List (Key × D)) | ex (a dx : Addr) (fs : List (Str × D)) | oi (a : Addr) (cls : String) (fs : List (Str × D))
structure S where
  sl : List (Option SV)
  st : List Ob
structure Bs where
  H : Hp
  F : Hp
  ν : List Addr
def Frs (B : Bs) (F : Hp) (ν : List Addr) (a : Addr) : Prop := B.H a = none ∧ F a = none ∧ a ∉ ν
inductive RzFs (c : Cf) (F : Hp) (ν : List Addr) : List (Str × V) → List (Str × D) → Prop
  | nil : RzFs c F ν [] []
  | cons {k : Str} {v : V} {vs : List (Str × V)} {d : D} {ds : List (Str × D)} : Rz c F ν v d → RzFs c F ν vs ds → RzFs c F ν ((k, v) :: vs) ((k, d) :: ds)
theorem RzFs.mono {c : Cf} {F F' : Hp} {ν ν' : List Addr} (x : Ext F ν F' ν') : ∀ {v : List (Str × V)} {d : List (Str × D)}, RzFs c F ν v d → RzFs c F' ν' v d
  | _, _, .nil => .nil
  | _, _, .cons a r => .cons (Rz.mono x a) (RzFs.mono x r)
theorem RzFs.get {c : Cf} {F : Hp} {ν : List Addr} {f : Str} : ∀ {vs : List (Str × V)} {ds : List (Str × D)} {d : D}, RzFs c F ν vs ds → ds.lookup f = some d → ∃ v, vs.lookup f = some v ∧ Rz c F ν v d
  | _, _, _, .nil, e => by simp at e
  | _, _, d, .cons (k := k) a r, e => by
    rw [List.lookup_cons] at e ⊢
    cases h : f == k with
    | true => rw [h] at e; cases e; exact ⟨_, rfl, a⟩
    | false => rw [h] at e; exact RzFs.get r e
inductive RzS (c : Cf) (B : Bs) (H F : Hp) (ν : List Addr) : V → SV → Prop
  | d {v : V} {x : D} : Rz c F ν v x → RzS c B H F ν v (.d x)
  | ol {a : Addr} {vs : List V} {ds : List D} : Frs B F ν a → H a = some (.lst vs) → RzAll c F ν vs ds → RzS c B H F ν (.ref a) (.ol ds)
  | od {a : Addr} {vs : List (Key × V)} {ds : List (Key × D)} : Frs B F ν a → H a = some (.dK vs) → RzKv c F ν vs ds → RzS c B H F ν (.ref a) (.od ds)
  | ex {a dx : Addr} {vs : List (Str × V)} {fs : List (Str × D)} : F dx = some (.xd vs) → RzFs c F ν vs fs → RzS c B H F ν (.ref a) (.ex a dx fs)
  | oi {a dx : Addr} {cls : String} {vs : List (Str × V)} {fs : List (Str × D)} : Frs B F ν a → H a = some (.ins (c.cl cls) dx vs) → RzFs c F ν vs fs → RzS c B H F ν (.ref a) (.oi a cls fs)
inductive RzO (c : Cf) (F : Hp) (ν : List Addr) : HO → Ob → Prop
  | lst {vs : List V} {ds : List D} : RzAll c F ν vs ds → RzO c F ν (.lst vs) (.lst ds)
  | dct {vs : List (Key × V)} {ds : List (Key × D)} : RzKv c F ν vs ds → RzO c F ν (.dK vs) (.dct ds)
theorem RzO.mono {c : Cf} {F F' : Hp} {ν ν' : List Addr} (x : Ext F ν F' ν') {o : HO} {b : Ob} (r : RzO c F ν o b) : RzO c F' ν' o b := by
  cases r with
  | lst q => exact .lst (q.mono x)
  | dct q => exact .dct (q.mono x)
def SV.own : SV → Bool
  | .ol _ => true
  | .od _ => true
  | .oi _ _ _ => true
  | _ => false
structure R (c : Cf) (B : Bs) (S : S) (σ : St) (H F : Hp) (ν : List Addr) : Prop where
  sub : Same F H
  f0 : Same B.F F
  fz : ∀ a o, F a = some o → B.F a = some o ∨ B.H a = none
  kp : ∀ a o, B.H a = some o → a ∉ B.ν → H a = some o
  nu : ∃ μ, ν = B.ν ++ μ ∧ ∀ a ∈ μ, B.H a = none
  nd : ν.Nodup
  nf : ∀ a ∈ ν, F a = none
  ln : S.sl.length = σ.length
  sl : ∀ (i : Nat) x, S.sl[i]? = some (some x) → ∃ v, σ[i]? = some (some v) ∧ RzS c B H F ν v x
  ap : ∀ (i j : Nat) x y a, S.sl[i]? = some (some x) → S.sl[j]? = some (some y) → x.own = true → y.own = true → σ[i]? = some (some (.ref a)) → σ[j]? = some (some (.ref a)) → i = j
  sn : S.st.length = ν.length
  st : ∀ (n : Nat) ob a, S.st[n]? = some ob → ν[n]? = some a → ∃ o, H a = some o ∧ RzO c F ν o ob

theorem mut_of_rzo {c : Cf} {F : Hp} {ν : List Addr} {o : HO} {b : Ob} (r : RzO c F ν o b) : Mut (some o) := by
  cases r <;> exact True.intro
section
variable {c : Cf} {B : Bs} {s : S} {σ : St} {H F : Hp} {ν : List Addr}
theorem R.named (r : R c B s σ H F ν) {a : Addr} (h : a ∈ ν) : ∃ o, H a = some o := by
  obtain ⟨n, e⟩ := List.getElem?_of_mem h
  have hn : n < s.st.length := by rw [r.sn]; exact (List.getElem?_eq_some_iff.mp e).1
  obtain ⟨o, q, _⟩ := r.st n s.st[n] a (by simp [hn]) e
  exact ⟨o, q⟩
theorem R.fresh (r : R c B s σ H F ν) {p : Addr} (h : H p = none) : Frs B F ν p := by
  have h3 : p ∉ ν := fun z => by
    obtain ⟨o, q⟩ := r.named z
    rw [h] at q; cases q
  refine ⟨?_, r.sub.free h, h3⟩
  cases e : B.H p with
  | none => rfl
  | some o =>
    have hb : p ∉ B.ν := fun z => by
      obtain ⟨μ, e2, _⟩ := r.nu
      exact h3 (by rw [e2]; exact List.mem_append_left _ z)
    have q := r.kp p o e hb
    rw [h] at q; cases q
theorem Frs.frozen {a p : Addr} {o : HO} (h : Frs B F ν a) (ne : a ≠ p) : Frs B (upd F p o) ν a := ⟨h.1, by rw [upd_ne ne]; exact h.2.1, h.2.2⟩
theorem same_upd {F : Hp} {p : Addr} {o : HO} (h : F p = none) : Same F (upd F p o) := fun b u e => by
  rw [upd_ne (ne_of_none e h)]; exact e
theorem ext_upd {p : Addr} {o : HO} (h : F p = none) : Ext F ν (upd F p o) ν := ⟨same_upd h, List.prefix_refl ν⟩
/-- a slot's thing, where the heap grows and its own cell stays -/
theorem RzS.mono {c : Cf} {B : Bs} {H H' F F' : Hp} {ν ν' : List Addr} (x : Ext F ν F' ν') {v : V} {y : SV} (h : RzS c B H F ν v y)
    (k : ∀ a o, v = .ref a → y.own = true → Frs B F ν a → H a = some o → Frs B F' ν' a ∧ H' a = some o) : RzS c B H' F' ν' v y := by
  cases h with
  | d r => exact .d (r.mono x)
  | ol f e r => obtain ⟨f', e'⟩ := k _ _ rfl rfl f e; exact .ol f' e' (r.mono x)
  | od f e r => obtain ⟨f', e'⟩ := k _ _ rfl rfl f e; exact .od f' e' (r.mono x)
  | ex e r => exact .ex (x.s _ _ e) (r.mono x)
  | oi f e r => obtain ⟨f', e'⟩ := k _ _ rfl rfl f e; exact .oi f' e' (r.mono x)
/-- a new thing, frozen -/
theorem R.froze (r : R c B s σ H F ν) {p : Addr} {o : HO} (h : H p = none) : R c B s σ (upd H p o) (upd F p o) ν := by
  have hf := r.fresh h
  have x : Ext F ν (upd F p o) ν := ext_upd hf.2.1
  have keep : ∀ b u, H b = some u → upd H p o b = some u := same_upd h
  refine ⟨fun b u e => ?_, fun b u e => x.s b u (r.f0 b u e), fun b u e => ?_, fun a u e n => keep a u (r.kp a u e n), r.nu, r.nd, fun a m => ?_, r.ln, fun i y e => ?_, r.ap, r.sn, fun n ob a e1 e2 => ?_⟩
  · by_cases hb : b = p
    · subst hb; rw [upd_same] at e ⊢; exact e
    · rw [upd_ne hb] at e; exact keep b u (r.sub b u e)
  · by_cases hb : b = p
    · subst hb; exact .inr hf.1
    · rw [upd_ne hb] at e; exact r.fz b u e
  · have ne : a ≠ p := fun z => hf.2.2 (z ▸ m)
    rw [upd_ne ne]; exact r.nf a m
  · obtain ⟨v, h1, h2⟩ := r.sl i y e
    exact ⟨v, h1, h2.mono x fun a u _ _ f q => ⟨f.frozen (ne_of_none q h), keep a u q⟩⟩
  · obtain ⟨u, h1, h2⟩ := r.st n ob a e1 e2
    exact ⟨u, keep a u h1, h2.mono x⟩
/-- a new thing with a name -/
theorem R.names (r : R c B s σ H F ν) {p : Addr} {o : HO} {ob : Ob} (h : H p = none) (q : RzO c F ν o ob) : R c B ⟨s.sl, s.st ++ [ob]⟩ σ (upd H p o) F (ν ++ [p]) ∧ Ext F ν F (ν ++ [p]) := by
  have hf := r.fresh h
  have x : Ext F ν F (ν ++ [p]) := ⟨Same.refl F, ⟨[p], rfl⟩⟩
  have keep : ∀ b u, H b = some u → upd H p o b = some u := same_upd h
  refine ⟨⟨fun b u e => keep b u (r.sub b u e), r.f0, r.fz, fun a u e n => keep a u (r.kp a u e n), ?_, ?_, fun a m => ?_, r.ln, fun i y e => ?_, r.ap, ?_, fun n ob' a e1 e2 => ?_⟩, x⟩
  · obtain ⟨μ, e, z⟩ := r.nu
    refine ⟨μ ++ [p], by rw [e, List.append_assoc], fun a m => ?_⟩
    rcases List.mem_append.mp m with m | m
    · exact z a m
    · rw [List.mem_singleton.mp m]; exact hf.1
  · rw [List.nodup_append]
    refine ⟨r.nd, by simp, fun a m b mb => ?_⟩
    rw [List.mem_singleton.mp mb]
    rintro rfl
    exact hf.2.2 m
  · rcases List.mem_append.mp m with m | m
    · exact r.nf a m
    · rw [List.mem_singleton.mp m]; exact hf.2.1
  · obtain ⟨v, h1, h2⟩ := r.sl i y e
    refine ⟨v, h1, h2.mono x fun a u _ _ f q => ⟨⟨f.1, f.2.1, fun m => ?_⟩, keep a u q⟩⟩
    rcases List.mem_append.mp m with m | m
    · exact f.2.2 m
    · exact ne_of_none q h (List.mem_singleton.mp m)
  · show (s.st ++ [ob]).length = (ν ++ [p]).length
    rw [List.length_append, List.length_append, r.sn]; rfl
  · have e1' : (s.st ++ [ob])[n]? = some ob' := e1
    by_cases hn : n < s.st.length
    · rw [List.getElem?_append_left hn] at e1'
      rw [List.getElem?_append_left (by rw [← r.sn]; exact hn)] at e2
      obtain ⟨u, h1, h2⟩ := r.st n ob' a e1' e2
      exact ⟨u, keep a u h1, h2.mono x⟩
    · rw [List.getElem?_append_right (by omega)] at e1'
      rw [List.getElem?_append_right (by rw [← r.sn]; omega), ← r.sn] at e2
      have z : n - s.st.length = 0 := by
        have := (List.getElem?_eq_some_iff.mp e1').1
        simp at this; omega
      rw [z] at e1' e2
      simp at e1' e2
      subst e1'; subst e2
      exact ⟨o, upd_same, q.mono x⟩
/-- a slot takes a datum -/
theorem R.setD (r : R c B s σ H F ν) (i : Nat) {v : V} {d : D} (h : Rz c F ν v d) : R c B ⟨s.sl.set i (some (.d d)), s.st⟩ (σ.set i (some v)) H F ν := by
  refine ⟨r.sub, r.f0, r.fz, r.kp, r.nu, r.nd, r.nf, ?_, fun j y e => ?_, fun j k x y a e1 e2 o1 o2 z1 z2 => ?_, r.sn, r.st⟩
  · show (s.sl.set i _).length = _
    rw [List.length_set, List.length_set]; exact r.ln
  · have e' : (s.sl.set i (some (.d d)))[j]? = some (some y) := e
    by_cases hj : i = j
    · subst hj
      have hl := (List.getElem?_eq_some_iff.mp e').1
      rw [List.length_set] at hl
      rw [List.getElem?_set_self hl] at e'
      cases e'
      exact ⟨v, List.getElem?_set_self (by rw [← r.ln]; exact hl), .d h⟩
    · rw [List.getElem?_set_ne hj] at e' ⊢
      exact r.sl j y e'
  · have own : ∀ (j : Nat) x, (s.sl.set i (some (.d d)))[j]? = some (some x) → x.own = true → i ≠ j ∧ s.sl[j]? = some (some x) := fun j x e o => by
      by_cases hj : i = j
      · subst hj
        have hl := (List.getElem?_eq_some_iff.mp e).1
        rw [List.length_set] at hl
        rw [List.getElem?_set_self hl] at e
        cases e; cases o
      · rw [List.getElem?_set_ne hj] at e; exact ⟨hj, e⟩
    obtain ⟨n1, e1'⟩ := own j x e1 o1
    obtain ⟨n2, e2'⟩ := own k y e2 o2
    rw [List.getElem?_set_ne n1] at z1
    rw [List.getElem?_set_ne n2] at z2
    exact r.ap j k x y a e1' e2' o1 o2 z1 z2
/-- a slot is forgotten -/
theorem R.drop (r : R c B s σ H F ν) (i : Nat) : R c B ⟨s.sl.set i none, s.st⟩ σ H F ν := by
  have back : ∀ (j : Nat) x, (s.sl.set i none)[j]? = some (some x) → s.sl[j]? = some (some x) := fun j x e => by
    by_cases hj : i = j
    · subst hj
      have hl := (List.getElem?_eq_some_iff.mp e).1
      rw [List.length_set] at hl
      rw [List.getElem?_set_self hl] at e
      cases e
    · rw [List.getElem?_set_ne hj] at e; exact e
  exact ⟨r.sub, r.f0, r.fz, r.kp, r.nu, r.nd, r.nf, by show (s.sl.set i _).length = _; rw [List.length_set]; exact r.ln, fun j y e => r.sl j y (back j y e), fun j k x y a e1 e2 => r.ap j k x y a (back j x e1) (back k y e2), r.sn, r.st⟩
end
end Kt
set_option maxHeartbeats 4000000
/-! Kt2: more of the state; the judgements over data; the first rules. -/
namespace Kt
open PySem PySem.Spec L2
section
variable {c : Cf} {B : Bs} {s : S} {σ : St} {H F : Hp} {ν : List Addr}
theorem getset {α : Type} {l : List α} {i j : Nat} {x y : α} (h : (l.set i x)[j]? = some y) : (i = j ∧ x = y ∧ j < l.length) ∨ (i ≠ j ∧ l[j]? = some y) := by
  by_cases hj : i = j
  · subst hj
    have hl := (List.getElem?_eq_some_iff.mp h).1
    rw [List.length_set] at hl
    rw [List.getElem?_set_self hl] at h
    exact .inl ⟨rfl, Option.some.inj h, hl⟩
  · rw [List.getElem?_set_ne hj] at h
    exact .inr ⟨hj, h⟩
/-- a slot takes a new thing of its own -/
theorem R.setO (r : R c B s σ H F ν) (i : Nat) {p : Addr} {o : HO} {y : SV} (h : H p = none) (q : ∀ H', H' p = some o → RzS c B H' F ν (.ref p) y) :
    R c B ⟨s.sl.set i (some y), s.st⟩ (σ.set i (some (.ref p))) (upd H p o) F ν := by
  have hf := r.fresh h
  have keep : ∀ b u, H b = some u → upd H p o b = some u := same_upd h
  have noA : ∀ (j : Nat) x, s.sl[j]? = some (some x) → x.own = true → σ[j]? ≠ some (some (.ref p)) := fun j x e oo z => by
    obtain ⟨v, h1, h2⟩ := r.sl j x e
    rw [z] at h1
    cases h1
    cases h2 with
    | d _ => cases oo
    | ol f e' _ => rw [h] at e'; cases e'
    | od f e' _ => rw [h] at e'; cases e'
    | ex _ _ => cases oo
    | oi f e' _ => rw [h] at e'; cases e'
  refine ⟨fun b u e => keep b u (r.sub b u e), r.f0, r.fz, fun a u e n => keep a u (r.kp a u e n), r.nu, r.nd, r.nf, ?_, fun j x e => ?_, fun j k x x' a e1 e2 o1 o2 z1 z2 => ?_, r.sn, fun n ob a e1 e2 => ?_⟩
  · show (s.sl.set i _).length = _
    rw [List.length_set, List.length_set]; exact r.ln
  · rcases getset (show (s.sl.set i (some y))[j]? = some (some x) from e) with ⟨hj, hx, hl⟩ | ⟨hj, e'⟩
    · subst hj
      cases hx
      exact ⟨.ref p, List.getElem?_set_self (by rw [← r.ln]; exact hl), q _ upd_same⟩
    · rw [List.getElem?_set_ne hj]
      obtain ⟨v, h1, h2⟩ := r.sl j x e'
      exact ⟨v, h1, h2.mono Ext.refl fun a u _ _ f w => ⟨f, keep a u w⟩⟩
  · rcases getset (show (s.sl.set i (some y))[j]? = some (some x) from e1) with ⟨hj, hx, hl⟩ | ⟨hj, e1'⟩
    · rcases getset (show (s.sl.set i (some y))[k]? = some (some x') from e2) with ⟨hk, _, _⟩ | ⟨hk, e2'⟩
      · exact hj.symm.trans hk
      · subst hj
        rw [List.getElem?_set_self (by rw [← r.ln]; exact hl)] at z1
        cases z1
        rw [List.getElem?_set_ne hk] at z2
        exact absurd z2 (noA k x' e2' o2)
    · rw [List.getElem?_set_ne hj] at z1
      rcases getset (show (s.sl.set i (some y))[k]? = some (some x') from e2) with ⟨hk, _, hl⟩ | ⟨hk, e2'⟩
      · subst hk
        rw [List.getElem?_set_self (by rw [← r.ln]; exact hl)] at z2
        cases z2
        exact absurd z1 (noA j x e1' o1)
      · rw [List.getElem?_set_ne hk] at z2
        exact r.ap j k x x' a e1' e2' o1 o2 z1 z2
  · obtain ⟨u, h1, h2⟩ := r.st n ob a e1 e2
    exact ⟨u, keep a u h1, h2⟩
/-- a slot's own thing is changed -/
theorem R.mutO (r : R c B s σ H F ν) {i : Nat} {a : Addr} {x y : SV} {o o' : HO} (e : s.sl[i]? = some (some x)) (ho : x.own = true) (ez : σ[i]? = some (some (.ref a))) (f : Frs B F ν a) (eo : H a = some o)
    (q : ∀ H', H' a = some o' → RzS c B H' F ν (.ref a) y) (hy : y.own = true) : R c B ⟨s.sl.set i (some y), s.st⟩ σ (upd H a o') F ν := by
  have keep : ∀ b u, b ≠ a → H b = some u → upd H a o' b = some u := fun b u n w => by rw [upd_ne n]; exact w
  have nF : ∀ b u, F b = some u → b ≠ a := fun b u w z => by rw [z, f.2.1] at w; cases w
  refine ⟨fun b u w => keep b u (nF b u w) (r.sub b u w), r.f0, r.fz, fun b u w n => keep b u (fun z => by rw [z, f.1] at w; cases w) (r.kp b u w n), r.nu, r.nd, r.nf, ?_, fun j z w => ?_, fun j k z z' b e1 e2 o1 o2 z1 z2 => ?_, r.sn, fun n ob b e1 e2 => ?_⟩
  · show (s.sl.set i _).length = _
    rw [List.length_set]; exact r.ln
  · rcases getset (show (s.sl.set i (some y))[j]? = some (some z) from w) with ⟨hj, hx, hl⟩ | ⟨hj, e'⟩
    · subst hj
      cases hx
      exact ⟨.ref a, ez, q _ upd_same⟩
    · obtain ⟨v, h1, h2⟩ := r.sl j z e'
      refine ⟨v, h1, h2.mono Ext.refl fun b u hv oo g w => ⟨g, keep b u (fun hba => ?_) w⟩⟩
      subst hba
      subst hv
      exact hj (r.ap i j x z b e e' ho oo ez h1)
  · have own : ∀ (j : Nat) z, (s.sl.set i (some y))[j]? = some (some z) → z.own = true → ∃ z', s.sl[j]? = some (some z') ∧ z'.own = true := fun j z w oo => by
      rcases getset w with ⟨hj, hx, hl⟩ | ⟨hj, e'⟩
      · subst hj; exact ⟨x, e, ho⟩
      · exact ⟨z, e', oo⟩
    obtain ⟨x1, w1, q1⟩ := own j z e1 o1
    obtain ⟨x2, w2, q2⟩ := own k z' e2 o2
    exact r.ap j k x1 x2 b w1 w2 q1 q2 z1 z2
  · obtain ⟨u, h1, h2⟩ := r.st n ob b e1 e2
    exact ⟨u, keep b u (fun z => f.2.2 (z ▸ List.mem_of_getElem? e2)) h1, h2⟩
/-- a named thing is changed -/
theorem R.mutN (r : R c B s σ H F ν) {n : Nat} {a : Addr} {o' : HO} {ob' : Ob} (en : ν[n]? = some a) (q : RzO c F ν o' ob') : R c B ⟨s.sl, s.st.set n ob'⟩ σ (upd H a o') F ν := by
  have ma : a ∈ ν := List.mem_of_getElem? en
  have keep : ∀ b u, b ≠ a → H b = some u → upd H a o' b = some u := fun b u n w => by rw [upd_ne n]; exact w
  refine ⟨fun b u w => keep b u (fun z => by rw [z, r.nf a ma] at w; cases w) (r.sub b u w), r.f0, r.fz, fun b u w nb => keep b u (fun z => ?_) (r.kp b u w nb), r.nu, r.nd, r.nf, r.ln, fun j z w => ?_, r.ap, ?_, fun m ob b e1 e2 => ?_⟩
  · subst z
    obtain ⟨μ, e, h⟩ := r.nu
    rw [e] at ma
    rcases List.mem_append.mp ma with m | m
    · exact nb m
    · have := h b m
      rw [w] at this; cases this
  · obtain ⟨v, h1, h2⟩ := r.sl j z w
    exact ⟨v, h1, h2.mono Ext.refl fun b u _ _ g w => ⟨g, keep b u (fun z => g.2.2 (z ▸ ma)) w⟩⟩
  · show (s.st.set n ob').length = _
    rw [List.length_set]; exact r.sn
  · rcases getset (show (s.st.set n ob')[m]? = some ob from e1) with ⟨hj, hx, hl⟩ | ⟨hj, e'⟩
    · subst hj
      subst hx
      rw [en] at e2; cases e2
      exact ⟨o', upd_same, q⟩
    · obtain ⟨u, h1, h2⟩ := r.st m ob b e' e2
      refine ⟨u, keep b u (fun z => ?_) h1, h2⟩
      subst z
      have h3 := (List.getElem?_eq_some_iff.mp en)
      have h4 := (List.getElem?_eq_some_iff.mp e2)
      obtain ⟨l3, e3⟩ := h3
      obtain ⟨l4, e4⟩ := h4
      exact hj ((List.getElem_inj r.nd).mp (e3.trans e4.symm))
/-- behind a call: what the caller had stands -/
theorem R.ret (r : R c B s σ H F ν) {sl' : List (Option SV)} {σ' : St} {st' : List Ob} {H' F' : Hp} {ν' : List Addr} (x : Ext F ν F' ν') (q : R c ⟨H, F, ν⟩ ⟨sl', st'⟩ σ' H' F' ν') : R c B ⟨s.sl, st'⟩ σ H' F' ν' := by
  have fr : ∀ {a o}, Frs B F ν a → H a = some o → Frs B F' ν' a ∧ H' a = some o := fun {a o} f e => by
    refine ⟨⟨f.1, ?_, ?_⟩, q.kp a o e f.2.2⟩
    · cases w : F' a with
      | none => rfl
      | some u =>
        rcases q.fz a u w with z | z
        · have z' : F a = some u := z
          rw [f.2.1] at z'; cases z'
        · have z' : H a = none := z
          rw [e] at z'; cases z'
    · intro m
      obtain ⟨μ, e2, z⟩ := q.nu
      rw [e2] at m
      rcases List.mem_append.mp m with m | m
      · exact f.2.2 m
      · have := z a m
        have this' : H a = none := this
        rw [e] at this'; cases this'
  have bH : ∀ {a}, H a = none → B.H a = none := fun {a} h => (r.fresh h).1
  refine ⟨q.sub, r.f0.trans x.s, fun a o e => ?_, fun a o e n => ?_, ?_, q.nd, q.nf, r.ln, fun i y e => ?_, r.ap, q.sn, q.st⟩
  · rcases q.fz a o e with z | z
    · exact r.fz a o z
    · exact .inr (bH z)
  · have h1 := r.kp a o e n
    by_cases m : a ∈ ν
    · obtain ⟨μ, e2, z⟩ := r.nu
      rw [e2] at m
      rcases List.mem_append.mp m with m | m
      · exact absurd m n
      · have := z a m
        rw [e] at this; cases this
    · exact q.kp a o h1 m
  · obtain ⟨μ, e1, z1⟩ := r.nu
    obtain ⟨μ', e2, z2⟩ := q.nu
    refine ⟨μ ++ μ', ?_, fun a m => ?_⟩
    · rw [e2]
      show ν ++ μ' = _
      rw [e1, List.append_assoc]
    · rcases List.mem_append.mp m with m | m
      · exact z1 a m
      · exact bH (z2 a m)
  · obtain ⟨v, h1, h2⟩ := r.sl i y e
    exact ⟨v, h1, h2.mono x fun a o _ _ f w => fr f w⟩
/-- a thing that nobody owns is frozen -/
theorem R.fzA (r : R c B s σ H F ν) {a : Addr} {o : HO} (f : Frs B F ν a) (e : H a = some o) (no : ∀ (i : Nat) x, s.sl[i]? = some (some x) → x.own = true → σ[i]? ≠ some (some (.ref a))) : R c B s σ H (upd F a o) ν := by
  have x : Ext F ν (upd F a o) ν := ext_upd f.2.1
  refine ⟨fun b u w => ?_, fun b u w => x.s b u (r.f0 b u w), fun b u w => ?_, r.kp, r.nu, r.nd, fun b m => ?_, r.ln, fun i y w => ?_, r.ap, r.sn, fun n ob b e1 e2 => ?_⟩
  · by_cases hb : b = a
    · subst hb; rw [upd_same] at w; rw [← w]; exact e
    · rw [upd_ne hb] at w; exact r.sub b u w
  · by_cases hb : b = a
    · subst hb; exact .inr f.1
    · rw [upd_ne hb] at w; exact r.fz b u w
  · have ne : b ≠ a := fun z => f.2.2 (z ▸ m)
    rw [upd_ne ne]; exact r.nf b m
  · obtain ⟨v, h1, h2⟩ := r.sl i y w
    refine ⟨v, h1, h2.mono x fun b u hv oo g z => ⟨g.frozen fun hba => ?_, z⟩⟩
    subst hba; subst hv
    exact no i y w oo h1
  · obtain ⟨u, h1, h2⟩ := r.st n ob b e1 e2
    exact ⟨u, h1, h2.mono x⟩
def SV.fz : SV → D
  | .d x => x
  | .ol ds => .lst ds
  | .od ks => .dct ks
  | .ex _ _ _ => .non
  | .oi _ _ _ => .non
/-- a list or a dict of its own -/
def SV.frz : SV → Bool
  | .ol _ => true
  | .od _ => true
  | _ => false
/-- what a call gave is frozen -/
theorem R.fzR (r : R c B s σ H F ν) {sl' : List (Option SV)} {σ' : St} {st' : List Ob} {H' F' : Hp} {ν' : List Addr} {v : V} {y : SV} (x : Ext F ν F' ν') (q : R c ⟨H, F, ν⟩ ⟨sl', st'⟩ σ' H' F' ν') (z : RzS c ⟨H, F, ν⟩ H' F' ν' v y)
    (hy : ∀ a dx fs, y ≠ .ex a dx fs) (hy2 : ∀ a cls fs, y ≠ .oi a cls fs) : ∃ F'', Ext F ν F'' ν' ∧ R c B ⟨s.sl, st'⟩ σ H' F'' ν' ∧ Rz c F'' ν' v y.fz := by
  have rr := r.ret x q
  have frs : ∀ {a : Addr}, Frs ⟨H, F, ν⟩ F' ν' a → Frs B F' ν' a := fun {a} f => ⟨(r.fresh f.1).1, f.2.1, f.2.2⟩
  have no : ∀ {a : Addr}, Frs ⟨H, F, ν⟩ F' ν' a → ∀ (i : Nat) x, s.sl[i]? = some (some x) → x.own = true → σ[i]? ≠ some (some (.ref a)) := fun {a} f i y e oo w => by
    obtain ⟨v, h1, h2⟩ := r.sl i y e
    rw [w] at h1
    cases h1
    have hn : H a = none := f.1
    cases h2 with
    | d _ => cases oo
    | ol _ e' _ => rw [hn] at e'; cases e'
    | od _ e' _ => rw [hn] at e'; cases e'
    | ex _ _ => cases oo
    | oi _ e' _ => rw [hn] at e'; cases e'
  cases z with
  | d h => exact ⟨F', x, rr, h⟩
  | @ol a vs ds f e h =>
    have hx : Ext F' ν' (upd F' a (.lst vs)) ν' := ext_upd f.2.1
    exact ⟨_, x.trans hx, rr.fzA (frs f) e (no f), .lst upd_same (h.mono hx)⟩
  | @od a vs ds f e h =>
    have hx : Ext F' ν' (upd F' a (.dK vs)) ν' := ext_upd f.2.1
    exact ⟨_, x.trans hx, rr.fzA (frs f) e (no f), .dct upd_same (h.mono hx)⟩
  | ex _ _ => exact absurd rfl (hy _ _ _)
  | oi _ _ _ => exact absurd rfl (hy2 _ _ _)
/-- a slot's own thing is frozen: from now on it is a datum -/
theorem R.fzS (r : R c B s σ H F ν) {i : Nat} {y : SV} (e : s.sl[i]? = some (some y)) (hf : y.frz = true) : ∃ F', Ext F ν F' ν ∧ R c B ⟨s.sl.set i (some (.d y.fz)), s.st⟩ σ H F' ν := by
  have hy : y.own = true := by cases y <;> first | rfl | cases hf
  obtain ⟨v, h1, h2⟩ := r.sl i y e
  have key : ∀ {a : Addr} {o : HO}, v = .ref a → Frs B F ν a → H a = some o → Rz c (upd F a o) ν (.ref a) y.fz → ∃ F', Ext F ν F' ν ∧ R c B ⟨s.sl.set i (some (.d y.fz)), s.st⟩ σ H F' ν := fun {a o} hv f eo q => by
    subst hv
    have r1 := (r.drop i).fzA f eo fun j x w oo z => by
      rcases getset (show (s.sl.set i none)[j]? = some (some x) from w) with ⟨_, hx, _⟩ | ⟨hj, w'⟩
      · cases hx
      · exact hj (r.ap i j y x a e w' hy oo h1 z)
    have r2 := r1.setD i (v := .ref a) (d := y.fz) q
    have es : σ.set i (some (.ref a)) = σ := by
      apply List.ext_getElem?
      intro j
      by_cases hj : i = j
      · subst hj
        rw [List.getElem?_set_self (List.getElem?_eq_some_iff.mp h1).1, h1]
      · rw [List.getElem?_set_ne hj]
    rw [es] at r2
    have el : (s.sl.set i none).set i (some (SV.d y.fz)) = s.sl.set i (some (.d y.fz)) := by rw [List.set_set]
    rw [el] at r2
    exact ⟨_, ext_upd f.2.1, r2⟩
  cases h2 with
  | d _ => cases hf
  | ol f eo h => exact key rfl f eo (.lst upd_same (h.mono (ext_upd f.2.1)))
  | od f eo h => exact key rfl f eo (.dct upd_same (h.mono (ext_upd f.2.1)))
  | ex _ _ => cases hf
  | oi _ _ _ => cases hf
theorem R.forget (r : R c B s σ H F ν) : R c B ⟨[], s.st⟩ [] H F ν :=
  ⟨r.sub, r.f0, r.fz, r.kp, r.nu, r.nd, r.nf, rfl, fun i x e => by simp at e, fun i j x y a e => by simp at e, r.sn, r.st⟩
end

/-! ### the judgements -/
structure XD where
  nm : String
  fs : List (Str × D)
def RzX (c : Cf) (F : Hp) (ν : List Addr) (cls : Value) (d : Option Addr) (x : XD) : Prop :=
  ∃ dx vs, cls = .ref (c.cl x.nm) ∧ d = some dx ∧ F dx = some (.xd vs) ∧ RzFs c F ν vs x.fs
abbrev DK := D → List Ob → Prop
abbrev XK' := XD → List Ob → Prop
abbrev DE := S → DK → XK' → Prop
abbrev DT := S → (Bool → List Ob → Prop) → XK' → Prop
abbrev DA := S → (List D → List Ob → Prop) → XK' → Prop
structure Wsh (c : Cf) (B : Bs) (s : S) (σ : St) (F : Hp) (ν : List Addr) (W : WX) (E : XK') : Prop where
  go : ∀ cls d H' F' ν' x st', Ext F ν F' ν' → R c B ⟨s.sl, st'⟩ σ H' F' ν' → RzX c F' ν' cls d x → E x st' → W cls d σ H'
theorem Wsh.next {c : Cf} {B : Bs} {s : S} {σ : St} {F F1 : Hp} {ν ν1 : List Addr} {W : WX} {E : XK'} (w : Wsh c B s σ F ν W E) (x : Ext F ν F1 ν1) {st1 : List Ob} : Wsh c B ⟨s.sl, st1⟩ σ F1 ν1 W E :=
  ⟨fun cls d H' F' ν' y st' h => w.go cls d H' F' ν' y st' (x.trans h)⟩
/-- from the same slots with whatever named things -/
theorem Wsh.no {c : Cf} {B : Bs} {s : S} {σ : St} {F : Hp} {ν : List Addr} {W : WX} : Wsh c B s σ F ν W (fun _ _ => False) := ⟨fun _ _ _ _ _ _ _ _ _ _ z => z.elim⟩
structure RfE (c : Cf) (te : WX → TE) (de : DE) : Prop where
  go : ∀ (B : Bs) (W : WX) (σ : St) (H F : Hp) (ν : List Addr) (s : S) (Q : DK) (E : XK') (P : VK), R c B s σ H F ν → Wsh c B s σ F ν W E → de s Q E →
    (∀ v H' F' ν' d st', Ext F ν F' ν' → R c B ⟨s.sl, st'⟩ σ H' F' ν' → Rz c F' ν' v d → Q d st' → P v H') → te W σ H P
structure RfT (c : Cf) (te : WX → TT) (de : DT) : Prop where
  go : ∀ (B : Bs) (W : WX) (σ : St) (H F : Hp) (ν : List Addr) (s : S) (Q : Bool → List Ob → Prop) (E : XK') (P : Bool → Hp → Prop), R c B s σ H F ν → Wsh c B s σ F ν W E → de s Q E →
    (∀ b H' F' ν' st', Ext F ν F' ν' → R c B ⟨s.sl, st'⟩ σ H' F' ν' → Q b st' → P b H') → te W σ H P
structure RfA (c : Cf) (te : WX → TA) (de : DA) : Prop where
  go : ∀ (B : Bs) (W : WX) (σ : St) (H F : Hp) (ν : List Addr) (s : S) (Q : List D → List Ob → Prop) (E : XK') (P : List V → Hp → Prop), R c B s σ H F ν → Wsh c B s σ F ν W E → de s Q E →
    (∀ vs H' F' ν' ds st', Ext F ν F' ν' → R c B ⟨s.sl, st'⟩ σ H' F' ν' → RzAll c F' ν' vs ds → Q ds st' → P vs H') → te W σ H P
structure DEnds where
  nx : S → Prop
  rt : SV → List Ob → Prop
  ex : XD → S → Prop
  bk : S → Prop := fun _ => False
  ct : S → Prop := fun _ => False
abbrev DS := DEnds → S → Prop
structure Mt (c : Cf) (B : Bs) (F : Hp) (ν : List Addr) (W : WX) (D : Ends) (Dd : DEnds) : Prop where
  nx : ∀ s' σ' H' F' ν', Ext F ν F' ν' → R c B s' σ' H' F' ν' → Dd.nx s' → D.nx σ' H'
  rt : ∀ x st' v H' F' ν', Ext F ν F' ν' → R c B ⟨[some x], st'⟩ [some v] H' F' ν' → Dd.rt x st' → D.rt v H'
  ex : ∀ x s' cls d σ' H' F' ν', Ext F ν F' ν' → R c B s' σ' H' F' ν' → RzX c F' ν' cls d x → Dd.ex x s' → W cls d σ' H'
  bk : ∀ s' σ' H' F' ν', Ext F ν F' ν' → R c B s' σ' H' F' ν' → Dd.bk s' → D.bk σ' H'
  ct : ∀ s' σ' H' F' ν', Ext F ν F' ν' → R c B s' σ' H' F' ν' → Dd.ct s' → D.ct σ' H'
theorem Mt.next {c : Cf} {B : Bs} {F F1 : Hp} {ν ν1 : List Addr} {W : WX} {D : Ends} {Dd : DEnds} (m : Mt c B F ν W D Dd) (x : Ext F ν F1 ν1) : Mt c B F1 ν1 W D Dd :=
  ⟨fun s' σ' H' F' ν' h => m.nx s' σ' H' F' ν' (x.trans h), fun y st' v H' F' ν' h => m.rt y st' v H' F' ν' (x.trans h), fun y s' cls d σ' H' F' ν' h => m.ex y s' cls d σ' H' F' ν' (x.trans h),
    fun s' σ' H' F' ν' h => m.bk s' σ' H' F' ν' (x.trans h), fun s' σ' H' F' ν' h => m.ct s' σ' H' F' ν' (x.trans h)⟩
/-- the exceptions of an expression within a statement -/
abbrev DEnds.xe (Dd : DEnds) (s : S) : XK' := fun x st' => Dd.ex x ⟨s.sl, st'⟩
theorem Mt.wsh {c : Cf} {B : Bs} {F : Hp} {ν : List Addr} {W : WX} {D : Ends} {Dd : DEnds} (m : Mt c B F ν W D Dd) {s : S} {σ : St} : Wsh c B s σ F ν W (Dd.xe s) :=
  ⟨fun cls d H' F' ν' x st' h r z q => m.ex x ⟨s.sl, st'⟩ cls d σ H' F' ν' h r z q⟩
structure RfS (c : Cf) (ts : WX → TS) (ds : DS) : Prop where
  go : ∀ (B : Bs) (W : WX) (σ : St) (H F : Hp) (ν : List Addr) (s : S) (D : Ends) (Dd : DEnds), R c B s σ H F ν → Mt c B F ν W D Dd → ds Dd s → ts W D σ H

abbrev Po (X : Cx) : Prop := PassesOwn (model X.prog X.w) X.A X.env X.xe
abbrev cf (X : Cx) (cl : String → Addr) : Cf := ⟨X.K, cl⟩
/-- an expression, over data -/
structure Ex (X : Cx) (cl : String → Addr) (e : Expr) (de : DE) : Prop where
  ex : ∃ te : WX → TE, (∀ W, Takes X W → PE X e (te W)) ∧ RfE (cf X cl) te de
structure Ts (X : Cx) (cl : String → Addr) (e : Expr) (de : DT) : Prop where
  ex : ∃ te : WX → TT, (∀ W, Takes X W → PT X e (te W)) ∧ RfT (cf X cl) te de
structure Tw (X : Cx) (cl : String → Addr) (e : Expr) (de : DT) : Prop where
  ex : ∃ te : WX → TT, (∀ W, Takes X W → PW X e (te W)) ∧ RfT (cf X cl) te de
structure Ar (X : Cx) (cl : String → Addr) (es : List Expr) (de : DA) : Prop where
  ex : ∃ te : WX → TA, (∀ W, Takes X W → PA X es (te W)) ∧ RfA (cf X cl) te de
structure Sm (X : Cx) (cl : String → Addr) (st : Stmt) (ds : DS) : Prop where
  ex : ∃ ts : WX → TS, (∀ W, Takes X W → Po X → PS X st (ts W)) ∧ RfS (cf X cl) ts ds
structure Ss (X : Cx) (cl : String → Addr) (st : List Stmt) (ds : DS) : Prop where
  ex : ∃ ts : WX → TS, (∀ W, Takes X W → Po X → PSs X st (ts W)) ∧ RfS (cf X cl) ts ds
end Kt
set_option maxHeartbeats 4000000
/-! Kt3: rules: names, constants, operators, tests. -/
namespace Kt
open PySem PySem.Spec L2
/-! ### by values -/
abbrev K2 := D → D → List Ob → DK → Prop
abbrev K1 := D → List Ob → DK → Prop
abbrev KA := List D → List Ob → DK → Prop
/-- what a rule by values may reach -/
abbrev Fin (c : Cf) (B : Bs) (s : S) (σ : St) (F : Hp) (ν : List Addr) (K : DK) (P : VK) : Prop :=
  ∀ z H' F' ν' d st', Ext F ν F' ν' → R c B ⟨s.sl, st'⟩ σ H' F' ν' → Rz c F' ν' z d → K d st' → P z H'
structure OpD (X : Cx) (cl : String → Addr) (f : Value → Value → Sem Value) (k : K2) : Prop where
  ex : ∃ r, OpR X f r ∧ ∀ (B : Bs) (s : S) (σ : St) (H F : Hp) (ν : List Addr) (v u : V) (x y : D) (K : DK) (P : VK), R (cf X cl) B s σ H F ν → Rz (cf X cl) F ν v x → Rz (cf X cl) F ν u y → k x y s.st K → Fin (cf X cl) B s σ F ν K P → r v u H P
structure UnD (X : Cx) (cl : String → Addr) (f : Value → Sem Value) (k : K1) : Prop where
  ex : ∃ r, UnR X f r ∧ ∀ (B : Bs) (s : S) (σ : St) (H F : Hp) (ν : List Addr) (v : V) (x : D) (K : DK) (P : VK), R (cf X cl) B s σ H F ν → Rz (cf X cl) F ν v x → k x s.st K → Fin (cf X cl) B s σ F ν K P → r v H P
structure IxD (X : Cx) (cl : String → Addr) (k : K2) : Prop where
  ex : ∃ r, IxR X r ∧ ∀ (B : Bs) (s : S) (σ : St) (H F : Hp) (ν : List Addr) (v u : V) (x y : D) (K : DK) (P : VK), R (cf X cl) B s σ H F ν → Rz (cf X cl) F ν v x → Rz (cf X cl) F ν u y → k x y s.st K → Fin (cf X cl) B s σ F ν K P → r v u H P
structure CallD (X : Cx) (cl : String → Addr) (f : Value) (k : KA) : Prop where
  ex : ∃ r, CallR X f r ∧ ∀ (B : Bs) (s : S) (σ : St) (H F : Hp) (ν : List Addr) (vs : List V) (xs : List D) (K : DK) (P : VK), R (cf X cl) B s σ H F ν → RzAll (cf X cl) F ν vs xs → k xs s.st K → Fin (cf X cl) B s σ F ν K P → r vs H P
section
variable {X : Cx} {cl : String → Addr}
theorem OpD.imp {f : Value → Value → Sem Value} {k k' : K2} (h : OpD X cl f k) (i : ∀ x y st K, k' x y st K → k x y st K) : OpD X cl f k' := by
  obtain ⟨r, h1, h2⟩ := h.ex
  exact ⟨r, h1, fun B s σ H F ν v u x y K P a b c d e => h2 B s σ H F ν v u x y K P a b c (i _ _ _ _ d) e⟩
theorem OpD.or {f : Value → Value → Sem Value} {k k' : K2} (h : OpD X cl f k) (h' : OpD X cl f k') : OpD X cl f (fun x y st K => k x y st K ∨ k' x y st K) := by
  obtain ⟨r, h1, h2⟩ := h.ex
  obtain ⟨r', h1', h2'⟩ := h'.ex
  refine ⟨fun v u H P => r v u H P ∨ r' v u H P, fun pins s σ H x y v u Q I rx ry h => ?_, fun B s σ H F ν v u x y K P a b c d e => ?_⟩
  · rcases h with h | h
    · exact h1 pins s σ H x y v u Q I rx ry h
    · exact h1' pins s σ H x y v u Q I rx ry h
  · rcases d with d | d
    · exact .inl (h2 B s σ H F ν v u x y K P a b c d e)
    · exact .inr (h2' B s σ H F ν v u x y K P a b c d e)
theorem CallD.imp {f : Value} {k k' : KA} (h : CallD X cl f k) (i : ∀ x st K, k' x st K → k x st K) : CallD X cl f k' := by
  obtain ⟨r, h1, h2⟩ := h.ex
  exact ⟨r, h1, fun B s σ H F ν v x K P a b d e => h2 B s σ H F ν v x K P a b (i _ _ _ d) e⟩
theorem CallD.or {f : Value} {k k' : KA} (h : CallD X cl f k) (h' : CallD X cl f k') : CallD X cl f (fun x st K => k x st K ∨ k' x st K) := by
  obtain ⟨r, h1, h2⟩ := h.ex
  obtain ⟨r', h1', h2'⟩ := h'.ex
  refine ⟨fun v H P => r v H P ∨ r' v H P, fun pins s σ H x v Q I rx h => ?_, fun B s σ H F ν v x K P a b d e => ?_⟩
  · rcases h with h | h
    · exact h1 pins s σ H x v Q I rx h
    · exact h1' pins s σ H x v Q I rx h
  · rcases d with d | d
    · exact .inl (h2 B s σ H F ν v x K P a b d e)
    · exact .inr (h2' B s σ H F ν v x K P a b d e)
theorem IxD.imp {k k' : K2} (h : IxD X cl k) (i : ∀ x y st K, k' x y st K → k x y st K) : IxD X cl k' := by
  obtain ⟨r, h1, h2⟩ := h.ex
  exact ⟨r, h1, fun B s σ H F ν v u x y K P a b c d e => h2 B s σ H F ν v u x y K P a b c (i _ _ _ _ d) e⟩
theorem IxD.or {k k' : K2} (h : IxD X cl k) (h' : IxD X cl k') : IxD X cl (fun x y st K => k x y st K ∨ k' x y st K) := by
  obtain ⟨r, h1, h2⟩ := h.ex
  obtain ⟨r', h1', h2'⟩ := h'.ex
  refine ⟨fun v u H P => r v u H P ∨ r' v u H P, fun va sl pins s σ H x y v u Q I rx ry h e => ?_, fun B s σ H F ν v u x y K P a b c d e => ?_⟩
  · rcases h with h | h
    · exact h1 va sl pins s σ H x y v u Q I rx ry h e
    · exact h1' va sl pins s σ H x y v u Q I rx ry h e
  · rcases d with d | d
    · exact .inl (h2 B s σ H F ν v u x y K P a b c d e)
    · exact .inr (h2' B s σ H F ν v u x y K P a b c d e)
/-- a rule that makes nothing -/
theorem OpD.pure {f : Value → Value → Sem Value} {r : R2} {k : K2} (h : OpR X f r)
    (i : ∀ (F : Hp) (ν : List Addr) (H : Hp) (v u : V) (x y : D) (st : List Ob) (K : DK) (P : VK), Same F H → Rz (cf X cl) F ν v x → Rz (cf X cl) F ν u y → k x y st K → (∀ z d, Rz (cf X cl) F ν z d → K d st → P z H) → r v u H P) : OpD X cl f k :=
  ⟨r, h, fun B s σ H F ν v u x y K P a b c d e => i F ν H v u x y s.st K P a.sub b c d fun z w q q' => e z H F ν w s.st Ext.refl a q q'⟩
theorem CallD.pure {f : Value} {r : List V → Hp → VK → Prop} {k : KA} (h : CallR X f r)
    (i : ∀ (F : Hp) (ν : List Addr) (H : Hp) (v : List V) (x : List D) (st : List Ob) (K : DK) (P : VK), Same F H → RzAll (cf X cl) F ν v x → k x st K → (∀ z d, Rz (cf X cl) F ν z d → K d st → P z H) → r v H P) : CallD X cl f k :=
  ⟨r, h, fun B s σ H F ν v x K P a b d e => i F ν H v x s.st K P a.sub b d fun z w q q' => e z H F ν w s.st Ext.refl a q q'⟩

/-! ### expressions -/
def dVar (i : Nat) : DE := fun s Q _ => ∃ d, s.sl[i]? = some (some (.d d)) ∧ Q d s.st
def dC (d : D) : DE := fun s Q _ => Q d s.st
variable {pos p : Pos} {e a b : Expr} {es : List Expr} {de da db dc : DE}
theorem x_var (i : Nat) {x : Str} (hN : X.N[i]? = some x := by rfl) (hv : Vis X.env.scope x := by first | exact Or.inl rfl | exact Or.inr (Or.inl rfl) | exact Or.inr (Or.inr rfl)) (hd : (x == ("__debug__" : Str)) = false := by decide)
    (hcd : (x == ("__classdict__" : Str)) = false := by decide) : Ex X cl (.Name x pos) (dVar i) := by
  refine ⟨fun _ => tVar i, fun W _ => pe_var hN hv hd hcd, ⟨fun B W σ H F ν s Q E P r w h k => ?_⟩⟩
  obtain ⟨d, e, q⟩ := h
  obtain ⟨v, h1, h2⟩ := r.sl i _ e
  cases h2 with
  | d z => exact ⟨v, h1, k v H F ν d s.st Ext.refl r z q⟩
theorem x_c {v : V} {d : D} (h : PE X e (tC v)) (z : ∀ F ν, Rz (cf X cl) F ν v d) : Ex X cl e (dC d) :=
  ⟨fun _ => tC v, fun W _ => h, ⟨fun B W σ H F ν s Q E P r w h k => k v H F ν d s.st Ext.refl r (z F ν) h⟩⟩
theorem x_int {i : Int} {j} : Ex X cl (.Constant (.int i) j pos) (dC (.int i)) := x_c pe_int fun _ _ => .int i
theorem x_bl {i : Bool} {j} : Ex X cl (.Constant (.bool i) j pos) (dC (.bl i)) := x_c pe_bl fun _ _ => .bl i
theorem x_non {j} : Ex X cl (.Constant .none j pos) (dC .non) := x_c pe_non fun _ _ => .non
theorem x_str {i : Str} {j} : Ex X cl (.Constant (.str i) j pos) (dC (.str i)) := x_c pe_str fun _ _ => .str i
/-- a module's constant -/
theorem x_glob {x : Str} {u : Value} {v : V} {d : D} (hg : Gl X x) (hm : X.mg x = some u) (r : RelV v u) (z : ∀ F ν, Rz (cf X cl) F ν v d) (hd : (x == ("__debug__" : Str)) = false := by decide) : Ex X cl (.Name x pos) (dC d) :=
  x_c (pe_glob hg hm r hd) z
def dBin (k : K2) (da db : DE) : DE := fun s Q E => da s (fun x st1 => db ⟨s.sl, st1⟩ (fun y st2 => k x y st2 Q) E) E
def dUn (k : K1) (da : DE) : DE := fun s Q E => da s (fun x st1 => k x st1 Q) E
/-- two readings one after the other, then a rule by values -/
theorem rf_bin {c : Cf} {ta tb : WX → TE} {r : R2} {k : K2} (ra : RfE c ta da) (rb : RfE c tb db)
    (hk : ∀ (B : Bs) (s : S) (σ : St) (H F : Hp) (ν : List Addr) (v u : V) (x y : D) (K : DK) (P : VK), R c B s σ H F ν → Rz c F ν v x → Rz c F ν u y → k x y s.st K → Fin c B s σ F ν K P → r v u H P) :
    RfE c (fun W => tOp r (ta W) (tb W)) (dBin k da db) := by
  refine ⟨fun B W σ H F ν s Q E P rr w h kk => ?_⟩
  refine ra.go B W σ H F ν s _ E _ rr w h fun v H1 F1 ν1 d1 st1 x1 r1 z1 q1 => ?_
  refine rb.go B W σ H1 F1 ν1 ⟨s.sl, st1⟩ _ E _ r1 (w.next x1) q1 fun u H2 F2 ν2 d2 st2 x2 r2 z2 q2 => ?_
  exact hk B ⟨s.sl, st2⟩ σ H2 F2 ν2 v u d1 d2 Q P r2 (z1.mono x2) z2 q2 fun z H3 F3 ν3 d3 st3 x3 r3 z3 q3 => kk z H3 F3 ν3 d3 st3 ((x1.trans x2).trans x3) r3 z3 q3
theorem x_bin {op : Operator} {k : K2} (ho : OpD X cl (binaryOp op) k) (ha : Ex X cl a da) (hb : Ex X cl b db) : Ex X cl (.BinOp a op b pos) (dBin k da db) := by
  obtain ⟨ta, a1, a2⟩ := ha.ex
  obtain ⟨tb, b1, b2⟩ := hb.ex
  obtain ⟨r, o1, o2⟩ := ho.ex
  exact ⟨fun W => tOp r (ta W) (tb W), fun W t => pe_op o1 (a1 W t) (b1 W t), rf_bin a2 b2 o2⟩
theorem x_un {op : UnaryOp} {k : K1} (ho : UnD X cl (unaryOp op) k) (ha : Ex X cl a da) : Ex X cl (.UnaryOp op a pos) (dUn k da) := by
  obtain ⟨ta, a1, a2⟩ := ha.ex
  obtain ⟨r, o1, o2⟩ := ho.ex
  refine ⟨fun W => tUn r (ta W), fun W t => pe_un o1 (a1 W t), ⟨fun B W σ H F ν s Q E P rr w h kk => ?_⟩⟩
  refine a2.go B W σ H F ν s _ E _ rr w h fun v H1 F1 ν1 d1 st1 x1 r1 z1 q1 => ?_
  exact o2 B ⟨s.sl, st1⟩ σ H1 F1 ν1 v d1 Q P r1 z1 q1 fun z H3 F3 ν3 d3 st3 x3 r3 z3 q3 => kk z H3 F3 ν3 d3 st3 (x1.trans x3) r3 z3 q3
theorem x_cmp {op : CmpOp} {k : K2} (ho : OpD X cl (compareOp op) k) (ha : Ex X cl a da) (hb : Ex X cl b db) (hm : behindInMarks op b = false := by first | exact nomark _ | with_unfolding_all rfl) : Ex X cl (.Compare a [op] [b] pos) (dBin k da db) := by
  obtain ⟨ta, a1, a2⟩ := ha.ex
  obtain ⟨tb, b1, b2⟩ := hb.ex
  obtain ⟨r, o1, o2⟩ := ho.ex
  exact ⟨fun W => tOp r (ta W) (tb W), fun W t => pe_cmpR o1 (a1 W t) (b1 W t) hm, rf_bin a2 b2 o2⟩
/-- a value as a test: a truth value -/
def dTest (de : DE) : DT := fun s Q E => de s (fun x st => ∃ k, x = .bl k ∧ Q k st) E
theorem rf_test {c : Cf} {te : WX → TE} (h : RfE c te de) : RfT c (fun W => tTest (te W)) (dTest de) := by
  refine ⟨fun B W σ H F ν s Q E P rr w h' kk => ?_⟩
  refine h.go B W σ H F ν s _ E _ rr w h' fun v H1 F1 ν1 d1 st1 x1 r1 z1 q1 => ?_
  obtain ⟨k, e, q⟩ := q1
  subst e
  cases z1
  exact ⟨k, rfl, kk k H1 F1 ν1 st1 x1 r1 q⟩
theorem t_cmp {op : CmpOp} {k : K2} (ho : OpD X cl (compareOp op) k) (ha : Ex X cl a da) (hb : Ex X cl b db) (hm : behindInMarks op b = false := by first | exact nomark _ | with_unfolding_all rfl) : Ts X cl (.Compare a [op] [b] pos) (dTest (dBin k da db)) := by
  obtain ⟨ta, a1, a2⟩ := ha.ex
  obtain ⟨tb, b1, b2⟩ := hb.ex
  obtain ⟨r, o1, o2⟩ := ho.ex
  exact ⟨fun W => tTest (tOp r (ta W) (tb W)), fun W t => pt_cmpR o1 (a1 W t) (b1 W t) hm, rf_test (rf_bin a2 b2 o2)⟩
theorem t_val (h : Ex X cl e de) (he : ∀ whole, isTrue e X.env whole = (do let v ← whole; standAt e.pos; holding [v] (truthy v)) := by intro _; rfl) : Ts X cl e (dTest de) := by
  obtain ⟨te, h1, h2⟩ := h.ex
  exact ⟨fun W => tTest (te W), fun W t => pt_val (h1 W t) he, rf_test h2⟩
/-- a < b < c -/
def dChain (k k' : K2) (da db dc : DE) : DE := fun s Q E => da s (fun x st1 => db ⟨s.sl, st1⟩ (fun y st2 => k x y st2 fun z st3 => ∃ t, z = .bl t ∧ if t = true then dc ⟨s.sl, st3⟩ (fun w st4 => k' y w st4 Q) E else Q (.bl false) st3) E) E
theorem rf_chain {c : Cf} {ta tb tc : WX → TE} {r r' : R2} {k k' : K2} (ra : RfE c ta da) (rb : RfE c tb db) (rc : RfE c tc dc)
    (hk : ∀ (B : Bs) (s : S) (σ : St) (H F : Hp) (ν : List Addr) (v u : V) (x y : D) (K : DK) (P : VK), R c B s σ H F ν → Rz c F ν v x → Rz c F ν u y → k x y s.st K → Fin c B s σ F ν K P → r v u H P)
    (hk' : ∀ (B : Bs) (s : S) (σ : St) (H F : Hp) (ν : List Addr) (v u : V) (x y : D) (K : DK) (P : VK), R c B s σ H F ν → Rz c F ν v x → Rz c F ν u y → k' x y s.st K → Fin c B s σ F ν K P → r' v u H P) :
    RfE c (fun W => tChain r r' (ta W) (tb W) (tc W)) (dChain k k' da db dc) := by
  refine ⟨fun B W σ H F ν s Q E P rr w h kk => ?_⟩
  refine ra.go B W σ H F ν s _ E _ rr w h fun v H1 F1 ν1 d1 st1 x1 r1 z1 q1 => ?_
  refine rb.go B W σ H1 F1 ν1 ⟨s.sl, st1⟩ _ E _ r1 (w.next x1) q1 fun u H2 F2 ν2 d2 st2 x2 r2 z2 q2 => ?_
  refine hk B ⟨s.sl, st2⟩ σ H2 F2 ν2 v u d1 d2 _ _ r2 (z1.mono x2) z2 q2 fun z H3 F3 ν3 d3 st3 x3 r3 z3 q3 => ?_
  obtain ⟨t, e, q⟩ := q3
  subst e
  cases z3
  refine ⟨t, rfl, ?_⟩
  cases t with
  | false =>
    rw [if_neg Bool.false_ne_true] at q ⊢
    exact kk _ H3 F3 ν3 _ st3 ((x1.trans x2).trans x3) r3 (.bl false) q
  | true =>
    rw [if_pos rfl] at q ⊢
    refine rc.go B W σ H3 F3 ν3 ⟨s.sl, st3⟩ _ E _ r3 (w.next ((x1.trans x2).trans x3)) q fun u4 H4 F4 ν4 d4 st4 x4 r4 z4 q4 => ?_
    exact hk' B ⟨s.sl, st4⟩ σ H4 F4 ν4 u u4 d2 d4 Q P r4 (z2.mono (x3.trans x4)) z4 q4 fun z H5 F5 ν5 d5 st5 x5 r5 z5 q5 => kk z H5 F5 ν5 d5 st5 ((((x1.trans x2).trans x3).trans x4).trans x5) r5 z5 q5
theorem x_chain {op op' : CmpOp} {c : Expr} {k k' : K2} (ho : OpD X cl (compareOp op) k) (ho' : OpD X cl (compareOp op') k') (ha : Ex X cl a da) (hb : Ex X cl b db) (hc : Ex X cl c dc)
    (hm : lastMarks [op, op'] [b, c] = false := by with_unfolding_all rfl) : Ex X cl (.Compare a [op, op'] [b, c] pos) (dChain k k' da db dc) := by
  obtain ⟨ta, a1, a2⟩ := ha.ex
  obtain ⟨tb, b1, b2⟩ := hb.ex
  obtain ⟨tc, c1, c2⟩ := hc.ex
  obtain ⟨r, o1, o2⟩ := ho.ex
  obtain ⟨r', p1, p2⟩ := ho'.ex
  exact ⟨fun W => tChain r r' (ta W) (tb W) (tc W), fun W t => pe_chain o1 p1 (a1 W t) (b1 W t) (c1 W t) hm, rf_chain a2 b2 c2 o2 p2⟩
theorem t_chain {op op' : CmpOp} {c : Expr} {k k' : K2} (ho : OpD X cl (compareOp op) k) (ho' : OpD X cl (compareOp op') k') (ha : Ex X cl a da) (hb : Ex X cl b db) (hc : Ex X cl c dc)
    (hm : lastMarks [op, op'] [b, c] = false := by with_unfolding_all rfl) : Ts X cl (.Compare a [op, op'] [b, c] pos) (dTest (dChain k k' da db dc)) := by
  obtain ⟨ta, a1, a2⟩ := ha.ex
  obtain ⟨tb, b1, b2⟩ := hb.ex
  obtain ⟨tc, c1, c2⟩ := hc.ex
  obtain ⟨r, o1, o2⟩ := ho.ex
  obtain ⟨r', p1, p2⟩ := ho'.ex
  exact ⟨fun W => tTest (tChain r r' (ta W) (tb W) (tc W)), fun W t => pt_chain o1 p1 (a1 W t) (b1 W t) (c1 W t) hm, rf_test (rf_chain a2 b2 c2 o2 p2)⟩

/-! ### and, or, not -/
variable {dt du : DT} {rest : List Expr}
def dAnd (t u : DT) : DT := fun s Q E => t s (fun c st => if c = true then u ⟨s.sl, st⟩ Q E else Q false st) E
def dOr (t u : DT) : DT := fun s Q E => t s (fun c st => if c = true then Q true st else u ⟨s.sl, st⟩ Q E) E
def dNot (t : DT) : DT := fun s Q E => t s (fun c st => Q (!c) st) E
theorem w_and1 (h : Ts X cl a dt) : Tw X cl (.BoolOp .And [a] pos) dt := by
  obtain ⟨t, h1, h2⟩ := h.ex
  exact ⟨t, fun W k => pw_and1 (h1 W k), h2⟩
theorem w_or1 (h : Ts X cl a dt) : Tw X cl (.BoolOp .Or [a] pos) dt := by
  obtain ⟨t, h1, h2⟩ := h.ex
  exact ⟨t, fun W k => pw_or1 (h1 W k), h2⟩
theorem rf_and {c : Cf} {ta tb : WX → TT} (ra : RfT c ta dt) (rb : RfT c tb du) : RfT c (fun W => tAnd (ta W) (tb W)) (dAnd dt du) := by
  refine ⟨fun B W σ H F ν s Q E P rr w h kk => ?_⟩
  refine ra.go B W σ H F ν s _ E _ rr w h fun k H1 F1 ν1 st1 x1 r1 q1 => ?_
  cases k with
  | false => exact kk _ H1 F1 ν1 st1 x1 r1 (by rw [if_neg Bool.false_ne_true] at q1; exact q1)
  | true =>
    rw [if_pos rfl] at q1 ⊢
    exact rb.go B W σ H1 F1 ν1 ⟨s.sl, st1⟩ _ E _ r1 (w.next x1) q1 fun k H2 F2 ν2 st2 x2 r2 q2 => kk k H2 F2 ν2 st2 (x1.trans x2) r2 q2
theorem rf_or {c : Cf} {ta tb : WX → TT} (ra : RfT c ta dt) (rb : RfT c tb du) : RfT c (fun W => tOr (ta W) (tb W)) (dOr dt du) := by
  refine ⟨fun B W σ H F ν s Q E P rr w h kk => ?_⟩
  refine ra.go B W σ H F ν s _ E _ rr w h fun k H1 F1 ν1 st1 x1 r1 q1 => ?_
  cases k with
  | true => exact kk _ H1 F1 ν1 st1 x1 r1 (by rw [if_pos rfl] at q1; exact q1)
  | false =>
    rw [if_neg Bool.false_ne_true] at q1 ⊢
    exact rb.go B W σ H1 F1 ν1 ⟨s.sl, st1⟩ _ E _ r1 (w.next x1) q1 fun k H2 F2 ν2 st2 x2 r2 q2 => kk k H2 F2 ν2 st2 (x1.trans x2) r2 q2
theorem w_and (ha : Ts X cl a dt) (hb : Tw X cl (.BoolOp .And (b :: rest) pos) du) : Tw X cl (.BoolOp .And (a :: b :: rest) pos) (dAnd dt du) := by
  obtain ⟨ta, a1, a2⟩ := ha.ex
  obtain ⟨tb, b1, b2⟩ := hb.ex
  exact ⟨fun W => tAnd (ta W) (tb W), fun W k => pw_and (a1 W k) (b1 W k), rf_and a2 b2⟩
theorem w_or (ha : Ts X cl a dt) (hb : Tw X cl (.BoolOp .Or (b :: rest) pos) du) : Tw X cl (.BoolOp .Or (a :: b :: rest) pos) (dOr dt du) := by
  obtain ⟨ta, a1, a2⟩ := ha.ex
  obtain ⟨tb, b1, b2⟩ := hb.ex
  exact ⟨fun W => tOr (ta W) (tb W), fun W k => pw_or (a1 W k) (b1 W k), rf_or a2 b2⟩
theorem t_w (h : Tw X cl e dt) : Ts X cl e dt := by
  obtain ⟨t, h1, h2⟩ := h.ex
  exact ⟨t, fun W k => (h1 W k).pt, h2⟩
theorem t_not (h : Ts X cl a dt) : Ts X cl (.UnaryOp .Not a pos) (dNot dt) := by
  obtain ⟨t, h1, h2⟩ := h.ex
  exact ⟨fun W => tNot (t W), fun W k => pt_not (h1 W k), ⟨fun B W σ H F ν s Q E P rr w h kk => h2.go B W σ H F ν s _ E _ rr w h fun k H1 F1 ν1 st1 x1 r1 q1 => kk _ H1 F1 ν1 st1 x1 r1 q1⟩⟩
/-- as values: all but the last are truth values -/
def dAndV (da db : DE) : DE := fun s Q E => da s (fun x st => ∃ c, x = .bl c ∧ if c = true then db ⟨s.sl, st⟩ Q E else Q (.bl false) st) E
def dOrV (da db : DE) : DE := fun s Q E => da s (fun x st => ∃ c, x = .bl c ∧ if c = true then Q (.bl true) st else db ⟨s.sl, st⟩ Q E) E
def dNotV (da : DE) : DE := fun s Q E => da s (fun x st => ∃ c, x = .bl c ∧ Q (.bl (!c)) st) E
theorem x_one {op} (h : Ex X cl a da) : Ex X cl (.BoolOp op [a] pos) da := by
  obtain ⟨t, h1, h2⟩ := h.ex
  exact ⟨t, fun W k => pe_one (h1 W k), h2⟩
theorem x_and (ha : Ex X cl a da) (hb : Ex X cl (.BoolOp .And (b :: rest) pos) db) : Ex X cl (.BoolOp .And (a :: b :: rest) pos) (dAndV da db) := by
  obtain ⟨ta, a1, a2⟩ := ha.ex
  obtain ⟨tb, b1, b2⟩ := hb.ex
  refine ⟨fun W => tAndV (ta W) (tb W), fun W k => pe_and (a1 W k) (b1 W k), ⟨fun B W σ H F ν s Q E P rr w h kk => ?_⟩⟩
  refine a2.go B W σ H F ν s _ E _ rr w h fun v H1 F1 ν1 d1 st1 x1 r1 z1 q1 => ?_
  obtain ⟨k, e, q⟩ := q1
  subst e
  cases z1
  refine ⟨k, rfl, ?_⟩
  cases k with
  | false => rw [if_neg Bool.false_ne_true] at q ⊢; exact kk _ H1 F1 ν1 _ st1 x1 r1 (.bl false) q
  | true =>
    rw [if_pos rfl] at q ⊢
    exact b2.go B W σ H1 F1 ν1 ⟨s.sl, st1⟩ _ E _ r1 (w.next x1) q fun v H2 F2 ν2 d st2 x2 r2 z2 q2 => kk v H2 F2 ν2 d st2 (x1.trans x2) r2 z2 q2
theorem x_or (ha : Ex X cl a da) (hb : Ex X cl (.BoolOp .Or (b :: rest) pos) db) : Ex X cl (.BoolOp .Or (a :: b :: rest) pos) (dOrV da db) := by
  obtain ⟨ta, a1, a2⟩ := ha.ex
  obtain ⟨tb, b1, b2⟩ := hb.ex
  refine ⟨fun W => tOrV (ta W) (tb W), fun W k => pe_or (a1 W k) (b1 W k), ⟨fun B W σ H F ν s Q E P rr w h kk => ?_⟩⟩
  refine a2.go B W σ H F ν s _ E _ rr w h fun v H1 F1 ν1 d1 st1 x1 r1 z1 q1 => ?_
  obtain ⟨k, e, q⟩ := q1
  subst e
  cases z1
  refine ⟨k, rfl, ?_⟩
  cases k with
  | true => rw [if_pos rfl] at q ⊢; exact kk _ H1 F1 ν1 _ st1 x1 r1 (.bl true) q
  | false =>
    rw [if_neg Bool.false_ne_true] at q ⊢
    exact b2.go B W σ H1 F1 ν1 ⟨s.sl, st1⟩ _ E _ r1 (w.next x1) q fun v H2 F2 ν2 d st2 x2 r2 z2 q2 => kk v H2 F2 ν2 d st2 (x1.trans x2) r2 z2 q2
theorem x_not (ha : Ex X cl a da) : Ex X cl (.UnaryOp .Not a pos) (dNotV da) := by
  obtain ⟨ta, a1, a2⟩ := ha.ex
  refine ⟨fun W => tNotV (ta W), fun W k => pe_not (a1 W k), ⟨fun B W σ H F ν s Q E P rr w h kk => ?_⟩⟩
  refine a2.go B W σ H F ν s _ E _ rr w h fun v H1 F1 ν1 d1 st1 x1 r1 z1 q1 => ?_
  obtain ⟨k, e, q⟩ := q1
  subst e
  cases z1
  exact ⟨k, rfl, kk _ H1 F1 ν1 _ st1 x1 r1 (.bl (!k)) q⟩
def dIf (t : DT) (da db : DE) : DE := fun s Q E => t s (fun c st => if c = true then da ⟨s.sl, st⟩ Q E else db ⟨s.sl, st⟩ Q E) E
theorem x_if {c : Expr} (hc : Ts X cl c dt) (ha : Ex X cl a da) (hb : Ex X cl b db) : Ex X cl (.IfExp c a b pos) (dIf dt da db) := by
  obtain ⟨tc, c1, c2⟩ := hc.ex
  obtain ⟨ta, a1, a2⟩ := ha.ex
  obtain ⟨tb, b1, b2⟩ := hb.ex
  refine ⟨fun W => tIf (tc W) (ta W) (tb W), fun W k => pe_ifExp (c1 W k) (a1 W k) (b1 W k), ⟨fun B W σ H F ν s Q E P rr w h kk => ?_⟩⟩
  refine c2.go B W σ H F ν s _ E _ rr w h fun k H1 F1 ν1 st1 x1 r1 q1 => ?_
  cases k with
  | true =>
    rw [if_pos rfl] at q1 ⊢
    exact a2.go B W σ H1 F1 ν1 ⟨s.sl, st1⟩ _ E _ r1 (w.next x1) q1 fun v H2 F2 ν2 d st2 x2 r2 z2 q2 => kk v H2 F2 ν2 d st2 (x1.trans x2) r2 z2 q2
  | false =>
    rw [if_neg Bool.false_ne_true] at q1 ⊢
    exact b2.go B W σ H1 F1 ν1 ⟨s.sl, st1⟩ _ E _ r1 (w.next x1) q1 fun v H2 F2 ν2 d st2 x2 r2 z2 q2 => kk v H2 F2 ν2 d st2 (x1.trans x2) r2 z2 q2

/-! ### arguments, displays -/
variable {ds : DA}
def dNil : DA := fun s Q _ => Q [] s.st
def dCons (da : DE) (dr : DA) : DA := fun s Q E => da s (fun x st => dr ⟨s.sl, st⟩ (fun xs st' => Q (x :: xs) st') E) E
theorem a_nil : Ar X cl [] dNil := ⟨fun _ => tNil, fun _ _ => pa_nil, ⟨fun B W σ H F ν s Q E P rr w h kk => kk [] H F ν [] s.st Ext.refl rr .nil h⟩⟩
theorem a_cons (ha : Ex X cl e de) (hr : Ar X cl es ds) (hs : starEach (e :: es) X.env = (false, eval e X.env) :: starEach es X.env := by rfl) : Ar X cl (e :: es) (dCons de ds) := by
  obtain ⟨ta, a1, a2⟩ := ha.ex
  obtain ⟨tr, b1, b2⟩ := hr.ex
  refine ⟨fun W => tCons (ta W) (tr W), fun W k => pa_cons (a1 W k) (b1 W k) hs, ⟨fun B W σ H F ν s Q E P rr w h kk => ?_⟩⟩
  refine a2.go B W σ H F ν s _ E _ rr w h fun v H1 F1 ν1 d1 st1 x1 r1 z1 q1 => ?_
  exact b2.go B W σ H1 F1 ν1 ⟨s.sl, st1⟩ _ E _ r1 (w.next x1) q1 fun vs H2 F2 ν2 ds st2 x2 r2 z2 q2 => kk _ H2 F2 ν2 _ st2 (x1.trans x2) r2 (.cons (z1.mono x2) z2) q2
def dTup (t : DA) : DE := fun s Q E => t s (fun xs st => xs.length ≤ sizeLine ∧ Q (.tup xs) st) E
def dLst (t : DA) : DE := fun s Q E => t s (fun xs st => xs.length ≤ sizeLine ∧ Q (.lst xs) st) E
theorem x_tup {k} (h : Ar X cl es ds) : Ex X cl (.Tuple es k pos) (dTup ds) := by
  obtain ⟨t, h1, h2⟩ := h.ex
  refine ⟨fun W => tTup (t W), fun W k => pe_tup (h1 W k), ⟨fun B W σ H F ν s Q E P rr w h kk => ?_⟩⟩
  refine h2.go B W σ H F ν s _ E _ rr w h fun vs H1 F1 ν1 xs st1 x1 r1 z1 q1 => ?_
  refine ⟨by rw [z1.length]; exact q1.1, fun p hp => ?_⟩
  have hf := (r1.fresh hp).2.1
  exact kk _ _ _ ν1 _ st1 (x1.trans (ext_upd hf)) (r1.froze hp) (.tup (Or.inl (Or.inl upd_same)) (z1.mono (ext_upd hf))) q1.2
theorem x_lst (h : Ar X cl es ds) : Ex X cl (.List es pos) (dLst ds) := by
  obtain ⟨t, h1, h2⟩ := h.ex
  refine ⟨fun W => tLst (t W), fun W k => pe_lst (h1 W k), ⟨fun B W σ H F ν s Q E P rr w h kk => ?_⟩⟩
  refine h2.go B W σ H F ν s _ E _ rr w h fun vs H1 F1 ν1 xs st1 x1 r1 z1 q1 => ?_
  refine ⟨by rw [z1.length]; exact q1.1, fun p hp => ?_⟩
  have hf := (r1.fresh hp).2.1
  exact kk _ _ _ ν1 _ st1 (x1.trans (ext_upd hf)) (r1.froze hp) (.lst upd_same (z1.mono (ext_upd hf))) q1.2
/-- a display with a name of its own: it may be changed, and is known again -/
def dLstN (t : DA) : DE := fun s Q E => t s (fun xs st => xs.length ≤ sizeLine ∧ Q (.obj st.length) (st ++ [.lst xs])) E
theorem x_lstN (h : Ar X cl es ds) : Ex X cl (.List es pos) (dLstN ds) := by
  obtain ⟨t, h1, h2⟩ := h.ex
  refine ⟨fun W => tLst (t W), fun W k => pe_lst (h1 W k), ⟨fun B W σ H F ν s Q E P rr w h kk => ?_⟩⟩
  refine h2.go B W σ H F ν s _ E _ rr w h fun vs H1 F1 ν1 xs st1 x1 r1 z1 q1 => ?_
  refine ⟨by rw [z1.length]; exact q1.1, fun p hp => ?_⟩
  obtain ⟨r2, x2⟩ := r1.names hp (.lst z1)
  have e : (ν1 ++ [p])[st1.length]? = some p := by
    have := r1.sn
    rw [show st1.length = ν1.length from this]; simp
  exact kk _ _ _ _ _ _ (x1.trans x2) r2 (.obj e) q1.2
end
end Kt
set_option maxHeartbeats 4000000
/-! Kt4: statements, loops, comprehensions, calls of defs. -/
namespace Kt
open PySem PySem.Spec L2
/-! ### the weakest reading of a datum's reading -/
def canE (c : Cf) (de : DE) (W : WX) : TE := fun σ H P => ∃ B F ν s Q E, R c B s σ H F ν ∧ Wsh c B s σ F ν W E ∧ de s Q E ∧
  ∀ v H' F' ν' d st', Ext F ν F' ν' → R c B ⟨s.sl, st'⟩ σ H' F' ν' → Rz c F' ν' v d → Q d st' → P v H'
def canT (c : Cf) (de : DT) (W : WX) : TT := fun σ H P => ∃ B F ν s Q E, R c B s σ H F ν ∧ Wsh c B s σ F ν W E ∧ de s Q E ∧
  ∀ b H' F' ν' st', Ext F ν F' ν' → R c B ⟨s.sl, st'⟩ σ H' F' ν' → Q b st' → P b H'
section
variable {X : Cx} {cl : String → Addr} {e : Expr} {de : DE} {dt : DT}
theorem Ex.can (h : Ex X cl e de) (W : WX) (t : Takes X W) : PE X e (canE (cf X cl) de W) := by
  obtain ⟨te, h1, h2⟩ := h.ex
  refine ⟨fun pins s σ H Q I q => ?_⟩
  obtain ⟨B, F, ν, s', Q', E, a, b, c, d⟩ := q
  exact (h1 W t).run pins s σ H Q I (h2.go B W σ H F ν s' Q' E Q a b c d)
theorem Ts.can (h : Ts X cl e dt) (W : WX) (t : Takes X W) : PT X e (canT (cf X cl) dt W) := by
  obtain ⟨te, h1, h2⟩ := h.ex
  refine ⟨fun pins s σ H Q I q => ?_⟩
  obtain ⟨B, F, ν, s', Q', E, a, b, c, d⟩ := q
  exact (h1 W t).run pins s σ H Q I (h2.go B W σ H F ν s' Q' E Q a b c d)
end
abbrev W0 : WX := fun _ _ _ _ => False

/-! ### targets -/
abbrev DG := D → S → (S → Prop) → Prop
structure RfG (c : Cf) (t : TG) (g : DG) : Prop where
  go : ∀ (B : Bs) (σ : St) (H F : Hp) (ν : List Addr) (s : S) (v : V) (d : D) (K : S → Prop) (P : St → Hp → Prop), R c B s σ H F ν → Rz c F ν v d → g d s K →
    (∀ s' σ' H' F' ν', Ext F ν F' ν' → R c B s' σ' H' F' ν' → K s' → P σ' H') → t v σ H P
structure Tg (X : Cx) (cl : String → Addr) (tg : Expr) (g : DG) : Prop where
  ex : ∃ t : TG, PG X tg t ∧ RfG (cf X cl) t g
def dName (i : Nat) : DG := fun d s K => K ⟨s.sl.set i (some (.d d)), s.st⟩
abbrev DGs := List D → S → (S → Prop) → Prop
structure Tgs (X : Cx) (cl : String → Addr) (ts : List Expr) (g : DGs) : Prop where
  ex : ∃ t : TGs, PGs X ts t ∧ ∀ (B : Bs) (σ : St) (H F : Hp) (ν : List Addr) (s : S) (vs : List V) (ds : List D) (K : S → Prop) (P : St → Hp → Prop), R (cf X cl) B s σ H F ν → RzAll (cf X cl) F ν vs ds → g ds s K →
    (∀ s' σ' H' F' ν', Ext F ν F' ν' → R (cf X cl) B s' σ' H' F' ν' → K s' → P σ' H') → t vs σ H P
def gNone : DGs := fun ds s K => ds = [] ∧ K s
def gMore (g : DG) (r : DGs) : DGs := fun ds s K => ∃ d ds', ds = d :: ds' ∧ g d s fun s' => r ds' s' K
/-- the items of a tuple -/
def tupOf : D → Option (List D)
  | .tup ds => some ds
  | _ => none
def dUnp (n : Nat) (g : DGs) : DG := fun d s K => ∃ ds, tupOf d = some ds ∧ ds.length = n ∧ g ds s K
section
variable {X : Cx} {cl : String → Addr} {e a b : Expr} {es : List Expr} {de : DE} {dt : DT} {pos : Pos} {g : DG} {gs : DGs}
theorem g_name (i : Nat) {x : Str} (hN : X.N.Nodup) (hi : X.N[i]? = some x) (hx : Loc X.env.scope x := by first | exact Or.inl rfl | exact Or.inr rfl) (hf : X.fn x = true ∨ X.env.scope.names.lookup x = some .local := by first | exact .inl rfl | exact .inr rfl) : Tg X cl (.Name x pos) (dName i) :=
  ⟨gName i, pg_name hN hi hx hf, ⟨fun B σ H F ν s v d K P r z h k => k _ _ H F ν Ext.refl (r.setD i z) h⟩⟩
theorem gs_nil : Tgs X cl [] gNone :=
  ⟨gNil, pgs_nil, fun B σ H F ν s vs ds K P r z h k => by
    obtain ⟨e, h⟩ := h
    subst e
    cases z
    exact ⟨rfl, k s σ H F ν Ext.refl r h⟩⟩
theorem gs_cons (h1 : Tg X cl e g) (h2 : Tgs X cl es gs) (hs : (assignEach (e :: es) X.env).map (·.2) = assign e X.env :: (assignEach es X.env).map (·.2) := by rfl) : Tgs X cl (e :: es) (gMore g gs) := by
  obtain ⟨t, a1, a2⟩ := h1.ex
  obtain ⟨u, b1, b2⟩ := h2.ex
  refine ⟨gCons t u, pgs_cons a1 b1 hs, fun B σ H F ν s vs ds K P r z h k => ?_⟩
  obtain ⟨d, ds', e, h⟩ := h
  subst e
  cases z with
  | cons z1 z2 =>
    refine ⟨_, _, rfl, a2.go B σ H F ν s _ d _ _ r z1 h fun s1 σ1 H1 F1 ν1 x1 r1 q1 => ?_⟩
    exact b2 B σ1 H1 F1 ν1 s1 _ ds' K P r1 (z2.mono x1) q1 fun s2 σ2 H2 F2 ν2 x2 => k s2 σ2 H2 F2 ν2 (x1.trans x2)
theorem g_tup {k : Nat} {n : Nat} (hc : X.calm = true) (h : Tgs X cl es gs) (hn : (assignEach es X.env).length = n := by rfl) (hst : (assignEach es X.env).findIdx? (·.1) = none := by rfl) : Tg X cl (.Tuple es k pos) (dUnp n gs) := by
  obtain ⟨t, a1, a2⟩ := h.ex
  refine ⟨gTup X.K n t, pg_tup hc a1 hn hst, ⟨fun B σ H F ν s v d K P r z h k => ?_⟩⟩
  obtain ⟨ds, e, hl, h⟩ := h
  cases z with
  | tup z1 z2 =>
    cases e
    exact ⟨_, _, rfl, sqt_mono r.sub z1, by rw [z2.length, hl], a2 B σ H F ν s _ ds K P r z2 h k⟩
  | _ => cases e

/-! ### statements -/
variable {st : Stmt} {sts : List Stmt} {d1 d2 : DS}
def dNext : DS := fun D s => D.nx s
def dSeq (d1 d2 : DS) : DS := fun D s => d1 { D with nx := d2 D } s
theorem ss_nil : Ss X cl [] dNext := ⟨fun _ => tNext, fun _ _ _ => pss_nil, ⟨fun B W σ H F ν s D Dd r m h => m.nx s σ H F ν Ext.refl r h⟩⟩
theorem ss_cons (h1 : Sm X cl st d1) (h2 : Ss X cl sts d2) : Ss X cl (st :: sts) (dSeq d1 d2) := by
  obtain ⟨t1, a1, a2⟩ := h1.ex
  obtain ⟨t2, b1, b2⟩ := h2.ex
  refine ⟨fun W => tSeq (t1 W) (t2 W), fun W k p => pss_cons (a1 W k p) (b1 W k p), ⟨fun B W σ H F ν s D Dd r m h => ?_⟩⟩
  refine a2.go B W σ H F ν s { D with nx := t2 W D } { Dd with nx := d2 Dd } r ⟨fun s' σ' H' F' ν' x r' q => ?_, m.rt, m.ex, m.bk, m.ct⟩ h
  exact b2.go B W σ' H' F' ν' s' D Dd r' (m.next x) q
theorem s_pass : Sm X cl (.Pass pos) dNext := ⟨fun _ => tNext, fun _ _ _ => ps_pass, ⟨fun B W σ H F ν s D Dd r m h => m.nx s σ H F ν Ext.refl r h⟩⟩
def dBreak : DS := fun D s => D.bk s
def dCont : DS := fun D s => D.ct s
theorem s_break : Sm X cl (.Break pos) dBreak := ⟨fun _ => tBreak, fun _ _ _ => ps_break, ⟨fun B W σ H F ν s D Dd r m h => m.bk s σ H F ν Ext.refl r h⟩⟩
theorem s_continue : Sm X cl (.Continue pos) dCont := ⟨fun _ => tCont, fun _ _ _ => ps_continue, ⟨fun B W σ H F ν s D Dd r m h => m.ct s σ H F ν Ext.refl r h⟩⟩
def dDrop (de : DE) : DS := fun D s => de s (fun _ st => D.nx ⟨s.sl, st⟩) (D.xe s)
theorem s_expr (h : Ex X cl e de) (hs : swapsWith e none pos.line X.env = pure false := by rfl) : Sm X cl (.Expr e pos) (dDrop de) := by
  obtain ⟨t, h1, h2⟩ := h.ex
  exact ⟨fun W => tDrop (t W), fun W k _ => ps_expr (h1 W k) hs, ⟨fun B W σ H F ν s D Dd r m q => h2.go B W σ H F ν s _ _ _ r m.wsh q fun v H1 F1 ν1 d1 st1 x1 r1 z1 q1 => m.nx _ σ H1 F1 ν1 x1 r1 q1⟩⟩
theorem R.one {c : Cf} {B : Bs} {s : S} {σ : St} {H F : Hp} {ν : List Addr} (r : R c B s σ H F ν) {v : V} {y : SV} (z : RzS c B H F ν v y) : R c B ⟨[some y], s.st⟩ [some v] H F ν := by
  refine ⟨r.sub, r.f0, r.fz, r.kp, r.nu, r.nd, r.nf, rfl, fun i x e => ?_, fun i j x x' a e1 e2 _ _ _ _ => ?_, r.sn, r.st⟩
  · cases i with
    | zero => cases e; exact ⟨v, rfl, z⟩
    | succ i => cases e
  · cases i with
    | zero =>
      cases j with
      | zero => rfl
      | succ j => cases e2
    | succ i => cases e1
def dRet (de : DE) : DS := fun D s => de s (fun d st => D.rt (.d d) st) (D.xe s)
theorem s_ret (h : Ex X cl e de) : Sm X cl (.Return (some e) pos) (dRet de) := by
  obtain ⟨t, h1, h2⟩ := h.ex
  exact ⟨fun W => tRet (t W), fun W k _ => ps_ret (h1 W k), ⟨fun B W σ H F ν s D Dd r m q => h2.go B W σ H F ν s _ _ _ r m.wsh q fun v H1 F1 ν1 d1 st1 x1 r1 z1 q1 => m.rt _ _ v H1 F1 ν1 x1 (r1.one (.d z1)) q1⟩⟩
def dRetN : DS := fun D s => D.rt (.d .non) s.st
theorem s_retN : Sm X cl (.Return none pos) dRetN := ⟨fun _ => tRetN, fun _ _ _ => ps_retN, ⟨fun B W σ H F ν s D Dd r m h => m.rt _ _ .non H F ν Ext.refl (r.one (.d .non)) h⟩⟩
/-- return x, x a thing of its own -/
def dRetO (i : Nat) : DS := fun D s => ∃ y, s.sl[i]? = some (some y) ∧ D.rt y s.st
theorem s_retO (i : Nat) {x : Str} {p : Pos} (hN : X.N[i]? = some x := by rfl) (hv : Vis X.env.scope x := by first | exact Or.inl rfl | exact Or.inr (Or.inl rfl) | exact Or.inr (Or.inr rfl)) (hd : (x == ("__debug__" : Str)) = false := by decide)
    (hcd : (x == ("__classdict__" : Str)) = false := by decide) : Sm X cl (.Return (some (.Name x p)) pos) (dRetO i) := by
  refine ⟨fun _ => tRet (tVar i), fun _ _ _ => ps_ret (pe_var hN hv hd hcd), ⟨fun B W σ H F ν s D Dd r m h => ?_⟩⟩
  obtain ⟨y, e, q⟩ := h
  obtain ⟨v, h1, h2⟩ := r.sl i y e
  exact ⟨v, h1, m.rt _ _ v H F ν Ext.refl (r.one h2) q⟩
def dSet (g : DG) (de : DE) : DS := fun D s => de s (fun d st => g d ⟨s.sl, st⟩ D.nx) (D.xe s)
theorem s_asg {tg : Expr} (he : Ex X cl e de) (hg : Tg X cl tg g) (hs : swapsWithSole [tg] e pos.line X.env = pure false := by rfl) (hw : swappedStores [tg] e X.env = pure none := by rfl)
    (h1 : (assignEach [tg] X.env).map (·.2) = [assign tg X.env] := by rfl) : Sm X cl (.Assign [tg] e pos) (dSet g de) := by
  obtain ⟨t, a1, a2⟩ := he.ex
  obtain ⟨u, b1, b2⟩ := hg.ex
  refine ⟨fun W => tAsg (t W) u, fun W k _ => ps_asg (a1 W k) b1 hs hw h1, ⟨fun B W σ H F ν s D Dd r m q => ?_⟩⟩
  refine a2.go B W σ H F ν s _ _ _ r m.wsh q fun v H1 F1 ν1 d1 st1 x1 r1 z1 q1 => ?_
  exact b2.go B σ H1 F1 ν1 ⟨s.sl, st1⟩ v d1 _ _ r1 z1 q1 fun s2 σ2 H2 F2 ν2 x2 r2 q2 => m.nx s2 σ2 H2 F2 ν2 (x1.trans x2) r2 q2
/-- x = [..]: a list of its own -/
def dSetO (i : Nat) (da : DA) : DS := fun D s => da s (fun xs st => xs.length ≤ sizeLine ∧ D.nx ⟨s.sl.set i (some (.ol xs)), st⟩) (D.xe s)
theorem s_setO (i : Nat) {x : Str} {p q : Pos} {da : DA} (hN : X.N.Nodup) (hi : X.N[i]? = some x) (ha : Ar X cl es da) (hx : Loc X.env.scope x := by first | exact Or.inl rfl | exact Or.inr rfl) (hf : X.fn x = true ∨ X.env.scope.names.lookup x = some .local := by first | exact .inl rfl | exact .inr rfl)
    (hs : swapsWithSole [.Name x p] (.List es q) pos.line X.env = pure false := by rfl) (hw : swappedStores [.Name x p] (.List es q) X.env = pure none := by rfl)
    (h1 : (assignEach [.Name x p] X.env).map (·.2) = [assign (.Name x p) X.env] := by rfl) : Sm X cl (.Assign [.Name x p] (.List es q) pos) (dSetO i da) := by
  obtain ⟨t, a1, a2⟩ := ha.ex
  refine ⟨fun W => tAsg (tLst (t W)) (gName i), fun W k _ => ps_asg (pe_lst (a1 W k)) (pg_name hN hi hx hf) hs hw h1, ⟨fun B W σ H F ν s D Dd r m q => ?_⟩⟩
  refine a2.go B W σ H F ν s _ _ _ r m.wsh q fun vs H1 F1 ν1 xs st1 x1 r1 z1 q1 => ?_
  refine ⟨by rw [z1.length]; exact q1.1, fun p hp => ?_⟩
  exact m.nx _ _ _ F1 ν1 x1 (r1.setO i hp fun H' e => .ol (r1.fresh hp) e z1) q1.2
/-- x = {}: a dict of its own -/
def dSetD (i : Nat) : DS := fun D s => D.nx ⟨s.sl.set i (some (.od [])), s.st⟩
theorem s_setD (i : Nat) {x : Str} {p q : Pos} (hN : X.N.Nodup) (hi : X.N[i]? = some x) (hx : Loc X.env.scope x := by first | exact Or.inl rfl | exact Or.inr rfl) (hf : X.fn x = true ∨ X.env.scope.names.lookup x = some .local := by first | exact .inl rfl | exact .inr rfl)
    (hs : swapsWithSole [.Name x p] (.Dict [] [] q) pos.line X.env = pure false := by rfl) (hw : swappedStores [.Name x p] (.Dict [] [] q) X.env = pure none := by rfl)
    (h1 : (assignEach [.Name x p] X.env).map (·.2) = [assign (.Name x p) X.env] := by rfl) : Sm X cl (.Assign [.Name x p] (.Dict [] [] q) pos) (dSetD i) := by
  refine ⟨fun W => tAsg tDNewK (gName i), fun W k _ => ps_asg pe_dnewK (pg_name hN hi hx hf) hs hw h1, ⟨fun B W σ H F ν s D Dd r m q => fun p hp => ?_⟩⟩
  exact m.nx _ _ _ F ν Ext.refl (r.setO i hp fun H' e => .od (r.fresh hp) e .nil) q
def dIfS (c : DT) (t u : DS) : DS := fun D s => c s (fun b st => if b = true then t D ⟨s.sl, st⟩ else u D ⟨s.sl, st⟩) (D.xe s)
theorem s_if {c : Expr} {sa sb : List Stmt} (hc : Ts X cl c dt) (ha : Ss X cl sa d1) (hb : Ss X cl sb d2) : Sm X cl (.If c sa sb pos) (dIfS dt d1 d2) := by
  obtain ⟨tc, c1, c2⟩ := hc.ex
  obtain ⟨ta, a1, a2⟩ := ha.ex
  obtain ⟨tb, b1, b2⟩ := hb.ex
  refine ⟨fun W => tIfS (tc W) (ta W) (tb W), fun W k p => ps_if (c1 W k) (a1 W k p) (b1 W k p), ⟨fun B W σ H F ν s D Dd r m q => ?_⟩⟩
  refine c2.go B W σ H F ν s _ _ _ r m.wsh q fun k H1 F1 ν1 st1 x1 r1 q1 => ?_
  cases k with
  | true => rw [if_pos rfl] at q1 ⊢; exact a2.go B W σ H1 F1 ν1 _ D Dd r1 (m.next x1) q1
  | false => rw [if_neg Bool.false_ne_true] at q1 ⊢; exact b2.go B W σ H1 F1 ν1 _ D Dd r1 (m.next x1) q1
/-- from here on the thing of slot i is a datum: nothing is done -/
def dFrz (i : Nat) (t : DS) : DS := fun D s => ∃ y, s.sl[i]? = some (some y) ∧ y.frz = true ∧ t D ⟨s.sl.set i (some (.d y.fz)), s.st⟩
theorem ss_frz (i : Nat) (h : Ss X cl sts d1) : Ss X cl sts (dFrz i d1) := by
  obtain ⟨t, a1, a2⟩ := h.ex
  refine ⟨t, a1, ⟨fun B W σ H F ν s D Dd r m q => ?_⟩⟩
  obtain ⟨y, e, o, q⟩ := q
  obtain ⟨F', x, r'⟩ := r.fzS e o
  exact a2.go B W σ H F' ν _ D Dd r' (m.next x) q

/-! ### what is walked -/
abbrev DI := S → (List D → (List Ob → Prop) → List Ob → Prop) → XK' → Prop
structure Wk (c : Cf) (J : It) (F : Hp) (ν : List Addr) (wt : List Ob → Prop) (ds : List D) : Prop where
  go : ∀ B s σ H' F' ν', Ext F ν F' ν' → R c B s σ H' F' ν' → wt s.st → J.stop ds.length H' ∧ ∀ i d, ds[i]? = some d → J.go i H' ∧ ∀ x H'', J.yld i H' x H'' → ∃ F'' ν'', Ext F' ν' F'' ν'' ∧ R c B s σ H'' F'' ν'' ∧ Rz c F'' ν'' x d
structure RfI (c : Cf) (wi : WX → TI) (di : DI) : Prop where
  go : ∀ (B : Bs) (W : WX) (σ : St) (H F : Hp) (ν : List Addr) (s : S) (Q : List D → (List Ob → Prop) → List Ob → Prop) (E : XK') (P : It → Hp → Prop), R c B s σ H F ν → Wsh c B s σ F ν W E → di s Q E →
    (∀ J H' F' ν' wt ds st', Ext F ν F' ν' → R c B ⟨s.sl, st'⟩ σ H' F' ν' → Wk c J F' ν' wt ds → Q ds wt st' → P J H') → wi W σ H P
structure Iw (X : Cx) (cl : String → Addr) (tg e : Expr) (di : DI) : Prop where
  ex : ∃ wi : WX → TI, (∀ W, Takes X W → PI X tg e (wi W)) ∧ RfI (cf X cl) wi di
def dLoop (g : DG) (tb : DS) (De : DEnds) (wt : List Ob → Prop) : List D → S → Prop
  | [], s => wt s.st ∧ De.nx s
  | d :: ds, s => wt s.st ∧ g d s fun s' => tb { De with nx := dLoop g tb De wt ds, ct := dLoop g tb De wt ds, bk := De.nx } s'
def dFor (di : DI) (g : DG) (tb : DS) : DS := fun D s => di s (fun ds wt st => dLoop g tb D wt ds ⟨s.sl, st⟩) (D.xe s)
theorem drop_get {α : Type} {l : List α} {i : Nat} {x : α} (h : l[i]? = some x) : l.drop i = x :: l.drop (i + 1) := by
  obtain ⟨hl, e⟩ := List.getElem?_eq_some_iff.mp h
  rw [List.drop_eq_getElem_cons hl, e]
theorem s_for {tg iter : Expr} {body : List Stmt} {di : DI} {tb : DS} (hc : X.calm = true) (hi : Iw X cl tg iter di) (hg : Tg X cl tg g) (hb : Ss X cl body tb) (hs : ∀ x, foldedSetIterable iter X.env x = pure x := by intro _; rfl) :
    Sm X cl (.For tg iter body [] pos) (dFor di g tb) := by
  obtain ⟨wi, i1, i2⟩ := hi.ex
  obtain ⟨u, g1, g2⟩ := hg.ex
  obtain ⟨t, b1, b2⟩ := hb.ex
  refine ⟨fun W => tFor (wi W) u (t W), fun W k p => ps_for p hc (i1 W k) g1 (b1 W k p) hs, ⟨fun B W σ H F ν s D Dd r m q => ?_⟩⟩
  refine i2.go B W σ H F ν s _ _ _ r m.wsh q fun J H1 F1 ν1 wt ds st1 x1 r1 k1 q1 => ?_
  refine ⟨fun i n σ' H' => n = ds.length - i ∧ i ≤ ds.length ∧ ∃ F' ν' s', Ext F1 ν1 F' ν' ∧ R (cf X cl) B s' σ' H' F' ν' ∧ dLoop g tb Dd wt (ds.drop i) s', ⟨_, rfl, Nat.zero_le _, F1, ν1, _, Ext.refl, r1, q1⟩, ?_⟩
  rintro i n σ' H' ⟨rfl, hi, F', ν', s', x', r', q'⟩
  have hw : wt s'.st := by
    cases e : ds.drop i with
    | nil => rw [e] at q'; exact q'.1
    | cons d r => rw [e] at q'; exact q'.1
  obtain ⟨k2, k3⟩ := k1.go B s' σ' H' F' ν' x' r' hw
  by_cases hlt : i < ds.length
  · have hd : ds[i]? = some ds[i] := by simp [hlt]
    obtain ⟨k4, k5⟩ := k3 i _ hd
    rw [drop_get hd] at q'
    have q' := q'.2
    refine .inr ⟨k4, fun σ2 H2 => ∃ F2 ν2 s2, Ext F1 ν1 F2 ν2 ∧ R (cf X cl) B s2 σ2 H2 F2 ν2 ∧ dLoop g tb Dd wt (ds.drop (i + 1)) s2, fun σ2 H2 z => ⟨ds.length - (i + 1), by omega, rfl, hlt, z⟩, fun x H'' y => ?_⟩
    obtain ⟨F3, ν3, x3, r3, z3⟩ := k5 x H'' y
    refine g2.go B σ' H'' F3 ν3 s' x _ _ _ r3 z3 q' fun s4 σ4 H4 F4 ν4 x4 r4 q4 => ?_
    have xx : Ext F1 ν1 F4 ν4 := (x'.trans x3).trans x4
    have mm := m.next (x1.trans xx)
    exact b2.go B W σ4 H4 F4 ν4 s4 _ { Dd with nx := dLoop g tb Dd wt (ds.drop (i + 1)), ct := dLoop g tb Dd wt (ds.drop (i + 1)), bk := Dd.nx } r4 ⟨fun s5 σ5 H5 F5 ν5 x5 r5 q5 => ⟨F5, ν5, s5, xx.trans x5, r5, q5⟩, mm.rt, mm.ex, mm.nx, fun s5 σ5 H5 F5 ν5 x5 r5 q5 => ⟨F5, ν5, s5, xx.trans x5, r5, q5⟩⟩ q4
  · have e : i = ds.length := by omega
    subst e
    rw [List.drop_length] at q'
    exact .inl ⟨k2, m.nx s' σ' H' F' ν' (x1.trans x') r' q'.2⟩

/-! ### comprehensions -/
def wipeS (s : S) (vs : List Nat) : S := ⟨vs.foldr (fun v l => l.set v none) s.sl, s.st⟩
def unown : Option SV → Option SV
  | some y => if y.own then none else some y
  | none => none
def dComp (g : DG) (tt : DT) (te : DE) (sl0 : List (Option SV)) (wt : List Ob → Prop) : List D → List D → List Ob → (List D → List Ob → Prop) → Prop
  | [], acc, st, Q => wt st ∧ Q acc st
  | d :: ds, acc, st, Q => wt st ∧ g d ⟨sl0, st⟩ fun s2 => tt s2 (fun b st2 => if b = true then te ⟨s2.sl, st2⟩ (fun y st3 => acc.length < sizeLine ∧ dComp g tt te sl0 wt ds (acc ++ [y]) st3 Q) (fun _ _ => False) else dComp g tt te sl0 wt ds acc st2 Q) (fun _ _ => False)
/-- the slots within a comprehension: its own names are empty, things of their own are not seen -/
def blkSl (sl : List (Option SV)) (vs : List Nat) : List (Option SV) := (vs.foldr (fun v l => l.set v none) sl).map unown
def dLc (di : DI) (g : DG) (tt : DT) (te : DE) (vs : List Nat) : DA := fun s Q E => di s (fun ds wt st => dComp g tt te (blkSl s.sl vs) wt ds [] st Q) E
def dYes : DT := fun s Q _ => Q true s.st
theorem wipe_fold (σ : St) (vs : List Nat) : wipe σ vs = vs.foldr (fun v l => l.set v none) σ := by
  induction vs with
  | nil => rfl
  | cons v vs ih => rw [List.foldr_cons, ← ih]; rfl
theorem fold_len {α : Type} (l : List (Option α)) (vs : List Nat) : (vs.foldr (fun v l => l.set v none) l).length = l.length := by
  induction vs with
  | nil => rfl
  | cons v vs ih => rw [List.foldr_cons, List.length_set, ih]
theorem fold_get {α : Type} {l : List (Option α)} {vs : List Nat} {i : Nat} {x : α} (h : (vs.foldr (fun v l => l.set v none) l)[i]? = some (some x)) : l[i]? = some (some x) ∧ i ∉ vs := by
  induction vs with
  | nil => exact ⟨h, by simp⟩
  | cons v vs ih =>
    rw [List.foldr_cons] at h
    rcases getset h with ⟨_, e, _⟩ | ⟨hn, e⟩
    · cases e
    · obtain ⟨h1, h2⟩ := ih e
      exact ⟨h1, by simp [h2]; exact fun z => hn z.symm⟩
theorem fold_keep {α : Type} {l : List α} {vs : List Nat} {i : Nat} {d : α} (h : i ∉ vs) : (vs.foldr (fun v l => l.set v d) l)[i]? = l[i]? := by
  induction vs with
  | nil => rfl
  | cons v vs ih =>
    rw [List.foldr_cons, List.getElem?_set_ne (fun z => h (by simp [z]))]
    exact ih fun z => h (List.mem_cons_of_mem _ z)
/-- the state within a comprehension's turn: its base is the heap as it stands -/
theorem R.inner {c : Cf} {B : Bs} {s : S} {σ : St} {H F : Hp} {ν : List Addr} (r : R c B s σ H F ν) (vs : List Nat) {H1 F1 : Hp} {ν1 : List Addr} {st1 : List Ob} (x : Ext F ν F1 ν1) (r1 : R c B ⟨s.sl, st1⟩ σ H1 F1 ν1) :
    R c ⟨H1, F1, ν1⟩ ⟨blkSl s.sl vs, st1⟩ (wipe σ vs) H1 F1 ν1 := by
  have get : ∀ (i : Nat) y, (blkSl s.sl vs)[i]? = some (some y) → s.sl[i]? = some (some y) ∧ i ∉ vs ∧ y.own = false := fun i y e => by
    unfold blkSl at e
    rw [List.getElem?_map] at e
    cases q : (vs.foldr (fun v l => l.set v none) s.sl)[i]? with
    | none => rw [q] at e; cases e
    | some o =>
      rw [q] at e
      cases o with
      | none => cases e
      | some z =>
        have e' : (if z.own = true then none else some z) = some y := Option.some.inj e
        cases hz : z.own with
        | true => rw [hz, if_pos rfl] at e'; cases e'
        | false =>
          rw [hz, if_neg Bool.false_ne_true] at e'
          cases e'
          obtain ⟨h1, h2⟩ := fold_get q
          exact ⟨h1, h2, hz⟩
  refine ⟨r1.sub, fun _ _ e => e, fun _ _ e => .inl e, fun _ _ e _ => e, ⟨[], by simp, by simp⟩, r1.nd, r1.nf, ?_, fun i y e => ?_, fun i j y z a e1 e2 o1 _ _ _ => ?_, r1.sn, r1.st⟩
  · show (blkSl s.sl vs).length = _
    unfold blkSl
    rw [List.length_map, fold_len, wipe_length]
    exact r1.ln
  · obtain ⟨e1, hv, ho⟩ := get i y e
    obtain ⟨v, h1, h2⟩ := r1.sl i y e1
    refine ⟨v, by rw [wipe_fold, fold_keep hv]; exact h1, ?_⟩
    cases h2 with
    | d q => exact .d q
    | ol _ _ _ => cases ho
    | od _ _ _ => cases ho
    | oi _ _ _ => cases ho
    | ex q1 q2 => exact .ex q1 q2
  · obtain ⟨_, _, ho⟩ := get i y e1
    rw [ho] at o1; cases o1
/-- a target stores these names alone -/
def Wipes (t : TG) (vs : List Nat) : Prop := ∀ v σ H P, t v σ H P → t v σ H fun σ2 H2 => wipe σ2 vs = wipe σ vs ∧ P σ2 H2
def WipesS (t : TGs) (vs : List Nat) : Prop := ∀ v σ H P, t v σ H P → t v σ H fun σ2 H2 => wipe σ2 vs = wipe σ vs ∧ P σ2 H2
theorem wipe_set {σ : St} {vs : List Nat} {i : Nat} {o : Option V} (h : i ∈ vs) : wipe (σ.set i o) vs = wipe σ vs := by
  rw [wipe_fold, wipe_fold]
  induction vs generalizing σ with
  | nil => cases h
  | cons v vs ih =>
    rw [List.foldr_cons, List.foldr_cons]
    by_cases hm : i ∈ vs
    · rw [ih hm]
    · have hv : i = v := by
        rcases List.mem_cons.mp h with e | e
        · exact e
        · exact absurd e hm
      subst hv
      apply List.ext_getElem?
      intro j
      by_cases hj : i = j
      · subst hj
        by_cases hl : i < σ.length
        · rw [List.getElem?_set_self (by rw [fold_len, List.length_set]; exact hl), List.getElem?_set_self (by rw [fold_len]; exact hl)]
        · rw [List.getElem?_eq_none (by rw [List.length_set, fold_len, List.length_set]; omega), List.getElem?_eq_none (by rw [List.length_set, fold_len]; omega)]
      · rw [List.getElem?_set_ne hj, List.getElem?_set_ne hj]
        by_cases hjm : j ∈ vs
        · have : ∀ (l l' : List (Option V)), l.length = l'.length → (vs.foldr (fun v l => l.set v none) l)[j]? = (vs.foldr (fun v l => l.set v none) l')[j]? := by
            intro l l' hl
            clear ih h hm
            induction vs with
            | nil => cases hjm
            | cons w ws ih2 =>
              rw [List.foldr_cons, List.foldr_cons]
              by_cases hw : w = j
              · subst hw
                by_cases hb : w < l.length
                · rw [List.getElem?_set_self (by rw [fold_len]; exact hb), List.getElem?_set_self (by rw [fold_len, ← hl]; exact hb)]
                · rw [List.getElem?_eq_none (by rw [List.length_set, fold_len]; omega), List.getElem?_eq_none (by rw [List.length_set, fold_len]; omega)]
              · rw [List.getElem?_set_ne hw, List.getElem?_set_ne hw]
                exact ih2 (by
                  rcases List.mem_cons.mp hjm with e | e
                  · exact absurd e.symm hw
                  · exact e)
          exact this _ _ (by rw [List.length_set])
        · rw [fold_keep hjm, fold_keep hjm, List.getElem?_set_ne hj]
theorem wipe_wipe (σ : St) (vs : List Nat) : wipe (wipe σ vs) vs = wipe σ vs := by
  have : ∀ (us : List Nat), (∀ u ∈ us, u ∈ vs) → wipe (wipe σ us) vs = wipe σ vs := by
    intro us
    induction us with
    | nil => intro _; rfl
    | cons u us ih =>
      intro h
      show wipe ((wipe σ us).set u none) vs = _
      rw [wipe_set (h u (by simp))]
      exact ih fun w hw => h w (List.mem_cons_of_mem _ hw)
  exact this vs fun _ h => h
theorem wipes_name {i : Nat} {vs : List Nat} (h : i ∈ vs) : Wipes (gName i) vs := fun v σ H P q => ⟨wipe_set h, q⟩
theorem wipes_nil {vs : List Nat} : WipesS gNil vs := fun v σ H P q => ⟨q.1, rfl, q.2⟩
theorem wipes_tup {K : PySem.W.Frag} {n : Nat} {t : TGs} {vs : List Nat} (h : WipesS t vs) : Wipes (gTup K n t) vs := fun v σ H P q => by
  obtain ⟨a, xs, e1, e2, e3, q⟩ := q
  exact ⟨a, xs, e1, e2, e3, h _ _ _ _ q⟩
theorem gName_mono {i : Nat} {v : V} {σ : St} {H : Hp} {P P' : St → Hp → Prop} (h : ∀ σ H, P σ H → P' σ H) (q : gName i v σ H P) : gName i v σ H P' := h _ _ q
theorem wipes_cons {i : Nat} {u : TGs} {vs : List Nat} (h : i ∈ vs) (h2 : WipesS u vs) : WipesS (gCons (gName i) u) vs := fun v σ H P q => by
  obtain ⟨x, r, e, q⟩ := q
  refine ⟨x, r, e, ?_⟩
  have q : u r (σ.set i (some x)) H P := q
  have z := h2 _ _ _ _ q
  rw [wipe_set h] at z
  exact z
structure TgB (X : Cx) (cl : String → Addr) (scope : Scope) (tg : Expr) (vs : List Nat) (u : TG) (g : DG) : Prop where
  pg : ∀ (s : Shared) (H : Hp) (C : Addr) (l : List (Str × Addr)) (fp : List Addr), PG (X.blk s H scope (compEnvC scope l C X.env) fp) tg u
  rf : RfG (cf X cl) u g
  wp : Wipes u vs
structure TgsB (X : Cx) (cl : String → Addr) (scope : Scope) (ts : List Expr) (vs : List Nat) (u : TGs) (g : DGs) : Prop where
  pg : ∀ (s : Shared) (H : Hp) (C : Addr) (l : List (Str × Addr)) (fp : List Addr), PGs (X.blk s H scope (compEnvC scope l C X.env) fp) ts u
  rf : ∀ (B : Bs) (σ : St) (H F : Hp) (ν : List Addr) (s : S) (vs : List V) (ds : List D) (K : S → Prop) (P : St → Hp → Prop), R (cf X cl) B s σ H F ν → RzAll (cf X cl) F ν vs ds → g ds s K →
    (∀ s' σ' H' F' ν', Ext F ν F' ν' → R (cf X cl) B s' σ' H' F' ν' → K s' → P σ' H') → u vs σ H P
  wp : WipesS u vs
theorem b_name (i : Nat) {x : Str} {vs : List Nat} {scope : Scope} (hN : X.N.Nodup) (hi : X.N[i]? = some x) (hm : i ∈ vs) (hx : ∀ (s : Shared) (H : Hp) (C : Addr) (l : List (Str × Addr)) (fp : List Addr), Loc (X.blk s H scope (compEnvC scope l C X.env) fp).env.scope x := by intros; first | exact Or.inl rfl | exact Or.inr rfl)
    (hf : ∀ (s : Shared) (H : Hp) (C : Addr) (l : List (Str × Addr)) (fp : List Addr), (X.blk s H scope (compEnvC scope l C X.env) fp).fn x = true ∨ (X.blk s H scope (compEnvC scope l C X.env) fp).env.scope.names.lookup x = some .local := by intros; first | exact .inl rfl | exact .inr rfl) : TgB X cl scope (.Name x pos) vs (gName i) (dName i) :=
  ⟨fun s H C l fp => pg_name hN hi (hx s H C l fp) (hf s H C l fp), ⟨fun B σ H F ν s v d K P r z h k => k _ _ H F ν Ext.refl (r.setD i z) h⟩, wipes_name hm⟩
theorem bs_nil {vs : List Nat} {scope : Scope} : TgsB X cl scope [] vs gNil gNone :=
  ⟨fun _ _ _ _ _ => pgs_nil, fun B σ H F ν s vs ds K P r z h k => by
    obtain ⟨e, h⟩ := h
    subst e
    cases z
    exact ⟨rfl, k s σ H F ν Ext.refl r h⟩, wipes_nil⟩
theorem bs_cons {vs : List Nat} {scope : Scope} {x : Str} {p : Pos} {i : Nat} {u : TGs} (hm : i ∈ vs) (h1 : TgB X cl scope (.Name x p) vs (gName i) (dName i)) (h2 : TgsB X cl scope es vs u gs)
    (hs : ∀ (s : Shared) (H : Hp) (C : Addr) (l : List (Str × Addr)) (fp : List Addr), (assignEach (.Name x p :: es) (X.blk s H scope (compEnvC scope l C X.env) fp).env).map (·.2) = assign (.Name x p) (X.blk s H scope (compEnvC scope l C X.env) fp).env :: (assignEach es (X.blk s H scope (compEnvC scope l C X.env) fp).env).map (·.2) := by intros; rfl) :
    TgsB X cl scope (.Name x p :: es) vs (gCons (gName i) u) (gMore (dName i) gs) := by
  refine ⟨fun s H C l fp => pgs_cons (h1.pg s H C l fp) (h2.pg s H C l fp) (hs s H C l fp), fun B σ H F ν s vs ds K P r z h k => ?_, wipes_cons hm h2.wp⟩
  obtain ⟨d, ds', e, h⟩ := h
  subst e
  cases z with
  | cons z1 z2 =>
    refine ⟨_, _, rfl, h1.rf.go B σ H F ν s _ d _ _ r z1 h fun s1 σ1 H1 F1 ν1 x1 r1 q1 => ?_⟩
    exact h2.rf B σ1 H1 F1 ν1 s1 _ ds' K P r1 (z2.mono x1) q1 fun s2 σ2 H2 F2 ν2 x2 => k s2 σ2 H2 F2 ν2 (x1.trans x2)
theorem b_tup {vs : List Nat} {scope : Scope} {k n : Nat} {u : TGs} (hc : X.calm = true) (h : TgsB X cl scope es vs u gs) (hn : ∀ (s : Shared) (H : Hp) (C : Addr) (l : List (Str × Addr)) (fp : List Addr), (assignEach es (X.blk s H scope (compEnvC scope l C X.env) fp).env).length = n := by intros; rfl)
    (hst : ∀ (s : Shared) (H : Hp) (C : Addr) (l : List (Str × Addr)) (fp : List Addr), (assignEach es (X.blk s H scope (compEnvC scope l C X.env) fp).env).findIdx? (·.1) = none := by intros; rfl) : TgB X cl scope (.Tuple es k pos) vs (gTup X.K n u) (dUnp n gs) := by
  refine ⟨fun s H C l fp => pg_tup hc (h.pg s H C l fp) (hn s H C l fp) (hst s H C l fp), ⟨fun B σ H F ν s v d K P r z q k => ?_⟩, wipes_tup h.wp⟩
  obtain ⟨ds, e, hl, q⟩ := q
  cases z with
  | tup z1 z2 =>
    cases e
    exact ⟨_, _, rfl, sqt_mono r.sub z1, by rw [z2.length, hl], h.rf B σ H F ν s _ ds K P r z2 q k⟩
  | _ => cases e
theorem takesBlk {Y : Cx} (h : Y.xe = fun _ _ => False) : Takes Y W0 := fun _ _ x => by
  obtain ⟨_, _, _, _, _, _, _, _, _, _, _, _, _, _, _, _, z⟩ := x
  exact z.elim
/-- the tests of a comprehension -/
structure Tss (X : Cx) (cl : String → Addr) (es : List Expr) (de : DT) : Prop where
  ex : PTs X es (canT (cf X cl) de W0)
theorem ts_nil : Tss X cl [] dYes := ⟨⟨fun pins s σ H Q I q => by
  obtain ⟨B, F, ν, s', Q', E, a, b, c, d⟩ := q
  exact pts_nil.run pins s σ H Q I (d true H F ν s'.st Ext.refl a c)⟩⟩
theorem ts_one (h : Ts X cl e dt) (hx : X.xe = fun _ _ => False := by rfl) : Tss X cl [e] dt := ⟨pts_one (h.can W0 (takesBlk hx))⟩

section
variable {c : Cf} {B : Bs} {s : S} {σ : St} {H F : Hp} {ν : List Addr}
/-- a thing that no slot owns and that is not frozen: new, changed, behind a call -/
structure Un (B : Bs) (s : S) (σ : St) (H F : Hp) (ν : List Addr) (p : Addr) (o : HO) : Prop where
  f : Frs B F ν p
  e : H p = some o
  no : ∀ (i : Nat) x, s.sl[i]? = some (some x) → x.own = true → σ[i]? ≠ some (some (.ref p))
theorem R.newU (r : R c B s σ H F ν) {p : Addr} {o : HO} (h : H p = none) : R c B s σ (upd H p o) F ν ∧ Un B s σ (upd H p o) F ν p o := by
  have keep : ∀ b u, H b = some u → upd H p o b = some u := same_upd h
  refine ⟨⟨fun b u e => keep b u (r.sub b u e), r.f0, r.fz, fun a u e n => keep a u (r.kp a u e n), r.nu, r.nd, r.nf, r.ln, fun i y e => ?_, r.ap, r.sn, fun n ob a e1 e2 => ?_⟩, r.fresh h, upd_same, fun i y e oo z => ?_⟩
  · obtain ⟨v, h1, h2⟩ := r.sl i y e
    exact ⟨v, h1, h2.mono Ext.refl fun a u _ _ f w => ⟨f, keep a u w⟩⟩
  · obtain ⟨u, h1, h2⟩ := r.st n ob a e1 e2
    exact ⟨u, keep a u h1, h2⟩
  · obtain ⟨v, h1, h2⟩ := r.sl i y e
    rw [z] at h1
    cases h1
    cases h2 with
    | d _ => cases oo
    | ol _ e' _ => rw [h] at e'; cases e'
    | od _ e' _ => rw [h] at e'; cases e'
    | oi _ e' _ => rw [h] at e'; cases e'
    | ex _ _ => cases oo
theorem R.mutU (r : R c B s σ H F ν) {p : Addr} {o o' : HO} (u : Un B s σ H F ν p o) : R c B s σ (upd H p o') F ν ∧ Un B s σ (upd H p o') F ν p o' := by
  have keep : ∀ b w, b ≠ p → H b = some w → upd H p o' b = some w := fun b w n q => by rw [upd_ne n]; exact q
  have nF : ∀ b w, F b = some w → b ≠ p := fun b w q z => by rw [z, u.f.2.1] at q; cases q
  refine ⟨⟨fun b w q => keep b w (nF b w q) (r.sub b w q), r.f0, r.fz, fun b w q n => keep b w (fun z => by rw [z, u.f.1] at q; cases q) (r.kp b w q n), r.nu, r.nd, r.nf, r.ln, fun i y e => ?_, r.ap, r.sn, fun n ob a e1 e2 => ?_⟩, u.f, upd_same, u.no⟩
  · obtain ⟨v, h1, h2⟩ := r.sl i y e
    refine ⟨v, h1, h2.mono Ext.refl fun a w hv oo f q => ⟨f, keep a w (fun z => ?_) q⟩⟩
    subst z; subst hv
    exact u.no i y e oo h1
  · obtain ⟨w, h1, h2⟩ := r.st n ob a e1 e2
    exact ⟨w, keep a w (fun z => u.f.2.2 (z ▸ List.mem_of_getElem? e2)) h1, h2⟩
theorem R.retU (r : R c B s σ H F ν) {p : Addr} {o : HO} (u : Un B s σ H F ν p o) {sl' : List (Option SV)} {σ' : St} {st' : List Ob} {H' F' : Hp} {ν' : List Addr} (x : Ext F ν F' ν') (q : R c ⟨H, F, ν⟩ ⟨sl', st'⟩ σ' H' F' ν') :
    Un B ⟨s.sl, st'⟩ σ H' F' ν' p o := by
  refine ⟨⟨u.f.1, ?_, ?_⟩, q.kp p o u.e u.f.2.2, u.no⟩
  · cases w : F' p with
    | none => rfl
    | some w' =>
      rcases q.fz p w' w with z | z
      · have z' : F p = some w' := z
        rw [u.f.2.1] at z'; cases z'
      · have z' : H p = none := z
        rw [u.e] at z'; cases z'
  · intro m
    obtain ⟨μ, e2, z⟩ := q.nu
    rw [e2] at m
    rcases List.mem_append.mp m with m | m
    · exact u.f.2.2 m
    · have this' : H p = none := z p m
      rw [u.e] at this'; cases this'
end
theorem lcA {elt tg iter : Expr} {scope : Scope} {vs : List Nat} {di : DI} {tt : DT} {te : DE} {u : TG} {wi : WX → TI}
    (i2 : RfI (cf X cl) wi di) (rf : RfG (cf X cl) u g) (wp : Wipes u vs) :
    ∀ (B : Bs) (W : WX) (σ : St) (H F : Hp) (ν : List Addr) (s : S) (Q : List D → List Ob → Prop) (E : XK') (P : VK), R (cf X cl) B s σ H F ν → Wsh (cf X cl) B s σ F ν W E →
      dLc di g tt te vs s Q E → (∀ p H' F' ν' acc us st', Ext F ν F' ν' → R (cf X cl) B ⟨s.sl, st'⟩ σ H' F' ν' → Un B ⟨s.sl, st'⟩ σ H' F' ν' p (.lst us) → RzAll (cf X cl) F' ν' us acc → Q acc st' → P (.ref p) H') →
      tLc (wi W) u (canT (cf X cl) tt W0) (canE (cf X cl) te W0) vs σ H P := by
  intro B W σ H F ν s Q E P r w q kk
  refine i2.go B W σ H F ν s _ E _ r w q fun J H1 F1 ν1 wt ds st1 x1 r1 k1 q1 => ?_
  intro p hp
  obtain ⟨r1', u1⟩ := r1.newU (o := .lst []) hp
  -- the list so far at p, behind it the state
  let Inv' : Nat → Hp → Prop := fun i H' => i ≤ ds.length ∧ ∃ F' ν' acc us st', Ext F1 ν1 F' ν' ∧ R (cf X cl) B ⟨s.sl, st'⟩ σ H' F' ν' ∧ Un B ⟨s.sl, st'⟩ σ H' F' ν' p (.lst us) ∧ RzAll (cf X cl) F' ν' us acc ∧ dComp g tt te (blkSl s.sl vs) wt (ds.drop i) acc st' Q
  refine ⟨fun i n H' => n = ds.length - i ∧ Inv' i H', ⟨ds.length, by simp, Nat.zero_le _, F1, ν1, [], [], st1, Ext.refl, r1', u1, .nil, q1⟩, ?_⟩
  rintro i n H' ⟨rfl, hi, F', ν', acc, us, st', x', r', u', z', q'⟩
  have rI : R (cf X cl) ⟨H', F', ν'⟩ ⟨blkSl s.sl vs, st'⟩ (wipe σ vs) H' F' ν' := r.inner vs (x1.trans x') r'
  have hw : wt st' := by
    cases e : ds.drop i with
    | nil => rw [e] at q'; exact q'.1
    | cons d r => rw [e] at q'; exact q'.1
  obtain ⟨k2, k3⟩ := k1.go ⟨H', F', ν'⟩ _ _ H' F' ν' x' rI hw
  by_cases hlt : i < ds.length
  · have hd : ds[i]? = some ds[i] := by simp [hlt]
    obtain ⟨k4, k5⟩ := k3 i _ hd
    rw [drop_get hd] at q'
    have q' := q'.2
    refine .inr ⟨k4, Inv' (i + 1), fun H'' z => ⟨ds.length - (i + 1), by omega, rfl, z⟩, fun x H'' y => ?_⟩
    obtain ⟨F3, ν3, x3, r3, z3⟩ := k5 x H'' y
    have wpp := wp x (wipe σ vs) H''
    rw [wipe_wipe] at wpp
    refine wpp _ (rf.go _ (wipe σ vs) H'' F3 ν3 _ x _ _ _ r3 z3 q' fun s4 σ4 H4 F4 ν4 x4 r4 q4 => ?_)
    refine ⟨⟨H', F', ν'⟩, F4, ν4, s4, _, _, r4, Wsh.no, q4, fun b H5 F5 ν5 st5 x5 r5 q5 => ?_⟩
    cases b with
    | false =>
      rw [if_neg Bool.false_ne_true] at q5 ⊢
      have xx := (x3.trans x4).trans x5
      exact ⟨hlt, F5, ν5, acc, us, st5, x'.trans xx, r'.ret xx r5, r'.retU u' xx r5, z'.mono xx, q5⟩
    | true =>
      rw [if_pos rfl] at q5 ⊢
      refine ⟨⟨H', F', ν'⟩, F5, ν5, _, _, _, r5, Wsh.no, q5, fun v H6 F6 ν6 d6 st6 x6 r6 z6 q6 => ?_⟩
      have xx := ((x3.trans x4).trans x5).trans x6
      have u6 := r'.retU u' xx r6
      obtain ⟨r7, u7⟩ := (r'.ret xx r6).mutU (o' := .lst (us ++ [v])) u6
      have zz := z'.mono xx
      refine ⟨us, u6.e, by rw [zz.length]; exact q6.1, hlt, F6, ν6, acc ++ [d6], us ++ [v], st6, x'.trans xx, r7, u7, zz.append (.cons z6 .nil), q6.2⟩
  · have e : i = ds.length := by omega
    subst e
    rw [List.drop_length] at q'
    exact .inl ⟨k2, kk p H' F' ν' acc us st' (x1.trans x') r' u' z' q'.2⟩
/-- a comprehension as a datum -/
def dLcE (da : DA) : DE := fun s Q E => da s (fun xs st => Q (.lst xs) st) E
theorem x_lc {elt tg iter : Expr} {ifs : List Expr} {scope : Scope} (own : List (Str × Nat)) {di : DI} {tt : DT} {te : DE} {u : TG} (hc : X.calm = true) (hN : X.N.Nodup) (hi : Iw X cl tg iter di) (ok : BlkOk X.N X.env.scope scope own)
    (hg : TgB X cl scope tg (own.map (·.2)) u g)
    (ht : ∀ (s : Shared) (H : Hp) (C : Addr) (l : List (Str × Addr)) (fp : List Addr), Tss (X.blk s H scope (compEnvC scope l C X.env) fp) cl ifs tt) (he : ∀ (s : Shared) (H : Hp) (C : Addr) (l : List (Str × Addr)) (fp : List Addr), Ex (X.blk s H scope (compEnvC scope l C X.env) fp) cl elt te)
    (hs : ∀ x, foldedSetIterable iter X.env x = pure x := by intro _; rfl) : Ex X cl (.ListComp elt [⟨tg, iter, ifs, 0⟩] scope pos) (dLcE (dLc di g tt te (own.map (·.2)))) := by
  obtain ⟨wi, i1, i2⟩ := hi.ex
  refine ⟨fun W => tLc (wi W) u (canT (cf X cl) tt W0) (canE (cf X cl) te W0) (own.map (·.2)), fun W k => pe_lc hc hN (i1 W k) ok hg.pg (fun s H C l fp => (ht s H C l fp).ex) (fun s H C l fp => (he s H C l fp).can W0 (takesBlk rfl)) hs, ⟨fun B W σ H F ν s Q E P r w q kk => ?_⟩⟩
  refine lcA (elt := elt) (tg := tg) (iter := iter) (scope := scope) i2 hg.rf hg.wp B W σ H F ν s _ E P r w q fun p H' F' ν' acc us st' x' r' u' z' q' => ?_
  have xx : Ext F' ν' (upd F' p (.lst us)) ν' := ext_upd u'.f.2.1
  exact kk _ H' _ ν' _ st' (x'.trans xx) (r'.fzA u'.f u'.e u'.no) (.lst upd_same (z'.mono xx)) q'
/-- y = [.. for ..]: a datum -/
def dSetC (i : Nat) (da : DA) : DS := fun D s => da s (fun xs st => D.nx ⟨s.sl.set i (some (.d (.lst xs))), st⟩) (D.xe s)
/-- .. a list of its own -/
def dSetCO (i : Nat) (da : DA) : DS := fun D s => da s (fun xs st => D.nx ⟨s.sl.set i (some (.ol xs)), st⟩) (D.xe s)
theorem R.setU {c : Cf} {B : Bs} {s : S} {σ : St} {H F : Hp} {ν : List Addr} (r : R c B s σ H F ν) (i : Nat) {p : Addr} {us : List V} {ds : List D} (u : Un B s σ H F ν p (.lst us)) (z : RzAll c F ν us ds) :
    R c B ⟨s.sl.set i (some (.ol ds)), s.st⟩ (σ.set i (some (.ref p))) H F ν := by
  refine ⟨r.sub, r.f0, r.fz, r.kp, r.nu, r.nd, r.nf, ?_, fun j x e => ?_, fun j k x x' a e1 e2 o1 o2 z1 z2 => ?_, r.sn, r.st⟩
  · show (s.sl.set i _).length = _
    rw [List.length_set, List.length_set]; exact r.ln
  · rcases getset (show (s.sl.set i (some (SV.ol ds)))[j]? = some (some x) from e) with ⟨hj, hx, hl⟩ | ⟨hj, e'⟩
    · subst hj
      cases hx
      exact ⟨.ref p, List.getElem?_set_self (by rw [← r.ln]; exact hl), .ol u.f u.e z⟩
    · rw [List.getElem?_set_ne hj]
      exact r.sl j x e'
  · rcases getset (show (s.sl.set i (some (SV.ol ds)))[j]? = some (some x) from e1) with ⟨hj, hx, hl⟩ | ⟨hj, e1'⟩
    · rcases getset (show (s.sl.set i (some (SV.ol ds)))[k]? = some (some x') from e2) with ⟨hk, _, _⟩ | ⟨hk, e2'⟩
      · exact hj.symm.trans hk
      · subst hj
        rw [List.getElem?_set_self (by rw [← r.ln]; exact hl)] at z1
        cases z1
        rw [List.getElem?_set_ne hk] at z2
        exact absurd z2 (u.no k x' e2' o2)
    · rw [List.getElem?_set_ne hj] at z1
      rcases getset (show (s.sl.set i (some (SV.ol ds)))[k]? = some (some x') from e2) with ⟨hk, _, hl⟩ | ⟨hk, e2'⟩
      · subst hk
        rw [List.getElem?_set_self (by rw [← r.ln]; exact hl)] at z2
        cases z2
        exact absurd z1 (u.no j x e1' o1)
      · rw [List.getElem?_set_ne hk] at z2
        exact r.ap j k x x' a e1' e2' o1 o2 z1 z2
section
variable {elt tg iter : Expr} {ifs : List Expr} {scope : Scope} {di : DI} {tt : DT} {te : DE} {u : TG} {y : Str} {py spos : Pos}
theorem s_setC (i : Nat) (own : List (Str × Nat)) (hc : X.calm = true) (hN : X.N.Nodup) (hy : X.N[i]? = some y) (hyl : X.env.scope.names.lookup y = some .local)
    (hsw : swapsWith (.ListComp elt [⟨tg, iter, ifs, 0⟩] scope pos) (some (.Name y py)) spos.line X.env = pure true) (hi : Iw X cl tg iter di) (ok : BlkOk X.N X.env.scope scope own)
    (hg : TgB X cl scope tg (own.map (·.2)) u g)
    (ht : ∀ (s : Shared) (H : Hp) (C : Addr) (l : List (Str × Addr)) (fp : List Addr), Tss (X.blk s H scope (compEnvC scope l C X.env) fp) cl ifs tt) (he : ∀ (s : Shared) (H : Hp) (C : Addr) (l : List (Str × Addr)) (fp : List Addr), Ex (X.blk s H scope (compEnvC scope l C X.env) fp) cl elt te)
    (hs : ∀ x, foldedSetIterable iter X.env x = pure x := by intro _; rfl) : Sm X cl (.Assign [.Name y py] (.ListComp elt [⟨tg, iter, ifs, 0⟩] scope pos) spos) (dSetC i (dLc di g tt te (own.map (·.2)))) := by
  obtain ⟨wi, i1, i2⟩ := hi.ex
  refine ⟨fun W => tAsg (tLc (wi W) u (canT (cf X cl) tt W0) (canE (cf X cl) te W0) (own.map (·.2))) (gName i), fun W k _ => ps_setLc hc hN hy hyl hsw (i1 W k) ok hg.pg (fun s H C l fp => (ht s H C l fp).ex) (fun s H C l fp => (he s H C l fp).can W0 (takesBlk rfl)) hs, ⟨fun B W σ H F ν s D Dd r m q => ?_⟩⟩
  refine lcA (elt := elt) (tg := tg) (iter := iter) (scope := scope) i2 hg.rf hg.wp B W σ H F ν s _ _ _ r m.wsh q fun p H' F' ν' acc us st' x' r' u' z' q' => ?_
  have xx : Ext F' ν' (upd F' p (.lst us)) ν' := ext_upd u'.f.2.1
  exact m.nx _ _ H' _ ν' (x'.trans xx) ((r'.fzA u'.f u'.e u'.no).setD i (.lst upd_same (z'.mono xx))) q'
theorem s_setCO (i : Nat) (own : List (Str × Nat)) (hc : X.calm = true) (hN : X.N.Nodup) (hy : X.N[i]? = some y) (hyl : X.env.scope.names.lookup y = some .local)
    (hsw : swapsWith (.ListComp elt [⟨tg, iter, ifs, 0⟩] scope pos) (some (.Name y py)) spos.line X.env = pure true) (hi : Iw X cl tg iter di) (ok : BlkOk X.N X.env.scope scope own)
    (hg : TgB X cl scope tg (own.map (·.2)) u g)
    (ht : ∀ (s : Shared) (H : Hp) (C : Addr) (l : List (Str × Addr)) (fp : List Addr), Tss (X.blk s H scope (compEnvC scope l C X.env) fp) cl ifs tt) (he : ∀ (s : Shared) (H : Hp) (C : Addr) (l : List (Str × Addr)) (fp : List Addr), Ex (X.blk s H scope (compEnvC scope l C X.env) fp) cl elt te)
    (hs : ∀ x, foldedSetIterable iter X.env x = pure x := by intro _; rfl) : Sm X cl (.Assign [.Name y py] (.ListComp elt [⟨tg, iter, ifs, 0⟩] scope pos) spos) (dSetCO i (dLc di g tt te (own.map (·.2)))) := by
  obtain ⟨wi, i1, i2⟩ := hi.ex
  refine ⟨fun W => tAsg (tLc (wi W) u (canT (cf X cl) tt W0) (canE (cf X cl) te W0) (own.map (·.2))) (gName i), fun W k _ => ps_setLc hc hN hy hyl hsw (i1 W k) ok hg.pg (fun s H C l fp => (ht s H C l fp).ex) (fun s H C l fp => (he s H C l fp).can W0 (takesBlk rfl)) hs, ⟨fun B W σ H F ν s D Dd r m q => ?_⟩⟩
  refine lcA (elt := elt) (tg := tg) (iter := iter) (scope := scope) i2 hg.rf hg.wp B W σ H F ν s _ _ _ r m.wsh q fun p H' F' ν' acc us st' x' r' u' z' q' => ?_
  exact m.nx _ _ H' F' ν' x' (r'.setU i u' z') q'
end
end
end Kt
set_option maxHeartbeats 4000000
/-! Kt5: defs over data, their calls, errors made and caught. -/
namespace Kt
open PySem PySem.Spec L2
open PyProof.Rows (envOfC)
/-! ### a def, called where no repr runs -/
structure FnG (P : Program) (w : World) (K : PySem.W.Frag) (mg : Str → Option Value) (base : Heap) (k : Nat) (f : Addr) (fd : FuncData) (ps : List Str) (sp : Sp) : Prop where
  len : ∀ vs H Q E, sp vs H Q E → vs.length = ps.length
  run : ∀ (A : Around) (out : List Env) (s : Shared) (H : Hp) (ar : Args) (us : List Value) (vs : List V) (Q : VK) (E : XK), Room k A → A.guards = some [] → Env0 P w K mg base A out s H → BindsTo s fd ar (ps.zip us) → Vals vs us → sp vs H Q E →
    codeAny (model P w) A (.call (.ref f) ar) (CR (L2.CX P w) out P w H s Q E) s
section
variable {P : Program} {w : World} {K : PySem.W.Frag} {mg : Str → Option Value} {base : Heap}
theorem FnG.of {k : Nat} {f : Addr} {fd : FuncData} {ps : List Str} {sp : Sp} (F : FnOk P w K mg base (L2.CX P w) k f fd ps sp) : FnG P w K mg base k f fd ps sp :=
  ⟨F.len, fun A out s H ar us vs Q E h1 _ h2 h3 h4 h5 => F.run A out s H ar us vs Q E h1 h2 h3 h4 h5⟩
theorem FnG.mono {j k : Nat} {f : Addr} {fd : FuncData} {ps : List Str} {sp : Sp} (F : FnG P w K mg base j f fd ps sp) (h : j ≤ k) : FnG P w K mg base k f fd ps sp :=
  ⟨F.len, fun A out s H ar us vs Q E h1 => F.run A out s H ar us vs Q E (h1.mono h)⟩
theorem okG {x qual : Str} {st : Stmt} {f : Addr} {fd : FuncData} {N ps : List Str} {k : Nat} {sp : Sp} (Fu : Fun K x qual st f fd) (Sc : FnScope N ps (defScope st)) (len : ∀ vs H Q E, sp vs H Q E → vs.length = ps.length)
    (hb : ∀ (cdv : Value) (A : Around) (out : List Env) (s : Shared) (H : Hp) (vs : List V) (Q : VK) (E : XK), Room k (A.deeper (envOfC qual (defScope st) s.heap.objs.size f cdv)) → A.guards = some [] → sp vs H Q E →
      ∃ t, PSs (cxOf (L2.CX P w) P w K mg base N qual (defScope st) f cdv A out s H E) (defBody st) t ∧ t { nx := fun _ H' => Q .non H', rt := Q } (start N vs) H) : FnG P w K mg base (k + 1) f fd ps sp := by
  obtain ⟨oc, od, kV, dc, pm, an, cdv, ct, osl, rfl, lk, hcd⟩ := Fu.ex
  refine ⟨len, fun A out s H ar us vs Q E hroom hgu en hbi rel hsp => ?_⟩
  have hlen := len _ _ _ _ hsp
  have kin : K.In s.heap := en.mod.kin.keeps fun b o e => (en.bs b o e).1
  have nolim : s.heap.NoLimit := en.mod.nolimit.keeps fun b o e => (en.bs b o e).1
  have hkd : ∀ y ∈ ps.zip us, (defScope st).names.lookup y.1 = some .local ∨ ((defScope st).names.lookup y.1 = some .cell ∧ ((cellsFrom (s.heap.objs.size + 1) (defScope st).names []).lookup y.1).isSome = true) := fun ⟨n, v⟩ hy => by
    rcases Sc.par n (List.of_mem_zip hy).1 with q | q
    · exact Or.inl q
    · exact Or.inr ⟨q, PySem.W.cellsFrom_some _ _ _ (Or.inl q)⟩
  refine codeAny_call_function hroom.depth (kin _ _ lk) rfl Sc.co Sc.gen rfl (PySem.W.codeRec_of kin hcd) (hbi _ _ _ _ ?_)
  refine wpAny_newFunctionEnv_cells Sc.kind hkd fun env hen s1 x1 => ?_
  subst hen
  refine ⟨nolim.keeps x1.toInCall.keep, codeAny_func ?_⟩
  obtain ⟨t, ht, hq⟩ := hb cdv A out s H vs Q E (hroom.deeper _) hgu hsp
  have J : L2.Inv (cxOf (L2.CX P w) P w K mg base N qual (defScope st) f cdv A out s H E) [] (start N vs) H s1 := inv_start Sc hroom.hd en hlen rel x1
  refine wpAny_mono (ht.run [] s1 (start N vs) H _ J hq) (fun fl s2 hs => ?_) fun e s2 hs => hs
  have done : ∀ {σ2 : St} {H2 : Hp} {v : V} {u : Value}, L2.Inv (cxOf (L2.CX P w) P w K mg base N qual (defScope st) f cdv A out s H E) [] σ2 H2 s2 → RelV v u → Q v H2 → CE out P w H s Q u s2 :=
    fun {σ2 H2 v u} J2 rv q => ⟨v, H2, J2.os, J2.bare, J2.base, J2.hok, rv, q⟩
  cases fl with
  | ret u => obtain ⟨v, σ2, H2, J2, rv, q⟩ := hs; exact done J2 rv q
  | next => obtain ⟨σ2, H2, J2, q⟩ := hs; exact done (v := V.non) (u := Value.none) J2 rfl q
  | brk => obtain ⟨_, _, _, q⟩ := hs; exact q.elim
  | cont => obtain ⟨_, _, _, q⟩ := hs; exact q.elim
end
/-! ### what a def does, over data -/
abbrev SpD := List D → List Ob → (SV → List Ob → Prop) → XK' → Prop
def spOf (c : Cf) (sd : SpD) : Sp := fun vs H Q E => ∃ F ν ds st Qd Ed, R c ⟨H, F, ν⟩ ⟨ds.map fun d => some (.d d), st⟩ (vs.map some) H F ν ∧ sd ds st Qd Ed ∧
  (∀ r st' v H' F' ν', Ext F ν F' ν' → R c ⟨H, F, ν⟩ ⟨[some r], st'⟩ [some v] H' F' ν' → Qd r st' → Q v H') ∧
  (∀ x st' cls d H' F' ν', Ext F ν F' ν' → R c ⟨H, F, ν⟩ ⟨[], st'⟩ [] H' F' ν' → RzX c F' ν' cls d x → Ed x st' → E cls d H')
/-- the body's own reading as what the def does: n names, m parameters -/
def mD (n m : Nat) (bd : DS) : SpD := fun ds st Q E => ds.length = m ∧ bd ⟨fun s => Q (.d .non) s.st, Q, fun x s => E x s.st, fun _ => False, fun _ => False⟩ ⟨(ds.map fun d => some (.d d)) ++ List.replicate (n - m) none, st⟩
section
variable {c : Cf} {B : Bs} {s : S} {σ : St} {H F : Hp} {ν : List Addr}
theorem R.based (r : R c B s σ H F ν) {vs : List V} {ds : List D} (z : RzAll c F ν vs ds) : R c ⟨H, F, ν⟩ ⟨ds.map fun d => some (.d d), s.st⟩ (vs.map some) H F ν := by
  refine ⟨r.sub, fun _ _ e => e, fun _ _ e => .inl e, fun _ _ e _ => e, ⟨[], by simp, by simp⟩, r.nd, r.nf, by simp [z.length], fun i y e => ?_, fun i j y w a e1 e2 o1 _ _ _ => ?_, r.sn, r.st⟩
  · have e : (ds.map fun d => some (SV.d d))[i]? = some (some y) := e
    rw [List.getElem?_map] at e
    cases q : ds[i]? with
    | none => rw [q] at e; cases e
    | some d =>
      rw [q] at e
      cases e
      obtain ⟨v, h1, h2⟩ := z.get q
      exact ⟨v, by rw [List.getElem?_map, h1]; rfl, .d h2⟩
  · have e1 : (ds.map fun d => some (SV.d d))[i]? = some (some y) := e1
    rw [List.getElem?_map] at e1
    cases q : ds[i]? with
    | none => rw [q] at e1; cases e1
    | some d => rw [q] at e1; cases e1; cases o1
theorem R.pad (r : R c B s σ H F ν) (n : Nat) : R c B ⟨s.sl ++ List.replicate n none, s.st⟩ (σ ++ List.replicate n none) H F ν := by
  have get : ∀ (i : Nat) y, (s.sl ++ List.replicate n none)[i]? = some (some y) → s.sl[i]? = some (some y) ∧ i < s.sl.length := fun i y e => by
    by_cases hi : i < s.sl.length
    · rw [List.getElem?_append_left hi] at e; exact ⟨e, hi⟩
    · rw [List.getElem?_append_right (by omega), List.getElem?_replicate] at e
      split at e <;> cases e
  have sg : ∀ (i : Nat), i < s.sl.length → (σ ++ List.replicate n none)[i]? = σ[i]? := fun i hi => List.getElem?_append_left (by rw [← r.ln]; exact hi)
  refine ⟨r.sub, r.f0, r.fz, r.kp, r.nu, r.nd, r.nf, by simp [r.ln], fun i y e => ?_, fun i j y w a e1 e2 o1 o2 z1 z2 => ?_, r.sn, r.st⟩
  · obtain ⟨h1, h2⟩ := get i y e
    rw [sg i h2]
    exact r.sl i y h1
  · obtain ⟨h1, h2⟩ := get i y e1
    obtain ⟨h3, h4⟩ := get j w e2
    rw [sg i h2] at z1
    rw [sg j h4] at z2
    exact r.ap i j y w a h1 h3 o1 o2 z1 z2
end
section
variable {P : Program} {w : World} {K : PySem.W.Frag} {mg : Str → Option Value} {base : Heap} {cl : String → Addr}
theorem spOf_len {c : Cf} {sd : SpD} {n : Nat} (h : ∀ ds st Q E, sd ds st Q E → ds.length = n) : ∀ vs H Q E, spOf c sd vs H Q E → vs.length = n := fun vs H Q E q => by
  obtain ⟨F, ν, ds, st, Qd, Ed, r, hs, _⟩ := q
  have e := r.ln
  have := h _ _ _ _ hs
  simp at e
  omega
/-- a def of the text keeps what its body's reading says -/
theorem fnD {x qual : Str} {st : Stmt} {f : Addr} {fd : FuncData} {N ps : List Str} {k : Nat} {bd : DS} (Fu : Fun K x qual st f fd) (Sc : FnScope N ps (defScope st))
    (hb : ∀ (cdv : Value) (A : Around) (out : List Env) (s : Shared) (H : Hp) (E : XK), Room k (A.deeper (envOfC qual (defScope st) s.heap.objs.size f cdv)) → A.guards = some [] → Ss (cxOf (L2.CX P w) P w K mg base N qual (defScope st) f cdv A out s H E) cl (defBody st) bd) :
    FnG P w K mg base (k + 1) f fd ps (spOf ⟨K, cl⟩ (mD N.length ps.length bd)) := by
  refine okG Fu Sc (spOf_len fun ds st Q E q => q.1) fun cdv A out s H vs Q E hr hg h => ?_
  obtain ⟨t, t1, t2⟩ := (hb cdv A out s H E hr hg).ex
  refine ⟨t (fun cls d _ H' => E cls d H'), t1 _ (takes_of rfl rfl rfl rfl) (passes_of rfl), ?_⟩
  obtain ⟨F, ν, ds, ob, Qd, Ed, r, ⟨hl, hs⟩, hq, he⟩ := h
  have e : vs.length = ds.length := by have := r.ln; simp at this; omega
  have r0 := r.pad (N.length - ps.length)
  have es : vs.map some ++ List.replicate (N.length - ps.length) none = L2.start N vs := by unfold L2.start; rw [e, hl]
  rw [es] at r0
  refine t2.go _ _ _ H F ν _ _ ⟨fun s => Qd (.d .non) s.st, Qd, fun x s => Ed x s.st, fun _ => False, fun _ => False⟩ r0 ⟨fun s' σ' H' F' ν' x r' q => ?_, fun y st' v H' F' ν' x r' q => hq y st' v H' F' ν' x r' q, fun y s' cls d σ' H' F' ν' x r' z q => ?_, fun _ _ _ _ _ _ _ q => q.elim, fun _ _ _ _ _ _ _ q => q.elim⟩ hs
  · exact hq _ _ .non H' F' ν' x (r'.one (.d .non)) q
  · exact he y s'.st cls d H' F' ν' x r'.forget z q
end
/-! ### calls -/
def SV.isR : SV → Bool
  | .ex _ _ _ => false
  | .oi _ _ _ => false
  | _ => true
def dCall (sd : SpD) (da : DA) : DE := fun s Q E => da s (fun ds st => sd ds st (fun r st' => r.isR = true ∧ Q r.fz st') E) E
section
variable {X : Cx} {cl : String → Addr} {k : Nat} {f : Addr} {fd : FuncData} {ps : List Str} {sd : SpD} {x : Str} {p pos : Pos} {e : Expr} {es : List Expr} {da : DA}
theorem run_fnG {pins : List (Addr × Obj)} {σ : St} {H : Hp} {s : Shared} {Q : VK} {us : List Value} {vs : List V} {sp : Sp} {E : XK} (G : FnG X.prog X.w X.K X.mg X.base k f fd ps sp) (hr : Room k X.A) (hgd : X.A.guards = some []) (hb : Binds X.K fd ps [])
    (hx : PassesAt (L2.CX X.prog X.w) X σ E) (I : L2.Inv X pins σ H s) (r : Vals vs us) (h : sp vs H Q E) : wpAny (model X.prog X.w) X.A (call (.ref f) us) (EP X pins σ Q) X.xe s := by
  have hlen : us.length = ps.length := by rw [← r.length]; exact G.len _ _ _ _ h
  have bi := hb s us I.kIn (by rw [List.append_nil]; exact hlen)
  rw [List.append_nil] at bi
  refine wpAny_call (codeAny_mono (G.run X.A X.stack s H ⟨us, []⟩ us vs Q E hr hgd I.env0 bi r h) fun z s' hq => ?_)
  cases z with
  | error er => exact hx pins H s er s' I hq
  | ok fl =>
    cases fl with
    | ret u => exact I.after hq
    | next => exact hq.elim
    | brk => exact hq.elim
    | cont => exact hq.elim
theorem rf_call {c : Cf} {ta : WX → TA} (ha : RfA c ta da) : RfE c (fun W => fun σ H Q => ta W σ H fun vs H1 => spOf c sd vs H1 Q (WE W σ)) (dCall sd da) := by
  refine ⟨fun B W σ H F ν s Q E P r w q kk => ?_⟩
  refine ha.go B W σ H F ν s _ E _ r w q fun vs H1 F1 ν1 ds st1 x1 r1 z1 q1 => ?_
  refine ⟨F1, ν1, ds, st1, _, _, r1.based z1, q1, fun y st' v H' F' ν' x' r' q' => ?_, fun y st' cls d H' F' ν' x' r' z' q' => ?_⟩
  · obtain ⟨hy, q'⟩ := q'
    obtain ⟨v', e1, z⟩ := r'.sl 0 y rfl
    cases e1
    obtain ⟨F'', x2, r2, z2⟩ := r1.fzR x' r' z (fun a dx fs e => by rw [e] at hy; cases hy) (fun a cls fs e => by rw [e] at hy; cases hy)
    exact kk v H' F'' ν' y.fz st' (x1.trans x2) r2 z2 q'
  · exact w.go cls d H' F' ν' y st' (x1.trans x') (r1.ret x' r') z' q'
theorem x_call (G : FnG X.prog X.w X.K X.mg X.base k f fd ps (spOf (cf X cl) sd)) (hr : Room k X.A) (hgd : X.A.guards = some []) (hg : Gl X x) (hm : X.mg x = some (.ref f)) (hk : PySem.W.keepIn X.K (.ref f) = true) (hb : Binds X.K fd ps [])
    (ha : Ar X cl (e :: es) da) (hdb : (x == ("__debug__" : Str)) = false := by decide) (he : starEach (e :: es) X.env = (false, eval e X.env) :: starEach es X.env := by rfl) (hpl : (backTo pos (starEach es X.env)).any (·.1) = false := by rfl) :
    Ex X cl (.Call (.Name x p) (e :: es) [] pos) (dCall sd da) := by
  obtain ⟨ta, a1, a2⟩ := ha.ex
  refine ⟨_, fun W tk => ⟨fun pins s σ H Q I h => ?_⟩, rf_call a2⟩
  refine wpAny_Call_Name_kw (ld_glob I hg hm ?_ hdb)
  refine PySem.W.callWith_K (h₀ := X.base) I.ok.mod.kin hk (thn ((a1 W tk).run pos pins s σ H _ I h) fun us s1 ⟨vs, H1, I1, r, q⟩ => ⟨I1.kIn, ?_⟩) he hpl
  exact run_fnG G hr hgd hb (passAt tk σ) I1 r q
theorem x_call0 (G : FnG X.prog X.w X.K X.mg X.base k f fd ps (spOf (cf X cl) sd)) (hr : Room k X.A) (hgd : X.A.guards = some []) (hg : Gl X x) (hm : X.mg x = some (.ref f)) (hk : PySem.W.keepIn X.K (.ref f) = true) (hb : Binds X.K fd ps [])
    (hdb : (x == ("__debug__" : Str)) = false := by decide) : Ex X cl (.Call (.Name x p) [] [] pos) (dCall sd dNil) := by
  have a0 : Ar X cl [] dNil := a_nil
  refine ⟨_, fun W tk => ⟨fun pins s σ H Q I h => ?_⟩, rf_call (ta := fun _ => tNil) ⟨fun B W σ H F ν s Q E P rr w h kk => kk [] H F ν [] s.st Ext.refl rr .nil h⟩⟩
  refine wpAny_Call_Name_kw (ld_glob I hg hm ?_ hdb)
  exact PySem.W.callWith_K0 I.kIn hk (run_fnG (us := []) G hr hgd hb (passAt tk σ) I .nil h)
/-- a call of a builtin by its name -/
def dB (k : KA) (da : DA) : DE := fun s Q E => da s (fun ds st => k ds st Q) E
theorem rf_b {c : Cf} {ta : WX → TA} {r : List V → Hp → VK → Prop} {k : KA} (ha : RfA c ta da)
    (hk : ∀ (B : Bs) (s : S) (σ : St) (H F : Hp) (ν : List Addr) (vs : List V) (xs : List D) (K : DK) (P : VK), R c B s σ H F ν → RzAll c F ν vs xs → k xs s.st K → Fin c B s σ F ν K P → r vs H P) : RfE c (fun W => tCB r (ta W)) (dB k da) := by
  refine ⟨fun B W σ H F ν s Q E P rr w q kk => ?_⟩
  refine ha.go B W σ H F ν s _ E _ rr w q fun vs H1 F1 ν1 ds st1 x1 r1 z1 q1 => ?_
  exact hk B ⟨s.sl, st1⟩ σ H1 F1 ν1 vs ds Q P r1 z1 q1 fun z H' F' ν' d st' x' r' z' q' => kk z H' F' ν' d st' (x1.trans x') r' z' q'
theorem x_b {id : String} {k : KA} (h : CallD X cl (.builtin id) k) (hg : Gl X x) (hm : X.mg x = none) (hv : bootBuiltins x = some (.builtin id)) (ha : Ar X cl (e :: es) da) (hn : x ≠ "__name__" := by decide) (hdb : (x == ("__debug__" : Str)) = false := by decide)
    (he : starEach (e :: es) X.env = (false, eval e X.env) :: starEach es X.env := by rfl) (hpl : (backTo pos (starEach es X.env)).any (·.1) = false := by rfl) : Ex X cl (.Call (.Name x p) (e :: es) [] pos) (dB k da) := by
  obtain ⟨ta, a1, a2⟩ := ha.ex
  obtain ⟨r, h1, h2⟩ := h.ex
  exact ⟨fun W => tCB r (ta W), fun W tk => pe_callB h1 hg hm hv (a1 W tk) hn hdb he hpl, rf_b a2 h2⟩
theorem x_ty {T : String} {k : KA} (h : CallD X cl (.type T) k) (hg : Gl X x) (hm : X.mg x = none) (hv : bootBuiltins x = some (.type T)) (ha : Ar X cl (e :: es) da) (hn : x ≠ "__name__" := by decide) (hdb : (x == ("__debug__" : Str)) = false := by decide)
    (he : starEach (e :: es) X.env = (false, eval e X.env) :: starEach es X.env := by rfl) (hpl : (backTo pos (starEach es X.env)).any (·.1) = false := by rfl) : Ex X cl (.Call (.Name x p) (e :: es) [] pos) (dB k da) := by
  obtain ⟨ta, a1, a2⟩ := ha.ex
  obtain ⟨r, h1, h2⟩ := h.ex
  exact ⟨fun W => tCB r (ta W), fun W tk => pe_callTy h1 hg hm hv (a1 W tk) hn hdb he hpl, rf_b a2 h2⟩
end
end Kt
set_option maxHeartbeats 4000000
/-! Kt6: errors: made, raised, caught. -/
namespace Kt
open PySem PySem.Spec L2
open PyProof.Rows (envOfC)
section
variable {X : Cx} {e : Expr} {es : List Expr} {ta : TA} {p1 p2 pos : Pos} {bn : Str} {CB : Addr}
/-- what the class at CB, a base, must be for CB.__init__(self, ..) -/
structure BaseC (K : PySem.W.Frag) (CB : Addr) : Prop where
  ga : PySem.W.specialIn K (.ref CB) "__getattribute__" = some (some (.builtin "type.__getattribute__"))
  rd : PySem.W.readsIn K CB (.type "type") = true
  fi : PySem.W.findCls K (.ref CB) (.type "type") "__init__" = some (.val (.builtin "ValueError.__init__"))
/-- Base.__init__(self, ..), Base a class of the text over ValueError -/
theorem pe_basei {pl : Sem Bool} (hg : Gl X bn) (hm : X.mg bn = some (.ref CB)) (T : BaseC X.K CB) (ha : PA X (e :: es) ta) (hdb : (bn == ("__debug__" : Str)) = false := by decide)
    (hcc : eval (.Call (.Attribute (.Name bn p1) "__init__" p2) (e :: es) [] pos) X.env = (do
      let ov ← eval (.Name bn p1) X.env
      standAt p2.atName
      let (f, first) ← holding [ov] (getMethod ov "__init__" pl)
      callWith pos f first (backTo pos (starEach (e :: es) X.env)) (backToKw pos (keywordEach [] X.env))) := by rfl)
    (he : starEach (e :: es) X.env = (false, eval e X.env) :: starEach es X.env := by rfl) (hpl : (backTo pos (starEach es X.env)).any (·.1) = false := by rfl) :
    PE X (.Call (.Attribute (.Name bn p1) "__init__" p2) (e :: es) [] pos) (tVeI X.K ta) := by
  refine ⟨fun pins s σ H Q I h => ?_⟩
  refine PySem.W.methodCall_KW (ld_glob I hg hm ?_ hdb) hcc
  refine PySem.W.method_cls I.kIn T.ga (PySem.W.cls_value I.kIn T.rd T.fi (by decide +kernel) ?_)
  show wpAny _ _ (callWith pos (Value.builtin "ValueError.__init__") [] (backTo pos (starEach (e :: es) X.env)) []) _ _ _
  refine PyProof.Rows.callWith_method1 (thn (ha.run pos pins _ σ H _ (I.tok _) h) fun us s1 ⟨vs, H1, I1, r1, a, C, ws, ev, hl, T1, ea, q⟩ => ?_) he hpl
  subst ev
  cases r1 with
  | @cons _ u0 _ ur ra rw1 =>
    obtain rfl : u0 = Value.ref a := ra
    have hle : ur.length ≤ sizeLine := by
      have := Paired.length rw1
      rw [sizeLine_eq]
      omega
    exact oinit_ok T1 I1 ea hle fun s2 J => ⟨.non, H1, J, rfl, q⟩
end
/-- C.__init__ of one field: what it promises -/
def spX1 (K : PySem.W.Frag) (f : Str) : Sp := fun vs H Q _ => ∃ a C y, vs = [.ref a, y] ∧ OexC K C ∧ H a = some (exo a C none) ∧ PySem.W.findIn K (.ref C) f = some none ∧ ∀ dx, H dx = none → dx ≠ a → Q .non (upd (upd H dx (exd dx [(f, y)])) a (exo a C (some dx)))
/-- .. of two fields -/
def spX2 (K : PySem.W.Frag) (f g : Str) : Sp := fun vs H Q _ => ∃ a C y z, vs = [.ref a, y, z] ∧ OexC K C ∧ H a = some (exo a C none) ∧ PySem.W.findIn K (.ref C) f = some none ∧ PySem.W.findIn K (.ref C) g = some none ∧
  ∀ dx, H dx = none → dx ≠ a → Q .non (upd (upd (upd H dx (exd dx [(f, y)])) a (exo a C (some dx))) dx (exd dx [(g, z), (f, y)]))
def tX1 (K : PySem.W.Frag) (m f : Str) : TS := tSeq (tDrop (tVeI K (tCons (tVar 0) (tCons (tC (.str m)) tNil)))) (tOst K f (tVar 0) (tVar 1))
def tX2 (K : PySem.W.Frag) (m f g : Str) : TS := tSeq (tDrop (tVeI K (tCons (tVar 0) (tCons (tC (.str m)) tNil)))) (tSeq (tOst K f (tVar 0) (tVar 1)) (tOst K g (tVar 0) (tVar 2)))
section
variable {P : Program} {w : World} {K : PySem.W.Frag} {mg : Str → Option Value} {base : Heap}
theorem ok_x1 {x qual : Str} {st : Stmt} {fI : Addr} {fd : FuncData} {nf : Str} {m f : Str} (Fu : Fun K x qual st fI fd) (Sc : FnScope ["self", nf] ["self", nf] (defScope st))
    (hb : ∀ (cdv : Value) (A : Around) (out : List Env) (s : Shared) (H : Hp) (E : XK), PSs (cxOf CX0 P w K mg base ["self", nf] qual (defScope st) fI cdv A out s H E).nox (defBody st) (tX1 K m f)) : FnOk P w K mg base CX0 1 fI fd ["self", nf] (spX1 K f) := by
  refine Fu.ok Sc (fun vs H Q E h => ?_) (fun cdv A out s H vs Q E hr h => ⟨tX1 K m f, hb cdv A out s H E, ?_⟩)
  · obtain ⟨a, C, y, rfl, _⟩ := h
    rfl
  · obtain ⟨a, C, y, rfl, T, ea, no, k⟩ := h
    refine ⟨_, rfl, a, C, _, rfl, (by show 1 ≤ 1000; decide), T, ea, ?_⟩
    exact ⟨_, rfl, _, rfl, a, C, rfl, T, no, .inl ⟨ea, fun dx hd ne => k dx hd ne⟩⟩
theorem ok_x2 {x qual : Str} {st : Stmt} {fI : Addr} {fd : FuncData} {nf ng : Str} {m f g : Str} (Fu : Fun K x qual st fI fd) (Sc : FnScope ["self", nf, ng] ["self", nf, ng] (defScope st))
    (hb : ∀ (cdv : Value) (A : Around) (out : List Env) (s : Shared) (H : Hp) (E : XK), PSs (cxOf CX0 P w K mg base ["self", nf, ng] qual (defScope st) fI cdv A out s H E).nox (defBody st) (tX2 K m f g)) : FnOk P w K mg base CX0 1 fI fd ["self", nf, ng] (spX2 K f g) := by
  refine Fu.ok Sc (fun vs H Q E h => ?_) (fun cdv A out s H vs Q E hr h => ⟨tX2 K m f g, hb cdv A out s H E, ?_⟩)
  · obtain ⟨a, C, y, z, rfl, _⟩ := h
    rfl
  · obtain ⟨a, C, y, z, rfl, T, ea, no, no2, k⟩ := h
    refine ⟨_, rfl, a, C, _, rfl, (by show 1 ≤ 1000; decide), T, ea, ?_⟩
    refine ⟨_, rfl, _, rfl, a, C, rfl, T, no, .inl ⟨ea, fun dx hd ne => ?_⟩⟩
    exact ⟨_, rfl, _, rfl, a, C, rfl, T, no2, .inr ⟨dx, _, upd_same, by rw [upd_ne ne, upd_same], (by show 1 ≤ 900; decide), k dx hd ne⟩⟩
end
/-! ### raised -/
structure XcT (K : PySem.W.Frag) (C fI : Addr) : Prop where
  T : OexC K C
  iC : PySem.W.findIn K (.ref C) "__init__" = some (some (.ref fI))
  tI : PySem.W.typeIn K (.ref fI) = some (.type "function")
def dRaise1 (nm : String) (f : Str) (da : DA) : DS := fun De s => da s (fun ds st => ∃ d, ds = [d] ∧ De.ex ⟨nm, [(f, d)]⟩ ⟨s.sl, st⟩) (De.xe s)
def dRaise2 (nm : String) (f g : Str) (da : DA) : DS := fun De s => da s (fun ds st => ∃ d e, ds = [d, e] ∧ De.ex ⟨nm, [(g, e), (f, d)]⟩ ⟨s.sl, st⟩) (De.xe s)
section
variable {X : Cx} {cl : String → Addr} {e : Expr} {es : List Expr} {da : DA} {x : Str} {p pos pos' : Pos} {fI : Addr} {fd : FuncData} {nf ng f g : Str} {nm : String}
theorem del_upd3 {H : Hp} {a dx : Addr} {o1 o2 o3 o4 o5 : HO} (ha : H a = none) (ne : dx ≠ a) : upd (del (upd (upd (upd H a o1) dx o2) a o3) a) dx o4 = upd H dx o4 := by
  funext b
  by_cases h1 : b = dx
  · subst h1; rw [upd_same, upd_same]
  · rw [upd_ne h1, upd_ne h1]
    by_cases h2 : b = a
    · subst h2; rw [del_same, ha]
    · rw [del_ne h2, upd_ne h2, upd_ne h1, upd_ne h2]
theorem s_raise1 (T : XcT X.K (cl nm) fI) (F1 : FnOk X.prog X.w X.K X.mg X.base CX0 1 fI fd ["self", nf] (spX1 X.K f)) (hno : PySem.W.findIn X.K (.ref (cl nm)) f = some none) (hr : Room 2 X.A) (hb : Binds X.K fd ["self", nf] []) (hc : X.calm = true) (hg : Gl X x) (hm : X.mg x = some (.ref (cl nm)))
    (ha : Ar X cl (e :: es) da) (hdb : (x == ("__debug__" : Str)) = false := by decide) (he : starEach (e :: es) X.env = (false, eval e X.env) :: starEach es X.env := by rfl) (hpl : (backTo pos (starEach es X.env)).any (·.1) = false := by rfl) :
    Sm X cl (.Raise (some (.Call (.Name x p) (e :: es) [] pos)) none pos') (dRaise1 nm f da) := by
  obtain ⟨ta, a1, a2⟩ := ha.ex
  refine ⟨fun W => fun _ σ H => tMkO (cl nm) (spX1 X.K f) [] (ta W) σ H fun cls d H' => W cls d σ H', fun W tk _ => ps_raise hc tk (pmk_oex T.T T.iC T.tI F1 hr hb .nil (fun _ _ _ _ _ _ _ z => z.elim) hg hm (a1 W tk) hdb he hpl), ⟨fun B W σ H F ν s D Dd r m q => ?_⟩⟩
  refine a2.go B W σ H F ν s _ _ _ r m.wsh q fun vs H1 F1 ν1 ds st1 x1 r1 z1 q1 => ?_
  obtain ⟨d, rfl, q1⟩ := q1
  cases z1 with
  | @cons v us _ _ zv zr =>
    cases zr
    refine ⟨(by show 1 ≤ 1000; decide), fun a ha => ?_⟩
    refine ⟨a, cl nm, v, rfl, T.T, upd_same, hno, fun dx hd ne => ?_⟩
    have hdn : H1 dx = none := by rw [upd_ne ne] at hd; exact hd
    refine ⟨rfl, dx, [(f, v)], upd_same, by rw [upd_ne ne, upd_same], hdn, ?_⟩
    rw [del_upd3 (o5 := .lst []) ha ne]
    have hf := (r1.fresh hdn).2.1
    have xx : Ext F1 ν1 (upd F1 dx (.xd [(f, v)])) ν1 := ext_upd hf
    exact m.ex _ _ _ _ σ _ _ ν1 (x1.trans xx) (r1.froze hdn) ⟨dx, [(f, v)], rfl, rfl, upd_same, .cons (zv.mono xx) .nil⟩ q1
theorem s_raise2 (T : XcT X.K (cl nm) fI) (F1 : FnOk X.prog X.w X.K X.mg X.base CX0 1 fI fd ["self", nf, ng] (spX2 X.K f g)) (hno : PySem.W.findIn X.K (.ref (cl nm)) f = some none) (hno2 : PySem.W.findIn X.K (.ref (cl nm)) g = some none) (hr : Room 2 X.A) (hb : Binds X.K fd ["self", nf, ng] []) (hc : X.calm = true) (hg : Gl X x)
    (hm : X.mg x = some (.ref (cl nm))) (ha : Ar X cl (e :: es) da) (hdb : (x == ("__debug__" : Str)) = false := by decide) (he : starEach (e :: es) X.env = (false, eval e X.env) :: starEach es X.env := by rfl) (hpl : (backTo pos (starEach es X.env)).any (·.1) = false := by rfl) :
    Sm X cl (.Raise (some (.Call (.Name x p) (e :: es) [] pos)) none pos') (dRaise2 nm f g da) := by
  obtain ⟨ta, a1, a2⟩ := ha.ex
  refine ⟨fun W => fun _ σ H => tMkO (cl nm) (spX2 X.K f g) [] (ta W) σ H fun cls d H' => W cls d σ H', fun W tk _ => ps_raise hc tk (pmk_oex T.T T.iC T.tI F1 hr hb .nil (fun _ _ _ _ _ _ _ z => z.elim) hg hm (a1 W tk) hdb he hpl), ⟨fun B W σ H F ν s D Dd r m q => ?_⟩⟩
  refine a2.go B W σ H F ν s _ _ _ r m.wsh q fun vs H1 F1 ν1 ds st1 x1 r1 z1 q1 => ?_
  obtain ⟨d, d2, rfl, q1⟩ := q1
  cases z1 with
  | @cons v us _ _ zv zr =>
    cases zr with
    | @cons v2 us2 _ _ zv2 zr2 =>
      cases zr2
      refine ⟨(by show 2 ≤ 1000; decide), fun a ha => ?_⟩
      refine ⟨a, cl nm, v, v2, rfl, T.T, upd_same, hno, hno2, fun dx hd ne => ?_⟩
      have hdn : H1 dx = none := by rw [upd_ne ne] at hd; exact hd
      refine ⟨rfl, dx, [(g, v2), (f, v)], ?_, upd_same, hdn, ?_⟩
      · rw [upd_ne (Ne.symm ne), upd_same]
      have e : upd (del (upd (upd (upd (upd H1 a (exo a (cl nm) none)) dx (exd dx [(f, v)])) a (exo a (cl nm) (some dx))) dx (exd dx [(g, v2), (f, v)])) a) dx (.xd [(g, v2), (f, v)]) = upd H1 dx (.xd [(g, v2), (f, v)]) := by
        funext b
        by_cases h1 : b = dx
        · subst h1; rw [upd_same, upd_same]
        · rw [upd_ne h1, upd_ne h1]
          by_cases h2 : b = a
          · subst h2; rw [del_same, ha]
          · rw [del_ne h2, upd_ne h1, upd_ne h2, upd_ne h1, upd_ne h2]
      rw [e]
      have hf := (r1.fresh hdn).2.1
      have xx : Ext F1 ν1 (upd F1 dx (.xd [(g, v2), (f, v)])) ν1 := ext_upd hf
      exact m.ex _ _ _ _ σ _ _ ν1 (x1.trans xx) (r1.froze hdn) ⟨dx, [(g, v2), (f, v)], rfl, rfl, upd_same, .cons (zv2.mono xx) (.cons (zv.mono xx) .nil)⟩ q1
end

/-! ### caught: clauses with and without a name -/
abbrev Hn := Value × Option Nat × (Addr → Value → Option Addr → TS)
def wL (K : PySem.W.Frag) (Wout : WX) (D : Ends) : List Hn → WX
  | [] => Wout
  | (c, none, ts) :: r => fun cls d σ H => ∃ b, PySem.W.exmOne K cls c = some b ∧ (b = true → ∀ a, H a = none → ts a cls d D σ H) ∧ (b = false → wL K Wout D r cls d σ H)
  | (c, some i, ts) :: r => fun cls d σ H => ∃ b, PySem.W.exmOne K cls c = some b ∧ (b = true → ∀ a, H a = none →
      ts a cls d { nx := fun σ' H' => D.nx (σ'.set i none) H', rt := D.rt, bk := fun σ' H' => D.bk (σ'.set i none) H', ct := fun σ' H' => D.ct (σ'.set i none) H' } (σ.set i (some (.ref a))) H) ∧ (b = false → wL K Wout D r cls d σ H)
inductive HdL (X : Cx) : List ExceptHandler → List Hn → Prop
  | nil : HdL X [] []
  | plain {x : Str} {c : Value} {ts : Addr → Value → Option Addr → TS} {b0 : Stmt} {su : List Stmt} {np ps : Pos} {hds : List ExceptHandler} {l : List Hn} (hc : Names X x c)
      (hsu : ∀ (a : Addr) (oe : Obj) (cls : Value) (d : Option Addr) (pn : List (Addr × Obj)), Zc cls d oe → (∃ vs, oe.data = .fields vs) → PSs (X.suite a ((a, oe) :: pn)) (b0 :: su) (ts a cls d)) (r : HdL X hds l) :
      HdL X (.ExceptHandler (some (.Name x np)) none (b0 :: su) ps :: hds) ((c, none, ts) :: l)
  | as {x n : Str} {i : Nat} {c : Value} {ts : Addr → Value → Option Addr → TS} {b0 : Stmt} {su : List Stmt} {np ps : Pos} {hds : List ExceptHandler} {l : List Hn} (hc : Names X x c) (hi : X.N[i]? = some n) (hln : X.env.kindOf n = some .local)
      (hsu : ∀ (a : Addr) (oe : Obj) (cls : Value) (d : Option Addr) (pn : List (Addr × Obj)), Zc cls d oe → (∃ vs, oe.data = .fields vs) → PSs (X.suite a ((a, oe) :: pn)) (b0 :: su) (ts a cls d)) (r : HdL X hds l) :
      HdL X (.ExceptHandler (some (.Name x np)) (some n) (b0 :: su) ps :: hds) ((c, some i, ts) :: l)
theorem ps_tryL {X : Cx} {body : List Stmt} {h0 : ExceptHandler} {hds : List ExceptHandler} {l : List Hn} {pos : Pos} {tb : WX → TS} {Wout : WX} (hs : X.stack = X.env :: X.outer) (hf : X.env.frame = some X.env.locals) (hN : X.N.Nodup) (tk : Takes X Wout)
    (hb : ∀ (W : WX) (pn : List (Addr × Obj)) (xe : Value → Shared → Prop), Takes (X.tr pn xe) W → PassesOwn (model X.prog X.w) X.A X.env xe → PSs (X.tr pn xe) body (tb W))
    (hh : HdL X (h0 :: hds) l) : PS X (.Try body (h0 :: hds) [] [] pos) (fun D σ H => tb (wL X.K Wout D l) D σ H) := by
  refine ⟨fun pins s σ H D I h => ?_⟩
  have okk := I.ok
  have frm : X.A.frames = some (X.env :: X.outer) := by rw [okk.frames, hs]
  refine wpAny_Try_except ?_
  refine wpAny_mono ((hb (wL X.K Wout D l) (X.pn ++ pins) (fun er u₁ => wpAny (model X.prog X.w) X.A (noteFrame er X.env) (fun _ u₂ => wpAny (model X.prog X.w) X.A (setFlight er none) (fun _ u₃ =>
    wpAny (model X.prog X.w) X.A (handleBy er X.env (h0 :: hds)) (SP X pins D) X.xe u₃) X.xe u₂) X.xe u₁) (fun u s' xx => ?_) PassesOwn.looking).run [] s σ H D (I.toTry _) h) (fun fl s1 hsp => ?_) (fun er s1 he => he)
  · obtain ⟨a, G, sI, pins', σ', H', cls, d, rfl, J', nb, up, sky, na, os, ag, wi⟩ := xx
    have J : L2.Inv X pins σ' H' sI := J'.ofTry okk
    have sk : Sky G (X.env :: X.outer) a (Zc cls d) X.env.locals s'.heap := by rw [← hs]; exact sky
    show wpAny (model X.prog X.w) X.A (noteFrame (.ref a) X.env) _ _ _
    refine Sky.land Zc.steady frm hf sk fun h3 fl3 up3 => ?_
    have J3 : L2.Inv X pins σ' H' { s' with heap := h3 } := J.landed nb fl3.1 (up.trans up3) os ag
    obtain ⟨oe3, vs3, he3, hz3, hd3⟩ := fl3.there
    have nofr : ∀ {hp : Heap} {o : Obj} {fv : Array Value}, hp.FunFrames G (X.env :: X.outer) → hp.get? a = some o → o.data = .fields fv → a ∉ frs (X.env :: X.outer) := fun {hp o fv} ff ge de hm => by
      obtain ⟨_, o2, e2, hnf⟩ := ff.mem hm
      rw [ge] at e2; cases e2
      exact hnf _ de
    have nf := nofr fl3.2.2.1 he3 hd3
    have nL : a ≠ X.env.locals := fun z => nf (List.mem_filterMap.mpr ⟨X.env, List.mem_cons_self, by rw [hf, z]⟩)
    have nF : a ∉ X.fs := fun hm => by
      obtain ⟨ev, hev, q⟩ := List.mem_filterMap.mp hm
      exact nf (List.mem_filterMap.mpr ⟨ev, List.mem_cons_of_mem _ hev, q⟩)
    have S3 := J3.suite he3 hd3 na nL nF
    have LT : PySem.W.Looks (model X.prog X.w) h3 (typeOf (.ref a)) cls := fun A Q E s k q => wpAny_typeOf_ref (k _ _ he3) (by rw [hz3.1]; exact q)
    have tst : ∀ {x : Str} {c : Value} {np : Pos} {Q : Value → Shared → Prop} {E : Value → Shared → Prop}, Names X x c → Q c { s' with heap := h3 } → wpAny (model X.prog X.w) (X.A.mark (some (.ref a))) (eval (.Name x np) X.env) Q E { s' with heap := h3 } := fun {x c np Q E} hc q => by
      obtain ⟨hg, hdbg, hm | ⟨hm, hv, hnn⟩⟩ := hc
      · exact ld_glob (X := X.suite a ((a, oe3) :: (X.pn ++ pins))) S3 hg hm q hdbg
      · exact ld_blt (X := X.suite a ((a, oe3) :: (X.pn ++ pins))) S3 hg hm hv q hnn hdbg
    have go : ∀ {hs2 : List ExceptHandler} {l2 : List Hn}, HdL X hs2 l2 → wL X.K Wout D l2 cls d σ' H' → wpAny (model X.prog X.w) X.A (handleBy (.ref a) X.env hs2) (SP X pins D) X.xe { s' with heap := h3 } := by
      intro hs2 l2 hk
      induction hk with
      | nil =>
        intro wi
        refine wpAny_handleBy_nil ?_
        obtain ⟨k1, k2, k3, oe, fv, T, oT, ts', ge, hz, de, h1, hr⟩ := id fl3
        unfold PySem.passOn
        refine wpAny_bind (wpAny_field ge de h1 ?_)
        rw [if_neg (show ¬ ((Value.ref T == Value.none) = true) from by simp)]
        have fin : wpAny (model X.prog X.w) X.A (setFlight (.ref a) X.env.frame) (fun _ s4 => wpAny (model X.prog X.w) X.A (throw (.ref a) : Sem Flow) (SP X pins D) X.xe s4) X.xe { s' with heap := h3 } := by
          rw [hf]
          refine HandSPX.setFlight_upZ fl3 fun h4 hh4 up4 => wpAny_throw (tk _ _ ?_)
          exact ⟨a, G, sI, pins, σ', H', cls, d, rfl, J, nb, (up.trans up3).trans up4, Or.inr (Or.inr (by rw [hs]; exact hh4)), na, os, ag, wi⟩
        first
          | exact wpAny_bind (wpAny_pure (wpAny_bind fin))
          | exact wpAny_bind fin
      | @plain x c ts b0 su np ps hds2 l2 hc hsu r ih =>
        intro wi
        obtain ⟨b, hb1, hyes, hno⟩ := wi
        refine wpAny_handleBy_cons (codeAny_handlers_test ?_) (by intro q; cases q)
        have LM := PySem.W.exm_one (M := model X.prog X.w) (J3.kIn) LT hb1
        refine tst hc (LM.here ?_)
        cases b with
        | true =>
          refine codeAny_handlers_suite ?_
          refine HandSPX.lands_againZ fl3 fun h4 fl4 up4 => ?_
          have J4 : L2.Inv X pins σ' H' { s' with heap := h4 } := J.landed nb fl4.1 ((up.trans up3).trans up4) os ag
          obtain ⟨oe4, vs4, he4, hz4, hd4⟩ := fl4.there
          have S4 := J4.suite he4 hd4 na nL nF
          refine wpAny_mono ((hsu a oe4 cls d (X.pn ++ pins) hz4 ⟨_, hd4⟩).run [] _ _ H' _ S4 (hyes rfl a na)) (fun fl s6 hsp => ?_) (fun _ _ z => False.elim z)
          cases fl with
          | next => obtain ⟨σ6, H6, S6, q6⟩ := hsp; exact ⟨_, _, S6.unsuite okk, q6⟩
          | brk => obtain ⟨σ6, H6, S6, q6⟩ := hsp; exact ⟨_, _, S6.unsuite okk, q6⟩
          | cont => obtain ⟨σ6, H6, S6, q6⟩ := hsp; exact ⟨_, _, S6.unsuite okk, q6⟩
          | ret u => obtain ⟨v6, σ6, H6, S6, r6, q6⟩ := hsp; exact ⟨_, _, _, S6.unsuite okk, r6, q6⟩
        | false => exact ih (hno rfl)
      | @as x n i c ts b0 su np ps hds2 l2 hc hi hln hsu r ih =>
        intro wi
        obtain ⟨b, hb1, hyes, hno⟩ := wi
        refine wpAny_handleBy_cons (codeAny_handlers_test ?_) (by intro q; cases q)
        have LM := PySem.W.exm_one (M := model X.prog X.w) (J3.kIn) LT hb1
        refine tst hc (LM.here ?_)
        cases b with
        | true =>
          refine codeAny_handlers_suite_as ?_
          refine HandSPX.lands_againZ fl3 fun h4 fl4 up4 => ?_
          have J4 : L2.Inv X pins σ' H' { s' with heap := h4 } := J.landed nb fl4.1 ((up.trans up3).trans up4) os ag
          obtain ⟨oe4, vs4, he4, hz4, hd4⟩ := fl4.there
          have S4 := J4.suite he4 hd4 na nL nF
          refine store_ok (X := X.suite a ((a, oe4) :: (X.pn ++ pins))) (v := .ref a) S4 hN hi (Or.inl hln) rfl (fun s5 S5 => ?_) (Or.inr hln)
          refine wpAny_mono ((hsu a oe4 cls d (X.pn ++ pins) hz4 ⟨_, hd4⟩).run [] s5 _ H' _ S5 (hyes rfl a na)) (fun fl s6 hsp => ?_) (fun _ _ z => False.elim z)
          have gone : ∀ {σ6 : L2.St} {H6 : Hp} {Q : Shared → Prop}, L2.Inv (X.suite a ((a, oe4) :: (X.pn ++ pins))) [] σ6 H6 s6 → (∀ s7, L2.Inv X pins (σ6.set i none) H6 s7 → Q s7) →
              wpAny (model X.prog X.w) X.A (do bindName X.env n .none; unbindBehindTheSuite X.env n ps) (fun _ s7 => Q s7) X.xe s6 := fun {σ6 H6 Q} S6 hq => gone_ok (S6.unsuite okk) hN hi hln hq
          cases fl with
          | next => obtain ⟨σ6, H6, S6, q6⟩ := hsp; exact gone S6 fun s7 J7 => ⟨_, _, J7, q6⟩
          | brk => obtain ⟨σ6, H6, S6, q6⟩ := hsp; exact gone S6 fun s7 J7 => ⟨_, _, J7, q6⟩
          | cont => obtain ⟨σ6, H6, S6, q6⟩ := hsp; exact gone S6 fun s7 J7 => ⟨_, _, J7, q6⟩
          | ret u => obtain ⟨v6, σ6, H6, S6, r6, q6⟩ := hsp; exact gone S6 fun s7 J7 => ⟨_, _, _, J7, r6, q6⟩
        | false => exact ih (hno rfl)
    exact go hh wi
  · cases fl with
    | next => obtain ⟨σ', H', J', q⟩ := hsp; exact wpAny_execs_nil ⟨σ', H', J'.ofTry okk, q⟩
    | brk => obtain ⟨σ', H', J', q⟩ := hsp; exact ⟨σ', H', J'.ofTry okk, q⟩
    | cont => obtain ⟨σ', H', J', q⟩ := hsp; exact ⟨σ', H', J'.ofTry okk, q⟩
    | ret u => obtain ⟨v, σ', H', J', r, q⟩ := hsp; exact ⟨v, σ', H', J'.ofTry okk, r, q⟩

/-! ### .. over data -/
def canS (c : Cf) (ds : DS) (W : WX) : TS := fun D σ H => ∃ B F ν s Dd, R c B s σ H F ν ∧ Mt c B F ν W D Dd ∧ ds Dd s
theorem Ss.can {X : Cx} {cl : String → Addr} {st : List Stmt} {ds : DS} (h : Ss X cl st ds) (W : WX) (t : Takes X W) (p : Po X) : PSs X st (canS (cf X cl) ds W) := by
  obtain ⟨ts, h1, h2⟩ := h.ex
  refine ⟨fun pins s σ H Dn I q => ?_⟩
  obtain ⟨B, F, ν, s', Dd, a, b, c⟩ := q
  exact (h1 W t p).run pins s σ H Dn I (h2.go B W σ H F ν s' Dn Dd a b c)
theorem R.setV {c : Cf} {B : Bs} {s : S} {σ : L2.St} {H F : Hp} {ν : List Addr} (r : R c B s σ H F ν) (i : Nat) {v : V} {y : SV} (hy : y.own = false) (h : RzS c B H F ν v y) : R c B ⟨s.sl.set i (some y), s.st⟩ (σ.set i (some v)) H F ν := by
  refine ⟨r.sub, r.f0, r.fz, r.kp, r.nu, r.nd, r.nf, ?_, fun j x e => ?_, fun j k x w a e1 e2 o1 o2 z1 z2 => ?_, r.sn, r.st⟩
  · show (s.sl.set i _).length = _
    rw [List.length_set, List.length_set]; exact r.ln
  · rcases getset (show (s.sl.set i (some y))[j]? = some (some x) from e) with ⟨hj, hx, hl⟩ | ⟨hj, e'⟩
    · subst hj
      cases hx
      exact ⟨v, List.getElem?_set_self (by rw [← r.ln]; exact hl), h⟩
    · rw [List.getElem?_set_ne hj]
      exact r.sl j x e'
  · rcases getset (show (s.sl.set i (some y))[j]? = some (some x) from e1) with ⟨hj, hx, hl⟩ | ⟨hj, e1'⟩
    · cases hx; rw [hy] at o1; cases o1
    · rcases getset (show (s.sl.set i (some y))[k]? = some (some w) from e2) with ⟨hk, hx, hl⟩ | ⟨hk, e2'⟩
      · cases hx; rw [hy] at o2; cases o2
      · rw [List.getElem?_set_ne hj] at z1
        rw [List.getElem?_set_ne hk] at z2
        exact r.ap j k x w a e1' e2' o1 o2 z1 z2
theorem R.dropB {c : Cf} {B : Bs} {s : S} {σ : L2.St} {H F : Hp} {ν : List Addr} (r : R c B s σ H F ν) (i : Nat) : R c B ⟨s.sl.set i none, s.st⟩ (σ.set i none) H F ν := by
  have r1 := r.drop i
  have get : ∀ (j : Nat) x, (s.sl.set i none)[j]? = some (some x) → i ≠ j ∧ s.sl[j]? = some (some x) := fun j x e => by
    rcases getset e with ⟨_, h, _⟩ | h
    · cases h
    · exact h
  refine ⟨r.sub, r.f0, r.fz, r.kp, r.nu, r.nd, r.nf, ?_, fun j x e => ?_, fun j k x w a e1 e2 o1 o2 z1 z2 => ?_, r.sn, r.st⟩
  · show (s.sl.set i _).length = _
    rw [List.length_set, List.length_set]; exact r.ln
  · obtain ⟨h1, h2⟩ := get j x e
    rw [List.getElem?_set_ne h1]
    exact r.sl j x h2
  · obtain ⟨h1, h2⟩ := get j x e1
    obtain ⟨h3, h4⟩ := get k w e2
    rw [List.getElem?_set_ne h1] at z1
    rw [List.getElem?_set_ne h3] at z2
    exact r.ap j k x w a h2 h4 o1 o2 z1 z2
/-- a clause: the class that it names; the errors that may come, and which of them it takes; its slot; its suite -/
structure Hd where
  c : Value
  nms : List String
  hit : String → Bool
  slot : Option Nat
  su : Addr → Value → Option Addr → DS
def dropAt (De : DEnds) (i : Nat) : DEnds := { De with nx := fun s => De.nx ⟨s.sl.set i none, s.st⟩, bk := fun s => De.bk ⟨s.sl.set i none, s.st⟩, ct := fun s => De.ct ⟨s.sl.set i none, s.st⟩ }
def dSu (cl : String → Addr) (De : DEnds) (h : Hd) (x : XD) (s : S) : Prop := ∀ a dx, match h.slot with
  | none => h.su a (.ref (cl x.nm)) (some dx) { De with ex := fun _ _ => False } s
  | some i => h.su a (.ref (cl x.nm)) (some dx) { dropAt De i with ex := fun _ _ => False } ⟨s.sl.set i (some (.ex a dx x.fs)), s.st⟩
def dHd (cl : String → Addr) (De : DEnds) : List Hd → XD → S → Prop
  | [], x, s => De.ex x s
  | h :: r, x, s => x.nm ∈ h.nms ∧ if h.hit x.nm = true then dSu cl De h x s else dHd cl De r x s
def dTry (cl : String → Addr) (tb : DS) (l : List Hd) : DS := fun De s => tb { De with ex := dHd cl De l } s
def Hd.n (c : Cf) (h : Hd) : Hn := (h.c, h.slot, fun a cls d => canS c (h.su a cls d) W0)
/-- the clauses of the text and what they do -/
inductive HdD (X : Cx) (cl : String → Addr) : List ExceptHandler → List Hd → Prop
  | nil : HdD X cl [] []
  | plain {x : Str} {h : Hd} {b0 : Stmt} {sts : List Stmt} {np ps : Pos} {hds : List ExceptHandler} {l : List Hd} (hc : Names X x h.c) (hx : ∀ nm ∈ h.nms, PySem.W.exmOne X.K (.ref (cl nm)) h.c = some (h.hit nm)) (hsl : h.slot = none)
      (hsu : ∀ (a : Addr) (oe : Obj) (cls : Value) (d : Option Addr) (pn : List (Addr × Obj)), Zc cls d oe → (∃ vs, oe.data = .fields vs) → Ss (X.suite a ((a, oe) :: pn)) cl (b0 :: sts) (h.su a cls d)) (r : HdD X cl hds l) :
      HdD X cl (.ExceptHandler (some (.Name x np)) none (b0 :: sts) ps :: hds) (h :: l)
  | as {x n : Str} {i : Nat} {h : Hd} {b0 : Stmt} {sts : List Stmt} {np ps : Pos} {hds : List ExceptHandler} {l : List Hd} (hc : Names X x h.c) (hx : ∀ nm ∈ h.nms, PySem.W.exmOne X.K (.ref (cl nm)) h.c = some (h.hit nm)) (hsl : h.slot = some i) (hi : X.N[i]? = some n) (hln : X.env.kindOf n = some .local)
      (hsu : ∀ (a : Addr) (oe : Obj) (cls : Value) (d : Option Addr) (pn : List (Addr × Obj)), Zc cls d oe → (∃ vs, oe.data = .fields vs) → Ss (X.suite a ((a, oe) :: pn)) cl (b0 :: sts) (h.su a cls d)) (r : HdD X cl hds l) :
      HdD X cl (.ExceptHandler (some (.Name x np)) (some n) (b0 :: sts) ps :: hds) (h :: l)
section
variable {X : Cx} {cl : String → Addr} {body : List Stmt} {h0 : ExceptHandler} {hds : List ExceptHandler} {l : List Hd} {pos : Pos} {tb : DS}
theorem HdD.hn : ∀ {hds : List ExceptHandler} {l : List Hd}, HdD X cl hds l → HdL X hds (l.map (Hd.n (cf X cl)))
  | _, _, .nil => .nil
  | _, _, .plain (h := h) hc hx hsl hsu r => by
    obtain ⟨c, nms, hit, slot, su⟩ := h
    cases hsl
    exact .plain hc (fun a oe cls d pn z f => (hsu a oe cls d pn z f).can W0 (takesBlk rfl) PassesOwn.never) r.hn
  | _, _, .as (h := h) hc hx hsl hi hln hsu r => by
    obtain ⟨c, nms, hit, slot, su⟩ := h
    cases hsl
    exact .as hc hi hln (fun a oe cls d pn z f => (hsu a oe cls d pn z f).can W0 (takesBlk rfl) PassesOwn.never) r.hn
theorem dHd_ok {B : Bs} {F : Hp} {ν : List Addr} {W : WX} {D : Ends} {De : DEnds} (m : Mt (cf X cl) B F ν W D De) : ∀ {hds : List ExceptHandler} {l : List Hd}, HdD X cl hds l → ∀ (x : XD) (s' : S) cls d σ' H' F' ν', Ext F ν F' ν' → R (cf X cl) B s' σ' H' F' ν' →
    RzX (cf X cl) F' ν' cls d x → dHd cl De l x s' → wL X.K W D (l.map (Hd.n (cf X cl))) cls d σ' H'
  | _, _, .nil, x, s', cls, d, σ', H', F', ν', xx, r, z, q => m.ex x s' cls d σ' H' F' ν' xx r z q
  | _, _, .plain (h := h) hc hx hsl hsu rr, x, s', cls, d, σ', H', F', ν', xx, r, z, q => by
    obtain ⟨hm, q⟩ := q
    obtain ⟨c, nms, hit, slot, su⟩ := h
    cases hsl
    obtain ⟨dx, vs, rfl, rfl, zd, zf⟩ := z
    dsimp only at q hm hx
    have e := hx _ hm
    refine ⟨hit x.nm, e, fun hb a ha => ?_, fun hb => ?_⟩
    · rw [if_pos hb] at q
      have mm := m.next xx
      exact ⟨B, F', ν', s', { De with ex := fun _ _ => False }, r, ⟨mm.nx, mm.rt, fun _ _ _ _ _ _ _ _ _ _ _ z => z.elim, mm.bk, mm.ct⟩, q a dx⟩
    · rw [if_neg (by rw [hb]; exact Bool.false_ne_true)] at q
      exact dHd_ok m rr x s' _ _ σ' H' F' ν' xx r ⟨dx, vs, rfl, rfl, zd, zf⟩ q
  | _, _, .as (i := i) (h := h) hc hx hsl hi hln hsu rr, x, s', cls, d, σ', H', F', ν', xx, r, z, q => by
    obtain ⟨hm, q⟩ := q
    obtain ⟨c, nms, hit, slot, su⟩ := h
    cases hsl
    obtain ⟨dx, vs, rfl, rfl, zd, zf⟩ := z
    dsimp only at q hm hx
    have e := hx _ hm
    refine ⟨hit x.nm, e, fun hb a ha => ?_, fun hb => ?_⟩
    · rw [if_pos hb] at q
      have mm := m.next xx
      refine ⟨B, F', ν', _, { dropAt De i with ex := fun _ _ => False }, r.setV i (v := .ref a) (y := .ex a dx x.fs) rfl (.ex zd zf), ⟨fun s2 σ2 H2 F2 ν2 x2 r2 q2 => ?_, mm.rt, fun _ _ _ _ _ _ _ _ _ _ _ z => z.elim, fun s2 σ2 H2 F2 ν2 x2 r2 q2 => ?_, fun s2 σ2 H2 F2 ν2 x2 r2 q2 => ?_⟩, q a dx⟩
      · exact mm.nx _ _ H2 F2 ν2 x2 (r2.dropB i) q2
      · exact mm.bk _ _ H2 F2 ν2 x2 (r2.dropB i) q2
      · exact mm.ct _ _ H2 F2 ν2 x2 (r2.dropB i) q2
    · rw [if_neg (by rw [hb]; exact Bool.false_ne_true)] at q
      exact dHd_ok m rr x s' _ _ σ' H' F' ν' xx r ⟨dx, vs, rfl, rfl, zd, zf⟩ q
theorem s_try (hs : X.stack = X.env :: X.outer) (hf : X.env.frame = some X.env.locals) (hN : X.N.Nodup) (hb : ∀ (pn : List (Addr × Obj)) (xe : Value → Shared → Prop), Ss (X.tr pn xe) cl body tb) (hh : HdD X cl (h0 :: hds) l) :
    Sm X cl (.Try body (h0 :: hds) [] [] pos) (dTry cl tb l) := by
  refine ⟨fun W => fun D σ H => canS (cf X cl) tb (wL X.K W D (l.map (Hd.n (cf X cl)))) D σ H, fun W tk p => ps_tryL hs hf hN tk (fun W' pn xe tk' po => (hb pn xe).can W' tk' po) hh.hn, ⟨fun B W σ H F ν s D Dd r m q => ?_⟩⟩
  exact ⟨B, F, ν, s, { Dd with ex := dHd cl Dd l }, r, ⟨m.nx, m.rt, fun x s' cls d σ' H' F' ν' xx rr z q => dHd_ok m hh x s' cls d σ' H' F' ν' xx rr z q, m.bk, m.ct⟩, q⟩
/-- e.f of the error in hand -/
def dExF (a : Addr) (cls : Value) (d : Option Addr) (C : Addr) (i : Nat) (f : Str) : DE := fun s Q _ => ∃ dx fs v, d = some dx ∧ cls = .ref C ∧ s.sl[i]? = some (some (.ex a dx fs)) ∧ fs.lookup f = some v ∧ Q v s.st
theorem x_exf (i : Nat) {a C : Addr} {oe : Obj} {cls : Value} {d : Option Addr} {pn : List (Addr × Obj)} {x f : Str} {p : Pos} (T : XfC X.K C) (hno : PySem.W.findIn X.K (.ref C) f = some none) (hz : Zc cls d oe) (hf : ∃ vs, oe.data = .fields vs) (hN : X.N[i]? = some x)
    (hv : Vis X.env.scope x := by first | exact Or.inl rfl | exact Or.inr (Or.inl rfl) | exact Or.inr (Or.inr rfl)) (hd : (x == ("__debug__" : Str)) = false := by decide) (hcd : (x == ("__classdict__" : Str)) = false := by decide)
    (hb : attributeBase (.Name x p) f X.env (eval (.Name x p) X.env) = eval (.Name x p) X.env := by rfl) : Ex (X.suite a ((a, oe) :: pn)) cl (.Attribute (.Name x p) f pos) (dExF a cls d C i f) := by
  refine ⟨fun _ => tXf a cls d C f (tVar i), fun W _ => pe_xf T hno hz hf (pe_var (X := X.suite a ((a, oe) :: pn)) hN hv hd hcd) hb, ⟨fun B W σ H F ν s Q E P r w q k => ?_⟩⟩
  obtain ⟨dx, fs, v, e1, e2, e3, e4, q⟩ := q
  obtain ⟨u, h1, h2⟩ := r.sl i _ e3
  cases h2 with
  | ex h3 h4 =>
    obtain ⟨w', h5, h6⟩ := h4.get e4
    exact ⟨_, h1, rfl, e2, dx, _, w', e1, r.sub _ _ h3, h5, k w' H F ν v s.st Ext.refl r h6 q⟩
end
end Kt
set_option maxHeartbeats 4000000
/-! Kt7: data as the model's own data: equality and repr. -/
namespace Kt
open PySem PySem.Spec L2
def keyPy : Key → PyData
  | .inl i => .int i
  | .inr x => .str x
mutual
inductive Py (K : PySem.W.Frag) (H : Hp) : V → PyData → Prop
  | non : Py K H .non .none
  | bl (b : Bool) : Py K H (.bl b) (.bool b)
  | int (i : Int) : Py K H (.int i) (.int i)
  | str (x : Str) : Py K H (.str x) (.str x)
  | lst {a : Addr} {xs : List V} {ds : List PyData} : SqL K H a xs → PyA K H xs ds → Py K H (.ref a) (.list ds)
  | tup {a : Addr} {xs : List V} {ds : List PyData} : SqT K H a xs → PyA K H xs ds → Py K H (.ref a) (.tuple ds)
  | dct {a : Addr} {kvs : List (Key × V)} {ds : List (PyData × PyData)} : H a = some (.dK kvs) → PyK K H kvs ds → Py K H (.ref a) (.dict ds)
inductive PyA (K : PySem.W.Frag) (H : Hp) : List V → List PyData → Prop
  | nil : PyA K H [] []
  | cons {v : V} {vs : List V} {d : PyData} {ds : List PyData} : Py K H v d → PyA K H vs ds → PyA K H (v :: vs) (d :: ds)
inductive PyK (K : PySem.W.Frag) (H : Hp) : List (Key × V) → List (PyData × PyData) → Prop
  | nil : PyK K H [] []
  | cons {k : Key} {v : V} {vs : List (Key × V)} {d : PyData} {ds : List (PyData × PyData)} : Py K H v d → PyK K H vs ds → PyK K H ((k, v) :: vs) ((keyPy k, d) :: ds)
end
mutual
def toPyF (g : Nat → Option PyData) : D → Option PyData
  | .non => some .none
  | .bl b => some (.bool b)
  | .int i => some (.int i)
  | .str x => some (.str x)
  | .lst ds => (toPyA g ds).map .list
  | .tup ds => (toPyA g ds).map .tuple
  | .dct ks => (toPyK g ks).map .dict
  | .obj n => g n
  | .part _ => none
  | .frl ds => (toPyA g ds).map .list
def toPyA (g : Nat → Option PyData) : List D → Option (List PyData)
  | [] => some []
  | d :: ds => match toPyF g d, toPyA g ds with
    | some p, some ps => some (p :: ps)
    | _, _ => none
def toPyK (g : Nat → Option PyData) : List (Key × D) → Option (List (PyData × PyData))
  | [] => some []
  | (k, d) :: ds => match toPyF g d, toPyK g ds with
    | some p, some ps => some ((keyPy k, p) :: ps)
    | _, _ => none
end
def obPy (st : List Ob) (n : Nat) : Option PyData := match st[n]? with
  | some (.lst ds) => (toPyA (fun _ => none) ds).map .list
  | some (.dct ks) => (toPyK (fun _ => none) ks).map .dict
  | none => none
/-- a datum as the model's data, named things looked up -/
def toPy (st : List Ob) (d : D) : Option PyData := toPyF (obPy st) d
section
variable {c : Cf} {F H : Hp} {ν : List Addr} {g : Nat → Option PyData}
mutual
theorem py_of (hF : Same F H) (ho : ∀ n a p, ν[n]? = some a → g n = some p → Py c.K H (.ref a) p) : ∀ {v : V} {d : D} {p : PyData}, Rz c F ν v d → toPyF g d = some p → Py c.K H v p
  | _, _, _, .non, e => by rw [toPyF] at e; cases e; exact .non
  | _, _, _, .bl b, e => by rw [toPyF] at e; cases e; exact .bl b
  | _, _, _, .int b, e => by rw [toPyF] at e; cases e; exact .int b
  | _, _, _, .str b, e => by rw [toPyF] at e; cases e; exact .str b
  | _, _, _, .lst h r, e => by
    rw [toPyF] at e
    obtain ⟨ps, e1, rfl⟩ := Option.map_eq_some_iff.mp e
    exact .lst (SqL.of (hF _ _ h)) (py_ofA hF ho r e1)
  | _, _, _, .frl h r, e => by
    rw [toPyF] at e
    obtain ⟨ps, e1, rfl⟩ := Option.map_eq_some_iff.mp e
    exact .lst (sql_mono hF h) (py_ofA hF ho r e1)
  | _, _, _, .tup h r, e => by
    rw [toPyF] at e
    obtain ⟨ps, e1, rfl⟩ := Option.map_eq_some_iff.mp e
    exact .tup (sqt_mono hF h) (py_ofA hF ho r e1)
  | _, _, _, .dct h r, e => by
    rw [toPyF] at e
    obtain ⟨ps, e1, rfl⟩ := Option.map_eq_some_iff.mp e
    exact .dct (hF _ _ h) (py_ofK hF ho r e1)
  | _, _, _, .obj h, e => by rw [toPyF] at e; exact ho _ _ _ h e
  | _, _, _, .part _ _ _, e => by rw [toPyF] at e; cases e
theorem py_ofA (hF : Same F H) (ho : ∀ n a p, ν[n]? = some a → g n = some p → Py c.K H (.ref a) p) : ∀ {v : List V} {d : List D} {p : List PyData}, RzAll c F ν v d → toPyA g d = some p → PyA c.K H v p
  | _, _, _, .nil, e => by rw [toPyA] at e; cases e; exact .nil
  | _, _, _, .cons (d := d) (ds := ds) a r, e => by
    rw [toPyA] at e
    cases h1 : toPyF g d with
    | none => rw [h1] at e; cases e
    | some p1 =>
      cases h2 : toPyA g ds with
      | none => rw [h1, h2] at e; cases e
      | some p2 =>
        rw [h1, h2] at e
        cases e
        exact .cons (py_of hF ho a h1) (py_ofA hF ho r h2)
theorem py_ofK (hF : Same F H) (ho : ∀ n a p, ν[n]? = some a → g n = some p → Py c.K H (.ref a) p) : ∀ {v : List (Key × V)} {d : List (Key × D)} {p : List (PyData × PyData)}, RzKv c F ν v d → toPyK g d = some p → PyK c.K H v p
  | _, _, _, .nil, e => by rw [toPyK] at e; cases e; exact .nil
  | _, _, _, .cons (d := d) (ds := ds) a r, e => by
    rw [toPyK] at e
    cases h1 : toPyF g d with
    | none => rw [h1] at e; cases e
    | some p1 =>
      cases h2 : toPyK g ds with
      | none => rw [h1, h2] at e; cases e
      | some p2 =>
        rw [h1, h2] at e
        cases e
        exact .cons (py_of hF ho a h1) (py_ofK hF ho r h2)
end
theorem R.py {B : Bs} {s : S} {σ : L2.St} (r : R c B s σ H F ν) {v : V} {d : D} {p : PyData} (z : Rz c F ν v d) (e : toPy s.st d = some p) : Py c.K H v p := by
  refine py_of r.sub (fun n a p hn hp => ?_) z e
  have hl : n < s.st.length := by rw [r.sn]; exact (List.getElem?_eq_some_iff.mp hn).1
  obtain ⟨o, ho, hr⟩ := r.st n s.st[n] a (by simp [hl]) hn
  unfold obPy at hp
  have e1 : s.st[n]? = some s.st[n] := by simp [hl]
  rw [e1] at hp
  generalize s.st[n] = ob at hr hp
  cases hr with
  | lst q =>
    obtain ⟨ps, e2, rfl⟩ := Option.map_eq_some_iff.mp hp
    exact .lst (SqL.of ho) (py_ofA r.sub (fun _ _ _ _ z => by cases z) q e2)
  | dct q =>
    obtain ⟨ps, e2, rfl⟩ := Option.map_eq_some_iff.mp hp
    exact .dct ho (py_ofK r.sub (fun _ _ _ _ z => by cases z) q e2)
end
/-! ### over the model's heap -/
mutual
inductive Dr (h : Heap) : Value → PyData → Prop
  | none : Dr h .none .none
  | bool (b : Bool) : Dr h (.bool b) (.bool b)
  | int (i : Int) (t : Tok) : Dr h (.int i t) (.int i)
  | str (x : Str) (t : Tok) : Dr h (.str x t) (.str x)
  | list {a : Addr} {o : Obj} {vs : Array Value} {n : Nat} {xs : List PyData} : h.get? a = some o → o.cls = .type "list" → o.data = .seq vs n → DrA h vs.toList xs → Dr h (.ref a) (.list xs)
  | tuple {a : Addr} {o : Obj} {vs : Array Value} {n : Nat} {xs : List PyData} : h.get? a = some o → o.cls = .type "tuple" → o.data = .seq vs n → DrA h vs.toList xs → Dr h (.ref a) (.tuple xs)
  | dict {a : Addr} {o : Obj} {es : Array DictEntry} {n : Nat} {kvs : List (PyData × PyData)} : h.get? a = some o → o.cls = .type "dict" → o.data = .dict es n → (a == sysModules) = false → DrA h (es.toList.map (·.key)) (kvs.map (·.1)) →
      DrA h (es.toList.map (·.val)) (kvs.map (·.2)) → Dr h (.ref a) (.dict kvs)
inductive DrA (h : Heap) : List Value → List PyData → Prop
  | nil : DrA h [] []
  | cons {v : Value} {vs : List Value} {d : PyData} {ds : List PyData} : Dr h v d → DrA h vs ds → DrA h (v :: vs) (d :: ds)
end
section
variable {h : Heap}
mutual
theorem Dr.reads : ∀ {v : Value} {d : PyData}, Dr h v d → ∃ as, Reads h v d as
  | _, _, .none => ⟨_, .none⟩
  | _, _, .bool b => ⟨_, .bool b⟩
  | _, _, .int i t => ⟨_, .int i t⟩
  | _, _, .str x t => ⟨_, .str x t⟩
  | _, _, .list h1 h2 h3 r => by obtain ⟨as, q⟩ := DrA.reads r; exact ⟨_, .list h1 h2 h3 q⟩
  | _, _, .tuple h1 h2 h3 r => by obtain ⟨as, q⟩ := DrA.reads r; exact ⟨_, .tuple h1 h2 h3 q⟩
  | _, _, .dict h1 h2 h3 _ r r2 => by obtain ⟨as, q⟩ := DrA.reads r; obtain ⟨bs, q2⟩ := DrA.reads r2; exact ⟨_, .dict h1 h2 h3 q q2⟩
theorem DrA.reads : ∀ {v : List Value} {d : List PyData}, DrA h v d → ∃ as, ReadsAll h v d as
  | _, _, .nil => ⟨_, .nil⟩
  | _, _, .cons a r => by obtain ⟨as, q⟩ := Dr.reads a; obtain ⟨bs, q2⟩ := DrA.reads r; exact ⟨_, .cons q q2⟩
end
variable {prog : Program} {w : World}
mutual
theorem Dr.k : ∀ {v : Value} {d : PyData}, Dr h v d → d.showable = true → d.shown.length ≤ sizeLine → ∃ bs, ReadAtMost h d.depth bs ∧ ReprK prog w bs h d.depth v d.shown
  | _, _, .none, _, _ => ⟨[], (fun _ z => nomatch z), by simp only [PyData.shown]; exact .of_is ReprIs.none _ _ _⟩
  | _, _, .bool b, _, _ => ⟨[], (fun _ z => nomatch z), by simp only [PyData.shown]; exact .of_is (ReprIs.bool b) _ _ _⟩
  | _, _, .int i t, hs, _ => ⟨[], (fun _ z => nomatch z), by simp only [PyData.shown]; exact .of_is (ReprIs.int t (by simpa [PyData.showable] using hs)) _ _ _⟩
  | _, _, .str x t, _, hz => ⟨[], (fun _ z => nomatch z), by simp only [PyData.shown]; exact .of_is (ReprIs.str x t (by simpa only [PyData.shown] using hz)) _ _ _⟩
  | _, _, .list (a := a) (vs := vs) (xs := xs) h1 h2 h3 r4, hs, hz => by
    have hz2 : (listText (PyData.shownAll xs)).length ≤ sizeLine := by simpa only [PyData.shown] using hz
    obtain ⟨bs, hb, hk⟩ := DrA.k r4 (by simpa [PyData.showable] using hs) (fun t ht => Nat.le_trans (listText_mem_le ht) hz2)
    obtain ⟨as, rr⟩ := (Dr.list h1 h2 h3 r4).reads
    have hna : a ∉ bs := not_mem_of_deeper rr (by simp only [PyData.depth]; omega) hb
    refine ⟨a :: bs, ReadAtMost.cons rr (by simp only [PyData.depth]; omega) hb, ?_⟩
    simp only [PyData.depth, PyData.shown]
    obtain ⟨l⟩ := vs
    cases l with
    | nil =>
      have r5 : DrA h [] xs := r4
      cases r5
      simp only [PyData.shownAll, listText_nil]
      exact ReprK.listEmpty h1 h2 h3
    | cons x l => exact ReprK.list h1 h2 h3 hna (by simpa using hk.length_eq) (fun i y e => hk.item i y (by simpa using e))
  | _, _, .tuple (a := a) (xs := xs) h1 h2 h3 r4, hs, hz => by
    have hz2 : (tupleText (PyData.shownAll xs)).length ≤ sizeLine := by simpa only [PyData.shown] using hz
    obtain ⟨bs, hb, hk⟩ := DrA.k r4 (by simpa [PyData.showable] using hs) (fun t ht => Nat.le_trans (tupleText_mem_le ht) hz2)
    obtain ⟨as, rr⟩ := (Dr.tuple h1 h2 h3 r4).reads
    have hna : a ∉ bs := not_mem_of_deeper rr (by simp only [PyData.depth]; omega) hb
    refine ⟨a :: bs, ReadAtMost.cons rr (by simp only [PyData.depth]; omega) hb, ?_⟩
    simp only [PyData.depth, PyData.shown]
    exact ReprK.tuple h1 h2 h3 hna hk
  | _, _, .dict (a := a) (es := es) (kvs := kvs) h1 h2 h3 hsys r4 r5, hs, hz => by
    have hz2 : (dictText (PyData.shownKv kvs)).length ≤ sizeLine := by simpa only [PyData.shown] using hz
    obtain ⟨hs1, hs2⟩ := PyData.showableKv_split kvs (by simpa [PyData.showable] using hs)
    obtain ⟨b1, hb1, k1⟩ := DrA.k r4 hs1 (fun t ht => let ⟨p, hp, hl⟩ := PyData.shownKv_key_le kvs t ht; Nat.le_trans hl (Nat.le_trans (dictText_mem_le hp) hz2))
    obtain ⟨b2, hb2, k2⟩ := DrA.k r5 hs2 (fun t ht => let ⟨p, hp, hl⟩ := PyData.shownKv_val_le kvs t ht; Nat.le_trans hl (Nat.le_trans (dictText_mem_le hp) hz2))
    obtain ⟨as, rr⟩ := (Dr.dict h1 h2 h3 hsys r4 r5).reads
    have hb : ReadAtMost h (PyData.depthKv kvs) (b1 ++ b2) := (hb1.mono (PyData.depthAll_keys_le kvs)).append (hb2.mono (PyData.depthAll_vals_le kvs))
    have hna : a ∉ b1 ++ b2 := not_mem_of_deeper rr (by simp only [PyData.depth]; omega) hb
    refine ⟨a :: (b1 ++ b2), ReadAtMost.cons rr (by simp only [PyData.depth]; omega) hb, ?_⟩
    simp only [PyData.depth, PyData.shown, PyData.shownKv_eq]
    exact ReprK.dict h1 h2 h3 hsys hna (ReprEntriesK.of_two es.toList _ _
      (k1.more_le (fun b m => List.mem_append_left _ m) (PyData.depthAll_keys_le kvs)) (k2.more_le (fun b m => List.mem_append_right _ m) (PyData.depthAll_vals_le kvs)))
theorem DrA.k : ∀ {vs : List Value} {ds : List PyData}, DrA h vs ds → PyData.showableAll ds = true → (∀ t ∈ PyData.shownAll ds, t.length ≤ sizeLine) →
    ∃ bs, ReadAtMost h (PyData.depthAll ds) bs ∧ ReprAllK prog w bs h (PyData.depthAll ds) vs (PyData.shownAll ds)
  | _, _, .nil, _, _ => ⟨[], (fun _ z => nomatch z), by simp only [PyData.shownAll]; exact .nil⟩
  | _, _, .cons (d := d) (ds := ds) r rs, hs, hz => by
    have hs2 : d.showable = true ∧ PyData.showableAll ds = true := by simpa [PyData.showableAll] using hs
    obtain ⟨b1, hb1, k1⟩ := Dr.k r hs2.1 (hz _ (by simp only [PyData.shownAll]; exact List.mem_cons_self ..))
    obtain ⟨b2, hb2, k2⟩ := DrA.k rs hs2.2 (fun t ht => hz t (by simp only [PyData.shownAll]; exact List.mem_cons_of_mem _ ht))
    refine ⟨b1 ++ b2, ?_, ?_⟩
    · intro b hm
      simp only [PyData.depthAll]
      rcases List.mem_append.mp hm with hm | hm
      · obtain ⟨d2, as2, r2, hd2⟩ := hb1 b hm
        exact ⟨d2, as2, r2, Nat.le_trans hd2 (Nat.le_max_left _ _)⟩
      · obtain ⟨d2, as2, r2, hd2⟩ := hb2 b hm
        exact ⟨d2, as2, r2, Nat.le_trans hd2 (Nat.le_max_right _ _)⟩
    · simp only [PyData.depthAll, PyData.shownAll]
      exact .cons ((k1.more fun b m => List.mem_append_left _ m).level_le (Nat.le_max_left _ _)) (k2.more_le (fun b m => List.mem_append_right _ m) (Nat.le_max_right _ _))
end
/-- repr(x) -/
theorem Dr.repr {v : Value} {d : PyData} (r : Dr h v d) (hs : d.showable = true) (hz : d.shown.length ≤ sizeLine) {A : Around} {E : Value → Shared → Prop} {s : Shared} {Q : Value → Shared → Prop} (hg : A.guards = some []) (hu : A.units + (d.depth + 1) < cLine)
    (hk : ∀ b o, h.get? b = some o → s.heap.get? b = some o) (hQ : ∀ h' u tk, (∀ b o, s.heap.get? b = some o → h'.get? b = some o) → Q (.str d.shown u) { s with heap := h', toks := tk }) : wpAny (model prog w) A (call (.builtin "repr") [v]) Q E s := by
  cases r with
  | none => simp only [PyData.shown] at hQ; exact PySem.P.repr_of_none (hQ s.heap _ _ fun _ _ e => e)
  | bool b => simp only [PyData.shown] at hQ; exact PySem.P.repr_of_bool (hQ s.heap _ _ fun _ _ e => e)
  | int i t => simp only [PyData.shown] at hQ; exact PySem.P.repr_of_int (by simpa [PyData.showable] using hs) (hQ s.heap _ _ fun _ _ e => e)
  | str x t => simp only [PyData.shown] at hQ hz; exact PySem.P.repr_of_str (hQ s.heap _ _ fun _ _ e => e) hz
  | @list a o vs n xs h1 h2 h3 r4 =>
    have hz2 : (listText (PyData.shownAll xs)).length ≤ sizeLine := by simpa only [PyData.shown] using hz
    obtain ⟨bs, hb, k⟩ := DrA.k (prog := prog) (w := w) r4 (by simpa [PyData.showable] using hs) (fun t ht => Nat.le_trans (listText_mem_le ht) hz2)
    obtain ⟨as, rr⟩ := (Dr.list h1 h2 h3 r4).reads
    have hna : a ∉ bs := not_mem_of_deeper rr (by simp only [PyData.depth]; omega) hb
    simp only [PyData.depth] at hu
    simp only [PyData.shown] at hQ
    refine call_repr_slot (by omega) (⟨o, hk _ _ h1, h2⟩ : s.TypeIs (.ref a) "list") F.slot_list_repr.toG ?_
    obtain ⟨l⟩ := vs
    cases l with
    | nil =>
      have r5 : DrA h [] xs := r4
      cases r5
      simp only [PyData.shownAll, listText_nil] at hQ
      exact call_list_repr_empty ⟨o, hk _ _ h1, h2⟩ (hk _ _ h1) h3 ⟨_, _, rfl, hQ s.heap _ _ fun _ _ e => e⟩
    | cons x l => exact call_list_reprK h1 h2 h3 hna (by simpa using k.length_eq) (fun i y e => k.item i y (by simpa using e)) hg (fun b _ => Clear.nil b) (by show A.units + 1 + _ < cLine; omega) hk (fun h' u tk hk' => ⟨_, _, rfl, hQ h' u tk hk'⟩) hz2
  | @tuple a o vs n xs h1 h2 h3 r4 =>
    have hz2 : (tupleText (PyData.shownAll xs)).length ≤ sizeLine := by simpa only [PyData.shown] using hz
    obtain ⟨bs, hb, k⟩ := DrA.k (prog := prog) (w := w) r4 (by simpa [PyData.showable] using hs) (fun t ht => Nat.le_trans (tupleText_mem_le ht) hz2)
    obtain ⟨as, rr⟩ := (Dr.tuple h1 h2 h3 r4).reads
    have hna : a ∉ bs := not_mem_of_deeper rr (by simp only [PyData.depth]; omega) hb
    simp only [PyData.depth] at hu
    simp only [PyData.shown] at hQ
    refine call_repr_slot (by omega) (⟨o, hk _ _ h1, h2⟩ : s.TypeIs (.ref a) "tuple") F.slot_tuple_repr ?_
    exact call_tuple_reprK h1 h2 h3 hna k hg (fun b _ => Clear.nil b) (by show A.units + 1 + _ < cLine; omega) hk (fun h' u tk hk' => ⟨_, _, rfl, hQ h' u tk hk'⟩) hz2
  | @dict a o es n kvs h1 h2 h3 hsys r4 r5 =>
    have hz2 : (dictText (PyData.shownKv kvs)).length ≤ sizeLine := by simpa only [PyData.shown] using hz
    obtain ⟨hs1, hs2⟩ := PyData.showableKv_split kvs (by simpa [PyData.showable] using hs)
    obtain ⟨b1, hb1, k1⟩ := DrA.k (prog := prog) (w := w) r4 hs1 (fun t ht => let ⟨p, hp, hl⟩ := PyData.shownKv_key_le kvs t ht; Nat.le_trans hl (Nat.le_trans (dictText_mem_le hp) hz2))
    obtain ⟨b2, hb2, k2⟩ := DrA.k (prog := prog) (w := w) r5 hs2 (fun t ht => let ⟨p, hp, hl⟩ := PyData.shownKv_val_le kvs t ht; Nat.le_trans hl (Nat.le_trans (dictText_mem_le hp) hz2))
    obtain ⟨as, rr⟩ := (Dr.dict h1 h2 h3 hsys r4 r5).reads
    have hb : ReadAtMost h (PyData.depthKv kvs) (b1 ++ b2) := (hb1.mono (PyData.depthAll_keys_le kvs)).append (hb2.mono (PyData.depthAll_vals_le kvs))
    have hna : a ∉ b1 ++ b2 := not_mem_of_deeper rr (by simp only [PyData.depth]; omega) hb
    simp only [PyData.depth] at hu
    simp only [PyData.shown, PyData.shownKv_eq] at hQ
    refine call_repr_slot (by omega) (⟨o, hk _ _ h1, h2⟩ : s.TypeIs (.ref a) "dict") F.slot_dict_repr ?_
    exact call_dict_reprK h1 h2 h3 hsys hna (ReprEntriesK.of_two es.toList _ _
      (k1.more_le (fun b m => List.mem_append_left _ m) (PyData.depthAll_keys_le kvs)) (k2.more_le (fun b m => List.mem_append_right _ m) (PyData.depthAll_vals_le kvs))) hg (fun b _ => Clear.nil b) (by show A.units + 1 + _ < cLine; omega) hk (fun h' u tk hk' => ⟨_, _, rfl, hQ h' u tk hk'⟩) (by rw [← PyData.shownKv_eq]; exact hz2)
end
end Kt
set_option maxHeartbeats 4000000
/-! Kt8: rules by values: operators, builtins, subscripts. -/
namespace Kt
open PySem PySem.Spec L2
section
variable {X : Cx} {cl : String → Addr}
/-! ### == and repr -/
section
variable {pins : List (Addr × Obj)} {σ : L2.St} {H : Hp} {s : Shared}
mutual
theorem Py.dr (I : L2.Inv X pins σ H s) : ∀ {v : V} {u : Value} {p : PyData}, Py X.K H v p → RelV v u → Dr s.heap u p
  | _, _, _, .non, r => by cases r; exact .none
  | _, _, _, .bl b, r => by cases r; exact .bool b
  | _, _, _, .int i, r => by obtain ⟨t, rfl⟩ := r; exact .int i t
  | _, _, _, .str x, r => by obtain ⟨t, rfl⟩ := r; exact .str x t
  | _, _, _, .lst h q, r => by
    cases r
    obtain ⟨its, rv, ⟨o, n, ho, hc, _, hd⟩, _⟩ := I.list h
    exact .list ho hc hd (PyA.dr I q rv)
  | _, _, _, .tup h q, r => by
    cases r
    obtain ⟨its, rv, ⟨o, ho, hc, n, hd⟩, _⟩ := I.tuple h
    exact .tuple ho hc hd (PyA.dr I q rv)
  | _, _, _, .dct (a := a) h q, r => by
    cases r
    obtain ⟨hz, hsys, vs, hkv, o, es, ep, ho, hex, hd, _, hp, _⟩ := I.hok a _ h
    obtain ⟨h1, h2⟩ := PyK.dr I q hkv hp
    exact .dict ho hex.1 hd hsys h1 h2
theorem PyA.dr (I : L2.Inv X pins σ H s) : ∀ {v : List V} {u : List Value} {p : List PyData}, PyA X.K H v p → Vals v u → DrA s.heap u p
  | _, _, _, .nil, r => by cases r; exact .nil
  | _, _, _, .cons a q, r => by
    cases r with
    | cons r1 r2 => exact .cons (Py.dr I a r1) (PyA.dr I q r2)
theorem PyK.dr (I : L2.Inv X pins σ H s) : ∀ {kvs : List (Key × V)} {vs : List (Key × Value)} {es : List DictEntry} {ds : List (PyData × PyData)}, PyK X.K H kvs ds → KV kvs vs → Pairs (mixKind X.prog X.w) es vs →
    DrA s.heap (es.map fun e => e.key) (ds.map fun p => p.1) ∧ DrA s.heap (es.map fun e => e.val) (ds.map fun p => p.2)
  | _, _, _, _, .nil, a, b => by cases a; cases b; exact ⟨.nil, .nil⟩
  | _, _, _, _, .cons (k := k) c1 c2, a, b => by
    cases a with
    | cons a1 a2 =>
      cases b with
      | cons b1 b2 b3 =>
        obtain ⟨i1, i2⟩ := PyK.dr I c2 a2 b3
        have e0 := a1.1
        refine ⟨DrA.cons ?_ i1, DrA.cons ?_ i2⟩
        · have b1' := b1
          rw [← e0] at b1'
          rcases keyIs_shape b1' with ⟨i, t, e1, e2⟩ | ⟨x, t, e1, e2⟩
          · have e1 : k = Sum.inl i := e1
            subst e1
            show Dr s.heap (DictEntry.key _) _
            rw [e2]; exact Dr.int i t
          · have e1 : k = Sum.inr x := e1
            subst e1
            show Dr s.heap (DictEntry.key _) _
            rw [e2]; exact Dr.str x t
        · show Dr s.heap (DictEntry.val _) _
          rw [b2]; exact Py.dr I c1 a1.2
end
end
def rPyEq (K : PySem.W.Frag) (neg : Bool) : R2 := fun x y H Q => ∃ p q, Py K H x p ∧ Py K H y q ∧ SeqAt.shaped p = true ∧ SeqAt.shaped q = true ∧ Q (.bl (if neg then !PyData.eqv p q else PyData.eqv p q)) H
theorem op_pyEq (hu : X.A.units + 64 < cLine) : OpR X (compareOp .Eq) (rPyEq X.K false) := by
  intro pins s σ H x y v u Q I rx ry h
  obtain ⟨p, q, hp, hq, sp, sq, k⟩ := h
  obtain ⟨as, r1⟩ := (Py.dr I hp rx).reads
  obtain ⟨bs, r2⟩ := (Py.dr I hq ry).reads
  exact SeqAt.compareEq_shaped r1 r2 sp sq hu ⟨.bl _, H, I, rfl, k⟩
theorem op_pyNe (hu : X.A.units + 64 < cLine) : OpR X (compareOp .NotEq) (rPyEq X.K true) := by
  intro pins s σ H x y v u Q I rx ry h
  obtain ⟨p, q, hp, hq, sp, sq, k⟩ := h
  obtain ⟨as, r1⟩ := (Py.dr I hp rx).reads
  obtain ⟨bs, r2⟩ := (Py.dr I hq ry).reads
  exact SeqAt.compareNe_shaped r1 r2 sp sq hu ⟨.bl _, H, I, rfl, k⟩
/-- == of scalars -/
def scEq : D → D → Option Bool
  | .int i, .int j => some (decide (i = j))
  | .str a, .str b => some (decide (a = b))
  | .bl a, .bl b => some (decide (a = b))
  | .non, .non => some true
  | .non, .int _ => some false | .int _, .non => some false
  | .non, .bl _ => some false | .bl _, .non => some false
  | .non, .str _ => some false | .str _, .non => some false
  | .int _, .str _ => some false | .str _, .int _ => some false
  | .bl _, .str _ => some false | .str _, .bl _ => some false
  | _, _ => none
def kEq : K2 := fun x y st K => match scEq x y with
  | some b => K (.bl b) st
  | none => ∃ p q, toPy st x = some p ∧ toPy st y = some q ∧ SeqAt.shaped p = true ∧ SeqAt.shaped q = true ∧ K (.bl (PyData.eqv p q)) st
def kNe : K2 := fun x y st K => kEq x y st fun d st' => ∃ b, d = .bl b ∧ K (.bl (!b)) st'
theorem scEq_ok {c : Cf} {F : Hp} {ν : List Addr} {v u : V} {x y : D} {b : Bool} (h : scEq x y = some b) (rx : Rz c F ν v x) (ry : Rz c F ν u y) : scal v u = true ∧ decide (v = u) = b := by
  cases rx <;> cases ry <;> first
    | (cases h; done)
    | (simp only [scEq, Option.some.injEq] at h; subst h; exact ⟨rfl, by simp⟩)
theorem o_eq (hu : X.A.units + 64 < cLine) : OpD X cl (compareOp .Eq) kEq := by
  refine ⟨fun v u H P => rEq v u H P ∨ rPyEq X.K false v u H P, fun pins s σ H x y v u Q I rx ry h => ?_, fun B s σ H F ν v u x y K P r rx ry h k => ?_⟩
  · rcases h with h | h
    · exact op_eq pins s σ H x y v u Q I rx ry h
    · exact op_pyEq hu pins s σ H x y v u Q I rx ry h
  · unfold kEq at h
    cases e : scEq x y with
    | some b =>
      rw [e] at h
      obtain ⟨h1, h2⟩ := scEq_ok e rx ry
      exact .inl ⟨h1, by rw [h2]; exact k _ H F ν _ s.st Ext.refl r (.bl b) h⟩
    | none =>
      rw [e] at h
      obtain ⟨p, q, hp, hq, sp, sq, h⟩ := h
      exact .inr ⟨p, q, r.py rx hp, r.py ry hq, sp, sq, k _ H F ν _ s.st Ext.refl r (.bl _) h⟩
theorem o_ne (hu : X.A.units + 64 < cLine) : OpD X cl (compareOp .NotEq) kNe := by
  refine ⟨fun v u H P => rNe v u H P ∨ rPyEq X.K true v u H P, fun pins s σ H x y v u Q I rx ry h => ?_, fun B s σ H F ν v u x y K P r rx ry h k => ?_⟩
  · rcases h with h | h
    · exact op_ne pins s σ H x y v u Q I rx ry h
    · exact op_pyNe hu pins s σ H x y v u Q I rx ry h
  · unfold kNe kEq at h
    cases e : scEq x y with
    | some b =>
      rw [e] at h
      obtain ⟨b', h0, h⟩ := h
      cases h0
      obtain ⟨h1, h2⟩ := scEq_ok e rx ry
      exact .inl ⟨h1, by rw [h2]; exact k _ H F ν _ s.st Ext.refl r (.bl _) h⟩
    | none =>
      rw [e] at h
      obtain ⟨p, q, hp, hq, sp, sq, b', h0, h⟩ := h
      cases h0
      exact .inr ⟨p, q, r.py rx hp, r.py ry hq, sp, sq, k _ H F ν _ s.st Ext.refl r (.bl _) h⟩
/-- repr(x) -/
def kRepr : KA := fun xs st K => ∃ x p, xs = [x] ∧ toPy st x = some p ∧ p.showable = true ∧ p.shown.length ≤ sizeLine ∧ p.depth ≤ 64 ∧ K (.str p.shown) st
theorem c_repr (hgd : X.A.guards = some []) (hu : X.A.units + 66 < cLine) : CallD X cl (.builtin "repr") kRepr := by
  refine ⟨fun vs H Q => ∃ v p, vs = [v] ∧ Py X.K H v p ∧ p.showable = true ∧ p.shown.length ≤ sizeLine ∧ p.depth ≤ 64 ∧ Q (.str p.shown) H, fun pins s σ H xs us Q I r h => ?_, fun B s σ H F ν vs xs K P r rx h k => ?_⟩
  · obtain ⟨v, p, rfl, hp, h1, h2, h3, q⟩ := h
    obtain ⟨u, rfl, ru⟩ := vals1 r
    exact (Py.dr I hp ru).repr h1 h2 hgd (by omega) (fun _ _ e => e) fun h' w tk hk => ⟨.str p.shown, H, I.kept hk, ⟨w, rfl⟩, q⟩
  · obtain ⟨x, p, rfl, hp, h1, h2, h3, q⟩ := h
    cases rx with
    | cons z zr =>
      cases zr
      exact ⟨_, p, rfl, r.py z hp, h1, h2, h3, k _ H F ν _ s.st Ext.refl r (.str _) q⟩

/-! ### arithmetic -/
def kI (C : Int → Int → Prop) (g : Int → Int → D) : K2 := fun x y st K => match x, y with
  | .int i, .int j => C i j ∧ K (g i j) st
  | _, _ => False
theorem o_int {f : Value → Value → Sem Value} {C : Int → Int → Prop} {g : Int → Int → V} {g' : Int → Int → D} (h : OpR X f (rI C g)) (hg : ∀ i j F ν, Rz (cf X cl) F ν (g i j) (g' i j)) : OpD X cl f (kI C g') :=
  OpD.pure h fun F ν H v u x y st K P _ rx ry hk k => by
    unfold kI at hk
    split at hk
    · cases rx; cases ry
      exact ⟨_, _, rfl, rfl, hk.1, k _ _ (hg _ _ F ν) hk.2⟩
    · exact hk.elim
theorem rI_of {f : Value → Value → Sem Value} {g : Int → Int → V} (h : OpR X f (rI0 g)) : OpR X f (rI (fun _ _ => True) g) := fun pins s σ H x y v u Q I rx ry hh => by
  obtain ⟨i, j, e1, e2, _, q⟩ := hh
  exact h pins s σ H x y v u Q I rx ry ⟨i, j, e1, e2, q⟩
def kAdd : K2 := fun x y st K => match x, y with
  | .int i, .int j => K (.int (i + j)) st
  | .str a, .str b => a.length + b.length ≤ sizeLine ∧ K (.str (a ++ b)) st
  | .lst a, .lst b => a.length + b.length ≤ sizeLine ∧ K (.lst (a ++ b)) st
  | _, _ => False
theorem o_add : OpD X cl (binaryOp .Add) kAdd := by
  refine ⟨fun v u H P => rI0 (fun i j => .int (i + j)) v u H P ∨ (∃ i j, v = .str i ∧ u = .str j ∧ i.length + j.length ≤ sizeLine ∧ P (.str (i ++ j)) H) ∨ rCat v u H P, fun pins s σ H x y v u Q I rx ry h => ?_, fun B s σ H F ν v u x y K P r rx ry h k => ?_⟩
  · rcases h with h | h | h
    · exact op_add pins s σ H x y v u Q I rx ry h
    · exact op_add_str pins s σ H x y v u Q I rx ry h
    · exact op_cat pins s σ H x y v u Q I rx ry h
  · unfold kAdd at h
    split at h
    · cases rx; cases ry
      exact .inl ⟨_, _, rfl, rfl, k _ H F ν _ s.st Ext.refl r (.int _) h⟩
    · cases rx; cases ry
      exact .inr (.inl ⟨_, _, rfl, rfl, h.1, k _ H F ν _ s.st Ext.refl r (.str _) h.2⟩)
    · cases rx with
      | lst h1 z1 =>
        cases ry with
        | lst h2 z2 =>
          refine .inr (.inr ⟨_, _, _, _, rfl, rfl, r.sub _ _ h1, r.sub _ _ h2, by rw [z1.length, z2.length]; exact h.1, fun p hp => ?_⟩)
          have hf := (r.fresh hp).2.1
          exact k _ _ _ ν _ s.st (ext_upd hf) (r.froze hp) (.lst upd_same ((z1.append z2).mono (ext_upd hf))) h.2
    · exact h.elim
def kSub : K2 := kI (fun _ _ => True) fun i j => .int (i - j)
theorem o_sub : OpD X cl (binaryOp .Sub) kSub := o_int (rI_of op_sub) fun i j F ν => .int _
def kMul : K2 := fun x y st K => match x, y with
  | .int i, .int j => CMulW i j ∧ K (.int (i * j)) st
  | .lst a, .int j => (-(2 ^ 63) ≤ j ∧ j < 2 ^ 63) ∧ a.length * j.toNat ≤ sizeLine ∧ K (.lst (List.flatten (List.replicate j.toNat a))) st
  | _, _ => False
def kDiv : K2 := kI CDivW fun i j => .int (i / j)
theorem o_div : OpD X cl (binaryOp .FloorDiv) kDiv := o_int op_fdivW fun i j F ν => .int _
def kMod : K2 := kI (fun _ j => 0 < j) fun i j => .int (i % j)
theorem o_mod : OpD X cl (binaryOp .Mod) kMod := o_int op_mod fun i j F ν => .int _
def kPow : K2 := kI CPow fun i j => .int (i ^ j.toNat)
theorem o_pow : OpD X cl (binaryOp .Pow) kPow := o_int op_pow fun i j F ν => .int _
def kNeg : K1 := fun x st K => match x with
  | .int i => K (.int (-i)) st
  | _ => False
theorem u_neg : UnD X cl (unaryOp .USub) kNeg := by
  refine ⟨_, un_neg, fun B s σ H F ν v x K P r rx h k => ?_⟩
  unfold kNeg at h
  split at h
  · cases rx; exact ⟨_, rfl, k _ H F ν _ s.st Ext.refl r (.int _) h⟩
  · exact h.elim
/-! ### order -/
def kCmp (f : Int → Int → Bool) (g : Str → Str → Bool) : K2 := fun x y st K => match x, y with
  | .int i, .int j => K (.bl (f i j)) st
  | .str a, .str b => K (.bl (g a b)) st
  | _, _ => False
theorem o_cmp {op : CmpOp} {f : Int → Int → Bool} {g : Str → Str → Bool} (h1 : OpR X (compareOp op) (rI0 fun i j => .bl (f i j))) (h2 : OpR X (compareOp op) (fun x y H Q => ∃ i j, x = .str i ∧ y = .str j ∧ Q (.bl (g i j)) H)) : OpD X cl (compareOp op) (kCmp f g) := by
  refine ⟨fun v u H P => rI0 (fun i j => .bl (f i j)) v u H P ∨ (∃ i j, v = .str i ∧ u = .str j ∧ P (.bl (g i j)) H), fun pins s σ H x y v u Q I rx ry h => ?_, fun B s σ H F ν v u x y K P r rx ry h k => ?_⟩
  · rcases h with h | h
    · exact h1 pins s σ H x y v u Q I rx ry h
    · exact h2 pins s σ H x y v u Q I rx ry h
  · unfold kCmp at h
    split at h
    · cases rx; cases ry
      exact .inl ⟨_, _, rfl, rfl, k _ H F ν _ s.st Ext.refl r (.bl _) h⟩
    · cases rx; cases ry
      exact .inr ⟨_, _, rfl, rfl, k _ H F ν _ s.st Ext.refl r (.bl _) h⟩
    · exact h.elim
def kLt : K2 := kCmp (fun i j => decide (i < j)) (fun a b => decide (a.cps.toList < b.cps.toList))
theorem o_lt : OpD X cl (compareOp .Lt) kLt := o_cmp op_lt op_lt_str
def kCmpI (f : Int → Int → Bool) : K2 := kI (fun _ _ => True) fun i j => .bl (f i j)
def kLe : K2 := kCmpI fun i j => decide (i ≤ j)
theorem o_le : OpD X cl (compareOp .LtE) kLe := o_int (rI_of op_le) fun i j F ν => .bl _
def kGt : K2 := kCmpI fun i j => decide (j < i)
theorem o_gt : OpD X cl (compareOp .Gt) kGt := o_int (rI_of op_gt) fun i j F ν => .bl _
def kGe : K2 := kCmpI fun i j => decide (j ≤ i)
theorem o_ge : OpD X cl (compareOp .GtE) kGe := o_int (rI_of op_ge) fun i j F ν => .bl _
/-- x is None -/
def isNon : D → Bool
  | .non => true
  | _ => false
theorem isNon_ok {c : Cf} {F : Hp} {ν : List Addr} {v : V} {x : D} (r : Rz c F ν v x) : decide (v = .non) = isNon x := by
  cases r <;> simp [isNon]
def kIsN : K2 := fun x y st K => isNon y = true ∧ K (.bl (isNon x)) st
def kNotN : K2 := fun x y st K => isNon y = true ∧ K (.bl (!isNon x)) st
theorem o_isN : OpD X cl (compareOp .Is) kIsN := OpD.pure op_isN fun F ν H v u x y st K P _ rx ry hk k => by
  obtain ⟨h1, h2⟩ := hk
  refine ⟨?_, by rw [isNon_ok rx]; exact k _ _ (.bl _) h2⟩
  cases ry <;> first | rfl | cases h1
theorem o_notN : OpD X cl (compareOp .IsNot) kNotN := OpD.pure op_notN fun F ν H v u x y st K P _ rx ry hk k => by
  obtain ⟨h1, h2⟩ := hk
  refine ⟨?_, by rw [isNon_ok rx]; exact k _ _ (.bl _) h2⟩
  cases ry <;> first | rfl | cases h1
/-! ### sequences -/
def asSeq (st : List Ob) : D → Option (List D)
  | .lst ds => some ds
  | .tup ds => some ds
  | .frl ds => some ds
  | .obj n => match st[n]? with
    | some (.lst ds) => some ds
    | _ => none
  | _ => none
def asLst (st : List Ob) : D → Option (List D)
  | .lst ds => some ds
  | .frl ds => some ds
  | .obj n => match st[n]? with
    | some (.lst ds) => some ds
    | _ => none
  | _ => none
theorem R.lstq {c : Cf} {B : Bs} {s : S} {σ : L2.St} {H F : Hp} {ν : List Addr} (r : R c B s σ H F ν) {v : V} {d : D} {ds : List D} (z : Rz c F ν v d) (e : asLst s.st d = some ds) : ∃ a xs, v = .ref a ∧ SqL c.K H a xs ∧ RzAll c F ν xs ds := by
  cases z with
  | lst h q => cases e; exact ⟨_, _, rfl, SqL.of (r.sub _ _ h), q⟩
  | frl h q => cases e; exact ⟨_, _, rfl, sql_mono r.sub h, q⟩
  | @obj a n h =>
    simp only [asLst] at e
    cases e1 : s.st[n]? with
    | none => rw [e1] at e; cases e
    | some ob =>
      rw [e1] at e
      cases ob with
      | dct _ => cases e
      | lst ds' =>
        cases e
        obtain ⟨o, ho, hr⟩ := r.st n _ a e1 h
        cases hr with
        | lst q => exact ⟨_, _, rfl, SqL.of ho, q⟩
  | _ => cases e
theorem R.seq {c : Cf} {B : Bs} {s : S} {σ : L2.St} {H F : Hp} {ν : List Addr} (r : R c B s σ H F ν) {v : V} {d : D} {ds : List D} (z : Rz c F ν v d) (e : asSeq s.st d = some ds) : ∃ a xs, v = .ref a ∧ (SqL c.K H a xs ∨ SqT c.K H a xs) ∧ RzAll c F ν xs ds := by
  by_cases ht : ∃ es, d = .tup es
  · obtain ⟨es, rfl⟩ := ht
    cases z with
    | tup h q => cases e; exact ⟨_, _, rfl, .inr (sqt_mono r.sub h), q⟩
  · have e' : asLst s.st d = some ds := by
      cases d <;> first | exact e | exact absurd ⟨_, rfl⟩ ht
    obtain ⟨a, xs, h1, h2, h3⟩ := r.lstq z e'
    exact ⟨a, xs, h1, .inl h2, h3⟩
def kLen : KA := fun xs st K => match xs with
  | [.str x] => x.length ≤ sizeLine ∧ K (.int x.length) st
  | [d] => ∃ ds, asSeq st d = some ds ∧ K (.int ds.length) st
  | _ => False
theorem c_len : CallD X cl (.builtin "len") kLen := by
  refine ⟨_, call_len, fun B s σ H F ν vs xs K P r rx h k => ?_⟩
  unfold kLen at h
  split at h
  · cases rx with
    | cons z zr =>
      cases zr; cases z
      exact ⟨_, _, rfl, ⟨h.1, rfl⟩, k _ H F ν _ s.st Ext.refl r (.int _) h.2⟩
  · obtain ⟨ds, e, h⟩ := h
    cases rx with
    | cons z zr =>
      cases zr
      obtain ⟨a, ys, rfl, hq, q⟩ := r.seq z e
      refine ⟨_, ys.length, rfl, ?_, by rw [q.length]; exact k _ H F ν _ s.st Ext.refl r (.int _) h⟩
      rcases hq with hq | hq
      · exact .inl ⟨ys, hq, rfl⟩
      · exact .inr ⟨ys, hq, rfl⟩
  · exact h.elim
theorem atI_get? {α : Type} {xs : List α} {i : Int} {v : α} (h : atI xs i = some v) : ∃ j, ixN xs.length i = some j ∧ xs[j]? = some v := by
  unfold atI at h
  cases e : ixN xs.length i with
  | none => rw [e] at h; cases h
  | some j => rw [e] at h; exact ⟨j, rfl, h⟩
theorem RzAll.at {c : Cf} {F : Hp} {ν : List Addr} {vs : List V} {ds : List D} {i : Int} {d : D} (r : RzAll c F ν vs ds) (h : atI ds i = some d) : ∃ v, atI vs i = some v ∧ Rz c F ν v d := by
  obtain ⟨j, h1, h2⟩ := atI_get? h
  obtain ⟨v, h3, h4⟩ := r.get h2
  exact ⟨v, by unfold atI; rw [r.length, h1]; exact h3, h4⟩
def kIx : K2 := fun x y st K => match x, y with
  | .str z, .int i => z.length ≤ sizeLine ∧ ∃ c, atI z.cps.toList i = some c ∧ K (.str ⟨#[c]⟩) st
  | d, .int i => ∃ ds e, asSeq st d = some ds ∧ atI ds i = some e ∧ K e st
  | _, _ => False
theorem i_seq : IxD X cl kIx := by
  refine ⟨_, ix_seq, fun B s σ H F ν v u x y K P r rx ry h k => ?_⟩
  unfold kIx at h
  split at h
  · cases rx; cases ry
    obtain ⟨h1, c, h2, h3⟩ := h
    exact .inr (.inr ⟨_, _, c, rfl, rfl, h1, h2, k _ H F ν _ s.st Ext.refl r (.str _) h3⟩)
  · cases ry
    obtain ⟨ds, e, h1, h2, h3⟩ := h
    obtain ⟨a, ys, rfl, hq, q⟩ := r.seq rx h1
    obtain ⟨w, h4, h5⟩ := q.at h2
    rcases hq with hq | hq
    · exact .inl ⟨_, _, _, w, rfl, rfl, hq, h4, k w H F ν _ s.st Ext.refl r h5 h3⟩
    · exact .inr (.inl ⟨_, _, _, w, rfl, rfl, hq, h4, k w H F ν _ s.st Ext.refl r h5 h3⟩)
  · exact h.elim
theorem x_ix {a b : Expr} {da db : DE} {k : K2} {pos : Pos} (h : IxD X cl k) (ha : Ex X cl a da) (hb : Ex X cl b db) (hs : PlainIx b := by intro _ _; rfl) : Ex X cl (.Subscript a b pos) (dBin k da db) := by
  obtain ⟨ta, a1, a2⟩ := ha.ex
  obtain ⟨tb, b1, b2⟩ := hb.ex
  obtain ⟨r, o1, o2⟩ := h.ex
  exact ⟨fun W => tOp r (ta W) (tb W), fun W t => pe_ix o1 (a1 W t) (b1 W t) hs, rf_bin a2 b2 o2⟩
/-- max(m, n), min(m, n) -/
def kI2 (f : Int → Int → Int) : KA := fun xs st K => match xs with
  | [.int i, .int j] => K (.int (f i j)) st
  | _ => False
theorem c_i2 {id : String} {f : Int → Int → Int} (h : CallR X (.builtin id) (fun xs H Q => ∃ i j, xs = [.int i, .int j] ∧ Q (.int (f i j)) H)) : CallD X cl (.builtin id) (kI2 f) := by
  refine CallD.pure h fun F ν H v x st K P _ rx hk k => ?_
  unfold kI2 at hk
  split at hk
  · cases rx with
    | cons z zr =>
      cases zr with
      | cons z2 zr2 =>
        cases zr2; cases z; cases z2
        exact ⟨_, _, rfl, k _ _ (.int _) hk⟩
  · exact hk.elim
def kMax2 : KA := kI2 fun i j => if j > i then j else i
def kMin2 : KA := kI2 fun i j => if j < i then j else i
theorem c_max2 (hc : X.calm = true) : CallD X cl (.builtin "max") kMax2 := c_i2 (call_max2 hc)
theorem c_min2 (hc : X.calm = true) : CallD X cl (.builtin "min") kMin2 := c_i2 (call_min2 hc)
/-- str(n), int(text) -/
def kStr : KA := fun xs st K => match xs with
  | [.int i] => i.natAbs.log2 < 1920 ∧ K (.str (toString i : String)) st
  | _ => False
theorem c_str : CallD X cl (.type "str") kStr := by
  refine CallD.pure call_str_int fun F ν H v x st K P _ rx hk k => ?_
  unfold kStr at hk
  split at hk
  · cases rx with
    | cons z zr =>
      cases zr; cases z
      exact ⟨_, rfl, hk.1, k _ _ (.str _) hk.2⟩
  · exact hk.elim
def kInt : KA := fun xs st K => match xs with
  | [.str a] => a.length ≤ 640 ∧ ∃ n, PySem.intText? a = some n ∧ K (.int n) st
  | _ => False
theorem c_int : CallD X cl (.type "int") kInt := by
  refine CallD.pure call_int_str fun F ν H v x st K P _ rx hk k => ?_
  unfold kInt at hk
  split at hk
  · obtain ⟨h1, n, h2, h3⟩ := hk
    cases rx with
    | cons z zr =>
      cases zr; cases z
      exact ⟨_, n, rfl, h2, h1, k _ _ (.int _) h3⟩
  · exact hk.elim
/-- all, any of a list of truth values -/
def blsOf : List D → Option (List Bool)
  | [] => some []
  | .bl b :: r => (blsOf r).map (b :: ·)
  | _ => none
theorem blsOf_eq : ∀ {ds : List D} {bs : List Bool}, blsOf ds = some bs → ds = bs.map D.bl
  | [], bs, h => by cases h; rfl
  | .bl b :: r, bs, h => by
    unfold blsOf at h
    obtain ⟨bs', e, rfl⟩ := Option.map_eq_some_iff.mp h
    rw [blsOf_eq e]; rfl
  | .non :: _, _, h | .int _ :: _, _, h | .str _ :: _, _, h | .lst _ :: _, _, h | .tup _ :: _, _, h | .dct _ :: _, _, h | .obj _ :: _, _, h | .part _ :: _, _, h | .frl _ :: _, _, h => by cases h
def kBls (f : List Bool → Bool) : KA := fun xs st K => match xs with
  | [.lst ds] => ∃ bs, blsOf ds = some bs ∧ K (.bl (f bs)) st
  | _ => False
theorem c_bls {id : String} {f : List Bool → Bool} (h : CallR X (.builtin id) (fun vs H Q => ∃ (a : Addr) (bs : List Bool), vs = [V.ref a] ∧ SqL X.K H a (bs.map V.bl) ∧ Q (.bl (f bs)) H)) : CallD X cl (.builtin id) (kBls f) := by
  refine CallD.pure h fun F ν H v x st K P hs rx hk k => ?_
  unfold kBls at hk
  split at hk
  · obtain ⟨bs, h1, h2⟩ := hk
    cases rx with
    | cons z zr =>
      cases zr
      cases z with
      | lst h3 q =>
        have e := blsOf_eq h1
        subst e
        have e2 := rz_bls_inv q
        subst e2
        exact ⟨_, bs, rfl, SqL.of (hs _ _ h3), k _ _ (.bl _) h2⟩
  · exact hk.elim
def kAll : KA := kBls fun bs => bs.all id
def kAny : KA := kBls fun bs => bs.any id
theorem c_all (hc : X.calm = true) : CallD X cl (.builtin "all") kAll := c_bls (cr_all hc)
theorem c_any (hc : X.calm = true) : CallD X cl (.builtin "any") kAny := c_bls (cr_any hc)
/-- list(x), tuple(x) -/
def kList : KA := fun xs st K => match xs with
  | [d] => ∃ ds, asSeq st d = some ds ∧ K (.lst ds) st
  | _ => False
theorem c_list : CallD X cl (.type "list") kList := by
  refine ⟨_, call_list_of, fun B s σ H F ν vs xs K P r rx h k => ?_⟩
  unfold kList at h
  split at h
  · obtain ⟨ds, e, h⟩ := h
    cases rx with
    | cons z zr =>
      cases zr
      obtain ⟨a, ys, rfl, hq, q⟩ := r.seq z e
      refine ⟨a, ys, rfl, hq, fun p hp => ?_⟩
      have hf := (r.fresh hp).2.1
      exact k _ _ _ ν _ s.st (ext_upd hf) (r.froze hp) (.lst upd_same (q.mono (ext_upd hf))) h
  · exact h.elim
def kTuple : KA := fun xs st K => match xs with
  | [.tup ds] => K (.tup ds) st
  | [d] => ∃ ds, asLst st d = some ds ∧ K (.tup ds) st
  | _ => False
theorem c_tuple : CallD X cl (.type "tuple") kTuple := by
  refine ⟨_, call_tuple_of, fun B s σ H F ν vs xs K P r rx h k => ?_⟩
  unfold kTuple at h
  split at h
  · cases rx with
    | cons z zr =>
      cases zr
      cases z with
      | tup h1 q1 => exact ⟨_, _, rfl, .inr ⟨sqt_mono r.sub h1, k _ H F ν _ s.st Ext.refl r (.tup h1 q1) h⟩⟩
  · obtain ⟨ds, e, h⟩ := h
    cases rx with
    | cons z zr =>
      cases zr
      obtain ⟨a, ys, rfl, hq, q⟩ := r.lstq z e
      refine ⟨a, ys, rfl, .inl ⟨hq, fun p hp => ?_⟩⟩
      have hf := (r.fresh hp).2.1
      exact k _ _ _ ν _ s.st (ext_upd hf) (r.froze hp) (.tup (Or.inl (Or.inl upd_same)) (q.mono (ext_upd hf))) h
  · exact h.elim
end
end Kt
set_option maxHeartbeats 4000000
/-! Kt9: isinstance, in, slices, texts, walks, stores. -/
namespace Kt
open PySem PySem.Spec L2
section
variable {X : Cx} {cl : String → Addr} {e e2 a b o : Expr} {es : List Expr} {de da db dk : DE} {ds : DA} {pos p p1 p2 apos : Pos}
/-! ### isinstance -/
def tyD (st : List Ob) : D → Option String
  | .non => some "NoneType" | .bl _ => some "bool" | .int _ => some "int" | .str _ => some "str"
  | .lst _ => some "list" | .frl _ => some "list" | .tup _ => some "tuple" | .dct _ => some "dict"
  | .obj n => match st[n]? with
    | some (.lst _) => some "list"
    | some (.dct _) => some "dict"
    | none => none
  | .part _ => none
def isB (T t : String) : Bool := t == T || (T == "int" && t == "bool")
theorem R.ty {c : Cf} {B : Bs} {s : S} {σ : L2.St} {H F : Hp} {ν : List Addr} (r : R c B s σ H F ν) {v : V} {d : D} {t : String} (z : Rz c F ν v d) (e : tyD s.st d = some t) : TyX c.K H v (.type t) := by
  cases z with
  | non => cases e; exact .base .non
  | bl b => cases e; exact .base (.bl b)
  | int b => cases e; exact .base (.int b)
  | str b => cases e; exact .base (.str b)
  | lst h q => cases e; exact .base (.lst (r.sub _ _ h))
  | frl h q =>
    cases e
    rcases sql_mono r.sub h with (h | ⟨o, h⟩) | ⟨o, its, n, hk, hc, _⟩
    · exact .base (.lst h)
    · exact .base (.frz h)
    · exact .kList hk hc
  | dct h q => cases e; exact .base (.dK (r.sub _ _ h))
  | tup h q =>
    cases e
    rcases sqt_mono r.sub h with (h | ⟨o, h⟩) | ⟨o, its, n, hk, hc, _⟩
    · exact .base (.tup h)
    · exact .fTuple h
    · exact .kTuple hk hc
  | @obj a n h =>
    simp only [tyD] at e
    cases e1 : s.st[n]? with
    | none => rw [e1] at e; cases e
    | some ob =>
      obtain ⟨o, ho, hr⟩ := r.st n ob a e1 h
      rw [e1] at e
      cases hr with
      | lst q => cases e; exact .base (.lst ho)
      | dct q => cases e; exact .base (.dK ho)
  | part _ _ _ => cases e
def dIsi (T : String) (de : DE) : DE := fun s Q E => de s (fun d st => ∃ t, tyD st d = some t ∧ Q (.bl (isB T t)) st) E
def tyNs : List String := ["NoneType", "bool", "int", "str", "list", "tuple", "dict"]
theorem tyD_mem {st : List Ob} {d : D} {t : String} (h : tyD st d = some t) : t ∈ tyNs := by
  cases d <;> simp only [tyD] at h <;> first
    | (cases h; decide)
    | (split at h <;> first | (cases h; decide) | cases h)
    | cases h
theorem x_isi {T : Str} (Tn : String) (hk : tyNs.all (fun t => kitB t Tn == some (isB Tn t)) = true) (hg : Gl X "isinstance") (hm : X.mg "isinstance" = none) (hT : Gl X T) (hTm : X.mg T = none) (hTv : bootBuiltins T = some (.type Tn)) (ha : Ex X cl e de) (hn : T ≠ "__name__" := by decide) (hd : (T == ("__debug__" : Str)) = false := by decide)
    (he : starEach (e :: [.Name T p1]) X.env = (false, eval e X.env) :: starEach [.Name T p1] X.env := by rfl) (hs2 : starEach (.Name T p1 :: []) X.env = (false, eval (.Name T p1) X.env) :: starEach [] X.env := by rfl) (hpl : (backTo pos (starEach [.Name T p1] X.env)).any (·.1) = false := by rfl) :
    Ex X cl (.Call (.Name "isinstance" p) [e, .Name T p1] [] pos) (dIsi Tn de) := by
  obtain ⟨ta, a1, a2⟩ := ha.ex
  refine ⟨fun W => tCB (rIsi X.K) (tCons (ta W) (tCons (tC (.ty Tn)) tNil)), fun W tk => pe_callB call_isi hg hm (by decide +kernel) (pa_cons (a1 W tk) (pa_cons (pe_bltn hT hTm hTv rfl hn hd) pa_nil hs2) he) (by decide) (by decide) he hpl, ⟨fun B W σ H F ν s Q E P r w q k => ?_⟩⟩
  refine a2.go B W σ H F ν s _ E _ r w q fun v H1 F1 ν1 d st1 x1 r1 z1 q1 => ?_
  obtain ⟨t, e1, q1⟩ := q1
  have hm := List.all_eq_true.mp hk t (tyD_mem e1)
  exact ⟨v, .ty Tn, .type t, .type Tn, isB Tn t, rfl, .ty Tn, r1.ty z1 e1, kit_ty (by simpa using hm), k _ H1 F1 ν1 _ st1 x1 r1 (.bl _) q1⟩
/-- isinstance(x, (T1, T2)) -/
def dIsi2 (T1 T2 : String) (de : DE) : DE := fun s Q E => de s (fun d st => ∃ t, tyD st d = some t ∧ Q (.bl (isB T1 t || isB T2 t)) st) E
theorem x_isi2 {T1 T2 : Str} {kt : Nat} (N1 N2 : String) (hk : tyNs.all (fun t => kitB t N1 == some (isB N1 t)) = true) (hk2 : tyNs.all (fun t => kitB t N2 == some (isB N2 t)) = true) (hg : Gl X "isinstance") (hm : X.mg "isinstance" = none)
    (hT : Gl X T1) (hTm : X.mg T1 = none) (hTv : bootBuiltins T1 = some (.type N1)) (hT2 : Gl X T2) (hTm2 : X.mg T2 = none) (hTv2 : bootBuiltins T2 = some (.type N2)) (ha : Ex X cl e de) (hn : T1 ≠ "__name__" := by decide) (hd : (T1 == ("__debug__" : Str)) = false := by decide)
    (hn2 : T2 ≠ "__name__" := by decide) (hd2 : (T2 == ("__debug__" : Str)) = false := by decide)
    (he : starEach (e :: [.Tuple [.Name T1 p1, .Name T2 p2] kt apos]) X.env = (false, eval e X.env) :: starEach [.Tuple [.Name T1 p1, .Name T2 p2] kt apos] X.env := by rfl)
    (hs2 : starEach (.Tuple [.Name T1 p1, .Name T2 p2] kt apos :: []) X.env = (false, eval (.Tuple [.Name T1 p1, .Name T2 p2] kt apos) X.env) :: starEach [] X.env := by rfl)
    (hs3 : starEach (.Name T1 p1 :: [.Name T2 p2]) X.env = (false, eval (.Name T1 p1) X.env) :: starEach [.Name T2 p2] X.env := by rfl) (hs4 : starEach (.Name T2 p2 :: []) X.env = (false, eval (.Name T2 p2) X.env) :: starEach [] X.env := by rfl)
    (hpl : (backTo pos (starEach [.Tuple [.Name T1 p1, .Name T2 p2] kt apos] X.env)).any (·.1) = false := by rfl) :
    Ex X cl (.Call (.Name "isinstance" p) [e, .Tuple [.Name T1 p1, .Name T2 p2] kt apos] [] pos) (dIsi2 N1 N2 de) := by
  obtain ⟨ta, a1, a2⟩ := ha.ex
  refine ⟨fun W => tCB (rIsiT X.K) (tCons (ta W) (tCons (tTup (tCons (tC (.ty N1)) (tCons (tC (.ty N2)) tNil))) tNil)),
    fun W tk => pe_callB call_isiT hg hm (by decide +kernel) (pa_cons (a1 W tk) (pa_cons (pe_tup (pa_cons (pe_bltn hT hTm hTv rfl hn hd) (pa_cons (pe_bltn hT2 hTm2 hTv2 rfl hn2 hd2) pa_nil hs4) hs3)) pa_nil hs2) he) (by decide) (by decide) he hpl, ⟨fun B W σ H F ν s Q E P r w q k => ?_⟩⟩
  refine a2.go B W σ H F ν s _ E _ r w q fun v H1 F1 ν1 d st1 x1 r1 z1 q1 => ?_
  obtain ⟨t, e1, q1⟩ := q1
  refine ⟨(by show 2 ≤ sizeLine; decide), fun tp hp => ?_⟩
  have hm1 := List.all_eq_true.mp hk t (tyD_mem e1)
  have hm2 := List.all_eq_true.mp hk2 t (tyD_mem e1)
  have hf := (r1.fresh hp).2.1
  have r2 := r1.froze (o := .tup [.ty N1, .ty N2]) hp
  have z2 := z1.mono (ext_upd (o := .tup [.ty N1, .ty N2]) hf (ν := ν1))
  have k1 : PySem.W.kitOne X.K (.type t) (.type N1) = some (isB N1 t) := kit_ty (by simpa using hm1)
  have k2 : PySem.W.kitOne X.K (.type t) (.type N2) = some (isB N2 t) := kit_ty (by simpa using hm2)
  refine ⟨v, tp, [.ty N1, .ty N2], .type t, [.type N1, .type N2], isB N1 t || isB N2 t, rfl, upd_same, .cons (.ty N1) (.cons (.ty N2) .nil), r2.ty z2 e1, ?_, k _ _ _ ν1 _ st1 (x1.trans (ext_upd hf)) r2 (.bl _) q1⟩
  cases b1 : isB N1 t with
  | true => exact kitAny_cons (b := true) (by rw [k1, b1]) (fun z => nomatch z) (fun _ => rfl)
  | false =>
    refine kitAny_cons (b := false) (by rw [k1, b1]) (fun _ => ?_) (fun z => nomatch z)
    cases b2 : isB N2 t with
    | true => exact kitAny_cons (b := true) (by rw [k2, b2]) (fun z => nomatch z) (fun _ => rfl)
    | false => exact kitAny_cons (b := false) (by rw [k2, b2]) (fun _ => rfl) (fun z => nomatch z)

/-! ### is of truth values, in -/
def kIsB : K2 := fun x y st K => match x, y with
  | .bl a, .bl b => K (.bl (decide (a = b))) st
  | _, _ => False
def kNotB : K2 := fun x y st K => match x, y with
  | .bl a, .bl b => K (.bl (!decide (a = b))) st
  | _, _ => False
theorem o_isB : OpD X cl (compareOp .Is) kIsB := OpD.pure op_isBl fun F ν H v u x y st K P _ rx ry hk k => by
  unfold kIsB at hk
  split at hk
  · cases rx; cases ry; exact ⟨_, _, rfl, rfl, k _ _ (.bl _) hk⟩
  · exact hk.elim
theorem o_notB : OpD X cl (compareOp .IsNot) kNotB := OpD.pure op_notBl fun F ν H v u x y st K P _ rx ry hk k => by
  unfold kNotB at hk
  split at hk
  · cases rx; cases ry; exact ⟨_, _, rfl, rfl, k _ _ (.bl _) hk⟩
  · exact hk.elim
/-- flat data -/
def flD : D → Bool
  | .non => true | .bl _ => true | .int _ => true | .str _ => true | _ => false
/-- == of flat data -/
def eqF : D → D → Bool
  | .non, .non => true
  | .bl a, .bl b => a == b
  | .bl a, .int b => (if a then 1 else 0) == b
  | .int a, .bl b => a == (if b then 1 else 0)
  | .int a, .int b => a == b
  | .str a, .str b => a == b
  | _, _ => false
def inF (x : D) (ds : List D) : Bool := ds.any fun y => eqF y x
theorem flD_ok {c : Cf} {F : Hp} {ν : List Addr} {v : V} {d : D} (r : Rz c F ν v d) (h : flD d = true) : flatV v = true := by
  cases r <;> first | rfl | cases h
theorem eqF_ok {c : Cf} {F : Hp} {ν : List Addr} {v u : V} {x y : D} (r : Rz c F ν v x) (q : Rz c F ν u y) (h : flD x = true) (h2 : flD y = true) : eqV v u = eqF x y := by
  cases r <;> first
    | (cases h; done)
    | (cases q <;> first | (cases h2; done) | rfl)
theorem inF_ok {c : Cf} {F : Hp} {ν : List Addr} {v : V} {x : D} (r : Rz c F ν v x) (h : flD x = true) : ∀ {us : List V} {ds : List D}, RzAll c F ν us ds → ds.all flD = true → us.all flatV = true ∧ inV v us = inF x ds
  | _, _, .nil, _ => ⟨rfl, rfl⟩
  | _, _, .cons a q, hd => by
    rw [List.all_cons, Bool.and_eq_true] at hd
    obtain ⟨i1, i2⟩ := inF_ok r h q hd.2
    refine ⟨by rw [List.all_cons, flD_ok a hd.1, i1]; rfl, ?_⟩
    unfold inV inF at i2 ⊢
    rw [List.any_cons, List.any_cons, i2, eqF_ok a r hd.1 h]
def oneSign : Str → Option Nat
  | ⟨a⟩ => match a.toList with
    | [c] => some c
    | _ => none
theorem oneSign_eq {x : Str} {c : Nat} (h : oneSign x = some c) : x = ⟨#[c]⟩ := by
  obtain ⟨⟨l⟩⟩ := x
  match l, h with
  | [], h => cases h
  | [d], h => cases h; rfl
  | _ :: _ :: _, h => cases h
def kInB (neg : Bool) : K2 := fun x y st K => match x, y with
  | .str a, .str z => ∃ c, oneSign a = some c ∧ K (.bl (if neg then !decide (c ∈ z.cps.toList) else decide (c ∈ z.cps.toList))) st
  | x, d => flD x = true ∧ ∃ ds, asSeq st d = some ds ∧ ds.all flD = true ∧ K (.bl (if neg then !inF x ds else inF x ds)) st
theorem o_inB {op : CmpOp} {neg : Bool} (h1 : OpR X (compareOp op) (fun x y H Q => ∃ (c : Nat) (z : Str), x = .str ⟨#[c]⟩ ∧ y = .str z ∧ Q (.bl (if neg then !decide (c ∈ z.cps.toList) else decide (c ∈ z.cps.toList))) H)) (h2 : OpR X (compareOp op) (rIn X.K neg)) : OpD X cl (compareOp op) (kInB neg) := by
  refine ⟨fun v u H P => (∃ (c : Nat) (z : Str), v = .str ⟨#[c]⟩ ∧ u = .str z ∧ P (.bl (if neg then !decide (c ∈ z.cps.toList) else decide (c ∈ z.cps.toList))) H) ∨ rIn X.K neg v u H P, fun pins s σ H x y v u Q I rx ry h => ?_, fun B s σ H F ν v u x y K P r rx ry h k => ?_⟩
  · rcases h with h | h
    · exact h1 pins s σ H x y v u Q I rx ry h
    · exact h2 pins s σ H x y v u Q I rx ry h
  · unfold kInB at h
    split at h
    · obtain ⟨c, e, h⟩ := h
      have e := oneSign_eq e
      subst e
      cases rx; cases ry
      exact .inl ⟨c, _, rfl, rfl, k _ H F ν _ s.st Ext.refl r (.bl _) h⟩
    · obtain ⟨h0, ds, e, hf, h⟩ := h
      obtain ⟨a, xs, rfl, hq, q⟩ := r.seq ry e
      obtain ⟨i1, i2⟩ := inF_ok rx h0 q hf
      refine .inr ⟨a, xs, rfl, hq, flD_ok rx h0, i1, ?_⟩
      rw [i2]
      exact k _ H F ν _ s.st Ext.refl r (.bl _) h
def kIn : K2 := kInB false
def kNotIn : K2 := kInB true
theorem o_in : OpD X cl (compareOp .In) kIn := o_inB (neg := false) op_in_sign op_in_seq
theorem o_notIn : OpD X cl (compareOp .NotIn) kNotIn := o_inB (neg := true) op_notIn_sign op_notIn_seq

/-! ### slices -/
abbrev DO := S → (Option Int → List Ob → Prop) → XK' → Prop
structure Op (X : Cx) (cl : String → Addr) (e : Option Expr) (d : DO) : Prop where
  ex : ∃ t : WX → TO, (∀ W, Takes X W → PO X e (t W)) ∧ ∀ (B : Bs) (W : WX) (σ : L2.St) (H F : Hp) (ν : List Addr) (s : S) (Q : Option Int → List Ob → Prop) (E : XK') (P : Option Int → Hp → Prop), R (cf X cl) B s σ H F ν → Wsh (cf X cl) B s σ F ν W E → d s Q E →
    (∀ i H' F' ν' st', Ext F ν F' ν' → R (cf X cl) B ⟨s.sl, st'⟩ σ H' F' ν' → Q i st' → P i H') → t W σ H P
def dNoP : DO := fun s Q _ => Q none s.st
def dP (de : DE) : DO := fun s Q E => de s (fun d st => ∃ i, d = .int i ∧ Q (some i) st) E
theorem p_none : Op X cl none dNoP := ⟨fun _ => tNoPart, fun _ _ => po_none, fun B W σ H F ν s Q E P r w q k => k none H F ν s.st Ext.refl r q⟩
theorem p_some (h : Ex X cl e de) : Op X cl (some e) (dP de) := by
  obtain ⟨ta, a1, a2⟩ := h.ex
  refine ⟨fun W => tPart (ta W), fun W t => po_some (a1 W t), fun B W σ H F ν s Q E P r w q k => ?_⟩
  refine a2.go B W σ H F ν s _ E _ r w q fun v H1 F1 ν1 d st1 x1 r1 z1 q1 => ?_
  obtain ⟨i, rfl, q1⟩ := q1
  cases z1
  exact ⟨i, rfl, k _ H1 F1 ν1 st1 x1 r1 q1⟩
def cutD (xs : List D) (lo hi : Option Int) : List D := (xs.drop (HT.sIx xs.length 0 lo)).take (HT.sIx xs.length xs.length hi - HT.sIx xs.length 0 lo)
theorem RzAll.cut {c : Cf} {F : Hp} {ν : List Addr} {vs : List V} {ds : List D} (r : RzAll c F ν vs ds) (lo hi : Option Int) : RzAll c F ν (cutV vs lo hi) (cutD ds lo hi) := by
  unfold cutV cutD
  rw [r.length]
  exact (r.drop _).take _
def dSl (de : DE) (lo hi : DO) : DE := fun s Q E => de s (fun d st => lo ⟨s.sl, st⟩ (fun i st1 => hi ⟨s.sl, st1⟩ (fun j st2 => match d with
  | .str z => z.length ≤ sizeLine ∧ Q (.str (cutS z i j)) st2
  | d => ∃ ds, asLst st2 d = some ds ∧ Q (.lst (cutD ds i j)) st2) E) E) E
theorem x_slice {lo hi : Option Expr} {dl dh : DO} (ha : Ex X cl e de) (hl : Op X cl lo dl) (hh : Op X cl hi dh) : Ex X cl (.Subscript e (.Slice lo hi none p2) pos) (dSl de dl dh) := by
  obtain ⟨ta, a1, a2⟩ := ha.ex
  obtain ⟨tl, b1, b2⟩ := hl.ex
  obtain ⟨th, c1, c2⟩ := hh.ex
  refine ⟨fun W => tSl (fun x lo hi H Q => rSlS x lo hi H Q ∨ rSlL X.K x lo hi H Q) (ta W) (tl W) (th W), fun W t => pe_slice (sl_str.or sl_list) (a1 W t) (b1 W t) (c1 W t), ⟨fun B W σ H F ν s Q E P r w q k => ?_⟩⟩
  refine a2.go B W σ H F ν s _ E _ r w q fun v H1 F1 ν1 d st1 x1 r1 z1 q1 => ?_
  refine b2 B W σ H1 F1 ν1 ⟨s.sl, st1⟩ _ E _ r1 (w.next x1) q1 fun i H2 F2 ν2 st2 x2 r2 q2 => ?_
  refine c2 B W σ H2 F2 ν2 ⟨s.sl, st2⟩ _ E _ r2 (w.next (x1.trans x2)) q2 fun j H3 F3 ν3 st3 x3 r3 q3 => ?_
  have z3 := z1.mono (x2.trans x3)
  have xx := (x1.trans x2).trans x3
  split at q3
  · cases z3
    exact .inl ⟨_, rfl, q3.1, k _ H3 F3 ν3 _ st3 xx r3 (.str _) q3.2⟩
  · obtain ⟨ds, e1, q3⟩ := q3
    obtain ⟨a, ys, rfl, hq, q⟩ := r3.lstq z3 e1
    refine .inr ⟨a, ys, rfl, hq, fun pp hp => ?_⟩
    have hf := (r3.fresh hp).2.1
    exact k _ _ _ ν3 _ st3 (xx.trans (ext_upd hf)) (r3.froze hp) (.lst upd_same ((q.cut i j).mono (ext_upd hf))) q3

/-! ### methods of texts, with one argument -/
structure MtD (X : Cx) (cl : String → Addr) (id : String) (k : K2) : Prop where
  ex : ∃ r, MtR X id r ∧ ∀ (B : Bs) (s : S) (σ : L2.St) (H F : Hp) (ν : List Addr) (v u : V) (x y : D) (K : DK) (P : VK), R (cf X cl) B s σ H F ν → Rz (cf X cl) F ν v x → Rz (cf X cl) F ν u y → k x y s.st K → Fin (cf X cl) B s σ F ν K P → r v [u] H P
def isStr : D → Bool
  | .str _ => true
  | _ => false
def dM1 (k : K2) (da db : DE) : DE := fun s Q E => da s (fun x st1 => isStr x = true ∧ db ⟨s.sl, st1⟩ (fun y st2 => k x y st2 Q) E) E
theorem x_m1 {id : String} {name : Str} {k : K2} (slot : Slot "str" name id) (ty : typeOf (.builtin id) = pure (.type "method_descriptor")) (h : MtD X cl id k) (ho : Ex X cl o da) (he : Ex X cl e db)
    (hs : starEach [e] X.env = [(false, eval e X.env)] := by rfl) (hbase : attributeBase o name X.env (eval o X.env) = eval o X.env := by rfl) (hline : (apos.endLine == pos.line) = true := by rfl) : Ex X cl (.Call (.Attribute o name apos) [e] [] pos) (dM1 k da db) := by
  obtain ⟨ta, a1, a2⟩ := ho.ex
  obtain ⟨tb, b1, b2⟩ := he.ex
  obtain ⟨r, m1, m2⟩ := h.ex
  refine ⟨fun W => tM1 r (ta W) (tb W), fun W t => pe_m1 slot ty m1 (a1 W t) (b1 W t) hs hbase hline, ⟨fun B W σ H F ν s Q E P rr w q kk => ?_⟩⟩
  refine a2.go B W σ H F ν s _ E _ rr w q fun v H1 F1 ν1 d st1 x1 r1 z1 q1 => ?_
  have z1' := z1
  refine ⟨by cases z1 <;> first | exact ⟨_, rfl⟩ | (have := q1.1; cases this), ?_⟩
  refine b2.go B W σ H1 F1 ν1 ⟨s.sl, st1⟩ _ E _ r1 (w.next x1) q1.2 fun u H2 F2 ν2 d2 st2 x2 r2 z2 q2 => ?_
  exact m2 B ⟨s.sl, st2⟩ σ H2 F2 ν2 v u d d2 Q P r2 (z1'.mono x2) z2 q2 fun z H3 F3 ν3 d3 st3 x3 r3 z3 q3 => kk z H3 F3 ν3 d3 st3 ((x1.trans x2).trans x3) r3 z3 q3
def strsOf : List D → Option (List Str)
  | [] => some []
  | .str b :: r => (strsOf r).map (b :: ·)
  | _ => none
theorem strsOf_eq : ∀ {ds : List D} {bs : List Str}, strsOf ds = some bs → ds = bs.map D.str
  | [], bs, h => by cases h; rfl
  | .str b :: r, bs, h => by
    unfold strsOf at h
    obtain ⟨bs', e, rfl⟩ := Option.map_eq_some_iff.mp h
    rw [strsOf_eq e]; rfl
  | .non :: _, _, h | .int _ :: _, _, h | .bl _ :: _, _, h | .lst _ :: _, _, h | .tup _ :: _, _, h | .dct _ :: _, _, h | .obj _ :: _, _, h | .part _ :: _, _, h | .frl _ :: _, _, h => by cases h
def kJoin : K2 := fun x y st K => match x with
  | .str a => ∃ ds ys, asSeq st y = some ds ∧ strsOf ds = some ys ∧ (ys.map (·.length)).sum + ys.length * a.length ≤ 16777216 ∧ K (.str (PySem.Txt.join a ys)) st
  | _ => False
theorem m_join : MtD X cl "str.join" kJoin := by
  refine ⟨_, mt_join, fun B s σ H F ν v u x y K P r rx ry h k => ?_⟩
  unfold kJoin at h
  split at h
  · obtain ⟨ds, ys, e1, e2, h1, h2⟩ := h
    cases rx
    obtain ⟨a, xs, rfl, hq, q⟩ := r.seq ry e1
    have e := strsOf_eq e2
    subst e
    have e3 := rz_strs_inv q
    subst e3
    exact ⟨_, a, ys, rfl, rfl, hq, h1, k _ H F ν _ s.st Ext.refl r (.str _) h2⟩
  · exact h.elim
theorem rz_strs {c : Cf} {F : Hp} {ν : List Addr} : ∀ (ys : List Str), RzAll c F ν (ys.map V.str) (ys.map D.str)
  | [] => .nil
  | y :: ys => .cons (.str y) (rz_strs ys)
def kSplit : K2 := fun x y st K => match x, y with
  | .str a, .str b => (b.length == 0) = false ∧ a.length + 2 ≤ sizeLine ∧ K (.lst ((PySem.Txt.split a b).map D.str)) st
  | _, _ => False
theorem m_split : MtD X cl "str.split" kSplit := by
  refine ⟨_, mt_split, fun B s σ H F ν v u x y K P r rx ry h k => ?_⟩
  unfold kSplit at h
  split at h
  · cases rx; cases ry
    refine ⟨_, _, rfl, rfl, h.1, h.2.1, fun pp hp => ?_⟩
    have hf := (r.fresh hp).2.1
    exact k _ _ _ ν _ s.st (ext_upd hf) (r.froze hp) (.lst upd_same (rz_strs _)) h.2.2
  · exact h.elim
def kPart : K2 := fun x y st K => match x, y with
  | .str a, .str b => (b.length == 0) = false ∧ a.length ≤ sizeLine ∧ K (.tup [.str (PySem.Txt.partition a b).1, .str (PySem.Txt.partition a b).2.1, .str (PySem.Txt.partition a b).2.2]) st
  | _, _ => False
theorem m_partition : MtD X cl "str.partition" kPart := by
  refine ⟨_, mt_partition, fun B s σ H F ν v u x y K P r rx ry h k => ?_⟩
  unfold kPart at h
  split at h
  · cases rx; cases ry
    refine ⟨_, _, rfl, rfl, h.1, h.2.1, fun pp hp => ?_⟩
    have hf := (r.fresh hp).2.1
    exact k _ _ _ ν _ s.st (ext_upd hf) (r.froze hp) (.tup (Or.inl (Or.inl upd_same)) (.cons (.str _) (.cons (.str _) (.cons (.str _) .nil)))) h.2.2
  · exact h.elim

/-! ### walks -/
/-- the items of what stays as it is -/
def itFz : D → Option (List D)
  | .lst ds => some ds
  | .tup ds => some ds
  | .frl ds => some ds
  | .str x => some (x.cps.toList.map fun c => .str ⟨#[c]⟩)
  | _ => none
def dIt (de : DE) : DI := fun s Q E => de s (fun d st => match d with
  | .obj n => ∃ ds, st[n]? = some (.lst ds) ∧ Q ds (fun st' => st'[n]? = some (.lst ds)) st
  | d => ∃ ds, itFz d = some ds ∧ Q ds (fun _ => True) st) E
theorem wk_list {c : Cf} {F : Hp} {ν : List Addr} {a : Addr} {ds : List D} {wt : List Ob → Prop} (hs : ∀ B s σ H' F' ν', Ext F ν F' ν' → R c B s σ H' F' ν' → wt s.st → ∃ xs, SqL c.K H' a xs ∧ RzAll c F' ν' xs ds) : Wk c (Itl c.K a) F ν wt ds := by
  refine ⟨fun B s σ H' F' ν' x r w => ?_⟩
  obtain ⟨xs, q, z⟩ := hs B s σ H' F' ν' x r w
  refine ⟨⟨xs, q, by rw [z.length]; exact Nat.le_refl _⟩, fun i d hd => ?_⟩
  obtain ⟨v, h1, h2⟩ := z.get hd
  refine ⟨⟨xs, v, q, h1⟩, fun u H'' y => ?_⟩
  obtain ⟨rfl, y⟩ := y
  have e := y xs q
  rw [h1] at e
  cases e
  exact ⟨F', ν', Ext.refl, r, h2⟩
theorem wk_tup {c : Cf} {F : Hp} {ν : List Addr} {a : Addr} {xs : List V} {ds : List D} (z : RzAll c F ν xs ds) (h : SqT c.K F a xs) : Wk c (Itt c.K a) F ν (fun _ => True) ds := by
  refine ⟨fun B s σ H' F' ν' x r w => ?_⟩
  have q : SqT c.K H' a xs := sqt_mono r.sub (sqt_mono x.s h)
  refine ⟨⟨xs, q, by rw [z.length]; exact Nat.le_refl _⟩, fun i d hd => ?_⟩
  obtain ⟨v, h1, h2⟩ := z.get hd
  refine ⟨⟨xs, v, q, h1⟩, fun u H'' y => ?_⟩
  obtain ⟨rfl, y⟩ := y
  have e := y xs q
  rw [h1] at e
  cases e
  exact ⟨F', ν', Ext.refl, r, h2.mono x⟩
theorem wk_str {c : Cf} {F : Hp} {ν : List Addr} {x : Str} : Wk c (Its x) F ν (fun _ => True) (x.cps.toList.map fun c => .str ⟨#[c]⟩) := by
  refine ⟨fun B s σ H' F' ν' xx r w => ⟨by show x.cps.size ≤ _; simp, fun i d hd => ?_⟩⟩
  rw [List.getElem?_map] at hd
  cases e : x.cps.toList[i]? with
  | none => rw [e] at hd; cases hd
  | some cc =>
    rw [e] at hd
    cases hd
    have e2 : x.cps[i]? = some cc := by simpa using e
    refine ⟨(Array.getElem?_eq_some_iff.mp e2).1, fun u H'' y => ?_⟩
    obtain ⟨rfl, c2, h1, rfl⟩ := y
    rw [e2] at h1
    cases h1
    exact ⟨F', ν', Ext.refl, r, .str _⟩
theorem w_it {tg : Expr} (ha : Ex X cl e de) : Iw X cl tg e (dIt de) := by
  obtain ⟨ta, a1, a2⟩ := ha.ex
  refine ⟨fun W σ H P => ta W σ H (fun x H1 => (∃ a, x = .ref a ∧ (∃ xs, SqL X.K H1 a xs) ∧ P (Itl X.K a) H1) ∨ (∃ a, x = .ref a ∧ (∃ xs, SqT X.K H1 a xs) ∧ P (Itt X.K a) H1) ∨ (∃ y, x = .str y ∧ P (Its y) H1)), fun W t => ⟨fun pins s σ H P I h => ?_⟩, ⟨fun B W σ H F ν s Q E P r w q k => ?_⟩⟩
  · refine thn ((a1 W t).run pins s σ H _ I h) fun v s1 ⟨x, H1, I1, r1, q1⟩ => ?_
    rcases q1 with ⟨aa, rfl, ⟨xs, hq⟩, q⟩ | ⟨aa, rfl, ⟨xs, hq⟩, q⟩ | ⟨y, rfl, q⟩
    · cases r1
      obtain ⟨its, rv, pl, hz⟩ := I1.list hq
      exact wpAny_pyIter_list pl.isList (pi_one (tk := s1.toks) I1 _ (turn_list aa _) ⟨_, Heap.get?_push_size _ rfl, rfl, rfl⟩ q)
    · cases r1
      obtain ⟨its, rv, pl, hz⟩ := I1.tuple hq
      exact wpAny_pyIter_tuple (show s1.heap.IsTuple aa its.toArray from pl) (pi_one (tk := s1.toks) I1 _ (turn_tuple aa _) ⟨_, Heap.get?_push_size _ rfl, rfl, rfl⟩ q)
    · obtain ⟨t2, rfl⟩ := r1
      cases ha : y.cps.all (· < 128) with
      | false => exact wpAny_pyIter_wide ha (pi_one (tk := s1.toks) I1 _ (turn_str _ y t2 "str_iterator" (Or.inr rfl)) ⟨_, Heap.get?_push_size _ rfl, rfl, rfl⟩ q)
      | true => exact wpAny_pyIter_ascii ha (pi_one (tk := s1.toks) I1 _ (turn_str _ y t2 "str_ascii_iterator" (Or.inl rfl)) ⟨_, Heap.get?_push_size _ rfl, rfl, rfl⟩ q)
  · refine a2.go B W σ H F ν s _ E _ r w q fun v H1 F1 ν1 d st1 x1 r1 z1 q1 => ?_
    split at q1
    · obtain ⟨ds, e1, q1⟩ := q1
      cases z1 with
      | @obj a n h =>
        obtain ⟨o, ho, hr⟩ := r1.st _ _ _ e1 h
        cases hr with
        | lst z =>
          refine .inl ⟨_, rfl, ⟨_, SqL.of ho⟩, k _ H1 F1 ν1 _ ds st1 x1 r1 (wk_list fun B' s' σ' H' F' ν' xx rr ww => ?_) q1⟩
          obtain ⟨o2, ho2, hr2⟩ := rr.st _ _ _ ww (pre_get xx.p h)
          cases hr2 with
          | lst z2 => exact ⟨_, SqL.of ho2, z2⟩
    · obtain ⟨ds, e1, q1⟩ := q1
      cases z1 with
      | lst h z => cases e1; exact .inl ⟨_, rfl, ⟨_, SqL.of (r1.sub _ _ h)⟩, k _ H1 F1 ν1 _ _ st1 x1 r1 (wk_list fun B' s' σ' H' F' ν' xx rr ww => ⟨_, SqL.of (rr.sub _ _ (xx.s _ _ h)), z.mono xx⟩) q1⟩
      | frl h z => cases e1; exact .inl ⟨_, rfl, ⟨_, sql_mono r1.sub h⟩, k _ H1 F1 ν1 _ _ st1 x1 r1 (wk_list fun B' s' σ' H' F' ν' xx rr ww => ⟨_, sql_mono rr.sub (sql_mono xx.s h), z.mono xx⟩) q1⟩
      | tup h z => cases e1; exact .inr (.inl ⟨_, rfl, ⟨_, sqt_mono r1.sub h⟩, k _ H1 F1 ν1 _ _ st1 x1 r1 (wk_tup z h) q1⟩)
      | str x => cases e1; exact .inr (.inr ⟨_, rfl, k _ H1 F1 ν1 _ _ st1 x1 r1 wk_str q1⟩)
      | _ => cases e1
/-- range(n), range(m, n) -/
def rngD (lo : Int) (n : Nat) : List D := (List.range n).map fun i : Nat => D.int (lo + (i : Int))
theorem wk_rng {c : Cf} {F : Hp} {ν : List Addr} {lo : Int} {n : Nat} : Wk c (Itr lo n) F ν (fun _ => True) (rngD lo n) := by
  refine ⟨fun B s σ H' F' ν' x r w => ⟨by show n ≤ _; simp [rngD], fun i d hd => ?_⟩⟩
  unfold rngD at hd
  rw [List.getElem?_map] at hd
  cases e : (List.range n)[i]? with
  | none => rw [e] at hd; cases hd
  | some j =>
    rw [e] at hd
    cases hd
    obtain ⟨hl, ej⟩ := List.getElem?_eq_some_iff.mp e
    rw [List.getElem_range] at ej
    subst ej
    refine ⟨by rw [List.length_range] at hl; exact hl, fun u H'' y => ?_⟩
    obtain ⟨rfl, rfl⟩ := y
    exact ⟨F', ν', Ext.refl, r, .int _⟩
def dRng1 (de : DE) : DI := fun s Q E => de s (fun d st => ∃ j, d = .int j ∧ -(2 ^ 62) ≤ j ∧ j < 2 ^ 62 ∧ Q (rngD 0 j.toNat) (fun _ => True) st) E
theorem w_range1 {tg : Expr} (hg : Gl X "range") (hm : X.mg "range" = none) (ha : Ex X cl e de) (hs : starEach [e] X.env = [(false, eval e X.env)] := by rfl) (hs1 : starEach (e :: []) X.env = (false, eval e X.env) :: starEach [] X.env := by rfl) : Iw X cl tg (.Call (.Name "range" p) [e] [] pos) (dRng1 de) := by
  obtain ⟨ta, a1, a2⟩ := ha.ex
  refine ⟨fun W => iRng1 (tCons (ta W) tNil), fun W t => pi_range1 hg hm (pa_cons (a1 W t) pa_nil hs1) hs, ⟨fun B W σ H F ν s Q E P r w q k => ?_⟩⟩
  refine a2.go B W σ H F ν s _ E _ r w q fun v H1 F1 ν1 d st1 x1 r1 z1 q1 => ?_
  obtain ⟨j, rfl, h1, h2, q1⟩ := q1
  cases z1
  exact ⟨j, rfl, h1, h2, k _ H1 F1 ν1 _ _ st1 x1 r1 wk_rng q1⟩
def dRng2 (da db : DE) : DI := fun s Q E => da s (fun d st => db ⟨s.sl, st⟩ (fun d2 st2 => ∃ i j, d = .int i ∧ d2 = .int j ∧ (-(2 ^ 62) ≤ i ∧ i < 2 ^ 62 ∧ -(2 ^ 62) ≤ j ∧ j < 2 ^ 62) ∧ Q (rngD i (j - i).toNat) (fun _ => True) st2) E) E
theorem w_range2 {tg : Expr} (hg : Gl X "range") (hm : X.mg "range" = none) (ha : Ex X cl a da) (hb : Ex X cl b db) (hs : starEach [a, b] X.env = [(false, eval a X.env), (false, eval b X.env)] := by rfl) (hs2 : starEach [b] X.env = [(false, eval b X.env)] := by rfl)
    (hs3 : starEach (a :: [b]) X.env = (false, eval a X.env) :: starEach [b] X.env := by rfl) (hs4 : starEach (b :: []) X.env = (false, eval b X.env) :: starEach [] X.env := by rfl) : Iw X cl tg (.Call (.Name "range" p) [a, b] [] pos) (dRng2 da db) := by
  obtain ⟨ta, a1, a2⟩ := ha.ex
  obtain ⟨tb, b1, b2⟩ := hb.ex
  refine ⟨fun W => iRng2 (tCons (ta W) (tCons (tb W) tNil)), fun W t => pi_range2 hg hm (pa_cons (a1 W t) (pa_cons (b1 W t) pa_nil hs4) hs3) hs hs2, ⟨fun B W σ H F ν s Q E P r w q k => ?_⟩⟩
  refine a2.go B W σ H F ν s _ E _ r w q fun v H1 F1 ν1 d st1 x1 r1 z1 q1 => ?_
  refine b2.go B W σ H1 F1 ν1 ⟨s.sl, st1⟩ _ E _ r1 (w.next x1) q1 fun v2 H2 F2 ν2 d2 st2 x2 r2 z2 q2 => ?_
  obtain ⟨i, j, rfl, rfl, h1, q2⟩ := q2
  cases z1; cases z2
  exact ⟨i, j, rfl, h1, k _ H2 F2 ν2 _ _ st2 (x1.trans x2) r2 wk_rng q2⟩

/-! ### stores -/
/-- o[i] = e, o a named list -/
def dPutN (dO di de : DE) : DS := fun D s => de s (fun v st1 => dO ⟨s.sl, st1⟩ (fun x st2 => di ⟨s.sl, st2⟩ (fun i st3 => ∃ n k ds j, x = .obj n ∧ i = .int k ∧ st3[n]? = some (.lst ds) ∧ ixN ds.length k = some j ∧ D.nx ⟨s.sl, st3.set n (.lst (ds.set j v))⟩) (D.xe s)) (D.xe s)) (D.xe s)
theorem s_putN {i : Expr} {dO di : DE} {p' : Pos} (ho : Ex X cl o dO) (hi : Ex X cl i di) (he : Ex X cl e de)
    (ha : ∀ v, assign (.Subscript o i p') X.env v = (do
      let ov ← holding [v] (eval o X.env)
      let iv ← holding [v, ov] (eval i X.env)
      standAt p'
      holding [v, ov, iv] (setItem ov iv v)
      release [v, ov, iv] []) := by intro _; rfl)
    (hs : swapsWithSole [.Subscript o i p'] e pos.line X.env = pure false := by rfl) (hw : swappedStores [.Subscript o i p'] e X.env = pure none := by rfl) (h1 : (assignEach [.Subscript o i p'] X.env).map (·.2) = [assign (.Subscript o i p') X.env] := by rfl) :
    Sm X cl (.Assign [.Subscript o i p'] e pos) (dPutN dO di de) := by
  obtain ⟨te, a1, a2⟩ := he.ex
  obtain ⟨tO, b1, b2⟩ := ho.ex
  obtain ⟨ti, c1, c2⟩ := hi.ex
  refine ⟨fun W => tAsg (te W) (gSub (tO W) (ti W) rSetL), fun W t _ => ps_asg (a1 W t) (pg_sub (b1 W t) (c1 W t) set_list ha) hs hw h1, ⟨fun B W σ H F ν s D Dd r m q => ?_⟩⟩
  have wsh := m.wsh (s := s) (σ := σ)
  refine a2.go B W σ H F ν s _ _ _ r wsh q fun v H1 F1 ν1 d st1 x1 r1 z1 q1 => ?_
  refine b2.go B W σ H1 F1 ν1 ⟨s.sl, st1⟩ _ _ _ r1 (wsh.next x1) q1 fun u H2 F2 ν2 d2 st2 x2 r2 z2 q2 => ?_
  refine c2.go B W σ H2 F2 ν2 ⟨s.sl, st2⟩ _ _ _ r2 (wsh.next (x1.trans x2)) q2 fun iv H3 F3 ν3 d3 st3 x3 r3 z3 q3 => ?_
  obtain ⟨n, k, ds, j, rfl, rfl, e1, e2, q3⟩ := q3
  have z2' := z2.mono x3
  cases z3
  cases z2' with
  | @obj a _ h =>
    obtain ⟨oo, ho, hr⟩ := r3.st n _ a e1 h
    cases hr with
    | @lst vs _ z =>
      refine ⟨a, vs, k, j, rfl, rfl, ho, by rw [z.length]; exact e2, ?_⟩
      have r4 := r3.mutN h (.lst (z.set (z1.mono (x2.trans x3)) j))
      exact m.nx _ σ _ F3 ν3 ((x1.trans x2).trans x3) r4 q3
/-- x[i] = e, x a list of its own -/
def dPutO (i : Nat) (di de : DE) : DS := fun D s => ∃ ds, s.sl[i]? = some (some (.ol ds)) ∧ de s (fun v st1 => di ⟨s.sl, st1⟩ (fun k st2 => ∃ kk j, k = .int kk ∧ ixN ds.length kk = some j ∧ D.nx ⟨s.sl.set i (some (.ol (ds.set j v))), st2⟩) (D.xe s)) (D.xe s)
theorem s_putO (i : Nat) {x : Str} {ix : Expr} {di : DE} {p' : Pos} (hN : X.N[i]? = some x) (hi : Ex X cl ix di) (he : Ex X cl e de) (hv : Vis X.env.scope x := by first | exact Or.inl rfl | exact Or.inr (Or.inl rfl) | exact Or.inr (Or.inr rfl)) (hd : (x == ("__debug__" : Str)) = false := by decide)
    (hcd : (x == ("__classdict__" : Str)) = false := by decide)
    (ha : ∀ v, assign (.Subscript (.Name x p) ix p') X.env v = (do
      let ov ← holding [v] (eval (.Name x p) X.env)
      let iv ← holding [v, ov] (eval ix X.env)
      standAt p'
      holding [v, ov, iv] (setItem ov iv v)
      release [v, ov, iv] []) := by intro _; rfl)
    (hs : swapsWithSole [.Subscript (.Name x p) ix p'] e pos.line X.env = pure false := by rfl) (hw : swappedStores [.Subscript (.Name x p) ix p'] e X.env = pure none := by rfl) (h1 : (assignEach [.Subscript (.Name x p) ix p'] X.env).map (·.2) = [assign (.Subscript (.Name x p) ix p') X.env] := by rfl) :
    Sm X cl (.Assign [.Subscript (.Name x p) ix p'] e pos) (dPutO i di de) := by
  obtain ⟨te, a1, a2⟩ := he.ex
  obtain ⟨ti, c1, c2⟩ := hi.ex
  refine ⟨fun W => tAsg (te W) (gSub (tVar i) (ti W) rSetL), fun W t _ => ps_asg (a1 W t) (pg_sub (pe_var hN hv hd hcd) (c1 W t) set_list ha) hs hw h1, ⟨fun B W σ H F ν s D Dd r m q => ?_⟩⟩
  have wsh := m.wsh (s := s) (σ := σ)
  obtain ⟨ds, e0, q⟩ := q
  refine a2.go B W σ H F ν s _ _ _ r wsh q fun v H1 F1 ν1 d st1 x1 r1 z1 q1 => ?_
  obtain ⟨u, h1, h2⟩ := r1.sl i _ e0
  refine ⟨u, h1, ?_⟩
  refine c2.go B W σ H1 F1 ν1 ⟨s.sl, st1⟩ _ _ _ r1 (wsh.next x1) q1 fun iv H3 F3 ν3 d3 st3 x3 r3 z3 q3 => ?_
  obtain ⟨k, j, rfl, e2, q3⟩ := q3
  cases z3
  obtain ⟨u', h1', h2'⟩ := r3.sl i _ e0
  rw [h1] at h1'
  cases h1'
  cases h2' with
  | @ol a vs _ f eo z =>
    refine ⟨a, vs, k, j, rfl, rfl, eo, by rw [z.length]; exact e2, ?_⟩
    exact m.nx _ σ _ F3 ν3 (x1.trans x3) (r3.mutO e0 rfl h1 f eo (fun H' e => .ol f e (z.set (z1.mono x3) j)) rfl) q3
end
end Kt
set_option maxHeartbeats 4000000
/-! Kt10: times, dicts, things that are changed. -/
namespace Kt
open PySem PySem.Spec L2
section
variable {X : Cx} {cl : String → Addr} {e e2 a b o : Expr} {es : List Expr} {de da db dk : DE} {ds : DA} {pos p p1 p2 apos cpos : Pos}
theorem RzAll.rep {c : Cf} {F : Hp} {ν : List Addr} {vs : List V} {ds : List D} (r : RzAll c F ν vs ds) : ∀ n : Nat, RzAll c F ν (List.replicate n vs).flatten (List.replicate n ds).flatten
  | 0 => .nil
  | n + 1 => by
    rw [List.replicate_succ, List.replicate_succ, List.flatten_cons, List.flatten_cons]
    exact r.append (RzAll.rep r n)
theorem o_mul : OpD X cl (binaryOp .Mult) kMul := by
  refine ⟨fun v u H P => rI CMulW (fun i j => .int (i * j)) v u H P ∨ rRep v u H P, fun pins s σ H x y v u Q I rx ry h => ?_, fun B s σ H F ν v u x y K P r rx ry h k => ?_⟩
  · rcases h with h | h
    · exact op_mulW pins s σ H x y v u Q I rx ry h
    · exact op_rep pins s σ H x y v u Q I rx ry h
  · unfold kMul at h
    split at h
    · cases rx; cases ry
      exact .inl ⟨_, _, rfl, rfl, h.1, k _ H F ν _ s.st Ext.refl r (.int _) h.2⟩
    · cases ry
      cases rx with
      | lst h1 z1 =>
        refine .inr ⟨_, _, _, rfl, rfl, r.sub _ _ h1, h.1.1, h.1.2, by rw [z1.length]; exact h.2.1, fun p hp => ?_⟩
        have hf := (r.fresh hp).2.1
        exact k _ _ _ ν _ s.st (ext_upd hf) (r.froze hp) (.lst upd_same ((z1.rep _).mono (ext_upd hf))) h.2.2
    · exact h.elim
/-! ### dicts -/
def putD (kvs : List (Key × D)) (k : Key) (v : D) : List (Key × D) :=
  if (kvs.any fun kv => decide (kv.1 = k)) = true then kvs.map (fun kv => if kv.1 = k then (kv.1, v) else kv) else kvs ++ [(k, v)]
def getD (kvs : List (Key × D)) (k : Key) : Option D := (kvs.find? fun kv => decide (kv.1 = k)).map (·.2)
theorem RzKv.app {c : Cf} {F : Hp} {ν : List Addr} : ∀ {vs vs' : List (Key × V)} {ds ds' : List (Key × D)}, RzKv c F ν vs ds → RzKv c F ν vs' ds' → RzKv c F ν (vs ++ vs') (ds ++ ds')
  | _, _, _, _, .nil, s => s
  | _, _, _, _, .cons a r, s => .cons a (RzKv.app r s)
theorem RzKv.any {c : Cf} {F : Hp} {ν : List Addr} {k : Key} : ∀ {vs : List (Key × V)} {ds : List (Key × D)}, RzKv c F ν vs ds → (vs.any fun kv => decide (kv.1 = k)) = (ds.any fun kv => decide (kv.1 = k))
  | _, _, .nil => rfl
  | _, _, .cons a r => by rw [List.any_cons, List.any_cons, RzKv.any r]
theorem RzKv.mapp {c : Cf} {F : Hp} {ν : List Addr} {k : Key} {v : V} {d : D} (z : Rz c F ν v d) : ∀ {vs : List (Key × V)} {ds : List (Key × D)}, RzKv c F ν vs ds → RzKv c F ν (vs.map fun kv => if kv.1 = k then (kv.1, v) else kv) (ds.map fun kv => if kv.1 = k then (kv.1, d) else kv)
  | _, _, .nil => .nil
  | _, _, .cons (k := k') a r => by
    rw [List.map_cons, List.map_cons]
    by_cases h : k' = k
    · rw [if_pos h, if_pos h]; exact .cons z (RzKv.mapp z r)
    · rw [if_neg h, if_neg h]; exact .cons a (RzKv.mapp z r)
theorem RzKv.put {c : Cf} {F : Hp} {ν : List Addr} {k : Key} {v : V} {d : D} {vs : List (Key × V)} {ds : List (Key × D)} (r : RzKv c F ν vs ds) (z : Rz c F ν v d) : RzKv c F ν (putK vs k v) (putD ds k d) := by
  unfold putK putD
  rw [r.any (k := k)]
  by_cases h : (ds.any fun kv => decide (kv.1 = k)) = true
  · rw [if_pos h, if_pos h]; exact r.mapp z
  · rw [if_neg h, if_neg h]; exact r.app (.cons z .nil)
theorem RzKv.get {c : Cf} {F : Hp} {ν : List Addr} {k : Key} : ∀ {vs : List (Key × V)} {ds : List (Key × D)}, RzKv c F ν vs ds → (getD ds k = none ∧ valV vs k = none) ∨ ∃ d v, getD ds k = some d ∧ valV vs k = some v ∧ Rz c F ν v d
  | _, _, .nil => .inl ⟨rfl, rfl⟩
  | _, _, .cons (k := k') (v := v) (d := d) a r => by
    by_cases h : k' = k
    · exact .inr ⟨d, v, by simp [getD, h], valV_pos h, a⟩
    · rcases RzKv.get (k := k) r with ⟨h1, h2⟩ | ⟨d2, v2, h1, h2, h3⟩
      · exact .inl ⟨by unfold getD at h1 ⊢; rw [List.find?_cons_of_neg (by simpa using h)]; exact h1, by rw [valV_neg h]; exact h2⟩
      · exact .inr ⟨d2, v2, by unfold getD at h1 ⊢; rw [List.find?_cons_of_neg (by simpa using h)]; exact h1, by rw [valV_neg h]; exact h2, h3⟩
theorem RzKv.len {c : Cf} {F : Hp} {ν : List Addr} : ∀ {vs : List (Key × V)} {ds : List (Key × D)}, RzKv c F ν vs ds → vs.length = ds.length
  | _, _, .nil => rfl
  | _, _, .cons _ r => congrArg (· + 1) (RzKv.len r)
def keyOf : D → Option Key
  | .int i => some (.inl i)
  | .str x => some (.inr x)
  | _ => none
theorem keyOf_ok {c : Cf} {F : Hp} {ν : List Addr} {v : V} {d : D} {k : Key} (z : Rz c F ν v d) (h : keyOf d = some k) : v = kV k := by
  cases z <;> first | (cases h; rfl) | cases h
/-- {}: a datum; one with a name -/
def dDct : DE := fun s Q _ => Q (.dct []) s.st
def dDctN : DE := fun s Q _ => Q (.obj s.st.length) (s.st ++ [.dct []])
theorem x_dct : Ex X cl (.Dict [] [] pos) dDct := by
  refine ⟨fun _ => tDNewK, fun _ _ => pe_dnewK, ⟨fun B W σ H F ν s Q E P r w h kk => fun p hp => ?_⟩⟩
  have hf := (r.fresh hp).2.1
  exact kk _ _ _ ν _ s.st (ext_upd hf) (r.froze hp) (.dct upd_same .nil) h
theorem x_dctN : Ex X cl (.Dict [] [] pos) dDctN := by
  refine ⟨fun _ => tDNewK, fun _ _ => pe_dnewK, ⟨fun B W σ H F ν s Q E P r w h kk => fun p hp => ?_⟩⟩
  obtain ⟨r2, x2⟩ := r.names hp (.dct .nil)
  have e : (ν ++ [p])[s.st.length]? = some p := by
    have := r.sn
    rw [show s.st.length = ν.length from this]; simp
  exact kk _ _ _ _ _ _ x2 r2 (.obj e) h
/-- o[k] = v, o a named dict -/
def dDPutN (dO dk dv : DE) : DS := fun D s => dv s (fun v st1 => dO ⟨s.sl, st1⟩ (fun x st2 => dk ⟨s.sl, st2⟩ (fun y st3 => ∃ n ks k, x = .obj n ∧ st3[n]? = some (.dct ks) ∧ keyOf y = some k ∧ ks.length < sizeLine ∧ D.nx ⟨s.sl, st3.set n (.dct (putD ks k v))⟩) (D.xe s)) (D.xe s)) (D.xe s)
theorem s_dputN {i : Expr} {dO dv : DE} {p' : Pos} (hu : X.A.units + 1 < cLine) (ho : Ex X cl o dO) (hi : Ex X cl i dk) (he : Ex X cl e dv) (hs : swapsWith e (some (.Subscript o i p')) pos.line X.env = pure false := by rfl) : Sm X cl (.Assign [.Subscript o i p'] e pos) (dDPutN dO dk dv) := by
  obtain ⟨te, a1, a2⟩ := he.ex
  obtain ⟨tO, b1, b2⟩ := ho.ex
  obtain ⟨ti, c1, c2⟩ := hi.ex
  refine ⟨fun W => sDPut (tO W) (ti W) (te W), fun W t _ => ps_dput hu (b1 W t) (c1 W t) (a1 W t) hs, ⟨fun B W σ H F ν s D Dd r m q => ?_⟩⟩
  have wsh := m.wsh (s := s) (σ := σ)
  refine a2.go B W σ H F ν s _ _ _ r wsh q fun v H1 F1 ν1 d st1 x1 r1 z1 q1 => ?_
  refine b2.go B W σ H1 F1 ν1 ⟨s.sl, st1⟩ _ _ _ r1 (wsh.next x1) q1 fun u H2 F2 ν2 d2 st2 x2 r2 z2 q2 => ?_
  refine c2.go B W σ H2 F2 ν2 ⟨s.sl, st2⟩ _ _ _ r2 (wsh.next (x1.trans x2)) q2 fun iv H3 F3 ν3 d3 st3 x3 r3 z3 q3 => ?_
  obtain ⟨n, ks, k, rfl, e1, e2, hl, q3⟩ := q3
  have z2' := z2.mono x3
  have ek := keyOf_ok z3 e2
  subst ek
  cases z2' with
  | @obj a _ h =>
    obtain ⟨oo, ho, hr⟩ := r3.st n _ a e1 h
    cases hr with
    | @dct vs _ z =>
      exact ⟨a, _, rfl, DPut.k ho (by rw [z.len]; exact hl), m.nx _ σ _ F3 ν3 ((x1.trans x2).trans x3) (r3.mutN h (.dct (z.put (z1.mono (x2.trans x3))))) q3⟩
/-- x[k] = v, x a dict of its own -/
def dDPutO (i : Nat) (dk dv : DE) : DS := fun D s => ∃ ks, s.sl[i]? = some (some (.od ks)) ∧ dv s (fun v st1 => dk ⟨s.sl, st1⟩ (fun y st2 => ∃ k, keyOf y = some k ∧ ks.length < sizeLine ∧ D.nx ⟨s.sl.set i (some (.od (putD ks k v))), st2⟩) (D.xe s)) (D.xe s)
theorem s_dputO (i : Nat) {x : Str} {ix : Expr} {dv : DE} {p' : Pos} (hu : X.A.units + 1 < cLine) (hN : X.N[i]? = some x) (hi : Ex X cl ix dk) (he : Ex X cl e dv) (hv : Vis X.env.scope x := by first | exact Or.inl rfl | exact Or.inr (Or.inl rfl) | exact Or.inr (Or.inr rfl)) (hd : (x == ("__debug__" : Str)) = false := by decide)
    (hcd : (x == ("__classdict__" : Str)) = false := by decide) (hs : swapsWith e (some (.Subscript (.Name x p) ix p')) pos.line X.env = pure false := by rfl) : Sm X cl (.Assign [.Subscript (.Name x p) ix p'] e pos) (dDPutO i dk dv) := by
  obtain ⟨te, a1, a2⟩ := he.ex
  obtain ⟨ti, c1, c2⟩ := hi.ex
  refine ⟨fun W => sDPut (tVar i) (ti W) (te W), fun W t _ => ps_dput hu (pe_var hN hv hd hcd) (c1 W t) (a1 W t) hs, ⟨fun B W σ H F ν s D Dd r m q => ?_⟩⟩
  have wsh := m.wsh (s := s) (σ := σ)
  obtain ⟨ks, e0, q⟩ := q
  refine a2.go B W σ H F ν s _ _ _ r wsh q fun v H1 F1 ν1 d st1 x1 r1 z1 q1 => ?_
  obtain ⟨u, h1, h2⟩ := r1.sl i _ e0
  refine ⟨u, h1, ?_⟩
  refine c2.go B W σ H1 F1 ν1 ⟨s.sl, st1⟩ _ _ _ r1 (wsh.next x1) q1 fun iv H3 F3 ν3 d3 st3 x3 r3 z3 q3 => ?_
  obtain ⟨k, e2, hl, q3⟩ := q3
  have ek := keyOf_ok z3 e2
  subst ek
  obtain ⟨u', h1', h2'⟩ := r3.sl i _ e0
  rw [h1] at h1'
  cases h1'
  cases h2' with
  | @od a vs _ f eo z =>
    exact ⟨a, _, rfl, DPut.k eo (by rw [z.len]; exact hl), m.nx _ σ _ F3 ν3 (x1.trans x3) (r3.mutO e0 rfl h1 f eo (fun H' e => .od f e (z.put (z1.mono x3))) rfl) q3⟩
/-- k in x, x[k], x a dict of its own -/
def dInO (neg : Bool) (i : Nat) (dk : DE) : DE := fun s Q E => dk s (fun y st => ∃ ks k, s.sl[i]? = some (some (.od ks)) ∧ keyOf y = some k ∧ Q (.bl (if neg then !(getD ks k).isSome else (getD ks k).isSome)) st) E
theorem RzKv.dget {c : Cf} {F H : Hp} {ν : List Addr} {a : Addr} {vs : List (Key × V)} {ks : List (Key × D)} (k : Key) (z : RzKv c F ν vs ks) (e : H a = some (.dK vs)) : ∃ o, DGet H a (kV k) o ∧ o.isSome = (getD ks k).isSome := by
  refine ⟨valV vs k, DGet.k e, ?_⟩
  rcases z.get (k := k) with ⟨h1, h2⟩ | ⟨d, v, h1, h2, _⟩ <;> rw [h1, h2] <;> rfl
theorem x_inO (i : Nat) {x : Str} (hu : X.A.units + 1 < cLine) (hN : X.N[i]? = some x) (hi : Ex X cl e dk) (hv : Vis X.env.scope x := by first | exact Or.inl rfl | exact Or.inr (Or.inl rfl) | exact Or.inr (Or.inr rfl)) (hd : (x == ("__debug__" : Str)) = false := by decide)
    (hcd : (x == ("__classdict__" : Str)) = false := by decide) (hm : behindInMarks .In (.Name x p) = false := by first | exact nomark _ | with_unfolding_all rfl) : Ex X cl (.Compare e [.In] [.Name x p] pos) (dInO false i dk) := by
  obtain ⟨ti, c1, c2⟩ := hi.ex
  refine ⟨fun W => tDIn (ti W) (tVar i), fun W t => pe_cmp (pc_din hu (c1 W t) (pe_var hN hv hd hcd)) hm, ⟨fun B W σ H F ν s Q E P r w q k => ?_⟩⟩
  refine c2.go B W σ H F ν s _ E _ r w q fun v H1 F1 ν1 d st1 x1 r1 z1 q1 => ?_
  obtain ⟨ks, kk, e0, e2, q1⟩ := q1
  obtain ⟨u, h1, h2⟩ := r1.sl i _ e0
  have ek := keyOf_ok z1 e2
  subst ek
  cases h2 with
  | @od a vs _ f eo z =>
    obtain ⟨oo, hg, ho⟩ := z.dget kk eo
    exact ⟨_, h1, a, oo, rfl, hg, by rw [ho]; exact k _ H1 F1 ν1 _ st1 x1 r1 (.bl _) q1⟩
theorem x_ninO (i : Nat) {x : Str} (hu : X.A.units + 1 < cLine) (hN : X.N[i]? = some x) (hi : Ex X cl e dk) (hv : Vis X.env.scope x := by first | exact Or.inl rfl | exact Or.inr (Or.inl rfl) | exact Or.inr (Or.inr rfl)) (hd : (x == ("__debug__" : Str)) = false := by decide)
    (hcd : (x == ("__classdict__" : Str)) = false := by decide) (hm : behindInMarks .NotIn (.Name x p) = false := by first | exact nomark _ | with_unfolding_all rfl) : Ex X cl (.Compare e [.NotIn] [.Name x p] pos) (dInO true i dk) := by
  obtain ⟨ti, c1, c2⟩ := hi.ex
  refine ⟨fun W => tDNotIn (ti W) (tVar i), fun W t => pe_cmp (pc_dnotin hu (c1 W t) (pe_var hN hv hd hcd)) hm, ⟨fun B W σ H F ν s Q E P r w q k => ?_⟩⟩
  refine c2.go B W σ H F ν s _ E _ r w q fun v H1 F1 ν1 d st1 x1 r1 z1 q1 => ?_
  obtain ⟨ks, kk, e0, e2, q1⟩ := q1
  obtain ⟨u, h1, h2⟩ := r1.sl i _ e0
  have ek := keyOf_ok z1 e2
  subst ek
  cases h2 with
  | @od a vs _ f eo z =>
    obtain ⟨oo, hg, ho⟩ := z.dget kk eo
    exact ⟨_, h1, a, oo, rfl, hg, by rw [ho]; exact k _ H1 F1 ν1 _ st1 x1 r1 (.bl _) q1⟩
/-! ### append -/
/-- o.append(e), o a named list -/
def dApN (dO de : DE) : DE := fun s Q E => dO s (fun x st1 => (∃ n ds, x = .obj n ∧ st1[n]? = some (.lst ds)) ∧ de ⟨s.sl, st1⟩ (fun v st2 => ∃ n ds, x = .obj n ∧ st2[n]? = some (.lst ds) ∧ ds.length < sizeLine ∧ Q .non (st2.set n (.lst (ds ++ [v])))) E) E
theorem x_appN {dO : DE} (ho : Ex X cl o dO) (he : Ex X cl e de)
    (hbase : attributeBase o "append" X.env (eval o X.env) = eval o X.env := by rfl)
    (hfew : ((backTo cpos (starEach (e :: []) X.env)).all (fun x => !x.1) && (backToKw cpos (keywordEach [] X.env)).all (fun x => x.1.isSome)
      && decide ((e :: []).length + ([] : List Keyword).length + (if ([] : List Keyword).isEmpty then 0 else 1) < 30)) = true := by rfl)
    (hline : (apos.endLine == cpos.line) = true := by rfl) (hs : starEach (e :: []) X.env = (false, eval e X.env) :: starEach [] X.env := by rfl) (hplain : (backTo cpos (starEach [] X.env)).any (·.1) = false := by rfl) :
    Ex X cl (.Call (.Attribute o "append" apos) [e] [] cpos) (dApN dO de) := by
  obtain ⟨tO, b1, b2⟩ := ho.ex
  obtain ⟨te, a1, a2⟩ := he.ex
  refine ⟨fun W => tBM X.K "list" rAppend (tO W) (tCons (te W) tNil), fun W t => pe_bm PySem.F.plainAttrs_list PySem.F.slot_list_append PySem.F.type_list_append mt_append (b1 W t) (pa_cons (a1 W t) pa_nil hs) hbase hfew hline hs hplain, ⟨fun B W σ H F ν s Q E P r w q k => ?_⟩⟩
  refine b2.go B W σ H F ν s _ E _ r w q fun u H1 F1 ν1 d st1 x1 r1 z1 q1 => ?_
  obtain ⟨⟨n, ds, rfl, e1⟩, q1⟩ := q1
  have z1' := z1
  cases z1 with
  | @obj a _ h =>
    obtain ⟨oo, ho, hr⟩ := r1.st n _ a e1 h
    cases hr with
    | @lst vs _ z =>
      refine ⟨.inl ⟨rfl, _, SqL.of ho⟩, ?_⟩
      refine a2.go B W σ H1 F1 ν1 ⟨s.sl, st1⟩ _ E _ r1 (w.next x1) q1 fun v H2 F2 ν2 d2 st2 x2 r2 z2 q2 => ?_
      obtain ⟨n', ds', en, e2, hl, q2⟩ := q2
      cases en
      have h2 := pre_get x2.p h
      obtain ⟨oo2, ho2, hr2⟩ := r2.st n _ a e2 h2
      cases hr2 with
      | @lst vs2 _ zz =>
        exact ⟨a, vs2, v, rfl, rfl, ho2, by rw [zz.length]; exact hl, k _ _ F2 ν2 _ _ (x1.trans x2) (r2.mutN h2 (.lst (zz.append (.cons z2 .nil)))) .non q2⟩
/-- x.append(e), x a list of its own -/
def dApO (i : Nat) (de : DE) : DS := fun D s => ∃ ds, s.sl[i]? = some (some (.ol ds)) ∧ de s (fun v st => ds.length < sizeLine ∧ D.nx ⟨s.sl.set i (some (.ol (ds ++ [v]))), st⟩) (D.xe s)
theorem s_appO (i : Nat) {x : Str} (hN : X.N[i]? = some x) (he : Ex X cl e de) (hv : Vis X.env.scope x := by first | exact Or.inl rfl | exact Or.inr (Or.inl rfl) | exact Or.inr (Or.inr rfl)) (hd : (x == ("__debug__" : Str)) = false := by decide)
    (hcd : (x == ("__classdict__" : Str)) = false := by decide)
    (hbase : attributeBase (.Name x p) "append" X.env (eval (.Name x p) X.env) = eval (.Name x p) X.env := by rfl)
    (hfew : ((backTo cpos (starEach (e :: []) X.env)).all (fun x => !x.1) && (backToKw cpos (keywordEach [] X.env)).all (fun x => x.1.isSome)
      && decide ((e :: []).length + ([] : List Keyword).length + (if ([] : List Keyword).isEmpty then 0 else 1) < 30)) = true := by rfl)
    (hline : (apos.endLine == cpos.line) = true := by rfl) (hs : starEach (e :: []) X.env = (false, eval e X.env) :: starEach [] X.env := by rfl) (hplain : (backTo cpos (starEach [] X.env)).any (·.1) = false := by rfl)
    (hsw : swapsWith (.Call (.Attribute (.Name x p) "append" apos) [e] [] cpos) none pos.line X.env = pure false := by rfl) :
    Sm X cl (.Expr (.Call (.Attribute (.Name x p) "append" apos) [e] [] cpos) pos) (dApO i de) := by
  obtain ⟨te, a1, a2⟩ := he.ex
  refine ⟨fun W => tDrop (tBM X.K "list" rAppend (tVar i) (tCons (te W) tNil)), fun W t _ => ps_expr (pe_bm PySem.F.plainAttrs_list PySem.F.slot_list_append PySem.F.type_list_append mt_append (pe_var hN hv hd hcd) (pa_cons (a1 W t) pa_nil hs) hbase hfew hline hs hplain) hsw, ⟨fun B W σ H F ν s D Dd r m q => ?_⟩⟩
  have wsh := m.wsh (s := s) (σ := σ)
  obtain ⟨ds, e0, q⟩ := q
  obtain ⟨u, h1, h2⟩ := r.sl i _ e0
  cases h2 with
  | @ol a vs _ f eo z =>
    refine ⟨_, h1, .inl ⟨rfl, _, SqL.of eo⟩, ?_⟩
    refine a2.go B W σ H F ν s _ _ _ r wsh q fun v H1 F1 ν1 d st1 x1 r1 z1 q1 => ?_
    obtain ⟨hl, q1⟩ := q1
    obtain ⟨u', h1', h2'⟩ := r1.sl i _ e0
    rw [h1] at h1'
    cases h1'
    cases h2' with
    | @ol _ vs2 _ f2 eo2 zz =>
      exact ⟨a, vs2, v, rfl, rfl, eo2, by rw [zz.length]; exact hl, m.nx _ σ _ F1 ν1 x1 (r1.mutO e0 rfl h1 f2 eo2 (fun H' e => .ol f2 e (zz.append (.cons z1 .nil))) rfl) q1⟩
end
end Kt
set_option maxHeartbeats 4000000
/-! Kt11: what the top has written; the end of a law. -/
namespace Kt
open PySem PySem.Spec L2
open PyProof.Rows (envOfC)
open PyProof.Rows
/-! ### facts -/
structure Df (K : PySem.W.Frag) (mg : Str → Option Value) (x qual : Str) (st : Stmt) (ps : List Str) (f : Addr) (fd : FuncData) : Prop where
  fu : Fun K x qual st f fd
  b : Binds K fd ps []
  m : mg x = some (.ref f)
/-- a class of errors over ValueError with its own __init__ -/
structure Xt (K : PySem.W.Frag) (mg : Str → Option Value) (cl : String → Addr) (nm : String) (x qual : Str) (st : Stmt) (ps : List Str) (f : Addr) (fd : FuncData) : Prop where
  fu : Fun K "__init__" qual st f fd
  b : Binds K fd ps []
  m : mg x = some (.ref (cl nm))
  T : XcT K (cl nm) f
  xf : XfC K (cl nm)
section
variable {X : Cx} {cl : String → Addr} {x : Str} {p pos : Pos}
theorem x_gs {y : Str} (hg : Gl X x) (h : ∃ t, X.mg x = some (.str y t)) (hd : (x == ("__debug__" : Str)) = false := by decide) : Ex X cl (.Name x pos) (dC (.str y)) := by
  obtain ⟨t, h⟩ := h
  exact x_glob (v := .str y) hg h ⟨t, rfl⟩ (fun _ _ => .str y) hd
theorem x_gi {y : Int} (hg : Gl X x) (h : ∃ t, X.mg x = some (.int y t)) (hd : (x == ("__debug__" : Str)) = false := by decide) : Ex X cl (.Name x pos) (dC (.int y)) := by
  obtain ⟨t, h⟩ := h
  exact x_glob (v := .int y) hg h ⟨t, rfl⟩ (fun _ _ => .int y) hd
theorem x_callD {k j : Nat} {qual : Str} {st : Stmt} {f : Addr} {fd : FuncData} {ps : List Str} {sd : SpD} {e : Expr} {es : List Expr} {da : DA} (G : FnG X.prog X.w X.K X.mg X.base k f fd ps (spOf (cf X cl) sd)) (T : Df X.K X.mg x qual st ps f fd) (hr : Room j X.A) (hj : k ≤ j) (hgd : X.A.guards = some []) (hg : Gl X x)
    (ha : Ar X cl (e :: es) da) (hdb : (x == ("__debug__" : Str)) = false := by decide) (he : starEach (e :: es) X.env = (false, eval e X.env) :: starEach es X.env := by rfl) (hpl : (backTo pos (starEach es X.env)).any (·.1) = false := by rfl) :
    Ex X cl (.Call (.Name x p) (e :: es) [] pos) (dCall sd da) := x_call G (hr.mono hj) hgd hg T.m T.fu.kp T.b ha hdb he hpl
theorem x_callD0 {k j : Nat} {qual : Str} {st : Stmt} {f : Addr} {fd : FuncData} {ps : List Str} {sd : SpD} (G : FnG X.prog X.w X.K X.mg X.base k f fd ps (spOf (cf X cl) sd)) (T : Df X.K X.mg x qual st ps f fd) (hr : Room j X.A) (hj : k ≤ j) (hgd : X.A.guards = some []) (hg : Gl X x)
    (hdb : (x == ("__debug__" : Str)) = false := by decide) : Ex X cl (.Call (.Name x p) [] [] pos) (dCall sd dNil) := x_call0 G (hr.mono hj) hgd hg T.m T.fu.kp T.b hdb
end
theorem hu64 {k : Nat} {A : Around} (h : Room k A) : A.units + 64 < cLine := by have := h.un; omega
theorem hu66 {k : Nat} {A : Around} (h : Room k A) : A.units + 66 < cLine := by have := h.un; omega
theorem hu1 {k : Nat} {A : Around} (h : Room k A) : A.units + 1 < cLine := by have := h.un; omega
/-- the addresses of the classes of errors -/
def clOf (l : List (String × Addr)) : String → Addr := fun nm => (l.lookup nm).getD 0
/-- facts about a class of errors, gathered -/
theorem oexc_of {K : PySem.W.Frag} {C : Addr} {nm q : Str} {N : Addr} {bs bm : List Value} {sn : List Str} {sub : List Value} {ab : Bool} {col : Option Bool} {dd : Option Addr} {m0 m1 m2 m3 m5 : Option Value}
    (l : K.lookup C = some (excClassObj nm q C N bs bm true sn sub ab col dd m0 m1 m2 m3 m5 "ValueError.__new__")) (hb : PySem.HandSPX.refsVE bm = true)
    (sa : PySem.W.findIn K (.ref C) "__setattr__" = some (some (.builtin "object.__setattr__"))) (ex : PySem.W.subIn K (.ref C) (.type "BaseException") = some true) (ty : PySem.W.typeIn K (.ref C) = some (.type "type")) (kc : PySem.W.keepIn K (.ref C) = true) : OexC K C :=
  ⟨⟨nm, q, N, bs, bm, sn, sub, ab, col, dd, m0, m1, m2, m3, m5, l, hb⟩, sa, ex, ty, kc⟩
/-! ### the end -/
section
variable {P : Program} {w : World} {K : PySem.W.Frag} {mg mb : Str → Option Value} {k : Nat} {fa a : Addr} {fd : FuncData} {x : Str} {sd : SpD} {cl : String → Addr} {t : Shared} {vs : List Value} {ns : List Int}
/-- what the law's own call must end in -/
def LawEnd (t : Shared) (r : Result) (u : Shared) : Prop := r = .ok (.ret (.bool true)) ∧ OldK t.heap u.heap ∧ u.os = t.os ∧ AllBare u.gens
theorem lawG_core (H : Hp) (KX : K.In t.heap) (hns : t.heap.Ns mainGlobals mg) (hb : t.heap.Ns builtinsNs mb) (hbb : ∀ y : Str, y ≠ "__name__" → mb y = bootBuiltins y) (hlim : t.heap.NoLimit) (hg : t.gens = #[])
    (ha : t.heap.get? a = some { cls := .type "list", data := .seq vs.toArray }) (hr : Room k callerA)
    (F : ∀ base : Heap, K.In base → base.Ns mainGlobals mg → FnG P w K mg base k fa fd [x] (spOf ⟨K, cl⟩ sd)) (hbind : ∀ (s : Shared) (u : Value), BindsTo s fd ⟨[u], []⟩ [(x, u)])
    (fz : ∀ b u, H b = some u → b = a ∧ ∃ ob ys, u = .frz ob (.lst ys)) (hS : SqL K H a (ns.map V.int)) (hok : HOk P w H t.heap) (nK : H a ≠ none → K.lookup a = none)
    (hsd : sd [.frl (ns.map D.int)] [] (fun r _ => r = .d (.bl true)) (fun _ _ => False)) : codeAny (model P w) callerA (.call (.ref fa) ⟨[.ref a], []⟩) (LawEnd t) t := by
  let G := hidT t.heap H
  have put : ∀ {b : Addr} {o : Obj}, t.heap.get? b = some o → H b = none → G.get? b = some o := fun p q => hidT_get p q
  have only : ∀ b, H b ≠ none → b = a := fun b n => by
    cases q : H b with
    | none => exact absurd q n
    | some u => exact (fz b u q).1
  have nodict : ∀ {b : Addr} {o : Obj} {es : Array DictEntry} {ep : Nat}, t.heap.get? b = some o → o.data = .dict es ep → H b = none := by
    intro b o es ep e d
    refine Classical.byContradiction fun n => ?_
    rw [only b n, ha] at e
    cases e
    have d' : Data.seq vs.toArray _ = Data.dict es ep := d
    cases d'
  have ns' : ∀ {b : Addr} {m : Str → Option Value}, t.heap.Ns b m → G.Ns b m := by
    rintro b m ⟨o, es, ep, e, d, r⟩
    exact ⟨o, es, ep, put e (nodict e d), d, r⟩
  have kin : K.In G := by
    intro b o e
    refine put (KX b o e) (Classical.byContradiction fun n => ?_)
    have := nK (by rw [← only b n]; exact n)
    rw [← only b n, e] at this
    cases this
  have md : Mod K mg G := by
    obtain ⟨mc, c1, c2⟩ := hlim
    exact ⟨kin, ns' hns, ⟨mb, ns' hb, hbb⟩, mc, ns' c1, c2⟩
  have en : Env0 P w K mg G callerA [] t H := by
    refine ⟨rfl, md, fun b o e => of_hidT e, Nat.le_of_eq (hidT_size _ _), trivial, fun b hm => ?_, hok, .of_eq hg⟩
    have hm : b ∈ ([] : List Addr) := hm
    cases hm
  have r0 : R ⟨K, cl⟩ ⟨H, H, []⟩ ⟨[some (.d (.frl (ns.map D.int)))], []⟩ [some (.ref a)] H H [] := by
    refine ⟨Same.refl H, Same.refl H, fun b o e => .inl e, fun b o e _ => e, ⟨[], rfl, fun b hb => (nomatch hb)⟩, List.nodup_nil, fun b hb => (nomatch hb), rfl, fun i y e => ?_, fun i j y z b e1 e2 o1 _ _ _ => ?_, rfl, fun n ob b e1 _ => ?_⟩
    · cases i with
      | zero => cases e; exact ⟨_, rfl, .d (.frl hS (rz_ints ns))⟩
      | succ i => cases e
    · cases i with
      | zero => cases e1; cases o1
      | succ i => cases e1
    · cases e1
  have hsp : spOf ⟨K, cl⟩ sd [.ref a] H (fun v _ => v = .bl true) (fun _ _ _ => False) := by
    refine ⟨H, [], [.frl (ns.map D.int)], [], _, _, r0, hsd, fun y st' v H' F' ν' _ rr e => ?_, fun _ _ _ _ _ _ _ _ _ _ z => z⟩
    subst e
    obtain ⟨v', e1, z⟩ := rr.sl 0 _ rfl
    cases e1
    cases z with
    | d z => cases z; rfl
  have run := (F G kin (ns' hns)).run callerA [] t H ⟨[.ref a], []⟩ [.ref a] [.ref a] _ _ hr rfl en (hbind t (.ref a)) (.cons rfl .nil) hsp
  refine codeAny_mono run fun r u h => ?_
  cases r with
  | error e =>
    obtain ⟨_, _, _, _, _, _, _, _, _, _, _, _, z⟩ := h
    exact False.elim z
  | ok fl =>
    cases fl with
    | next => exact h.elim
    | brk => exact h.elim
    | cont => exact h.elim
    | ret res =>
      obtain ⟨v, H', os, bare, un, hok', rv, q⟩ := h
      have qe : v = .bl true := q
      subst qe
      obtain rfl : res = Value.bool true := rv
      refine ⟨rfl, .of_keep fun b o e => ?_, os, bare⟩
      cases q : H b with
      | none =>
        refine un.keep b o e q (fun z => ?_) (by simp)
        have z : b ∈ ([] : List Addr) := z
        cases z
      | some u' =>
        obtain ⟨rfl, ob, ys, rfl⟩ := fz b u' q
        have h1 := (hok b _ q).1
        rw [e] at h1
        cases h1
        exact (hok' b _ (un.frzs b _ _ q)).1
theorem lawG (KX : K.In t.heap) (hns : t.heap.Ns mainGlobals mg) (hb : t.heap.Ns builtinsNs mb) (hbb : ∀ y : Str, y ≠ "__name__" → mb y = bootBuiltins y) (hlim : t.heap.NoLimit) (hg : t.gens = #[])
    (ha : t.heap.get? a = some { cls := .type "list", data := .seq vs.toArray }) (hi : IntsAre vs ns) (hl : ns.length ≤ sizeLine) (hr : Room k callerA)
    (F : ∀ base : Heap, K.In base → base.Ns mainGlobals mg → FnG P w K mg base k fa fd [x] (spOf ⟨K, cl⟩ sd)) (hbind : ∀ (s : Shared) (u : Value), BindsTo s fd ⟨[u], []⟩ [(x, u)])
    (hsd : sd [.frl (ns.map D.int)] [] (fun r _ => r = .d (.bl true)) (fun _ _ => False)) : codeAny (model P w) callerA (.call (.ref fa) ⟨[.ref a], []⟩) (LawEnd t) t := by
  have rv := vals_ints hi
  cases q : K.lookup a with
  | some o =>
    have e := KX a o q
    rw [ha] at e
    cases e
    have hz : vs.toArray.size ≤ sizeLine := by rw [List.size_toArray, hi.length]; exact hl
    refine lawG_core (fun _ => none) KX hns hb hbb hlim hg ha hr F hbind (fun b u z => ?_) (.inr ⟨_, vs.toArray, _, q, rfl, rfl, rfl, hz, by simpa using rv⟩) (fun b u z => ?_) (fun n => absurd rfl n) hsd
    · have z' : (none : Option HO) = some u := z
      cases z'
    · have z' : (none : Option HO) = some u := z
      cases z'
  | none =>
    let oS : Obj := { cls := .type "list", data := .seq vs.toArray }
    have at_ : ∀ {b : Addr} {u : HO}, (if b = a then some (HO.frz oS (.lst (ns.map V.int))) else none) = some u → b = a ∧ u = .frz oS (.lst (ns.map V.int)) := by
      intro b u z
      by_cases hb : b = a
      · rw [if_pos hb] at z
        cases z
        exact ⟨hb, rfl⟩
      · rw [if_neg hb] at z
        cases z
    refine lawG_core (fun b => if b = a then some (.frz oS (.lst (ns.map V.int))) else none) KX hns hb hbb hlim hg ha hr F hbind (fun b u z => ?_) (.inl (.inr ⟨oS, if_pos rfl⟩)) (fun b u z => ?_) (fun _ => q) hsd
    · obtain ⟨h1, h2⟩ := at_ z
      exact ⟨h1, oS, _, h2⟩
    · obtain ⟨h1, h2⟩ := at_ z
      subst h1
      subst h2
      exact ⟨ha, by rw [List.length_map]; exact hl, vs, _, rv, ha⟩
end
theorem walk_ofG {l : PySem.W.OpenLaw} {n k : Nat} {q : Program} {loose : List Str} {XP : (Str → Option Value) → Heap → Prop} {YP : World → Heap → Prop} {d : DefRec} {K : Params → PySem.W.Frag} {sd : (String → Addr) → SpD} {x : Str} (hn : l.most = some n) (hn2 : n ≤ sizeLine) (hdf : d.params.defaults = []) (hr : Room k callerA)
    (hY : ∀ (w : World) (h : Heap), YP w h → (K w.params).In h)
    (F : ∀ (w : World) (mg : Str → Option Value) (fa : Addr) (h : Heap), (K w.params).In h → h.Ns mainGlobals mg → mg d.name = some (.ref fa) →
      ∃ (fd : FuncData) (cl : String → Addr), (∀ (s : Shared) (u : Value), BindsTo s fd ⟨[u], []⟩ [(x, u)]) ∧ ∀ base : Heap, (K w.params).In base → base.Ns mainGlobals mg → FnG l.prog w (K w.params) mg base k fa fd [x] (spOf ⟨K w.params, cl⟩ (sd cl)))
    (hsd : ∀ (cl : String → Addr) (ns : List Int), ns.length ≤ n → (∀ z ∈ ns, Builtin.Int.intBits z ≤ 1048576) → sd cl [.frl (ns.map D.int)] [] (fun r _ => r = .d (.bl true)) (fun _ _ => False)) :
    PySem.W.WalkO q loose XP YP l.row.toRowW d [] (fun f vs => PySem.call f vs) := by
  refine Att.attach_callB hn hdf ?_
  intro w s₀ s₁ mg mb fa o pm cd doc a vs ns G Y ho hd hcd hmg hobj hints hlen hbits hg
  have KX := hY w _ Y
  obtain ⟨fd, cl, hb, hF⟩ := F w mg fa _ KX G.T.g hmg
  exact lawG KX G.T.g G.T.b G.T.builtins G.T.nolimit hg hobj hints (Nat.le_trans hlen hn2) hr hF hb (hsd cl ns hlen hbits)
end Kt
set_option maxHeartbeats 400000
/-! Kt12: readings without a program in sight: loops, comprehensions, the numbers that a law draws. -/
namespace Kt
open PySem PySem.Spec L2
theorem loop_inv {g : DG} {tb : DS} {De : DEnds} {wt : List Ob → Prop} (ds : List D) (I : Nat → S → Prop) {s : S} (h0 : I 0 s)
    (hs : ∀ (i : Nat) (d : D) (s : S) (nx : S → Prop), ds[i]? = some d → I i s → (∀ s', I (i + 1) s' → nx s') → wt s.st ∧ g d s fun s' => tb { De with nx := nx, ct := nx, bk := De.nx } s')
    (hd : ∀ s, I ds.length s → wt s.st ∧ De.nx s) : dLoop g tb De wt ds s := by
  have key : ∀ (r : List D) (i : Nat) (s : S), ds.drop i = r → i ≤ ds.length → I i s → dLoop g tb De wt r s := by
    intro r
    induction r with
    | nil =>
      intro i s e hi q
      have : i = ds.length := by
        have := congrArg List.length e
        simp at this; omega
      subst this
      exact hd s q
    | cons d r ih =>
      intro i s e hi q
      have hl : i < ds.length := by
        have := congrArg List.length e
        simp at this; omega
      have e1 : ds[i]? = some d := by
        have := drop_get (l := ds) (i := i) (x := ds[i]) (by simp [hl])
        rw [e] at this
        have h2 := (List.cons.inj this).1
        rw [h2]; simp [hl]
      have e2 : ds.drop (i + 1) = r := by
        have := drop_get e1
        rw [e] at this
        exact (List.cons.inj this).2.symm
      exact hs i d s _ e1 q fun s' q' => ih (i + 1) s' e2 hl q'
  exact key ds 0 s rfl (Nat.zero_le _) h0
theorem comp_inv {g : DG} {tt : DT} {te : DE} {sl0 : List (Option SV)} {wt : List Ob → Prop} (ds : List D) (I : Nat → List D → List Ob → Prop) {st : List Ob} {Q : List D → List Ob → Prop} (h0 : I 0 [] st)
    (hs : ∀ (i : Nat) (d : D) (acc : List D) (st : List Ob) (K : List D → List Ob → Prop), ds[i]? = some d → I i acc st → (∀ acc' st', I (i + 1) acc' st' → K acc' st') →
      wt st ∧ g d ⟨sl0, st⟩ fun s2 => tt s2 (fun b st2 => if b = true then te ⟨s2.sl, st2⟩ (fun y st3 => acc.length < sizeLine ∧ K (acc ++ [y]) st3) (fun _ _ => False) else K acc st2) (fun _ _ => False))
    (hd : ∀ acc st, I ds.length acc st → wt st ∧ Q acc st) : dComp g tt te sl0 wt ds [] st Q := by
  have key : ∀ (r : List D) (i : Nat) (acc : List D) (st : List Ob), ds.drop i = r → i ≤ ds.length → I i acc st → dComp g tt te sl0 wt r acc st Q := by
    intro r
    induction r with
    | nil =>
      intro i acc st e hi q
      have : i = ds.length := by
        have := congrArg List.length e
        simp at this; omega
      subst this
      exact hd acc st q
    | cons d r ih =>
      intro i acc st e hi q
      have hl : i < ds.length := by
        have := congrArg List.length e
        simp at this; omega
      have e1 : ds[i]? = some d := by
        have := drop_get (l := ds) (i := i) (x := ds[i]) (by simp [hl])
        rw [e] at this
        have h2 := (List.cons.inj this).1
        rw [h2]; simp [hl]
      have e2 : ds.drop (i + 1) = r := by
        have := drop_get e1
        rw [e] at this
        exact (List.cons.inj this).2.symm
      obtain ⟨h1, h2⟩ := hs i d acc st (fun acc' st' => dComp g tt te sl0 wt r acc' st' Q) e1 q fun acc' st' q' => ih (i + 1) acc' st' e2 hl q'
      exact ⟨h1, h2⟩
  exact key ds 0 [] st rfl (Nat.zero_le _) h0
theorem seqObj {st : List Ob} {n : Nat} {ds : List D} (e : st[n]? = some (.lst ds)) : asSeq st (.obj n) = some ds := by
  show (match st[n]? with | some (.lst ds) => some ds | _ => none) = some ds
  rw [e]
/-! ### the box -/
/-- the box at n: three numbers, the last at most c -/
def Bx (st : List Ob) (n c : Nat) : Prop := ∃ x y z : Int, st[n]? = some (.lst [.int x, .int y, .int z]) ∧ 0 ≤ x ∧ 0 ≤ y ∧ y < 2147483629 ∧ 0 ≤ z ∧ z ≤ (c : Int)
/-- nothing but the box at n was changed -/
def Stp (n : Nat) (st st' : List Ob) (c : Nat) : Prop := (∃ o, st' = st.set n o) ∧ Bx st' n c
theorem Bx.lt {st : List Ob} {n c : Nat} (h : Bx st n c) : n < st.length := by
  obtain ⟨x, y, z, h, _⟩ := h
  exact (List.getElem?_eq_some_iff.mp h).1
theorem Bx.mono {st : List Ob} {n c c' : Nat} (h : Bx st n c) (hc : c ≤ c') : Bx st n c' := by
  obtain ⟨x, y, z, h, a, b, d, e, f⟩ := h
  exact ⟨x, y, z, h, a, b, d, e, by omega⟩
theorem Bx.app {st more : List Ob} {n c : Nat} (h : Bx st n c) : Bx (st ++ more) n c := by
  have hl := h.lt
  obtain ⟨x, y, z, h, r⟩ := h
  exact ⟨x, y, z, by rw [List.getElem?_append_left hl]; exact h, r⟩
theorem Bx.self {st : List Ob} {n c : Nat} (h : Bx st n c) : Stp n st st c := by
  refine ⟨⟨st[n]'h.lt, ?_⟩, h⟩
  rw [List.set_getElem_self]
theorem Stp.trans {n : Nat} {st st1 st2 : List Ob} {c c' : Nat} (h : Stp n st st1 c) (k : Stp n st1 st2 c') : Stp n st st2 c' := by
  obtain ⟨⟨o, rfl⟩, _⟩ := h
  obtain ⟨⟨o', rfl⟩, b⟩ := k
  exact ⟨⟨o', by rw [List.set_set]⟩, b⟩
theorem Stp.mono {n : Nat} {st st1 : List Ob} {c c' : Nat} (h : Stp n st st1 c) (k : c ≤ c') : Stp n st st1 c' := ⟨h.1, h.2.mono k⟩
theorem Stp.len {n : Nat} {st st1 : List Ob} {c : Nat} (h : Stp n st st1 c) : st1.length = st.length := by
  obtain ⟨⟨o, rfl⟩, _⟩ := h
  rw [List.length_set]
theorem Stp.get {n m : Nat} {st st1 : List Ob} {c : Nat} (h : Stp n st st1 c) (k : n ≠ m) : st1[m]? = st[m]? := by
  obtain ⟨⟨o, rfl⟩, _⟩ := h
  rw [List.getElem?_set_ne k]
def R_take (c0 : Int) : DS := (dSeq (dIfS (dTest (dBin kGt (dBin kIx (dVar 0) (dC (.int 0))) (dC (.int 0)))) (dSeq (dSet (dName 2) (dBin kMod (dBin kIx (dVar 0) (dC (.int 0))) (dVar 1))) (dSeq (dPutN (dVar 0) (dC (.int 0)) (dBin kDiv (dBin kIx (dVar 0) (dC (.int 0))) (dVar 1))) (dSeq (dRet (dVar 2)) dNext))) dNext) (dSeq (dPutN (dVar 0) (dC (.int 2)) (dBin kAdd (dBin kIx (dVar 0) (dC (.int 2))) (dC (.int 1)))) (dSeq (dSet (dName 3) (dBin kMod (dBin kPow (dBin kAdd (dBin kAdd (dBin kIx (dVar 0) (dC (.int 1))) (dBin kMul (dC (.int 7919)) (dBin kIx (dVar 0) (dC (.int 2))))) (dC (.int c0))) (dC (.int 5))) (dC (.int 2147483647)))) (dSeq (dSet (dName 4) (dBin kMod (dBin kPow (dBin kAdd (dBin kAdd (dBin kDiv (dVar 3) (dC (.int 8))) (dBin kMul (dBin kMul (dC (.int 104729)) (dBin kIx (dVar 0) (dC (.int 2)))) (dBin kIx (dVar 0) (dC (.int 2))))) (dC (.int 11))) (dC (.int 3))) (dC (.int 2147483587)))) (dSeq (dRet (dBin kMod (dBin kAdd (dBin kDiv (dVar 3) (dC (.int 4))) (dBin kMul (dC (.int 536870909)) (dBin kDiv (dVar 4) (dC (.int 4))))) (dVar 1))) dNext)))))
def m_take (c0 : Int) : SpD := mD 5 2 (R_take c0)
theorem cdiv {i j : Int} (h : 0 < j) (h2 : j < 2 ^ 64) : CDivW i j := wide_div (b := 64) h (by omega) (by decide) (by decide)
theorem cmul {i j : Int} (h1 : 0 ≤ i) (h2 : i < 2 ^ 64) (h3 : 0 ≤ j) (h4 : j < 2 ^ 64) : CMulW i j := wide_mul (a := 64) (b := 64) (by omega) (by omega) (by decide) (by decide) (by decide)
theorem take_ok {c0 : Int} {n c : Nat} {st : List Ob} {many : Int} {Q : SV → List Ob → Prop} {E : XK'} (h : Bx st n c) (hc : c + 1 ≤ 1000000) (hm : 0 < many) (hm2 : many < 2 ^ 64)
    (q : ∀ r st', 0 ≤ r → r < many → Stp n st st' (c + 1) → Q (.d (.int r)) st') (hc0 : 0 ≤ c0 ∧ c0 ≤ 1000000 := by decide) : m_take c0 [.obj n, .int many] st Q E := by
  unfold m_take
  have hl := h.lt
  obtain ⟨x, y, z, e, hx, hy, hy2, hz, hz2⟩ := h
  simp only [mD, R_take, dSeq, dIfS, dTest, dBin, dVar, dC, kIx, kGt, kCmpI, kI, dRet, dSet, dName, dPutN, dNext, kMod, kDiv, kAdd, kPow, kMul]
  refine ⟨rfl, ?_⟩
  refine ⟨_, rfl, [.int x, .int y, .int z], .int x, seqObj e, rfl, True.intro, _, rfl, ?_⟩
  by_cases hp : 0 < x
  · rw [if_pos (by simpa using hp)]
    refine ⟨_, rfl, [.int x, .int y, .int z], .int x, seqObj e, rfl, _, rfl, hm, ?_⟩
    refine ⟨_, rfl, [.int x, .int y, .int z], .int x, seqObj e, rfl, _, rfl, cdiv hm hm2, ?_⟩
    refine ⟨_, rfl, n, 0, [.int x, .int y, .int z], 0, rfl, rfl, e, rfl, ?_⟩
    refine ⟨_, rfl, ?_⟩
    refine q _ _ (Int.emod_nonneg _ (by omega)) (Int.emod_lt_of_pos _ hm) ⟨⟨_, rfl⟩, _, y, z, by rw [List.getElem?_set_self hl]; rfl, Int.ediv_nonneg hx (by omega), hy, hy2, hz, by omega⟩
  · rw [if_neg (by simpa using hp)]
    refine ⟨_, rfl, [.int x, .int y, .int z], .int z, seqObj e, rfl, ?_⟩
    refine ⟨_, rfl, n, 2, [.int x, .int y, .int z], 2, rfl, rfl, e, rfl, ?_⟩
    have e1 : (st.set n (.lst ([.int x, .int y, .int z].set 2 (.int (z + 1)))))[n]? = some (.lst [.int x, .int y, .int (z + 1)]) := by rw [List.getElem?_set_self hl]; rfl
    have p1 : 0 ≤ z + 1 := by omega
    have p2 : z + 1 ≤ 1000000 := by omega
    refine ⟨_, rfl, [.int x, .int y, .int (z + 1)], .int y, seqObj e1, rfl, _, rfl, [.int x, .int y, .int (z + 1)], .int (z + 1), seqObj e1, rfl, cmul (by decide) (by decide) p1 (by omega), ⟨by decide, by decide, ?_⟩, by decide, ?_⟩
    · omega
    have q1 := Int.emod_nonneg ((y + 7919 * (z + 1) + c0) ^ (5 : Int).toNat) (b := 2147483647) (by decide)
    have q2 := Int.emod_lt_of_pos ((y + 7919 * (z + 1) + c0) ^ (5 : Int).toNat) (b := 2147483647) (by decide)
    generalize (y + 7919 * (z + 1) + c0) ^ (5 : Int).toNat % 2147483647 = one at q1 q2 ⊢
    have zz : 0 ≤ (z + 1) * (z + 1) := Int.mul_nonneg p1 p1
    have zz2 : (z + 1) * (z + 1) ≤ 1000000 * 1000000 := Int.mul_le_mul p2 p2 p1 (by decide)
    have d1 : 0 ≤ one / 8 := Int.ediv_nonneg q1 (by decide)
    have d2 : one / 8 < 2147483647 := by omega
    have m1 : 104729 * (z + 1) * (z + 1) = 104729 * ((z + 1) * (z + 1)) := Int.mul_assoc _ _ _
    refine ⟨_, rfl, cdiv (by decide) (by decide), _, rfl, [.int x, .int y, .int (z + 1)], .int (z + 1), seqObj e1, rfl, cmul (by decide) (by decide) p1 (by omega), _, rfl, [.int x, .int y, .int (z + 1)], .int (z + 1), seqObj e1, rfl, cmul (by omega) (by omega) p1 (by omega), ⟨by decide, by decide, ?_⟩, by decide, ?_⟩
    · rw [m1]; omega
    have q3 := Int.emod_nonneg ((one / 8 + 104729 * (z + 1) * (z + 1) + 11) ^ (3 : Int).toNat) (b := 2147483587) (by decide)
    have q4 := Int.emod_lt_of_pos ((one / 8 + 104729 * (z + 1) * (z + 1) + 11) ^ (3 : Int).toNat) (b := 2147483587) (by decide)
    generalize (one / 8 + 104729 * (z + 1) * (z + 1) + 11) ^ (3 : Int).toNat % 2147483587 = two at q3 q4 ⊢
    refine ⟨_, rfl, cdiv (by decide) (by decide), _, rfl, cdiv (by decide) (by decide), cmul (by decide) (by decide) (by omega) (by omega), _, rfl, hm, ?_⟩
    exact q _ _ (Int.emod_nonneg _ (by omega)) (Int.emod_lt_of_pos _ hm) ⟨⟨_, rfl⟩, x, y, z + 1, e1, hx, hy, hy2, p1, by omega⟩
end Kt
namespace Kt
open PySem PySem.Spec L2
/-! ### data that repr and == may see -/
mutual
def gdP : PyData → Bool
  | .none => true
  | .bool _ => true
  | .int i => decide (-999999999999 ≤ i) && decide (i ≤ 999999999999)
  | .str x => PyData.strOk x
  | .list xs => gdAll xs
  | .tuple xs => gdAll xs
  | .dict _ => false
def gdAll : List PyData → Bool
  | [] => true
  | x :: xs => gdP x && gdAll xs
end
mutual
theorem gdP_can : ∀ p : PyData, gdP p = true → p.canLay0 = true
  | .none, _ => by simp only [PyData.canLay0]
  | .bool _, _ => by simp only [PyData.canLay0]
  | .int _, _ => by simp only [PyData.canLay0]
  | .str x, h => by simpa only [gdP, PyData.canLay0] using h
  | .list xs, h => by simp only [PyData.canLay0]; exact gdAll_can xs (by simpa only [gdP] using h)
  | .tuple xs, h => by simp only [PyData.canLay0]; exact gdAll_can xs (by simpa only [gdP] using h)
  | .dict _, h => by simp [gdP] at h
theorem gdAll_can : ∀ p : List PyData, gdAll p = true → PyData.canLayAll0 p = true
  | [], _ => by simp only [PyData.canLayAll0]
  | x :: xs, h => by
    simp only [gdAll, Bool.and_eq_true] at h
    simp only [PyData.canLayAll0, gdP_can x h.1, gdAll_can xs h.2, Bool.and_self]
end
theorem log_small {i : Int} (h : -999999999999 ≤ i ∧ i ≤ 999999999999) : i.natAbs.log2 < 1920 := by
  have h2 : i.natAbs < 2 ^ 64 := by omega
  have := PySem.Flt.log2_lt_of (by decide : 0 < 64) h2
  omega
mutual
theorem gdP_show : ∀ p : PyData, gdP p = true → p.showable = true
  | .none, _ => by simp only [PyData.showable]
  | .bool _, _ => by simp only [PyData.showable]
  | .int i, h => by
    simp only [gdP, Bool.and_eq_true, decide_eq_true_eq] at h
    simp only [PyData.showable, decide_eq_true_eq]
    exact log_small h
  | .str x, h => by simp only [PyData.showable]
  | .list xs, h => by simp only [PyData.showable]; exact gdAll_show xs (by simpa only [gdP] using h)
  | .tuple xs, h => by simp only [PyData.showable]; exact gdAll_show xs (by simpa only [gdP] using h)
  | .dict _, h => by simp [gdP] at h
theorem gdAll_show : ∀ p : List PyData, gdAll p = true → PyData.showableAll p = true
  | [], _ => by simp only [PyData.showableAll]
  | x :: xs, h => by
    simp only [gdAll, Bool.and_eq_true] at h
    simp only [PyData.showableAll, gdP_show x h.1, gdAll_show xs h.2, Bool.and_self]
end
mutual
theorem gdP_short : ∀ p : PyData, gdP p = true → p.intsShort 13 = true
  | .none, _ => by simp only [PyData.intsShort]
  | .bool _, _ => by simp only [PyData.intsShort]
  | .int i, h => by
    simp only [gdP, Bool.and_eq_true, decide_eq_true_eq] at h
    have := PyProof.Rows.intsShortAll_ints2 [i] (by simpa using h)
    simp only [List.map_cons, List.map_nil, PyData.intsShortAll, Bool.and_true] at this
    exact this
  | .str x, h => by simp only [PyData.intsShort]
  | .list xs, h => by simp only [PyData.intsShort]; exact gdAll_short xs (by simpa only [gdP] using h)
  | .tuple xs, h => by simp only [PyData.intsShort]; exact gdAll_short xs (by simpa only [gdP] using h)
  | .dict _, h => by simp only [PyData.intsShort]
theorem gdAll_short : ∀ p : List PyData, gdAll p = true → PyData.intsShortAll 13 p = true
  | [], _ => by simp only [PyData.intsShortAll]
  | x :: xs, h => by
    simp only [gdAll, Bool.and_eq_true] at h
    simp only [PyData.intsShortAll, gdP_short x h.1, gdAll_short xs h.2, Bool.and_self]
end
structure Gd (p : PyData) : Prop where
  g : gdP p = true
  d : p.depth ≤ 64
  w : p.weight ≤ 1048576
theorem Gd.lay {p : PyData} (h : Gd p) : p.layable0 = true := by
  have e : (2 : Nat) ^ 20 = 1048576 := by decide
  show (PyData.canLay0 p && decide (PyData.depth p ≤ 64) && decide (PyData.weight p ≤ 2 ^ 20)) = true
  rw [e, gdP_can p h.g, decide_eq_true h.d, decide_eq_true h.w]; rfl
theorem Gd.shaped {p : PyData} (h : Gd p) : SeqAt.shaped p = true := SeqAt.shaped_of_layable h.lay
theorem Gd.len {p : PyData} (h : Gd p) : p.shown.length ≤ sizeLine := by
  have := PyProof.Rows.shown_le13 h.lay (gdP_short p h.g)
  rw [sizeLine_eq]; omega
theorem Gd.eqv {p : PyData} (h : Gd p) : PyData.eqv p p = true := PySem.SeqAt.eqv_refl p (gdP_can p h.g)
/-- data that repr may see -/
structure Rp (p : PyData) : Prop where
  s : p.showable = true
  l : p.shown.length ≤ 16777216
  d : p.depth ≤ 64
theorem Gd.rp {p : PyData} (h : Gd p) : Rp p := ⟨gdP_show p h.g, by have := h.len; rw [sizeLine_eq] at this; exact this, h.d⟩
/-- two equal data with equal repr -/
def R_even : DS := (dSeq (dRet (dAndV (dBin kEq (dVar 0) (dVar 1)) (dBin kEq (dB kRepr (dCons (dVar 0) dNil)) (dB kRepr (dCons (dVar 1) dNil))))) dNext)
theorem toPy_sc {st : List Ob} {a b : D} {p : PyData} {c : Bool} (h1 : toPy st a = some p) (h2 : toPy st b = some p) (h : scEq a b = some c) : c = true := by
  unfold toPy at h1 h2
  cases a <;> cases b <;> first
    | (cases h; done)
    | (simp only [scEq, Option.some.injEq] at h
       simp only [toPyF, Option.some.injEq] at h1 h2
       subst h
       rw [← h2] at h1
       first
         | (cases h1; done)
         | (cases h1; simp)
         | rfl)
    | (simp only [scEq, Option.some.injEq] at h; exact h.symm)
theorem kEq_same {st : List Ob} {a b : D} {p : PyData} {K : DK} (g : Gd p) (h1 : toPy st a = some p) (h2 : toPy st b = some p) (k : K (.bl true) st) : kEq a b st K := by
  unfold kEq
  cases e : scEq a b with
  | some c =>
    have := toPy_sc h1 h2 e
    subst this
    exact k
  | none => exact ⟨p, p, h1, h2, g.shaped, g.shaped, by rw [g.eqv]; exact k⟩
theorem kRepr_rp {st : List Ob} {a : D} {p : PyData} {K : DK} (g : Rp p) (h : toPy st a = some p) (k : K (.str p.shown) st) : kRepr [a] st K := ⟨a, p, rfl, h, g.s, by rw [sizeLine_eq]; exact g.l, g.d, k⟩
theorem kRepr_ok {st : List Ob} {a : D} {p : PyData} {K : DK} (g : Gd p) (h : toPy st a = some p) (k : K (.str p.shown) st) : kRepr [a] st K := kRepr_rp g.rp h k
theorem even_ok {st : List Ob} {a b : D} {p : PyData} {Q : SV → List Ob → Prop} {E : XK'} (g : Gd p) (h1 : toPy st a = some p) (h2 : toPy st b = some p) (q : Q (.d (.bl true)) st) : mD 2 2 R_even [a, b] st Q E := by
  simp only [mD, R_even, dSeq, dRet, dAndV, dBin, dB, dCons, dNil, dVar, dNext]
  refine ⟨rfl, a, rfl, b, rfl, ?_⟩
  refine kEq_same g h1 h2 ⟨true, rfl, ?_⟩
  rw [if_pos rfl]
  refine ⟨a, rfl, kRepr_ok g h1 ⟨b, rfl, kRepr_ok g h2 ?_⟩⟩
  unfold kEq
  simpa [scEq] using q
end Kt
namespace Kt
open PySem PySem.Spec L2
def R_cell (a b : Int) : DS := (dSeq (dIfS (dTest (dBin kLt (dVar 1) (dB kLen (dCons (dVar 0) dNil)))) (dSeq (dRet (dBin kIx (dVar 0) (dVar 1))) dNext) dNext) (dSeq (dRet (dBin kAdd (dBin kMul (dC (.int a)) (dVar 1)) (dC (.int b)))) dNext))
def R_box : DS := (dSeq (dRet (dLstN (dCons (dB kMax2 (dCons (dC (.int 0)) (dCons (dBin kSub (dVar 0) (dBin kPow (dC (.int 10)) (dC (.int 18)))) dNil))) (dCons (dBin kMod (dVar 0) (dC (.int 2147483629))) (dCons (dC (.int 0)) dNil))))) dNext)
def R_sign (c0 : Int) : DS := (dSeq (dRet (dBin kIx (dVar 1) (dCall (m_take c0) (dCons (dVar 0) (dCons (dB kLen (dCons (dVar 1) dNil)) dNil))))) dNext)
def R_very : DS := (dSeq (dIfS (dTest (dIsi "list" (dVar 1))) (dSeq (dDrop (dApN (dVar 1) (dC (.str "more")))) dNext) dNext) (dSeq (dIfS (dTest (dIsi "dict" (dVar 1))) (dSeq (dDPutN (dVar 1) (dC (.str "more")) (dC (.int 1))) dNext) dNext) (dSeq (dRet (dBin kEq (dB kRepr (dCons (dVar 0) dNil)) (dB kRepr (dCons (dVar 1) dNil)))) dNext)))
section
variable {st : List Ob} {Q : SV → List Ob → Prop} {E : XK'}
theorem ix_seq_of {st : List Ob} {x : D} {i : Int} {K : DK} {ds : List D} {e : D} (hx : isStr x = false) (h1 : asSeq st x = some ds) (h2 : atI ds i = some e) (k : K e st) : kIx x (.int i) st K := by
  unfold kIx
  cases x <;> first | (cases hx; done) | exact ⟨ds, e, h1, h2, k⟩
theorem len_seq_of {st : List Ob} {x : D} {K : DK} {ds : List D} (hx : isStr x = false) (h1 : asSeq st x = some ds) (k : K (.int ds.length) st) : kLen [x] st K := by
  unfold kLen
  cases x <;> first | (cases hx; done) | exact ⟨ds, h1, k⟩
theorem atN {α : Type} {xs : List α} {i : Nat} {v : α} (h : xs[i]? = some v) : atI xs (i : Int) = some v := by
  have hl := (List.getElem?_eq_some_iff.mp h).1
  unfold atI ixN
  rw [if_pos (by omega), if_pos (by omega)]
  simpa using h
theorem atI_int {α : Type} {xs : List α} {i : Int} (h0 : 0 ≤ i) (h1 : i < xs.length) : ∃ v, atI xs i = some v ∧ v ∈ xs := by
  have hl : i.toNat < xs.length := by omega
  refine ⟨xs[i.toNat], ?_, List.getElem_mem hl⟩
  have e : ((i.toNat : Nat) : Int) = i := by omega
  have := atN (xs := xs) (i := i.toNat) (v := xs[i.toNat]) (by simp [hl])
  rw [e] at this
  exact this
theorem cell_ok {a b : Int} {ns : List Int} {k : Int} (h0 : 0 ≤ k) (hk : k ≤ 1000000) (q : ∀ z, Q (.d (.int z)) st) (ha : 0 ≤ a ∧ a < 2 ^ 64 := by decide) : mD 2 2 (R_cell a b) [.frl (ns.map D.int), .int k] st Q E := by
  simp only [mD, R_cell, dSeq, dIfS, dTest, dBin, dB, dCons, dNil, dVar, dC, dRet, dNext]
  refine ⟨rfl, .int k, rfl, .frl (ns.map D.int), rfl, len_seq_of rfl rfl ?_⟩
  refine ⟨_, rfl, ?_⟩
  by_cases h : k < ((ns.map D.int).length : Int)
  · rw [if_pos (by simpa using h)]
    obtain ⟨v, h1, h2⟩ := atI_int h0 h
    obtain ⟨z, _, rfl⟩ := List.mem_map.mp h2
    exact ⟨_, rfl, .int k, rfl, ix_seq_of rfl rfl h1 (q z)⟩
  · rw [if_neg (by simpa using h)]
    exact ⟨.int k, rfl, cmul ha.1 ha.2 h0 (by omega), q _⟩
theorem box_ok {z : Int} (q : ∀ o, Bx (st ++ [o]) st.length 0 → Q (.d (.obj st.length)) (st ++ [o])) : mD 1 1 R_box [.int z] st Q E := by
  simp only [mD, R_box, dSeq, dBin, dB, dCons, dNil, dVar, dC, dRet, dNext, dLstN]
  refine ⟨rfl, .int z, rfl, ⟨by decide, by decide, by decide⟩, True.intro, .int z, rfl, (by show (0 : Int) < 2147483629; decide), ?_, ?_⟩
  · show 3 ≤ sizeLine
    rw [sizeLine_eq]; decide
  · refine q _ ⟨_, _, 0, by rw [List.getElem?_append_right (Nat.le_refl _), Nat.sub_self]; rfl, ?_, Int.emod_nonneg _ (by decide), Int.emod_lt_of_pos _ (by decide), by decide, by decide⟩
    show 0 ≤ (if z - 10 ^ Int.toNat 18 > 0 then z - 10 ^ Int.toNat 18 else 0)
    split <;> omega
theorem sign_ok {c0 : Int} {n c : Nat} {signs : Str} (h : Bx st n c) (hc : c + 1 ≤ 1000000) (h0 : 0 < signs.length) (h1 : signs.length ≤ 1000) (q : ∀ ch st', ch ∈ signs.cps.toList → Stp n st st' (c + 1) → Q (.d (.str ⟨#[ch]⟩)) st') (hc0 : 0 ≤ c0 ∧ c0 ≤ 1000000 := by decide) : mD 2 2 (R_sign c0) [.obj n, .str signs] st Q E := by
  simp only [mD, R_sign, dSeq, dBin, dB, dCons, dNil, dVar, dC, dRet, dNext, dCall]
  have hz : signs.length ≤ sizeLine := by rw [sizeLine_eq]; omega
  refine ⟨rfl, .str signs, rfl, .obj n, rfl, .str signs, rfl, hz, ?_⟩
  refine take_ok h hc (by omega) (by omega) (fun r st' r0 r1 hs => ⟨rfl, hz, ?_⟩) hc0
  have hl : (signs.length : Int) = (signs.cps.toList.length : Nat) := by
    show ((signs.cps.size : Nat) : Int) = _
    simp
  obtain ⟨v, e1, e2⟩ := atI_int (xs := signs.cps.toList) r0 (by rw [← hl]; exact r1)
  exact ⟨v, e1, q v st' e2 hs⟩
/-- found and thing read as the same -/
theorem very_end {a b : D} {p : PyData} {K : DK} (g : Rp p) (h1 : toPy st a = some p) (h2 : toPy st b = some p) (k : K (.bl true) st) : kRepr [a] st (fun x st' => kRepr [b] st' fun y st'' => kEq x y st'' K) := by
  refine kRepr_rp g h1 (kRepr_rp g h2 ?_)
  unfold kEq
  simpa [scEq] using k
theorem very_flat {a b : D} {t : String} {p : PyData} (ht : tyD st b = some t) (hl : isB "list" t = false) (hd : isB "dict" t = false) (g : Rp p) (h1 : toPy st a = some p) (h2 : toPy st b = some p) (q : Q (.d (.bl true)) st) : mD 2 2 R_very [a, b] st Q E := by
  simp only [mD, R_very, dSeq, dIfS, dTest, dIsi, dBin, dB, dCons, dNil, dVar, dC, dRet, dNext]
  refine ⟨rfl, b, rfl, t, ht, _, rfl, ?_⟩
  rw [if_neg (by rw [hl]; exact Bool.false_ne_true)]
  refine ⟨b, rfl, t, ht, _, rfl, ?_⟩
  rw [if_neg (by rw [hd]; exact Bool.false_ne_true)]
  refine ⟨a, rfl, kRepr_rp g h1 ⟨b, rfl, kRepr_rp g h2 ?_⟩⟩
  unfold kEq
  simpa [scEq] using q
theorem very_lst {n : Nat} {ds : List D} {p : PyData} (e : st[n]? = some (.lst ds)) (hz : ds.length < 1000) (g : Rp p) (h : toPy (st.set n (.lst (ds ++ [.str "more"]))) (.obj n) = some p) (q : Q (.d (.bl true)) (st.set n (.lst (ds ++ [.str "more"])))) : mD 2 2 R_very [.obj n, .obj n] st Q E := by
  have hl := (List.getElem?_eq_some_iff.mp e).1
  simp only [mD, R_very, dSeq, dIfS, dTest, dIsi, dBin, dB, dCons, dNil, dVar, dC, dRet, dNext, dDrop, dApN]
  refine ⟨rfl, .obj n, rfl, "list", by simp only [tyD, e], _, rfl, ?_⟩
  rw [if_pos (by decide)]
  refine ⟨.obj n, rfl, ⟨n, ds, rfl, e⟩, n, ds, rfl, e, by rw [sizeLine_eq]; omega, ?_⟩
  have e' : (st.set n (.lst (ds ++ [.str "more"])))[n]? = some (.lst (ds ++ [.str "more"])) := List.getElem?_set_self hl
  refine ⟨.obj n, rfl, "list", by simp only [tyD, e'], _, rfl, ?_⟩
  rw [if_neg (by decide)]
  refine ⟨.obj n, rfl, kRepr_rp g h ⟨.obj n, rfl, kRepr_rp g h ?_⟩⟩
  unfold kEq
  simpa [scEq] using q
end
end Kt
namespace Kt
open PySem PySem.Spec L2
theorem comp_fm {g : DG} {tt : DT} {te : DE} {sl0 : List (Option SV)} {wt : List Ob → Prop} {st : List Ob} (p : D → Bool) (f : D → D) (hw : wt st) :
    ∀ (ds acc : List D) (Q : List D → List Ob → Prop), acc.length + ds.length ≤ sizeLine →
    (∀ d ∈ ds, ∀ (K : D → List Ob → Prop) (K0 : List Ob → Prop), (p d = true → K (f d) st) → (p d = false → K0 st) → g d ⟨sl0, st⟩ fun s2 => tt s2 (fun b st2 => if b = true then te ⟨s2.sl, st2⟩ K (fun _ _ => False) else K0 st2) (fun _ _ => False)) →
    Q (acc ++ (ds.filter p).map f) st → dComp g tt te sl0 wt ds acc st Q
  | [], acc, Q, _, _, q => ⟨hw, by simpa using q⟩
  | d :: ds, acc, Q, hl, hs, q => by
    refine ⟨hw, hs d (List.mem_cons_self) (fun y st3 => acc.length < sizeLine ∧ dComp g tt te sl0 wt ds (acc ++ [y]) st3 Q) (fun st2 => dComp g tt te sl0 wt ds acc st2 Q) (fun h => ?_) (fun h => ?_)⟩
    · rw [List.length_cons] at hl
      refine ⟨by omega, comp_fm p f hw ds _ Q (by rw [List.length_append, List.length_singleton]; omega) (fun d hd => hs d (List.mem_cons_of_mem _ hd)) ?_⟩
      rw [List.filter_cons_of_pos h, List.map_cons] at q
      rw [List.append_assoc]
      exact q
    · rw [List.length_cons] at hl
      refine comp_fm p f hw ds _ Q (by omega) (fun d hd => hs d (List.mem_cons_of_mem _ hd)) ?_
      rw [List.filter_cons_of_neg (by rw [h]; exact Bool.false_ne_true)] at q
      exact q
theorem comp_map {g : DG} {te : DE} {sl0 : List (Option SV)} {wt : List Ob → Prop} {st : List Ob} (f : D → D) (hw : wt st) (ds : List D) (Q : List D → List Ob → Prop) (hl : ds.length ≤ sizeLine)
    (hs : ∀ d ∈ ds, ∀ (K : D → List Ob → Prop), K (f d) st → g d ⟨sl0, st⟩ fun s2 => te ⟨s2.sl, s2.st⟩ K (fun _ _ => False)) (q : Q (ds.map f) st) : dComp g dYes te sl0 wt ds [] st Q := by
  refine comp_fm (fun _ => true) f hw ds [] Q (by simpa using hl) (fun d hd K K0 h1 h2 => ?_) (by rw [List.nil_append, List.filter_eq_self.mpr (by simp)]; exact q)
  have := hs d hd K (h1 rfl)
  simpa [dYes] using this
theorem blsOf_map : ∀ (bs : List Bool), blsOf (bs.map D.bl) = some bs
  | [] => rfl
  | b :: bs => by
    rw [List.map_cons]
    show (blsOf (bs.map D.bl)).map (b :: ·) = _
    rw [blsOf_map bs]; rfl
theorem strsOf_map : ∀ (bs : List Str), strsOf (bs.map D.str) = some bs
  | [] => rfl
  | b :: bs => by
    rw [List.map_cons]
    show (strsOf (bs.map D.str)).map (b :: ·) = _
    rw [strsOf_map bs]; rfl
/-! ### numbers in texts -/
def figs : List Nat := ("0123456789" : Str).cps.toList
def isI : D → Int → Int → Bool
  | .int i, lo, hi => decide (lo ≤ i) && decide (i ≤ hi)
  | _, _, _ => false
def R_isint : DS := (dSeq (dRet (dAndV (dIsi "int" (dVar 0)) (dAndV (dNotV (dIsi "bool" (dVar 0))) (dChain kLe kLe (dVar 1) (dVar 0) (dVar 2))))) dNext)
def m_isint : SpD := mD 3 3 R_isint
section
variable {st : List Ob} {Q : SV → List Ob → Prop} {E : XK'}
theorem tyD_int {d : D} (h : tyD st d = some "int") : ∃ i, d = .int i := by
  cases d <;> simp [tyD] at h
  · exact ⟨_, rfl⟩
  · split at h <;> simp at h
theorem isint_ok {d : D} {lo hi : Int} {t : String} (h : tyD st d = some t) (q : Q (.d (.bl (isI d lo hi))) st) : m_isint [d, .int lo, .int hi] st Q E := by
  simp only [m_isint, R_isint, mD, dSeq, dRet, dAndV, dIsi, dVar, dNotV, dChain, kLe, kCmpI, kI]
  refine ⟨rfl, d, rfl, t, h, _, rfl, ?_⟩
  have hne : ∀ i, d = .int i → t = "int" := fun i e => by subst e; simp [tyD] at h; exact h.symm
  have out : (∀ i, d ≠ .int i) → isI d lo hi = false := fun n => by
    cases d <;> first | rfl | exact absurd rfl (n _)
  by_cases hi1 : isB "int" t = true
  · rw [if_pos hi1]
    refine ⟨d, rfl, t, h, _, rfl, _, rfl, ?_⟩
    by_cases hb : isB "bool" t = true
    · rw [if_neg (by simp [hb])]
      rw [out fun i e => by rw [hne i e] at hb; simp [isB] at hb] at q
      exact q
    · rw [if_pos (by simpa using hb)]
      have ht : t = "int" := by
        simp [isB] at hi1 hb
        rcases hi1 with r | r
        · exact r.symm ▸ rfl
        · exact absurd r hb
      subst ht
      obtain ⟨i, rfl⟩ := tyD_int h
      refine ⟨_, rfl, _, rfl, True.intro, _, rfl, ?_⟩
      by_cases hl : lo ≤ i
      · rw [if_pos (by simpa using hl)]
        refine ⟨_, rfl, True.intro, ?_⟩
        simpa [isI, hl] using q
      · rw [if_neg (by simpa using hl)]
        simpa [isI, hl] using q
  · rw [if_neg hi1]
    rw [out fun i e => by rw [hne i e] at hi1; exact hi1 (by decide)] at q
    exact q
end
end Kt
namespace Kt
open PySem PySem.Spec L2
open NumText (digitsVal AllDigits)
theorem numL_all : ∀ (n : Nat) (cs : List Nat), cs.length = n + 1 → AllDigits cs → (cs.length = 1 ∨ ∃ c r, cs = c :: r ∧ c ≠ 48) → TL.numL (digitsVal cs) = cs := by
  intro n
  induction n with
  | zero =>
    intro cs hl ha _
    match cs, hl with
    | [c], _ =>
      have h := ha c (by simp)
      have e : digitsVal [c] = c - 48 := by show 0 * 10 + (c - 48) = _; omega
      rw [e, TL.numL_lt (by omega)]
      congr 1; omega
  | succ n ih =>
    intro cs hl ha hh
    have hne : cs ≠ [] := fun e => by rw [e] at hl; simp at hl
    obtain ⟨r, c, rfl⟩ : ∃ r c, cs = r ++ [c] := ⟨cs.dropLast, cs.getLast hne, (List.dropLast_concat_getLast hne).symm⟩
    have hr : r.length = n + 1 := by rw [List.length_append, List.length_singleton] at hl; omega
    have hc := ha c (by simp)
    have had : AllDigits r := fun d hd => ha d (by simp [hd])
    obtain ⟨c0, r0, e0, h0⟩ : ∃ c0 r0, r = c0 :: r0 ∧ c0 ≠ 48 := by
      rcases hh with h | ⟨c1, r1, e1, h1⟩
      · rw [List.length_append, List.length_singleton] at h; omega
      · cases r with
        | nil => simp at hr
        | cons a r =>
          rw [List.cons_append] at e1
          exact ⟨a, r, rfl, by rw [(List.cons.inj e1).1]; exact h1⟩
    have hi := ih r hr had (.inr ⟨c0, r0, e0, h0⟩)
    have hp : 0 < digitsVal r := by
      rw [e0]
      have := had c0 (by rw [e0]; simp)
      exact NumText.digitsVal_pos (by omega)
    rw [NumText.digitsVal_snoc, TL.numL_step (by omega)]
    have q1 : (digitsVal r * 10 + (c - 48)) / 10 = digitsVal r := by omega
    have q2 : (digitsVal r * 10 + (c - 48)) % 10 = c - 48 := by omega
    rw [q1, q2, hi]
    congr 2; omega
theorem numL_head : ∀ (n : Nat) (r : List Nat), TL.numL n = 48 :: r → n = 0 := by
  intro n
  induction n using Nat.strongRecOn with
  | _ n ih =>
    intro r e
    by_cases h : n < 10
    · rw [TL.numL_lt h] at e
      have := (List.cons.inj e).1
      omega
    · rw [TL.numL_step (by omega)] at e
      cases e2 : TL.numL (n / 10) with
      | nil => exact absurd e2 (TL.numL_ne _)
      | cons a t =>
        rw [e2, List.cons_append] at e
        have ea := (List.cons.inj e).1
        subst ea
        have := ih (n / 10) (by omega) t e2
        omega
theorem fig_digit {c : Nat} : c ∈ figs ↔ (48 ≤ c ∧ c ≤ 57) := by
  have e : figs = [48, 49, 50, 51, 52, 53, 54, 55, 56, 57] := by decide +kernel
  rw [e]
  simp only [List.mem_cons, List.not_mem_nil, or_false]
  omega
theorem str_ext {x y : Str} (h : x.cps.toList = y.cps.toList) : x = y := TL.ext_tl h
/-- a text of figures alone: its number, and whether the number is written so -/
theorem num_text {x : Str} (hl : 1 ≤ x.length) (h5 : x.length ≤ 640) (ha : x.cps.toList.all (fun c => decide (c ∈ figs)) = true) :
    ∃ n : Nat, PySem.intText? x = some (n : Int) ∧ n < 10 ^ x.length ∧ (decide (Str.ofString (toString ((n : Nat) : Int)) = x) = (decide (x = "0") || decide (x.cps.toList.head? ≠ some 48))) := by
  have len : x.length = x.cps.toList.length := by show x.cps.size = _; simp
  have ad : AllDigits x.cps.toList := fun c hc => fig_digit.mp (of_decide_eq_true (List.all_eq_true.mp ha c hc))
  have hne : x.cps.toList ≠ [] := fun e => by rw [e] at len; simp at len; omega
  have e48 : ("0" : Str).cps.toList = [48] := by decide +kernel
  refine ⟨digitsVal x.cps.toList, intText_digits ad hne (by omega), ?_, ?_⟩
  · have key : ∀ (cs : List Nat), AllDigits cs → ∀ r : List Nat, cs.reverse = r → digitsVal cs < 10 ^ cs.length := by
      intro cs had r
      induction r generalizing cs with
      | nil =>
        intro e
        have e2 : cs = [] := by simpa using e
        rw [e2]; decide
      | cons c r ih =>
        intro e
        have : cs = r.reverse ++ [c] := by rw [← List.reverse_reverse cs, e, List.reverse_cons]
        subst this
        have h1 := ih r.reverse (fun d hd => had d (by simp only [List.mem_append]; exact .inl hd)) (List.reverse_reverse r)
        have h2 := had c (by simp)
        rw [NumText.digitsVal_snoc, List.length_append, List.length_singleton, Nat.pow_succ]
        omega
    rw [len]
    exact key _ ad _ rfl
  · have tl : (Str.ofString (toString ((digitsVal x.cps.toList : Nat) : Int))).cps.toList = TL.numL (digitsVal x.cps.toList) := TL.tl_num _
    by_cases h0 : x = "0"
    · subst h0
      have e : (Str.ofString (toString ((digitsVal ("0" : Str).cps.toList : Nat) : Int))) = "0" := str_ext (by rw [tl, e48]; decide +kernel)
      rw [e]
      simp
    · by_cases hd : x.cps.toList.head? = some 48
      · have hf : ¬ Str.ofString (toString ((digitsVal x.cps.toList : Nat) : Int)) = x := fun e => by
          rw [e] at tl
          cases ex : x.cps.toList with
          | nil => exact hne ex
          | cons c r =>
            rw [ex] at hd tl
            have : c = 48 := by simpa using hd
            subst this
            have := numL_head _ r tl.symm
            rw [this, TL.numL_lt (by decide)] at tl
            exact h0 (str_ext (by rw [ex, tl, e48]))
        rw [decide_eq_false hf, decide_eq_false h0, hd]; rfl
      · have ht : Str.ofString (toString ((digitsVal x.cps.toList : Nat) : Int)) = x := str_ext (by
          rw [tl]
          cases ex : x.cps.toList with
          | nil => exact absurd ex hne
          | cons c r =>
            rw [ex] at ad
            refine numL_all r.length _ rfl ad (.inr ⟨c, r, rfl, fun z => ?_⟩)
            rw [ex, z] at hd
            exact hd rfl)
        rw [decide_eq_true ht, decide_eq_true hd, Bool.or_true]
theorem toPyA_strs (g : Nat → Option PyData) : ∀ ys : List Str, toPyA g (ys.map D.str) = some (ys.map PyData.str)
  | [] => rfl
  | y :: ys => by
    rw [List.map_cons, List.map_cons, toPyA, toPyA_strs g ys]
    simp [toPyF]
theorem gdAll_strs : ∀ ys : List Str, (∀ y ∈ ys, PyData.strOk y = true) → gdAll (ys.map PyData.str) = true
  | [], _ => rfl
  | y :: ys, h => by
    rw [List.map_cons]
    simp only [gdAll, gdP, h y (by simp), gdAll_strs ys fun z hz => h z (by simp [hz]), Bool.and_self]
end Kt
namespace Kt
open PySem PySem.Spec L2
/-! ### small texts -/
def Smt (k : Nat) (y : Str) : Prop := y.length ≤ k ∧ ∀ c ∈ y.cps.toList, c < 256
theorem Smt.mono {j k : Nat} {y : Str} (h : Smt j y) (hk : j ≤ k) : Smt k y := ⟨Nat.le_trans h.1 hk, h.2⟩
theorem Smt.app {j k : Nat} {x y : Str} (h : Smt j x) (h2 : Smt k y) : Smt (j + k) (x ++ y) := by
  have e : (x ++ y).cps.toList = x.cps.toList ++ y.cps.toList := TL.tl_append x y
  have l : (x ++ y).length = x.length + y.length := by
    rw [TL.len_tl, TL.len_tl x, TL.len_tl y]
    show (x ++ y).cps.toList.length = _
    rw [e, List.length_append]
    first | done | rfl
  refine ⟨by rw [l]; have := h.1; have := h2.1; omega, fun c hc => ?_⟩
  rw [e] at hc
  rcases List.mem_append.mp hc with hc | hc
  · exact h.2 c hc
  · exact h2.2 c hc
theorem Smt.cut {k : Nat} {y : Str} (h : Smt k y) (lo hi : Option Int) : Smt k (cutS y lo hi) := by
  refine ⟨Nat.le_trans (cutS_length y lo hi) h.1, fun c hc => ?_⟩
  have hc : c ∈ ((y.cps.toList.drop (HT.sIx y.length 0 lo)).take (HT.sIx y.length y.length hi - HT.sIx y.length 0 lo)) := by simpa [cutS] using hc
  exact h.2 c (List.mem_of_mem_drop (List.mem_of_mem_take hc))
theorem Smt.one {c : Nat} (h : c < 256) : Smt 1 ⟨#[c]⟩ := ⟨Nat.le_refl _, fun d hd => by
  have : d = c := by simpa using hd
  omega⟩
theorem Smt.strOk {k : Nat} {y : Str} (h : Smt k y) : PyData.strOk y = true := by
  show y.cps.all (· < 0x110000) = true
  rw [← Array.all_toList]
  exact List.all_eq_true.mpr fun c hc => by
    have := h.2 c hc
    simp; omega
theorem Smt.join {k : Nat} : ∀ (ys : List Str), (∀ y ∈ ys, Smt k y) → Smt (k * ys.length) (Txt.join "" ys) := by
  intro ys
  rw [TL.join_eq]
  intro h
  have e : ∀ ys : List Str, TL.joinL [] (ys.map TL.tl) = (ys.map TL.tl).flatten := by
    intro ys
    induction ys with
    | nil => rfl
    | cons y r ih =>
      cases r with
      | nil => simp [TL.joinL]
      | cons z r =>
        rw [List.map_cons, List.map_cons, TL.joinL, List.nil_append]
        rw [List.map_cons] at ih
        rw [ih, List.flatten_cons, List.flatten_cons, List.flatten_cons]
  have t : (Str.join "" ys).cps.toList = (ys.map TL.tl).flatten := by
    have := TL.tl_join "" ys
    have e0 : TL.tl "" = [] := by decide +kernel
    rw [e0, e ys] at this
    exact this
  have hl : ∀ ys : List Str, (∀ y ∈ ys, Smt k y) → ((ys.map TL.tl).flatten).length ≤ k * ys.length ∧ ∀ c ∈ (ys.map TL.tl).flatten, c < 256 := by
    intro ys
    induction ys with
    | nil => intro _; exact ⟨by simp, fun c hc => by simp at hc⟩
    | cons y r ih =>
      intro h
      obtain ⟨i1, i2⟩ := ih fun z hz => h z (by simp [hz])
      obtain ⟨a1, a2⟩ := h y (by simp)
      rw [TL.len_tl] at a1
      rw [List.map_cons, List.flatten_cons, List.length_append, List.length_cons, Nat.mul_add]
      refine ⟨by omega, fun c hc => ?_⟩
      rcases List.mem_append.mp hc with hc | hc
      · exact a2 c hc
      · exact i2 c hc
  obtain ⟨h1, h2⟩ := hl ys h
  refine ⟨?_, fun c hc => ?_⟩
  · rw [TL.len_tl]
    show (Str.join "" ys).cps.toList.length ≤ _
    rw [t]; exact h1
  · rw [t] at hc
    exact h2 c hc
theorem Smt.num {k n : Nat} (hk : 0 < k) (h : n < 10 ^ k) : Smt k (Str.ofString (toString ((n : Nat) : Int))) := by
  have e : (Str.ofString (toString ((n : Nat) : Int))).cps.toList = TL.numL n := TL.tl_num n
  refine ⟨?_, fun c hc => ?_⟩
  · rw [TL.len_tl]
    show (Str.ofString (toString ((n : Nat) : Int))).cps.toList.length ≤ k
    rw [e]
    exact TL.numL_len hk h
  · rw [e] at hc
    have := TL.numL_digits n c hc
    omega
theorem sm_lit {k : Nat} {y : Str} (h : (decide (y.length ≤ k) && y.cps.all (· < 256)) = true) : Smt k y := by
  rw [Bool.and_eq_true, decide_eq_true_eq] at h
  refine ⟨h.1, fun c hc => ?_⟩
  have := h.2
  rw [← Array.all_toList] at this
  simpa using List.all_eq_true.mp this c hc
theorem sum_le {k : Nat} : ∀ (ys : List Str), (∀ y ∈ ys, y.length ≤ k) → (ys.map (·.length)).sum ≤ k * ys.length
  | [], _ => by simp
  | y :: ys, h => by
    have i := sum_le ys fun z hz => h z (by simp [hz])
    have a := h y (by simp)
    rw [List.map_cons, List.sum_cons, List.length_cons, Nat.mul_add]
    omega
end Kt
namespace Kt
open PySem PySem.Spec L2
section
variable {st : List Ob} {Q : SV → List Ob → Prop} {E : XK'}
theorem very_dct {n : Nat} (e : st[n]? = some (.dct [])) (q : Q (.d (.bl true)) (st.set n (.dct [(.inr "more", .int 1)]))) : mD 2 2 R_very [.obj n, .obj n] st Q E := by
  have hl := (List.getElem?_eq_some_iff.mp e).1
  simp only [mD, R_very, dSeq, dIfS, dTest, dIsi, dBin, dB, dCons, dNil, dVar, dC, dRet, dNext, dDPutN]
  refine ⟨rfl, .obj n, rfl, "dict", by simp only [tyD, e], _, rfl, ?_⟩
  rw [if_neg (by decide)]
  refine ⟨.obj n, rfl, "dict", by simp only [tyD, e], _, rfl, ?_⟩
  rw [if_pos (by decide)]
  refine ⟨.obj n, rfl, n, [], .inr "more", rfl, e, rfl, by rw [sizeLine_eq]; decide, ?_⟩
  have e' : (st.set n (.dct (putD [] (.inr "more") (.int 1))))[n]? = some (.dct [(.inr "more", .int 1)]) := List.getElem?_set_self hl
  have h : toPy (st.set n (.dct (putD [] (.inr "more") (.int 1)))) (.obj n) = some (.dict [(.str "more", .int 1)]) := by
    unfold toPy
    rw [toPyF, obPy, e']
    rfl
  have r : ∀ {K : DK}, K (.str (PyData.dict [(.str "more", .int 1)]).shown) (st.set n (.dct (putD [] (.inr "more") (.int 1)))) → kRepr [.obj n] (st.set n (.dct (putD [] (.inr "more") (.int 1)))) K := fun k =>
    ⟨_, _, rfl, h, by decide +kernel, by rw [sizeLine_eq]; decide +kernel, by decide +kernel, k⟩
  refine ⟨.obj n, rfl, r ⟨.obj n, rfl, r ?_⟩⟩
  unfold kEq
  simp only [scEq, decide_true]
  exact q
theorem kmin {i j : Int} {K : DK} (k : ∀ m, m ≤ i → m ≤ j → (m = i ∨ m = j) → K (.int m) st) : kMin2 [.int i, .int j] st K := by
  show K (.int (if j < i then j else i)) st
  by_cases h : j < i
  · rw [if_pos h]; exact k j (by omega) (by omega) (.inr rfl)
  · rw [if_neg h]; exact k i (by omega) (by omega) (.inl rfl)
theorem kmax {i j : Int} {K : DK} (k : ∀ m, i ≤ m → j ≤ m → (m = i ∨ m = j) → K (.int m) st) : kMax2 [.int i, .int j] st K := by
  show K (.int (if j > i then j else i)) st
  by_cases h : j > i
  · rw [if_pos h]; exact k j (by omega) (by omega) (.inr rfl)
  · rw [if_neg h]; exact k i (by omega) (by omega) (.inl rfl)
theorem even_bl {a : Bool} (q : Q (.d (.bl true)) st) : mD 2 2 R_even [.bl a, .bl a] st Q E := even_ok (p := .bool a) ⟨rfl, by simp [PyData.depth], by simp [PyData.weight]⟩ rfl rfl q
theorem gd_si {a : Str} {n : Int} (ha : Smt 1000 a) (h : -999999999999 ≤ n ∧ n ≤ 999999999999) : Gd (.list [.str a, .int n]) := by
  refine ⟨?_, by simp [PyData.depth, PyData.depthAll], ?_⟩
  · simp only [gdP, gdAll, ha.strOk, Bool.true_and, Bool.and_true, decide_eq_true h.1, decide_eq_true h.2]
  · have h1 := ha.1
    have h2 := log_small h
    have e : a.cps.size = a.length := rfl
    simp only [PyData.weight, PyData.weightAll]
    split <;> omega
theorem gd_ss {a b : Str} (ha : Smt 1000 a) (hb : Smt 1000 b) : Gd (.list [.str a, .str b]) := by
  refine ⟨?_, by simp [PyData.depth, PyData.depthAll], ?_⟩
  · simp only [gdP, gdAll, ha.strOk, hb.strOk, Bool.and_self]
  · have h1 := ha.1
    have h2 := hb.1
    have e : a.cps.size = a.length := rfl
    have e2 : b.cps.size = b.length := rfl
    simp only [PyData.weight, PyData.weightAll]
    omega
end
end Kt
set_option maxHeartbeats 1000000
/-! Kt13: dict displays with keys. -/
namespace Kt
open PySem PySem.Spec L2
/-- in a def no error leaves unseen -/
theorem tk_any {X : Cx} (W : WX) (h : W = W0) : Takes X W := fun _ _ x => by
  subst h
  obtain ⟨_, _, _, _, _, _, _, _, _, _, _, _, _, _, _, _, z⟩ := x
  exact z.elim
def unS (s : S) : S := ⟨s.sl.map unown, s.st⟩
/-- the values of a display, the keys constants -/
structure Prs (X : Cx) (cl : String → Addr) (pos : Pos) (keys : List (Option Expr)) (values : List Expr) (ks : List Key) (da : DA) : Prop where
  ex : ∃ trs : List (TE × TE), PPs X pos keys values trs ∧ keys.all (·.isSome) = true ∧ keys.length = values.length ∧ keys.length = ks.length ∧
    ∀ (B : Bs) (σ : L2.St) (H F : Hp) (ν : List Addr) (s : S) (Q : List D → List Ob → Prop) (P : List (V × V) → Hp → Prop), R (cf X cl) B s σ H F ν → da s Q (fun _ _ => False) →
    (∀ vs H' F' ν' ds st', Ext F ν F' ν' → R (cf X cl) B ⟨s.sl, st'⟩ σ H' F' ν' → RzAll (cf X cl) F' ν' vs ds → vs.length = ks.length → Q ds st' → P ((ks.zip vs).map fun kv => (kV kv.1, kv.2)) H') → tPairs trs σ H P
section
variable {X : Cx} {cl : String → Addr} {pos p : Pos} {keys : List (Option Expr)} {values : List Expr} {ks : List Key} {da : DA} {de : DE} {e : Expr}
theorem pr_nil : Prs X cl pos [] [] [] dNil := ⟨[], pps_nil, rfl, rfl, rfl, fun B σ H F ν s Q P r h k => k [] H F ν [] s.st Ext.refl r .nil rfl h⟩
theorem pr_str {x : Str} {j : Nat} (he : Ex X cl e de) (h : Prs X cl pos keys values ks da) : Prs X cl pos (some (.Constant (.str x) j p) :: keys) (e :: values) (.inr x :: ks) (dCons de da) := by
  obtain ⟨trs, h1, h2, h3, h4, h5⟩ := h.ex
  refine ⟨(tC (.str x), canE (cf X cl) de W0) :: trs, pps_cons pe_str (he.can W0 (tk_any W0 rfl)) h1, by simpa using h2, by simp [h3], by simp [h4], fun B σ H F ν s Q P r q k => ?_⟩
  refine ⟨B, F, ν, s, _, _, r, Wsh.no, q, fun v H1 F1 ν1 d st1 x1 r1 z1 q1 => ?_⟩
  refine h5 B σ H1 F1 ν1 ⟨s.sl, st1⟩ _ _ r1 q1 fun vs H2 F2 ν2 ds st2 x2 r2 z2 hl q2 => ?_
  exact k (v :: vs) H2 F2 ν2 (d :: ds) st2 (x1.trans x2) r2 (.cons (z1.mono x2) z2) (by simp [hl]) q2
theorem pr_int {x : Int} {j : Nat} (he : Ex X cl e de) (h : Prs X cl pos keys values ks da) : Prs X cl pos (some (.Constant (.int x) j p) :: keys) (e :: values) (.inl x :: ks) (dCons de da) := by
  obtain ⟨trs, h1, h2, h3, h4, h5⟩ := h.ex
  refine ⟨(tC (.int x), canE (cf X cl) de W0) :: trs, pps_cons pe_int (he.can W0 (tk_any W0 rfl)) h1, by simpa using h2, by simp [h3], by simp [h4], fun B σ H F ν s Q P r q k => ?_⟩
  refine ⟨B, F, ν, s, _, _, r, Wsh.no, q, fun v H1 F1 ν1 d st1 x1 r1 z1 q1 => ?_⟩
  refine h5 B σ H1 F1 ν1 ⟨s.sl, st1⟩ _ _ r1 q1 fun vs H2 F2 ν2 ds st2 x2 r2 z2 hl q2 => ?_
  exact k (v :: vs) H2 F2 ν2 (d :: ds) st2 (x1.trans x2) r2 (.cons (z1.mono x2) z2) (by simp [hl]) q2
end
theorem R.nameU {c : Cf} {B : Bs} {s : S} {σ : L2.St} {H F : Hp} {ν : List Addr} (r : R c B s σ H F ν) {p : Addr} {o : HO} {ob : Ob} (u : Un B s σ H F ν p o) (q : RzO c F ν o ob) : R c B ⟨s.sl, s.st ++ [ob]⟩ σ H F (ν ++ [p]) ∧ Ext F ν F (ν ++ [p]) := by
  have x : Ext F ν F (ν ++ [p]) := ⟨Same.refl F, ⟨[p], rfl⟩⟩
  refine ⟨⟨r.sub, r.f0, r.fz, r.kp, ?_, ?_, fun a m => ?_, r.ln, fun i y e => ?_, r.ap, ?_, fun n ob' a e1 e2 => ?_⟩, x⟩
  · obtain ⟨μ, e, z⟩ := r.nu
    refine ⟨μ ++ [p], by rw [e, List.append_assoc], fun a m => ?_⟩
    rcases List.mem_append.mp m with m | m
    · exact z a m
    · rw [List.mem_singleton.mp m]; exact u.f.1
  · rw [List.nodup_append]
    refine ⟨r.nd, by simp, fun a m b mb => ?_⟩
    rw [List.mem_singleton.mp mb]
    rintro rfl
    exact u.f.2.2 m
  · rcases List.mem_append.mp m with m | m
    · exact r.nf a m
    · rw [List.mem_singleton.mp m]; exact u.f.2.1
  · obtain ⟨v, h1, h2⟩ := r.sl i y e
    refine ⟨v, h1, h2.mono x fun a w hv oo f q => ⟨⟨f.1, f.2.1, fun m => ?_⟩, q⟩⟩
    rcases List.mem_append.mp m with m | m
    · exact f.2.2 m
    · have := List.mem_singleton.mp m
      subst this
      subst hv
      exact u.no i y e oo h1
  · show (s.st ++ [ob]).length = (ν ++ [p]).length
    rw [List.length_append, List.length_append, r.sn]; rfl
  · have e1' : (s.st ++ [ob])[n]? = some ob' := e1
    by_cases hn : n < s.st.length
    · rw [List.getElem?_append_left hn] at e1'
      rw [List.getElem?_append_left (by rw [← r.sn]; exact hn)] at e2
      obtain ⟨w, h1, h2⟩ := r.st n ob' a e1' e2
      exact ⟨w, h1, h2.mono x⟩
    · rw [List.getElem?_append_right (by omega)] at e1'
      rw [List.getElem?_append_right (by rw [← r.sn]; omega), ← r.sn] at e2
      have z : n - s.st.length = 0 := by
        have := (List.getElem?_eq_some_iff.mp e1').1
        simp at this; omega
      rw [z] at e1' e2
      simp at e1' e2
      subst e1'; subst e2
      exact ⟨o, u.e, q.mono x⟩
def mergeD (kvs more : List (Key × D)) : List (Key × D) := more.foldl (fun acc kv => putD acc kv.1 kv.2) kvs
theorem RzKv.merge {c : Cf} {F : Hp} {ν : List Addr} : ∀ {ks : List Key} {vs : List V} {ds : List D} {kv : List (Key × V)} {kd : List (Key × D)}, RzAll c F ν vs ds → RzKv c F ν kv kd → RzKv c F ν (mergeK kv (ks.zip vs)) (mergeD kd (ks.zip ds))
  | [], _, _, _, _, _, r => by simpa [mergeK, mergeD] using r
  | k :: ks, _, _, _, _, .nil, r => by simpa [mergeK, mergeD] using r
  | k :: ks, _, _, kv, kd, .cons (v := v) (d := d) a z, r => by
    have := RzKv.merge (ks := ks) z (r.put (k := k) a)
    simpa [mergeK, mergeD] using this
section
variable {X : Cx} {cl : String → Addr} {pos p : Pos} {keys : List (Option Expr)} {values : List Expr} {ks : List Key} {da : DA}
/-- {k: e, ..}: a datum; one with a name -/
def dDctK (ks : List Key) (da : DA) : DE := fun s Q _ => da (unS s) (fun ds st => Q (.dct (mergeD [] (ks.zip ds))) st) (fun _ _ => False)
def dDctKN (ks : List Key) (da : DA) : DE := fun s Q _ => da (unS s) (fun ds st => Q (.obj st.length) (st ++ [.dct (mergeD [] (ks.zip ds))])) (fun _ _ => False)
theorem disp_run {trs : List (TE × TE)} (h5 : ∀ (B : Bs) (σ : L2.St) (H F : Hp) (ν : List Addr) (s : S) (Q : List D → List Ob → Prop) (P : List (V × V) → Hp → Prop), R (cf X cl) B s σ H F ν → da s Q (fun _ _ => False) →
      (∀ vs H' F' ν' ds st', Ext F ν F' ν' → R (cf X cl) B ⟨s.sl, st'⟩ σ H' F' ν' → RzAll (cf X cl) F' ν' vs ds → vs.length = ks.length → Q ds st' → P ((ks.zip vs).map fun kv => (kV kv.1, kv.2)) H') → tPairs trs σ H P)
    (h15 : ks.length ≤ 15) {B : Bs} {σ : L2.St} {H F : Hp} {ν : List Addr} {s : S} {Q : List D → List Ob → Prop} {P : VK} (r : R (cf X cl) B s σ H F ν) (q : da (unS s) Q (fun _ _ => False))
    (kk : ∀ p H' F' ν' ds st' kvs, Ext F ν F' ν' → R (cf X cl) B ⟨s.sl, st'⟩ σ H' F' ν' → Un B ⟨s.sl, st'⟩ σ H' F' ν' p (.dK kvs) → RzKv (cf X cl) F' ν' kvs (mergeD [] (ks.zip ds)) → Q ds st' → P (.ref p) H') : tDisp trs σ H P := by
  intro p hp
  obtain ⟨r1, u1⟩ := r.newU (o := .dK []) hp
  have rI : R (cf X cl) ⟨upd H p (.dK []), F, ν⟩ (unS s) σ (upd H p (.dK [])) F ν := r.inner [] Ext.refl r1 |> fun z => by
    first
      | exact z
      | (have := r1.inner [] Ext.refl r1; exact this)
  refine h5 _ σ _ F ν (unS s) Q _ rI q fun vs H2 F2 ν2 ds st2 x2 r2 z2 hl q2 => ?_
  have u2 := r1.retU u1 x2 r2
  have r3 := r1.ret x2 r2
  refine ⟨u2.e, ks.zip vs, rfl, ?_, ?_⟩
  · rw [List.length_zip]; omega
  · obtain ⟨r4, u4⟩ := r3.mutU (o' := .dK (mergeK [] (ks.zip vs))) u2
    exact kk p _ F2 ν2 ds st2 _ x2 r4 u4 (RzKv.merge z2 .nil) q2
theorem x_dctK (h : Prs X cl pos keys values ks da) (h0 : keys ≠ [] := by intro z; cases z) (h15 : ks.length ≤ 15 := by decide) : Ex X cl (.Dict keys values pos) (dDctK ks da) := by
  obtain ⟨trs, h1, h2, h3, h4, h5⟩ := h.ex
  refine ⟨fun _ => tDisp trs, fun _ _ => pe_disp h1 h2 h3 h0 (by omega), ⟨fun B W σ H F ν s Q E P r w q kk => ?_⟩⟩
  refine disp_run h5 h15 r q fun p H' F' ν' ds st' kvs x' r' u' z' q' => ?_
  have xx : Ext F' ν' (upd F' p (.dK kvs)) ν' := ext_upd u'.f.2.1
  exact kk _ H' _ ν' _ st' (x'.trans xx) (r'.fzA u'.f u'.e u'.no) (.dct upd_same (z'.mono xx)) q'
theorem x_dctKN (h : Prs X cl pos keys values ks da) (h0 : keys ≠ [] := by intro z; cases z) (h15 : ks.length ≤ 15 := by decide) : Ex X cl (.Dict keys values pos) (dDctKN ks da) := by
  obtain ⟨trs, h1, h2, h3, h4, h5⟩ := h.ex
  refine ⟨fun _ => tDisp trs, fun _ _ => pe_disp h1 h2 h3 h0 (by omega), ⟨fun B W σ H F ν s Q E P r w q kk => ?_⟩⟩
  refine disp_run h5 h15 r q fun p H' F' ν' ds st' kvs x' r' u' z' q' => ?_
  obtain ⟨r2, x2⟩ := r'.nameU u' (.dct z')
  have e : (ν' ++ [p])[st'.length]? = some p := by
    have := r'.sn
    rw [show st'.length = ν'.length from this]; simp
  exact kk _ H' F' _ _ _ (x'.trans x2) r2 (.obj e) q'
end
section
variable {X : Cx} {cl : String → Addr} {pos px py pt pt2 : Pos} {a b : Expr} {da : DA}
/-- x, y = a, b -/
def dPar (i j : Nat) (da : DA) : DS := fun D s => da s (fun vs st => ∃ v w, vs = [v, w] ∧ D.nx ⟨(s.sl.set i (some (.d v))).set j (some (.d w)), st⟩) (D.xe s)
theorem s_par (i j : Nat) {x y : Str} {kt k2} (hc : X.calm = true) (hN : X.N.Nodup) (hi : X.N[i]? = some x) (hj : X.N[j]? = some y) (hij : i ≠ j) (hx : X.env.scope.names.lookup x = some .local) (hy : X.env.scope.names.lookup y = some .local) (ha : Ar X cl [a, b] da)
    (hw : swappedStores [.Tuple [.Name x px, .Name y py] kt pt] (.Tuple [a, b] k2 pt2) X.env = pure (some [x, y]) := by first | rfl | with_unfolding_all rfl)
    (hs : swapsWithSole [.Tuple [.Name x px, .Name y py] kt pt] (.Tuple [a, b] k2 pt2) pos.line X.env = pure false := by rfl) :
    Sm X cl (.Assign [.Tuple [.Name x px, .Name y py] kt pt] (.Tuple [a, b] k2 pt2) pos) (dPar i j da) := by
  obtain ⟨t, a1, a2⟩ := ha.ex
  refine ⟨fun W => tPar i j (t W), fun W k _ => ps_par hc hN hi hj hij hx hy (a1 W k) hw hs, ⟨fun B W σ H F ν s D Dd r m q => ?_⟩⟩
  refine a2.go B W σ H F ν s _ _ _ r m.wsh q fun vs H1 F1 ν1 ds st1 x1 r1 z1 q1 => ?_
  obtain ⟨v, w, rfl, q1⟩ := q1
  cases z1 with
  | cons zv zr =>
    cases zr with
    | cons zw zr2 =>
      cases zr2
      exact ⟨_, _, rfl, m.nx _ _ H1 F1 ν1 x1 ((r1.setD i zv).setD j zw) q1⟩
end
end Kt
set_option maxHeartbeats 400000
/-! Kt14: odd values, asked whether they are the same object; notes. -/
namespace Kt
open PySem PySem.Spec L2
/-- a value whose repr may be asked, behind an item that is added to it -/
inductive Vk (st : List Ob) : D → Prop
  | flat {d : D} {t : String} {p : PyData} : (∀ st, tyD st d = some t) → isB "list" t = false → isB "dict" t = false → Rp p → (∀ g, toPyF g d = some p) → Vk st d
  | lst {n : Nat} {ds : List D} {ps : List PyData} : st[n]? = some (.lst ds) → ds.length < 1000 → toPyA (fun _ => none) (ds ++ [.str "more"]) = some ps → Rp (.list ps) → Vk st (.obj n)
  | dct {n : Nat} {ks : List (Key × D)} {ps : List (PyData × PyData)} : st[n]? = some (.dct ks) → ks.length < 1000 → toPyK (fun _ => none) (putD ks (.inr "more") (.int 1)) = some ps → Rp (.dict ps) → Vk st (.obj n)
theorem Vk.keep {st st' : List Ob} {d : D} (h : Vk st d) (k : ∀ m, d = .obj m → st'[m]? = st[m]?) : Vk st' d := by
  cases h with
  | flat a b c e f => exact .flat a b c e f
  | lst a b c e => exact .lst (by rw [k _ rfl]; exact a) b c e
  | dct a b c e => exact .dct (by rw [k _ rfl]; exact a) b c e
section
variable {st : List Ob} {Q : SV → List Ob → Prop} {E : XK'}
theorem very_ok {d : D} (h : Vk st d) (q : ∀ st', (∀ m, d ≠ .obj m → st'[m]? = st[m]?) → st'.length = st.length → Q (.d (.bl true)) st') : mD 2 2 R_very [d, d] st Q E := by
  cases h with
  | flat a b c e f => exact very_flat (a st) b c e (f _) (f _) (q st (fun _ _ => rfl) rfl)
  | @lst n ds ps a b c e =>
    refine very_lst a b e ?_ (q _ (fun m hm => List.getElem?_set_ne fun z => hm (by rw [z])) (List.length_set ..))
    unfold toPy
    rw [toPyF, obPy, List.getElem?_set_self (List.getElem?_eq_some_iff.mp a).1]
    simp only [c]
    rfl
  | @dct n ks ps a b c e =>
    have hl := (List.getElem?_eq_some_iff.mp a).1
    simp only [mD, R_very, dSeq, dIfS, dTest, dIsi, dBin, dB, dCons, dNil, dVar, dC, dRet, dNext, dDPutN]
    refine ⟨rfl, .obj n, rfl, "dict", by simp only [tyD, a], _, rfl, ?_⟩
    rw [if_neg (by decide)]
    refine ⟨.obj n, rfl, "dict", by simp only [tyD, a], _, rfl, ?_⟩
    rw [if_pos (by decide)]
    refine ⟨.obj n, rfl, n, ks, .inr "more", rfl, a, rfl, by rw [sizeLine_eq]; omega, ?_⟩
    have h : toPy (st.set n (.dct (putD ks (.inr "more") (.int 1)))) (.obj n) = some (.dict ps) := by
      unfold toPy
      rw [toPyF, obPy, List.getElem?_set_self hl]
      simp only [c]
      rfl
    refine ⟨.obj n, rfl, kRepr_rp e h ⟨.obj n, rfl, kRepr_rp e h ?_⟩⟩
    unfold kEq
    simp only [scEq, decide_true]
    exact q _ (fun m hm => List.getElem?_set_ne fun z => hm (by rw [z])) (List.length_set ..)
/-! ### notes -/
def isN : D → Bool
  | .tup [.int a, b, c] => isI (.int a) 0 9999 && isI b a 9999 && isI c 0 119
  | _ => false
/-- a value whose kind is known, and, of a tuple, the kinds of its items -/
def okN (st : List Ob) (d : D) : Prop := (∃ t, tyD st d = some t) ∧ ∀ ds, d = .tup ds → ∀ x ∈ ds, ∃ t, tyD st x = some t
def m_pitch : SpD := mD 1 1 (dSeq (dRet (dCall m_isint (dCons (dVar 0) (dCons (dC (.int 0)) (dCons (dC (.int 119)) dNil))))) dNext)
def R_isnote : DS := (dSeq (dIfS (dOr (dNot (dTest (dIsi "tuple" (dVar 0)))) (dTest (dBin kNe (dB kLen (dCons (dVar 0) dNil)) (dC (.int 3))))) (dSeq (dRet (dC (.bl false))) dNext) dNext) (dSeq (dSet (dUnp 3 (gMore (dName 1) (gMore (dName 2) (gMore (dName 3) gNone)))) (dVar 0)) (dSeq (dRet (dAndV (dCall m_isint (dCons (dVar 1) (dCons (dC (.int 0)) (dCons (dC (.int 9999)) dNil)))) (dAndV (dCall m_isint (dCons (dVar 2) (dCons (dVar 1) (dCons (dC (.int 9999)) dNil)))) (dCall m_pitch (dCons (dVar 3) dNil))))) dNext)))
def m_isnote : SpD := mD 4 1 R_isnote
theorem pitch_ok {d : D} {t : String} (h : tyD st d = some t) (q : Q (.d (.bl (isI d 0 119))) st) : m_pitch [d] st Q E := by
  simp only [m_pitch, mD, dSeq, dRet, dCall, dCons, dNil, dVar, dC, dNext]
  exact ⟨rfl, d, rfl, isint_ok h ⟨rfl, q⟩⟩
theorem isB_tuple {t : String} (h : isB "tuple" t = true) : t = "tuple" := by
  simp [isB] at h
  exact h
theorem tyD_tuple {d : D} (h : tyD st d = some "tuple") : ∃ ds, d = .tup ds := by
  cases d <;> simp [tyD] at h
  · exact ⟨_, rfl⟩
  · split at h <;> simp at h
theorem isnote_ok {d : D} (h : okN st d) (hs : ∀ ds, d = .tup ds → ds.length ≤ 1000) (q : Q (.d (.bl (isN d))) st) : m_isnote [d] st Q E := by
  obtain ⟨⟨t, ht⟩, hi⟩ := h
  simp only [m_isnote, R_isnote, mD, dSeq, dIfS, dOr, dNot, dTest, dIsi, dBin, dB, dSet, dUnp, gMore, gNone, dName, dRet, dAndV, dCall, dCons, dNil, dVar, dC, dNext]
  refine ⟨rfl, d, rfl, t, ht, _, rfl, ?_⟩
  cases hb : isB "tuple" t with
  | false =>
    have e : isN d = false := by
      cases d <;> first | rfl | (simp [tyD] at ht; subst ht; simp [isB] at hb)
    rw [if_pos (by decide)]
    rw [e] at q
    exact q
  | true =>
    have := isB_tuple hb
    subst this
    obtain ⟨ds, rfl⟩ := tyD_tuple ht
    rw [if_neg (by decide)]
    refine ⟨.tup ds, rfl, len_seq_of rfl rfl ?_⟩
    show kNe (.int ds.length) (.int 3) st _
    refine ⟨_, rfl, _, rfl, ?_⟩
    by_cases hl : ds.length = 3
    · have hl' : (ds.length : Int) = 3 := by omega
      rw [if_neg (by rw [decide_eq_true hl']; decide)]
      match ds, hl with
      | [a, b, c], _ =>
        obtain ⟨ta, ha⟩ := hi _ rfl a (by simp)
        obtain ⟨tb, hb'⟩ := hi _ rfl b (by simp)
        obtain ⟨tc, hc⟩ := hi _ rfl c (by simp)
        refine ⟨.tup [a, b, c], rfl, [a, b, c], rfl, rfl, a, [b, c], rfl, b, [c], rfl, c, [], rfl, rfl, ?_⟩
        refine ⟨a, rfl, isint_ok ha ⟨rfl, _, rfl, ?_⟩⟩
        by_cases e1 : isI a 0 9999 = true
        · rw [if_pos e1]
          obtain ⟨i, rfl⟩ : ∃ i, a = .int i := by
            cases a <;> first | exact ⟨_, rfl⟩ | (simp [isI] at e1)
          refine ⟨b, rfl, .int i, rfl, isint_ok hb' ⟨rfl, _, rfl, ?_⟩⟩
          by_cases e2 : isI b i 9999 = true
          · rw [if_pos e2]
            refine ⟨c, rfl, pitch_ok hc ⟨rfl, ?_⟩⟩
            have : isN (.tup [.int i, b, c]) = isI c 0 119 := by simp only [isN, e1, e2, Bool.true_and]
            rw [this] at q
            exact q
          · rw [if_neg e2]
            have : isN (.tup [.int i, b, c]) = false := by simp only [isN, e1, e2, Bool.true_and, Bool.and_false, Bool.false_and]
            rw [this] at q
            exact q
        · rw [if_neg e1]
          have : isN (.tup [a, b, c]) = false := by
            cases a <;> first | rfl | simp only [isN, e1, Bool.false_and]
          rw [this] at q
          exact q
    · have hl' : ¬ (ds.length : Int) = 3 := by omega
      rw [if_pos (by rw [decide_eq_false hl']; rfl)]
      have : isN (.tup ds) = false := by
        unfold isN
        split
        · rename_i h; cases h; exact absurd rfl hl
        · rfl
      rw [this] at q
      exact q
end
end Kt
namespace Kt
open PySem PySem.Spec L2
theorem kNe_same {st : List Ob} {a b : D} {p : PyData} {K : DK} (g : Gd p) (h1 : toPy st a = some p) (h2 : toPy st b = some p) (k : K (.bl false) st) : kNe a b st K := kEq_same g h1 h2 ⟨true, rfl, k⟩
theorem kNe_strs {a b : Str} {st : List Ob} {K : DK} (k : K (.bl (!decide (a = b))) st) : kNe (.str a) (.str b) st K := ⟨_, rfl, k⟩
end Kt
set_option maxHeartbeats 1000000
/-! Kt15: constants of a module; divmod, sorted, places. -/
namespace Kt
open PySem PySem.Spec L2
/-! ### a module's tuples -/
def vdB : Value → D → Bool
  | .str x _, .str y => x == y
  | .int i _, .int j => i == j
  | _, _ => false
def vdsB : List Value → List D → Bool
  | [], [] => true
  | u :: us, d :: ds => vdB u d && vdsB us ds
  | _, _ => false
theorem vd_ok {u : Value} {d : D} (h : vdB u d = true) : ∃ v, RelV v u ∧ ∀ c F ν, Rz c F ν v d := by
  unfold vdB at h
  split at h
  · rename_i x t y
    have : x = y := by simpa using h
    subst this
    exact ⟨.str x, ⟨t, rfl⟩, fun _ _ _ => .str x⟩
  · rename_i i t j
    have : i = j := by simpa using h
    subst this
    exact ⟨.int i, ⟨t, rfl⟩, fun _ _ _ => .int i⟩
  · cases h
theorem vds_ok : ∀ {us : List Value} {ds : List D}, vdsB us ds = true → ∃ vs, Vals vs us ∧ ∀ c F ν, RzAll c F ν vs ds
  | [], [], _ => ⟨[], .nil, fun _ _ _ => .nil⟩
  | u :: us, d :: ds, h => by
    unfold vdsB at h
    rw [Bool.and_eq_true] at h
    obtain ⟨v, h1, h2⟩ := vd_ok h.1
    obtain ⟨vs, h3, h4⟩ := vds_ok h.2
    exact ⟨v :: vs, .cons h1 h3, fun c F ν => .cons (h2 c F ν) (h4 c F ν)⟩
  | [], _ :: _, h => by cases h
  | _ :: _, [], h => by cases h
def ktupB (K : PySem.W.Frag) (a : Addr) (d : D) : Bool := match K.lookup a, d with
  | some ⟨.type "tuple", _, .seq its _, _⟩, .tup ds => decide (its.size ≤ 1000) && vdsB its.toList ds
  | _, _ => false
def KTup (K : PySem.W.Frag) (mg : Str → Option Value) (x : Str) (d : D) : Prop := ∃ a, mg x = some (.ref a) ∧ ktupB K a d = true
section
variable {X : Cx} {cl : String → Addr} {x : Str} {p pos : Pos} {da db dk de : DE} {a b e : Expr}
theorem x_gt {d : D} (hg : Gl X x) (h : KTup X.K X.mg x d) (hd : (x == ("__debug__" : Str)) = false := by decide) : Ex X cl (.Name x pos) (dC d) := by
  obtain ⟨a, h1, h2⟩ := h
  unfold ktupB at h2
  split at h2
  · rename_i od its n osl ds hk
    rw [Bool.and_eq_true, decide_eq_true_eq] at h2
    obtain ⟨vs, h3, h4⟩ := vds_ok h2.2
    exact x_glob (v := .ref a) hg h1 rfl (fun F ν => .tup (.inr ⟨_, its, n, hk, rfl, rfl, by rw [sizeLine_eq]; omega, h3⟩) (h4 _ _ _)) hd
  · cases h2
/-- divmod(m, n) -/
def kDivmod : KA := fun xs st K => match xs with
  | [.int i, .int j] => CDiv i j ∧ K (.tup [.int (i / j), .int (i % j)]) st
  | _ => False
theorem c_divmod : CallD X cl (.builtin "divmod") kDivmod := by
  refine ⟨_, call_divmod, fun B s σ H F ν vs xs K P r rx h k => ?_⟩
  unfold kDivmod at h
  split at h
  · cases rx with
    | cons z zr =>
      cases zr with
      | cons z2 zr2 =>
        cases zr2; cases z; cases z2
        refine ⟨_, _, rfl, h.1, fun pp hp => ?_⟩
        have hf := (r.fresh hp).2.1
        exact k _ _ _ ν _ s.st (ext_upd hf) (r.froze hp) (.tup (Or.inl (Or.inl upd_same)) (.cons (.int _) (.cons (.int _) .nil))) h.2
  · exact h.elim
def intsOf : List D → Option (List Int)
  | [] => some []
  | .int b :: r => (intsOf r).map (b :: ·)
  | _ => none
theorem intsOf_eq : ∀ {ds : List D} {bs : List Int}, intsOf ds = some bs → ds = bs.map D.int
  | [], bs, h => by cases h; rfl
  | .int b :: r, bs, h => by
    unfold intsOf at h
    obtain ⟨bs', e, rfl⟩ := Option.map_eq_some_iff.mp h
    rw [intsOf_eq e]; rfl
  | .non :: _, _, h | .str _ :: _, _, h | .bl _ :: _, _, h | .lst _ :: _, _, h | .tup _ :: _, _, h | .dct _ :: _, _, h | .obj _ :: _, _, h | .part _ :: _, _, h | .frl _ :: _, _, h => by cases h
theorem intsOf_map : ∀ (bs : List Int), intsOf (bs.map D.int) = some bs
  | [] => rfl
  | b :: bs => by
    rw [List.map_cons]
    show (intsOf (bs.map D.int)).map (b :: ·) = _
    rw [intsOf_map bs]; rfl
/-- sorted(xs), a list of ints -/
def kSorted : KA := fun xs st K => match xs with
  | [d] => ∃ ds ns, asLst st d = some ds ∧ intsOf ds = some ns ∧ ∀ ns' : List Int, ns'.Perm ns → ns'.Pairwise (· ≤ ·) → K (.lst (ns'.map D.int)) st
  | _ => False
theorem c_sorted : CallD X cl (.builtin "sorted") kSorted := by
  refine ⟨_, cr_sortedI, fun B s σ H F ν vs xs K P r rx h k => ?_⟩
  unfold kSorted at h
  split at h
  · obtain ⟨ds, ns, e1, e2, h⟩ := h
    cases rx with
    | cons z zr =>
      cases zr
      obtain ⟨a, ys, rfl, hq, q⟩ := r.lstq z e1
      have e := intsOf_eq e2
      subst e
      have e3 := rz_ints_inv q
      subst e3
      refine ⟨a, ns, rfl, hq, fun ns' pp h1 h2 hp => ?_⟩
      have hf := (r.fresh hp).2.1
      exact k _ _ _ ν _ s.st (ext_upd hf) (r.froze hp) (.lst upd_same (rz_ints _)) (h ns' h1 h2)
  · exact h.elim
/-- xs.index(y), flat data -/
def idxOf (y : D) : List D → Option Nat
  | [] => none
  | d :: r => if eqF d y = true then some 0 else (idxOf y r).map (· + 1)
theorem idxOf_ok {y : D} : ∀ {ds : List D} {j : Nat}, idxOf y ds = some j → ∃ z, ds[j]? = some z ∧ eqF z y = true ∧ ∀ m z', m < j → ds[m]? = some z' → eqF z' y = false
  | d :: r, j, h => by
    unfold idxOf at h
    by_cases hd : eqF d y = true
    · rw [if_pos hd] at h
      cases h
      exact ⟨d, rfl, hd, fun m z' hm => absurd hm (by omega)⟩
    · rw [if_neg hd] at h
      obtain ⟨i, h1, rfl⟩ := Option.map_eq_some_iff.mp h
      obtain ⟨z, a, b, c⟩ := idxOf_ok h1
      refine ⟨z, by simpa using a, b, fun m z' hm hz => ?_⟩
      cases m with
      | zero =>
        have : d = z' := by simpa using hz
        subst this
        simpa using hd
      | succ m => exact c m z' (by omega) (by simpa using hz)
def dIdx (da db : DE) : DE := fun s Q E => da s (fun x st1 => (∃ ds, asLst st1 x = some ds) ∧ db ⟨s.sl, st1⟩ (fun y st2 => ∃ ds j, asLst st2 x = some ds ∧ flD y = true ∧ ds.all flD = true ∧ idxOf y ds = some j ∧ Q (.int (j : Nat)) st2) E) E
end
/-! ### a module's dicts -/
inductive EntK (w : World) : List DictEntry → List (Key × D) → Prop
  | nil : EntK w [] []
  | cons {e : DictEntry} {k : Key} {d : D} {es : List DictEntry} {ks : List (Key × D)} : e.hash = keyH w k → keyIs k e.key = true → vdB e.val d = true → EntK w es ks → EntK w (e :: es) ((k, d) :: ks)
theorem EntK.get {w : World} : ∀ {es : List DictEntry} {ks : List (Key × D)}, EntK w es ks → ∃ (kvs : List (Key × V)) (vs : List (Key × Value)), KV kvs vs ∧ (∀ P, Pairs (mixKind P w) es vs) ∧ (∀ c F ν, RzKv c F ν kvs ks) ∧ vs.map (·.1) = ks.map (·.1) ∧ ∀ e ∈ es, ∃ k, keyIs k e.key = true ∧ e.hash = keyH w k
  | _, _, .nil => ⟨[], [], .nil, fun _ => .nil, fun _ _ _ => .nil, rfl, fun _ h => by cases h⟩
  | _, _, .cons (e := e) (k := k) h1 h2 h3 r => by
    obtain ⟨v, a1, a2⟩ := vd_ok h3
    obtain ⟨kvs, vs, b1, b2, b3, b4, b5⟩ := r.get
    refine ⟨(k, v) :: kvs, (k, e.val) :: vs, .cons ⟨rfl, a1⟩ b1, fun P => .cons h2 rfl (b2 P), fun c F ν => .cons (a2 c F ν) (b3 c F ν), by simp [b4], fun e' he => ?_⟩
    rcases List.mem_cons.mp he with rfl | he
    · exact ⟨k, h2, h1⟩
    · exact b5 e' he
structure KDct (w : World) (K : PySem.W.Frag) (mg : Str → Option Value) (x : Str) (ks : List (Key × D)) : Prop where
  ex : ∃ (a : Addr) (es : Array DictEntry) (ep : Nat), mg x = some (.ref a) ∧ K.lookup a = some ⟨.type "dict", none, .dict es ep, #[]⟩ ∧ (a == sysModules) = false ∧ EntK w es.toList ks ∧ (ks.map (·.1)).Nodup
section
variable {X : Cx} {cl : String → Addr} {x : Str} {p pos : Pos} {dk : DE} {e : Expr} {ks : List (Key × D)}
/-- X[k], k in X, X a dict of the module -/
def dKGet (ks : List (Key × D)) (dk : DE) : DE := fun s Q E => dk s (fun y st => ∃ k v, keyOf y = some k ∧ getD ks k = some v ∧ Q v st) E
def dKIn (neg : Bool) (ks : List (Key × D)) (dk : DE) : DE := fun s Q E => dk s (fun y st => ∃ k, keyOf y = some k ∧ Q (.bl (if neg then !(getD ks k).isSome else (getD ks k).isSome)) st) E
theorem kd_of (h : KDct X.w X.K X.mg x ks) : ∃ (a : Addr) (kvs : List (Key × V)) (vs : List (Key × Value)), X.mg x = some (.ref a) ∧ (a == sysModules) = false ∧ KV kvs vs ∧ (∀ c F ν, RzKv c F ν kvs ks) ∧ ∀ {pins σ H s}, L2.Inv X pins σ H s → s.heap.DictOf (mixKind X.prog X.w) a vs := by
  obtain ⟨a, es, ep, h1, h2, h3, h4, h5⟩ := h.ex
  obtain ⟨kvs, vs, b1, b2, b3, b4, b5⟩ := h4.get
  refine ⟨a, kvs, vs, h1, h3, b1, b3, fun {pins σ H s} I => ⟨_, es, ep, I.kIn _ _ h2, ⟨rfl, rfl, rfl⟩, rfl, fun en he => ?_, b2 _, by rw [b4]; exact h5⟩⟩
  exact b5 en (by simpa using he)
theorem x_kget (h : KDct X.w X.K X.mg x ks) (hi : Ex X cl e dk) (hg : Gl X x := by rfl) (hd : (x == ("__debug__" : Str)) = false := by decide) (hs : NoSl e := by intro _ _; rfl) : Ex X cl (.Subscript (.Name x p) e pos) (dKGet ks dk) := by
  obtain ⟨a, kvs, vs, hm, hsys, rel, rz, dd⟩ := kd_of h
  obtain ⟨ti, c1, c2⟩ := hi.ex
  refine ⟨fun W σ H P => ti W σ H (fun y H1 => ∃ k v, y = kV k ∧ valV kvs k = some v ∧ P v H1), fun W t => ⟨fun pins s σ H Q I q => ?_⟩, ⟨fun B W σ H F ν s Q E P r w q kk => ?_⟩⟩
  · refine subD_of PySem.F.slot_dict_getitem.lookup hs (ld_glob I hg hm ?_ hd)
    refine thn ((c1 W t).run pins s σ H _ I q) fun u s1 ⟨y, H1, I1, ry, k, v, ey, hv, q1⟩ => ?_
    subst ey
    refine ⟨(dd I1).typeIs, ?_⟩
    obtain ⟨w', hw, rw'⟩ := RelO.some_of (v := v) (o := valueAt vs k) (by rw [← hv]; exact rel.val k)
    exact wpAny_getItem_of (kV_is ry) (dd I1).mapOf hw ⟨v, H1, I1.tok _, rw', q1⟩
  · refine c2.go B W σ H F ν s _ E _ r w q fun v H1 F1 ν1 d st1 x1 r1 z1 q1 => ?_
    obtain ⟨k, d', e1, e2, q1⟩ := q1
    have ek := keyOf_ok z1 e1
    subst ek
    rcases (rz (cf X cl) F1 ν1).get (k := k) with ⟨h1, _⟩ | ⟨d2, v2, h1, h2, h3⟩
    · rw [h1] at e2; cases e2
    · rw [h1] at e2; cases e2
      exact ⟨k, v2, rfl, h2, kk v2 H1 F1 ν1 _ st1 x1 r1 h3 q1⟩
theorem x_kinB {op : CmpOp} {neg : Bool} (h : KDct X.w X.K X.mg x ks) (hi : Ex X cl e dk) (hop : ∀ {A E pins σ H} {s : Shared} {a : Addr} {kvs : List (Key × V)} {vs : List (Key × Value)} {k : Key} {u : Value} {Q : Value → Shared → Prop}, L2.Inv X pins σ H s → (a == sysModules) = false → s.heap.DictOf (mixKind X.prog X.w) a vs → RelV (kV k) u →
      Q (.bool (if neg then !(valueAt vs k).isSome else (valueAt vs k).isSome)) { s with toks := s.toks + 1 } → wpAny (model X.prog X.w) A (compareOp op u (.ref a)) Q E s)
    (hg : Gl X x) (hd : (x == ("__debug__" : Str)) = false) : ∃ te : WX → TE, (∀ W, Takes X W → PC X op e (.Name x p) (te W)) ∧ RfE (cf X cl) te (dKIn neg ks dk) := by
  obtain ⟨a, kvs, vs, hm, hsys, rel, rz, dd⟩ := kd_of h
  obtain ⟨ti, c1, c2⟩ := hi.ex
  refine ⟨fun W σ H P => ti W σ H (fun y H1 => ∃ k, y = kV k ∧ P (.bl (if neg then !(valV kvs k).isSome else (valV kvs k).isSome)) H1), fun W t => ⟨fun pins s σ H Q I q => ?_⟩, ⟨fun B W σ H F ν s Q E P r w q kk => ?_⟩⟩
  · refine thn ((c1 W t).run pins s σ H _ I q) fun u s1 ⟨y, H1, I1, ry, k, ey, q1⟩ => ?_
    subst ey
    refine ld_glob I1 hg hm ?_ hd
    refine hop (kvs := kvs) I1 hsys (dd I1) ry ?_
    rw [← (rel.val k).isSome_eq]
    exact ⟨.bl _, H1, I1.tok _, rfl, q1⟩
  · refine c2.go B W σ H F ν s _ E _ r w q fun v H1 F1 ν1 d st1 x1 r1 z1 q1 => ?_
    obtain ⟨k, e1, q1⟩ := q1
    have ek := keyOf_ok z1 e1
    subst ek
    refine ⟨k, rfl, ?_⟩
    have ee : (valV kvs k).isSome = (getD ks k).isSome := by
      rcases (rz (cf X cl) F1 ν1).get (k := k) with ⟨h1, h2⟩ | ⟨d2, v2, h1, h2, h3⟩ <;> rw [h1, h2] <;> rfl
    rw [ee]
    exact kk _ H1 F1 ν1 _ st1 x1 r1 (.bl _) q1
theorem kin_ok (h : KDct X.w X.K X.mg x ks) (hi : Ex X cl e dk) (hg : Gl X x) (hd : (x == ("__debug__" : Str)) = false) : ∃ te : WX → TE, (∀ W, Takes X W → PC X .In e (.Name x p) (te W)) ∧ RfE (cf X cl) te (dKIn false ks dk) :=
  x_kinB (neg := false) h hi (fun I hs dd rk q => wpAny_in_of (kV_is rk) hs dd.mapOf q) hg hd
theorem knin_ok (h : KDct X.w X.K X.mg x ks) (hi : Ex X cl e dk) (hg : Gl X x) (hd : (x == ("__debug__" : Str)) = false) : ∃ te : WX → TE, (∀ W, Takes X W → PC X .NotIn e (.Name x p) (te W)) ∧ RfE (cf X cl) te (dKIn true ks dk) :=
  x_kinB (neg := true) h hi (fun I hs dd rk q => wpAny_notIn_of (kV_is rk) hs dd.mapOf q) hg hd
theorem x_kin (h : KDct X.w X.K X.mg x ks) (hi : Ex X cl e dk) (hg : Gl X x := by rfl) (hd : (x == ("__debug__" : Str)) = false := by decide) (hm' : behindInMarks .In (.Name x p) = false := by first | exact nomark _ | with_unfolding_all rfl) : Ex X cl (.Compare e [.In] [.Name x p] pos) (dKIn false ks dk) := by
  obtain ⟨te, h1, h2⟩ := kin_ok (p := p) h hi hg hd
  exact ⟨te, fun W t => pe_cmp (h1 W t) hm', h2⟩
theorem x_knin (h : KDct X.w X.K X.mg x ks) (hi : Ex X cl e dk) (hg : Gl X x := by rfl) (hd : (x == ("__debug__" : Str)) = false := by decide) (hm' : behindInMarks .NotIn (.Name x p) = false := by first | exact nomark _ | with_unfolding_all rfl) : Ex X cl (.Compare e [.NotIn] [.Name x p] pos) (dKIn true ks dk) := by
  obtain ⟨te, h1, h2⟩ := knin_ok (p := p) h hi hg hd
  exact ⟨te, fun W t => pe_cmp (h1 W t) hm', h2⟩
theorem t_kin (h : KDct X.w X.K X.mg x ks) (hi : Ex X cl e dk) (hg : Gl X x := by rfl) (hd : (x == ("__debug__" : Str)) = false := by decide) (hm' : behindInMarks .In (.Name x p) = false := by first | exact nomark _ | with_unfolding_all rfl) : Ts X cl (.Compare e [.In] [.Name x p] pos) (dTest (dKIn false ks dk)) := by
  obtain ⟨te, h1, h2⟩ := kin_ok (p := p) h hi hg hd
  exact ⟨fun W => tTest (te W), fun W t => pt_cmp (h1 W t) hm', rf_test h2⟩
theorem t_knin (h : KDct X.w X.K X.mg x ks) (hi : Ex X cl e dk) (hg : Gl X x := by rfl) (hd : (x == ("__debug__" : Str)) = false := by decide) (hm' : behindInMarks .NotIn (.Name x p) = false := by first | exact nomark _ | with_unfolding_all rfl) : Ts X cl (.Compare e [.NotIn] [.Name x p] pos) (dTest (dKIn true ks dk)) := by
  obtain ⟨te, h1, h2⟩ := knin_ok (p := p) h hi hg hd
  exact ⟨fun W => tTest (te W), fun W t => pt_cmp (h1 W t) hm', rf_test h2⟩
end
end Kt
namespace Kt
open PySem PySem.Spec L2
/-- what is never reached wants no rule -/
def dNo : DS := fun _ _ => False
theorem s_no {X : Cx} {cl : String → Addr} {st : Stmt} : Sm X cl st dNo := ⟨fun _ => fun _ _ _ => False, fun _ _ _ => ⟨fun _ _ _ _ _ _ h => h.elim⟩, ⟨fun _ _ _ _ _ _ _ _ _ _ _ h => h⟩⟩
theorem ss_no {X : Cx} {cl : String → Addr} {st : List Stmt} : Ss X cl st dNo := ⟨fun _ => fun _ _ _ => False, fun _ _ _ => ⟨fun _ _ _ _ _ _ h => h.elim⟩, ⟨fun _ _ _ _ _ _ _ _ _ _ _ h => h⟩⟩
end Kt
set_option maxHeartbeats 1000000
/-! Kt16: the odd values that many laws draw. -/
namespace Kt
open PySem PySem.Spec L2
/-- may be asked twice whether it is the same object -/
inductive Vk2 (st : List Ob) : D → Prop
  | flat {d : D} {t : String} {p : PyData} : (∀ st, tyD st d = some t) → isB "list" t = false → isB "dict" t = false → Rp p → (∀ g, toPyF g d = some p) → Vk2 st d
  | lst {n : Nat} {ds : List D} {ps ps2 : List PyData} : st[n]? = some (.lst ds) → ds.length < 900 → toPyA (fun _ => none) (ds ++ [.str "more"]) = some ps → Rp (.list ps) → toPyA (fun _ => none) ((ds ++ [.str "more"]) ++ [.str "more"]) = some ps2 → Rp (.list ps2) → Vk2 st (.obj n)
  | dct {n : Nat} {ks : List (Key × D)} {ps ps2 : List (PyData × PyData)} : st[n]? = some (.dct ks) → ks.length < 900 → toPyK (fun _ => none) (putD ks (.inr "more") (.int 1)) = some ps → Rp (.dict ps) → (putD ks (.inr "more") (.int 1)).length < 900 → toPyK (fun _ => none) (putD (putD ks (.inr "more") (.int 1)) (.inr "more") (.int 1)) = some ps2 → Rp (.dict ps2) → Vk2 st (.obj n)
theorem Vk2.keep {st st' : List Ob} {d : D} (h : Vk2 st d) (k : ∀ m, d = .obj m → st'[m]? = st[m]?) : Vk2 st' d := by
  cases h with
  | flat a b c e f => exact .flat a b c e f
  | lst a b c e f g => exact .lst (by rw [k _ rfl]; exact a) b c e f g
  | dct a b c e f g h => exact .dct (by rw [k _ rfl]; exact a) b c e f g h
theorem Vk2.vk {st : List Ob} {d : D} (h : Vk2 st d) : Vk st d := by
  cases h with
  | flat a b c e f => exact .flat a b c e f
  | lst a b c e f g => exact .lst a (by omega) c e
  | dct a b c e f g h => exact .dct a (by omega) c e
section
variable {st : List Ob} {Q : SV → List Ob → Prop} {E : XK'}
theorem very_ok2 {d : D} (h : Vk2 st d) (q : ∀ st', (∀ m, d ≠ .obj m → st'[m]? = st[m]?) → Vk st' d → (∀ t, tyD st d = some t → tyD st' d = some t) → Q (.d (.bl true)) st') : mD 2 2 R_very [d, d] st Q E := by
  have hv := h.vk
  cases h with
  | flat a b c e f => exact very_ok hv fun st' g _ => q st' g (.flat a b c e f) fun t ht => by rw [a st'] ; rw [a st] at ht; exact ht
  | @lst n ds ps ps2 a b c e f g =>
    have hl := (List.getElem?_eq_some_iff.mp a).1
    refine very_lst a (by omega) e ?_ (q _ (fun m hm => List.getElem?_set_ne fun z => hm (by rw [z])) (.lst (List.getElem?_set_self hl) (by simp; omega) f g) fun t ht => ?_)
    · unfold toPy
      rw [toPyF, obPy, List.getElem?_set_self hl]
      simp only [c]
      rfl
    · simp only [tyD, a] at ht
      simp only [tyD, List.getElem?_set_self hl]
      exact ht
  | @dct n ks ps ps2 a b c e f g i =>
    have hl := (List.getElem?_eq_some_iff.mp a).1
    simp only [mD, R_very, dSeq, dIfS, dTest, dIsi, dBin, dB, dCons, dNil, dVar, dC, dRet, dNext, dDPutN]
    refine ⟨rfl, .obj n, rfl, "dict", by simp only [tyD, a], _, rfl, ?_⟩
    rw [if_neg (by decide)]
    refine ⟨.obj n, rfl, "dict", by simp only [tyD, a], _, rfl, ?_⟩
    rw [if_pos (by decide)]
    refine ⟨.obj n, rfl, n, ks, .inr "more", rfl, a, rfl, by rw [sizeLine_eq]; omega, ?_⟩
    have h : toPy (st.set n (.dct (putD ks (.inr "more") (.int 1)))) (.obj n) = some (.dict ps) := by
      unfold toPy
      rw [toPyF, obPy, List.getElem?_set_self hl]
      simp only [c]
      rfl
    refine ⟨.obj n, rfl, kRepr_rp e h ⟨.obj n, rfl, kRepr_rp e h ?_⟩⟩
    unfold kEq
    simp only [scEq, decide_true]
    refine q _ (fun m hm => List.getElem?_set_ne fun z => hm (by rw [z])) (.dct (List.getElem?_set_self hl) (by omega) g i) fun t ht => ?_
    simp only [tyD, a] at ht
    simp only [tyD, List.getElem?_set_self hl]
    exact ht
theorem two {k : Nat} (h : k ≤ 1000) : k ≤ sizeLine := by rw [sizeLine_eq]; omega
theorem kIx_lst {ds : List D} {r : Int} {K : DK} {st : List Ob} (h0 : 0 ≤ r) (h1 : r < ds.length) (q : ∀ d ∈ ds, K d st) : kIx (.lst ds) (.int r) st K := by
  obtain ⟨v, e1, e2⟩ := atI_int h0 h1
  exact ix_seq_of rfl rfl e1 (q v e2)
def R_odd (c0 : Int) : DS := (dSeq (dSet (dName 1) (dLst (dCons (dC .non) (dCons (dC (.bl true)) (dCons (dC (.bl false)) (dCons (dUn kNeg (dC (.int 1))) (dCons (dC (.int 20000)) (dCons (dBin kPow (dC (.int 10)) (dC (.int 29))) (dCons (dBin kSub (dC (.int 0)) (dBin kPow (dC (.int 10)) (dC (.int 29)))) (dCons (dC (.str "")) (dCons (dC (.str "1")) (dCons (dC (.str "C2")) (dCons (dC (.str "0:C2")) (dCons (dC (.str "plan")) (dCons dDctN (dCons (dDctKN [.inl 0] (dCons (dC (.int 1)) dNil)) (dCons (dDctKN [.inr "a"] (dCons (dLst (dCons (dC (.int 1)) dNil)) dNil)) dNil))))))))))))))))) (dSeq (dSet (dName 1) (dBin kAdd (dVar 1) (dLst (dCons (dTup (dCons (dC (.str "a")) dNil)) (dCons (dTup (dCons (dC .non) (dCons (dC (.int 1)) dNil))) (dCons (dTup (dCons (dC (.int 5)) (dCons (dC (.int 4)) (dCons (dC (.int 24)) dNil)))) (dCons (dTup (dCons (dC (.int 0)) (dCons (dC (.int 0)) (dCons (dC (.int 120)) dNil)))) (dCons (dTup (dCons (dC (.int 0)) (dCons (dC (.int 0)) dNil))) (dCons (dLstN (dCons (dLst dNil) dNil)) (dCons (dLstN (dCons (dC .non) dNil)) (dCons (dLstN (dCons (dC (.str "1")) dNil)) (dCons (dTup (dCons (dC (.bl true)) dNil)) (dCons (dLstN (dCons (dUn kNeg (dC (.int 1))) dNil)) (dCons (dLstN (dCons (dLst (dCons (dC (.int 0)) (dCons (dC (.int 0)) (dCons (dC (.int 24)) dNil)))) dNil)) dNil)))))))))))))) (dSeq (dRet (dBin kIx (dVar 1) (dCall (m_take c0) (dCons (dVar 0) (dCons (dB kLen (dCons (dVar 1) dNil)) dNil))))) dNext)))
def objs : List Ob := [.dct [], .dct [(.inl 0, .int 1)], .dct [(.inr "a", .lst [.int 1])], .lst [.lst []], .lst [.non], .lst [.str "1"], .lst [.int (-1)], .lst [.lst [.int 0, .int 0, .int 24]]]
def oddL (m : Nat) : List D := [.non, .bl true, .bl false, .int (-1), .int 20000, .int (10 ^ Int.toNat 29), .int (0 - 10 ^ Int.toNat 29), .str "", .str "1", .str "C2", .str "0:C2", .str "plan", .obj m, .obj (m + 1), .obj (m + 2), .tup [.str "a"], .tup [.non, .int 1], .tup [.int 5, .int 4, .int 24], .tup [.int 0, .int 0, .int 120], .tup [.int 0, .int 0], .obj (m + 3), .obj (m + 4), .obj (m + 5), .tup [.bl true], .obj (m + 6), .obj (m + 7)]
theorem odd_ok {c0 : Int} {n c : Nat} (h : Bx st n c) (hc : c + 1 ≤ 1000000) (q : ∀ d st', d ∈ oddL st.length → Vk2 st' d → (∃ t, tyD st' d = some t) → Bx st' n (c + 1) → (∀ m, d = .obj m → m ≠ n) → Q (.d d) st') (hc0 : 0 ≤ c0 ∧ c0 ≤ 1000000 := by decide) : mD 2 1 (R_odd c0) [.obj n] st Q E := by
  have p29 : CPow 10 29 := ⟨by decide, by decide, by decide⟩
  simp only [R_odd, mD, dSeq, dSet, dName, dLst, dLstN, dTup, dDctN, dDctKN, dBin, dUn, dCall, dB, dCons, dNil, dVar, dC, dRet, dNext, unS, kPow, kI, kSub]
  refine ⟨rfl, p29, p29, True.intro, two (by decide), two (by show 15 ≤ 1000; decide), ?_⟩
  refine ⟨_, rfl, two (by decide), two (by decide), two (by decide), two (by decide), two (by decide), two (by decide), two (by decide), two (by decide), two (by decide), two (by decide), two (by decide), two (by decide), two (by decide), two (by show 11 ≤ 1000; decide), two (by show 26 ≤ 1000; decide), ?_⟩
  simp only [List.append_assoc, List.cons_append, List.nil_append, List.length_append, List.length_cons, List.length_nil, Nat.add_assoc, Nat.reduceAdd]
  refine ⟨_, rfl, _, rfl, ?_⟩
  refine ⟨_, rfl, len_seq_of rfl rfl ?_⟩
  refine take_ok (many := 26) h.app (by omega) (by decide) (by decide) (fun r st2 r0 r1 hs => ⟨rfl, ?_⟩) hc0
  have hnl := h.lt
  have g : ∀ k ob m, m = st.length + k → objs[k]? = some ob → st2[m]? = some ob := by
    intro k ob m hm ho
    subst hm
    rw [hs.get (by omega), List.getElem?_append_right (by omega), Nat.add_sub_cancel_left]
    exact ho
  have fl : ∀ d t p, d ∈ oddL st.length → (∀ st, tyD st d = some t) → isB "list" t = false → isB "dict" t = false → Rp p → (∀ g, toPyF g d = some p) → Q (.d d) st2 := fun d t p o a b c e f =>
    q d st2 o (.flat a b c e f) ⟨t, a _⟩ hs.2 fun m z => by
      have := f fun _ => none
      rw [z, toPyF] at this
      cases this
  have ol : ∀ k ds ps ps2 m, m = st.length + k → D.obj m ∈ oddL st.length → objs[k]? = some (.lst ds) → ds.length < 900 → toPyA (fun _ => none) (ds ++ [.str "more"]) = some ps → Rp (.list ps) → toPyA (fun _ => none) ((ds ++ [.str "more"]) ++ [.str "more"]) = some ps2 → Rp (.list ps2) → Q (.d (.obj m)) st2 := fun k ds ps ps2 m em o a b c e f i =>
    q _ st2 o (.lst (g k _ m em a) b c e f i) ⟨"list", by simp only [tyD, g k _ m em a]⟩ hs.2 fun m' z => by cases z; omega
  have od : ∀ k ks ps ps2 m, m = st.length + k → D.obj m ∈ oddL st.length → objs[k]? = some (.dct ks) → ks.length < 900 → toPyK (fun _ => none) (putD ks (.inr "more") (.int 1)) = some ps → Rp (.dict ps) → (putD ks (.inr "more") (.int 1)).length < 900 → toPyK (fun _ => none) (putD (putD ks (.inr "more") (.int 1)) (.inr "more") (.int 1)) = some ps2 → Rp (.dict ps2) → Q (.d (.obj m)) st2 := fun k ks ps ps2 m em o a b c e f i j =>
    q _ st2 o (.dct (g k _ m em a) b c e f i j) ⟨"dict", by simp only [tyD, g k _ m em a]⟩ hs.2 fun m' z => by cases z; omega
  refine kIx_lst r0 r1 fun d hd => ?_
  have hd0 : d ∈ oddL st.length := hd
  simp only [List.mem_cons, List.not_mem_nil, or_false] at hd
  rcases hd with rfl | rfl | rfl | rfl | rfl | rfl | rfl | rfl | rfl | rfl | rfl | rfl | rfl | rfl | rfl | rfl | rfl | rfl | rfl | rfl | rfl | rfl | rfl | rfl | rfl | rfl
  · exact fl _ _ _ hd0 (fun _ => rfl) (by decide) (by decide) ⟨by decide +kernel, by decide +kernel, by decide +kernel⟩ (fun _ => rfl)
  · exact fl _ _ _ hd0 (fun _ => rfl) (by decide) (by decide) ⟨by decide +kernel, by decide +kernel, by decide +kernel⟩ (fun _ => rfl)
  · exact fl _ _ _ hd0 (fun _ => rfl) (by decide) (by decide) ⟨by decide +kernel, by decide +kernel, by decide +kernel⟩ (fun _ => rfl)
  · exact fl _ _ _ hd0 (fun _ => rfl) (by decide) (by decide) ⟨by decide +kernel, by decide +kernel, by decide +kernel⟩ (fun _ => rfl)
  · exact fl _ _ _ hd0 (fun _ => rfl) (by decide) (by decide) ⟨by decide +kernel, by decide +kernel, by decide +kernel⟩ (fun _ => rfl)
  · exact fl _ _ _ hd0 (fun _ => rfl) (by decide) (by decide) ⟨by decide +kernel, by decide +kernel, by decide +kernel⟩ (fun _ => rfl)
  · exact fl _ _ _ hd0 (fun _ => rfl) (by decide) (by decide) ⟨by decide +kernel, by decide +kernel, by decide +kernel⟩ (fun _ => rfl)
  · exact fl _ _ _ hd0 (fun _ => rfl) (by decide) (by decide) ⟨by decide +kernel, by decide +kernel, by decide +kernel⟩ (fun _ => rfl)
  · exact fl _ _ _ hd0 (fun _ => rfl) (by decide) (by decide) ⟨by decide +kernel, by decide +kernel, by decide +kernel⟩ (fun _ => rfl)
  · exact fl _ _ _ hd0 (fun _ => rfl) (by decide) (by decide) ⟨by decide +kernel, by decide +kernel, by decide +kernel⟩ (fun _ => rfl)
  · exact fl _ _ _ hd0 (fun _ => rfl) (by decide) (by decide) ⟨by decide +kernel, by decide +kernel, by decide +kernel⟩ (fun _ => rfl)
  · exact fl _ _ _ hd0 (fun _ => rfl) (by decide) (by decide) ⟨by decide +kernel, by decide +kernel, by decide +kernel⟩ (fun _ => rfl)
  · exact od 0 _ _ _ _ rfl hd0 rfl (by decide) rfl ⟨by decide +kernel, by decide +kernel, by decide +kernel⟩ (by decide +kernel) rfl ⟨by decide +kernel, by decide +kernel, by decide +kernel⟩
  · exact od 1 _ _ _ _ rfl hd0 rfl (by decide) rfl ⟨by decide +kernel, by decide +kernel, by decide +kernel⟩ (by decide +kernel) rfl ⟨by decide +kernel, by decide +kernel, by decide +kernel⟩
  · exact od 2 _ _ _ _ rfl hd0 rfl (by decide) rfl ⟨by decide +kernel, by decide +kernel, by decide +kernel⟩ (by decide +kernel) rfl ⟨by decide +kernel, by decide +kernel, by decide +kernel⟩
  · exact fl _ _ _ hd0 (fun _ => rfl) (by decide) (by decide) ⟨by decide +kernel, by decide +kernel, by decide +kernel⟩ (fun _ => rfl)
  · exact fl _ _ _ hd0 (fun _ => rfl) (by decide) (by decide) ⟨by decide +kernel, by decide +kernel, by decide +kernel⟩ (fun _ => rfl)
  · exact fl _ _ _ hd0 (fun _ => rfl) (by decide) (by decide) ⟨by decide +kernel, by decide +kernel, by decide +kernel⟩ (fun _ => rfl)
  · exact fl _ _ _ hd0 (fun _ => rfl) (by decide) (by decide) ⟨by decide +kernel, by decide +kernel, by decide +kernel⟩ (fun _ => rfl)
  · exact fl _ _ _ hd0 (fun _ => rfl) (by decide) (by decide) ⟨by decide +kernel, by decide +kernel, by decide +kernel⟩ (fun _ => rfl)
  · exact ol 3 _ _ _ _ rfl hd0 rfl (by decide) rfl ⟨by decide +kernel, by decide +kernel, by decide +kernel⟩ rfl ⟨by decide +kernel, by decide +kernel, by decide +kernel⟩
  · exact ol 4 _ _ _ _ rfl hd0 rfl (by decide) rfl ⟨by decide +kernel, by decide +kernel, by decide +kernel⟩ rfl ⟨by decide +kernel, by decide +kernel, by decide +kernel⟩
  · exact ol 5 _ _ _ _ rfl hd0 rfl (by decide) rfl ⟨by decide +kernel, by decide +kernel, by decide +kernel⟩ rfl ⟨by decide +kernel, by decide +kernel, by decide +kernel⟩
  · exact fl _ _ _ hd0 (fun _ => rfl) (by decide) (by decide) ⟨by decide +kernel, by decide +kernel, by decide +kernel⟩ (fun _ => rfl)
  · exact ol 6 _ _ _ _ rfl hd0 rfl (by decide) rfl ⟨by decide +kernel, by decide +kernel, by decide +kernel⟩ rfl ⟨by decide +kernel, by decide +kernel, by decide +kernel⟩
  · exact ol 7 _ _ _ _ rfl hd0 rfl (by decide) rfl ⟨by decide +kernel, by decide +kernel, by decide +kernel⟩ rfl ⟨by decide +kernel, by decide +kernel, by decide +kernel⟩
end
end Kt
set_option maxHeartbeats 1000000
/-! Kt17: more rules: lengths and items of dicts, places in lists, lists with a name made by a call. -/
namespace Kt
open PySem PySem.Spec L2
section
variable {X : Cx} {cl : String → Addr} {x : Str} {p p2 pos apos cpos : Pos} {da db dk de : DE} {a b e o : Expr}
/-- len(x), x a dict or a list of its own -/
def dLenO (i : Nat) : DE := fun s Q _ => (∃ ks, s.sl[i]? = some (some (.od ks)) ∧ Q (.int ks.length) s.st) ∨ ∃ ds, s.sl[i]? = some (some (.ol ds)) ∧ Q (.int ds.length) s.st
theorem x_lenO (i : Nat) (hg : Gl X "len") (hm : X.mg "len" = none) (hN : X.N[i]? = some x) (hv : Vis X.env.scope x := by first | exact Or.inl rfl | exact Or.inr (Or.inl rfl) | exact Or.inr (Or.inr rfl)) (hd : (x == ("__debug__" : Str)) = false := by decide)
    (hcd : (x == ("__classdict__" : Str)) = false := by decide) (he : starEach (.Name x p2 :: []) X.env = (false, eval (.Name x p2) X.env) :: starEach [] X.env := by rfl) (hpl : (backTo pos (starEach [] X.env)).any (·.1) = false := by rfl) :
    Ex X cl (.Call (.Name "len" p) [.Name x p2] [] pos) (dLenO i) := by
  have two' : CallR X (.builtin "len") (fun vs H Q => (∃ a kvs, vs = [V.ref a] ∧ H a = some (.dK kvs) ∧ Q (.int kvs.length) H) ∨ ∃ x n, vs = [x] ∧ LenV X.K x H n ∧ Q (.int n) H) := fun pins s σ H xs us Q I r h => by
    rcases h with h | h
    · exact call_lenD pins s σ H xs us Q I r h
    · exact call_len pins s σ H xs us Q I r h
  refine ⟨fun _ => tCB _ (tCons (tVar i) tNil), fun W t => pe_callB two' hg hm (by decide +kernel) (pa_cons (pe_var hN hv hd hcd) pa_nil he) (by decide) (by decide) he hpl, ⟨fun B W σ H F ν s Q E P r w q k => ?_⟩⟩
  rcases q with ⟨ks, e0, q⟩ | ⟨ds, e0, q⟩
  · obtain ⟨u, h1, h2⟩ := r.sl i _ e0
    cases h2 with
    | @od a vs _ f eo z => exact ⟨_, h1, .inl ⟨a, vs, rfl, eo, by rw [z.len]; exact k _ H F ν _ s.st Ext.refl r (.int _) q⟩⟩
  · obtain ⟨u, h1, h2⟩ := r.sl i _ e0
    cases h2 with
    | @ol a vs _ f eo z => exact ⟨_, h1, .inr ⟨_, vs.length, rfl, .inl ⟨vs, SqL.of eo, rfl⟩, by rw [z.length]; exact k _ H F ν _ s.st Ext.refl r (.int _) q⟩⟩
/-- d[k], d a dict that stays as it is, or one with a name -/
def asDct (st : List Ob) : D → Option (List (Key × D))
  | .dct ks => some ks
  | .obj n => match st[n]? with
    | some (.dct ks) => some ks
    | _ => none
  | _ => none
theorem R.dctq {c : Cf} {B : Bs} {s : S} {σ : L2.St} {H F : Hp} {ν : List Addr} (r : R c B s σ H F ν) {v : V} {d : D} {ks : List (Key × D)} (z : Rz c F ν v d) (e : asDct s.st d = some ks) : ∃ a kvs, v = .ref a ∧ H a = some (.dK kvs) ∧ RzKv c F ν kvs ks := by
  cases z with
  | dct h q => cases e; exact ⟨_, _, rfl, r.sub _ _ h, q⟩
  | @obj a n h =>
    simp only [asDct] at e
    cases e1 : s.st[n]? with
    | none => rw [e1] at e; cases e
    | some ob =>
      rw [e1] at e
      cases ob with
      | lst _ => cases e
      | dct ds' =>
        cases e
        obtain ⟨o, ho, hr⟩ := r.st n _ a e1 h
        cases hr with
        | dct q => exact ⟨_, _, rfl, ho, q⟩
  | _ => cases e
def kDGet : K2 := fun x y st K => ∃ ks k v, asDct st x = some ks ∧ keyOf y = some k ∧ getD ks k = some v ∧ K v st
theorem x_dget (hu : X.A.units + 1 < cLine) (ha : Ex X cl a da) (hb : Ex X cl b db) (hs : NoSl b := by intro _ _; rfl) : Ex X cl (.Subscript a b pos) (dBin kDGet da db) := by
  obtain ⟨ta, a1, a2⟩ := ha.ex
  obtain ⟨tb, b1, b2⟩ := hb.ex
  refine ⟨fun W => tDGet (ta W) (tb W), fun W t => pe_dget hu (a1 W t) (b1 W t) hs, ⟨fun B W σ H F ν s Q E P r w q k => ?_⟩⟩
  refine a2.go B W σ H F ν s _ E _ r w q fun v H1 F1 ν1 d st1 x1 r1 z1 q1 => ?_
  refine b2.go B W σ H1 F1 ν1 ⟨s.sl, st1⟩ _ E _ r1 (w.next x1) q1 fun u H2 F2 ν2 d2 st2 x2 r2 z2 q2 => ?_
  obtain ⟨ks, kk, vv, e1, e2, e3, q2⟩ := q2
  obtain ⟨aa, kvs, rfl, hH, zz⟩ := r2.dctq (z1.mono x2) e1
  have ek := keyOf_ok z2 e2
  subst ek
  rcases zz.get (k := kk) with ⟨h1, _⟩ | ⟨d3, v3, h1, h2, h3⟩
  · rw [h1] at e3; cases e3
  · rw [h1] at e3; cases e3
    exact ⟨aa, v3, rfl, by rw [← h2]; exact DGet.k hH, k v3 H2 F2 ν2 _ st2 (x1.trans x2) r2 h3 q2⟩
/-- xs.index(y) -/
theorem idx_v {c : Cf} {F : Hp} {ν : List Addr} {v : V} {y : D} (z : Rz c F ν v y) (hy : flD y = true) : ∀ {us : List V} {ds : List D}, RzAll c F ν us ds → ds.all flD = true → us.all flatV = true ∧ ∀ (j : Nat) (u : V) (d : D), us[j]? = some u → ds[j]? = some d → eqV u v = eqF d y
  | _, _, .nil, _ => ⟨rfl, fun j u d h _ => by simp at h⟩
  | _, _, .cons a r, hd => by
    rw [List.all_cons, Bool.and_eq_true] at hd
    obtain ⟨i1, i2⟩ := idx_v z hy r hd.2
    refine ⟨by rw [List.all_cons, flD_ok a hd.1, i1]; rfl, fun j u d h1 h2 => ?_⟩
    cases j with
    | zero =>
      have e1 := Option.some.inj h1
      have e2 := Option.some.inj h2
      subst e1; subst e2
      exact eqF_ok a z hd.1 hy
    | succ j => exact i2 j u d (by simpa using h1) (by simpa using h2)
theorem x_index (ho : Ex X cl o da) (he : Ex X cl e db)
    (hbase : attributeBase o "index" X.env (eval o X.env) = eval o X.env := by rfl)
    (hfew : ((backTo cpos (starEach (e :: []) X.env)).all (fun x => !x.1) && (backToKw cpos (keywordEach [] X.env)).all (fun x => x.1.isSome)
      && decide ((e :: []).length + ([] : List Keyword).length + (if ([] : List Keyword).isEmpty then 0 else 1) < 30)) = true := by rfl)
    (hline : (apos.endLine == cpos.line) = true := by rfl) (hs : starEach (e :: []) X.env = (false, eval e X.env) :: starEach [] X.env := by rfl) (hplain : (backTo cpos (starEach [] X.env)).any (·.1) = false := by rfl) :
    Ex X cl (.Call (.Attribute o "index" apos) [e] [] cpos) (dIdx da db) := by
  obtain ⟨tO, b1, b2⟩ := ho.ex
  obtain ⟨te, a1, a2⟩ := he.ex
  refine ⟨fun W => tBM X.K "list" (rIndex X.K) (tO W) (tCons (te W) tNil), fun W t => pe_bm PySem.F.plainAttrs_list PySem.F.slot_list_index PySem.F.type_list_index mt_index (b1 W t) (pa_cons (a1 W t) pa_nil hs) hbase hfew hline hs hplain, ⟨fun B W σ H F ν s Q E P r w q k => ?_⟩⟩
  refine b2.go B W σ H F ν s _ E _ r w q fun u H1 F1 ν1 d st1 x1 r1 z1 q1 => ?_
  obtain ⟨⟨ds, e1⟩, q1⟩ := q1
  obtain ⟨aa, ys, rfl, hq, _⟩ := r1.lstq z1 e1
  refine ⟨.inl ⟨rfl, _, hq⟩, ?_⟩
  refine a2.go B W σ H1 F1 ν1 ⟨s.sl, st1⟩ _ E _ r1 (w.next x1) q1 fun v H2 F2 ν2 y st2 x2 r2 z2 q2 => ?_
  obtain ⟨ds2, j, e2, fy, fa, ej, q2⟩ := q2
  obtain ⟨a2', ys2, ea, hq2, qq⟩ := r2.lstq (z1.mono x2) e2
  cases ea
  obtain ⟨f1, f2⟩ := idx_v z2 fy qq fa
  obtain ⟨z, g1, g2, g3⟩ := idxOf_ok ej
  obtain ⟨uz, h1, h2⟩ := qq.get g1
  refine ⟨aa, ys2, v, j, uz, rfl, rfl, hq2, flD_ok z2 fy, f1, h1, by rw [f2 j uz z h1 g1]; exact g2, fun m z' hm hz => ?_, k _ H2 F2 ν2 _ st2 (x1.trans x2) r2 (.int _) q2⟩
  obtain ⟨dm, h3, _⟩ := qq.getV hz
  rw [f2 m z' dm hz h3]
  exact g3 m dm hm h3
/-- list(x): a list with a name; xs * n: one with a name -/
def kListN : KA := fun xs st K => match xs with
  | [d] => ∃ ds, asSeq st d = some ds ∧ K (.obj st.length) (st ++ [.lst ds])
  | _ => False
theorem c_listN : CallD X cl (.type "list") kListN := by
  refine ⟨_, call_list_of, fun B s σ H F ν vs xs K P r rx h k => ?_⟩
  unfold kListN at h
  split at h
  · obtain ⟨ds, e, h⟩ := h
    cases rx with
    | cons z zr =>
      cases zr
      obtain ⟨a, ys, rfl, hq, q⟩ := r.seq z e
      refine ⟨a, ys, rfl, hq, fun p hp => ?_⟩
      obtain ⟨r2, x2⟩ := r.names hp (.lst q)
      have e : (ν ++ [p])[s.st.length]? = some p := by
        have := r.sn
        rw [show s.st.length = ν.length from this]; simp
      exact k _ _ _ _ _ _ x2 r2 (.obj e) h
  · exact h.elim
def kMulN : K2 := fun x y st K => match x, y with
  | .lst a, .int j => (-(2 ^ 63) ≤ j ∧ j < 2 ^ 63) ∧ a.length * j.toNat ≤ sizeLine ∧ K (.obj st.length) (st ++ [.lst (List.flatten (List.replicate j.toNat a))])
  | _, _ => False
theorem o_mulN : OpD X cl (binaryOp .Mult) kMulN := by
  refine ⟨_, op_rep, fun B s σ H F ν v u x y K P r rx ry h k => ?_⟩
  unfold kMulN at h
  split at h
  · cases ry
    cases rx with
    | lst h1 z1 =>
      refine ⟨_, _, _, rfl, rfl, r.sub _ _ h1, h.1.1, h.1.2, by rw [z1.length]; exact h.2.1, fun p hp => ?_⟩
      obtain ⟨r2, x2⟩ := r.names hp (.lst (z1.rep _))
      have e : (ν ++ [p])[s.st.length]? = some p := by
        have := r.sn
        rw [show s.st.length = ν.length from this]; simp
      exact k _ _ _ _ _ _ x2 r2 (.obj e) h.2.2
  · exact h.elim
end
end Kt
set_option maxHeartbeats 400000
/-! Kt18: numbers in texts, read by the program. -/
namespace Kt
open PySem PySem.Spec L2
def R_numtext : DS := (dSeq (dIfS (dOr (dNot (dTest (dIsi "str" (dVar 0)))) (dNot (dTest (dChain kLe kLe (dC (.int 1)) (dB kLen (dCons (dVar 0) dNil)) (dC (.int 5)))))) (dSeq (dRet (dC (.bl false))) dNext) dNext) (dSeq (dIfS (dNot (dTest (dB kAll (dCons (dLcE (dLc (dIt (dVar 0)) (dName 1) dYes (dBin kIn (dVar 1) (dC (.str "0123456789"))) [1])) dNil)))) (dSeq (dRet (dC (.bl false))) dNext) dNext) (dSeq (dRet (dOrV (dBin kEq (dVar 0) (dC (.str "0"))) (dBin kNe (dBin kIx (dVar 0) (dC (.int 0))) (dC (.str "0"))))) dNext)))
def m_numtext : SpD := mD 2 1 R_numtext
section
variable {st : List Ob} {Q : SV → List Ob → Prop} {E : XK'}
/-- a text of figures, none of them needless -/
def numS (x : Str) : Bool := decide (1 ≤ x.length) && decide (x.length ≤ 5) && x.cps.toList.all (fun c => decide (c ∈ figs)) && (decide (x = "0") || decide (x.cps.toList.head? ≠ some 48))
def numD : D → Bool
  | .str x => numS x
  | _ => false
theorem len_i (x : Str) : ((x.length : Nat) : Int) = (x.cps.toList.length : Nat) := by
  show ((x.cps.size : Nat) : Int) = _
  simp
theorem one_sign (c : Nat) : oneSign ⟨#[c]⟩ = some c := rfl
theorem kIn_figs {c : Nat} {K : DK} (k : K (.bl (decide (c ∈ figs))) st) : kIn (.str ⟨#[c]⟩) (.str "0123456789") st K := ⟨c, rfl, k⟩
theorem kEq_strs {a b : Str} {K : DK} (k : K (.bl (decide (a = b))) st) : kEq (.str a) (.str b) st K := k
theorem kNe_strs' {a b : Str} {K : DK} (k : K (.bl (!decide (a = b))) st) : kNe (.str a) (.str b) st K := ⟨_, rfl, k⟩
theorem isnum_str {x : Str} (hz : x.length ≤ 1000) (q : Q (.d (.bl (numS x))) st) : m_numtext [.str x] st Q E := by
  have hz1 : x.length ≤ sizeLine := by rw [sizeLine_eq]; omega
  simp only [m_numtext, R_numtext, mD, dSeq, dIfS, dOr, dNot, dTest, dIsi, dChain, dBin, dB, dCons, dNil, dVar, dC, dRet, dNext, kLe, kCmpI, kI]
  refine ⟨rfl, .str x, rfl, "str", rfl, _, rfl, ?_⟩
  rw [if_neg (by decide)]
  refine ⟨.str x, rfl, hz1, True.intro, _, rfl, ?_⟩
  have no : numS x = false → Q (.d (.bl false)) st := fun e => by rw [e] at q; exact q
  by_cases h1 : 1 ≤ x.length
  · rw [if_pos (by simpa using (by omega : (1 : Int) ≤ x.length))]
    refine ⟨True.intro, _, rfl, ?_⟩
    by_cases h5 : x.length ≤ 5
    · rw [if_neg (by simp; omega)]
      simp only [dLcE, dLc, dIt]
      refine ⟨.str x, rfl, _, rfl, ?_⟩
      have hl : x.cps.toList.length ≤ sizeLine := by have := len_i x; omega
      refine comp_map (fun d => match d with | .str z => .bl (decide (z.cps.toList.head?.getD 0 ∈ figs)) | _ => .non) trivial _ _ (by rw [List.length_map]; exact hl) (fun d hd K k => ?_) ?_
      · obtain ⟨c, _, rfl⟩ := List.mem_map.mp hd
        exact ⟨.str ⟨#[c]⟩, rfl, kIn_figs k⟩
      · rw [List.map_map]
        have e : (List.map ((fun d => match d with | .str z => .bl (decide (z.cps.toList.head?.getD 0 ∈ figs)) | _ => .non) ∘ fun c => D.str ⟨#[c]⟩) x.cps.toList) = (x.cps.toList.map fun c => decide (c ∈ figs)).map D.bl := by
          rw [List.map_map]
          rfl
        rw [e]
        refine ⟨_, blsOf_map _, _, rfl, ?_⟩
        have e2 : (x.cps.toList.map fun c => decide (c ∈ figs)).all id = x.cps.toList.all (fun c => decide (c ∈ figs)) := by rw [List.all_map]; rfl
        by_cases ha : x.cps.toList.all (fun c => decide (c ∈ figs)) = true
        · rw [if_neg (by show ¬ ((!(x.cps.toList.map fun c => decide (c ∈ figs)).all id) = true); rw [e2, ha]; decide)]
          simp only [dOrV, dBin, dVar, dC]
          refine ⟨.str x, rfl, kEq_strs ⟨_, rfl, ?_⟩⟩
          by_cases h0 : x = "0"
          · rw [if_pos (by simpa using h0)]
            have : numS x = true := by rw [h0]; decide +kernel
            rw [this] at q
            exact q
          · rw [if_neg (by simpa using h0)]
            have hp : 0 < x.cps.toList.length := by have := len_i x; omega
            refine ⟨.str x, rfl, hz1, x.cps.toList[0], atN (by simp [hp]), kNe_strs' ?_⟩
            have hh : x.cps.toList.head? = some x.cps.toList[0] := by rw [List.head?_eq_getElem?]; simp [hp]
            have e3 : numS x = !decide ((⟨#[x.cps.toList[0]]⟩ : Str) = "0") := by
              have e4 : decide ((⟨#[x.cps.toList[0]]⟩ : Str) = "0") = decide (x.cps.toList[0] = 48) := by
                have : ("0" : Str) = ⟨#[48]⟩ := by decide +kernel
                rw [this]
                simp
              simp only [numS, h1, h5, ha, h0, hh, e4, decide_true, decide_false, Bool.false_or, Bool.true_and]
              simp
            rw [e3] at q
            exact q
        · rw [if_pos (by show (!(x.cps.toList.map fun c => decide (c ∈ figs)).all id) = true; rw [e2]; simpa using ha)]
          exact no (by simp only [numS, ha, Bool.and_false, Bool.false_and])
    · rw [if_pos (by simp; omega)]
      exact no (by simp [numS, h5])
  · rw [if_neg (by simp; omega)]
    exact ⟨false, rfl, no (by simp [numS, h1])⟩
theorem isnum_not {d : D} {t : String} (h : tyD st d = some t) (ht : isB "str" t = false) (q : Q (.d (.bl false)) st) : m_numtext [d] st Q E := by
  simp only [m_numtext, R_numtext, mD, dSeq, dIfS, dOr, dNot, dTest, dIsi, dVar, dC, dRet, dNext]
  refine ⟨rfl, d, rfl, t, h, _, rfl, ?_⟩
  rw [ht]
  exact q
theorem num_ok {d : D} (h : (∃ x, d = .str x ∧ x.length ≤ 1000) ∨ ∃ t, tyD st d = some t ∧ isB "str" t = false) (q : Q (.d (.bl (numD d))) st) : m_numtext [d] st Q E := by
  rcases h with ⟨x, rfl, hz⟩ | ⟨t, ht, hb⟩
  · exact isnum_str hz q
  · refine isnum_not ht hb ?_
    have e : numD d = false := by
      cases d <;> first | rfl | (simp [tyD] at ht; subst ht; simp [isB] at hb)
    rw [e] at q
    exact q
end
end Kt
set_option maxHeartbeats 1000000
namespace Kt
open PySem PySem.Spec L2
section
variable {X : Cx} {cl : String → Addr}
/-- the sum of two lists, as an own object -/
def kAddN : K2 := fun x y st K => match x, y with
  | .lst a, .lst b => a.length + b.length ≤ sizeLine ∧ K (.obj st.length) (st ++ [.lst (a ++ b)])
  | _, _ => False
theorem o_addN : OpD X cl (binaryOp .Add) kAddN := by
  refine ⟨_, op_cat, fun B s σ H F ν v u x y K P r rx ry h k => ?_⟩
  unfold kAddN at h
  split at h
  · cases rx with
    | lst h1 z1 =>
      cases ry with
      | lst h2 z2 =>
        refine ⟨_, _, _, _, rfl, rfl, r.sub _ _ h1, r.sub _ _ h2, by rw [z1.length, z2.length]; exact h.1, fun p hp => ?_⟩
        obtain ⟨r2, x2⟩ := r.names hp (.lst (z1.append z2))
        have e : (ν ++ [p])[s.st.length]? = some p := by
          have := r.sn
          rw [show s.st.length = ν.length from this]; simp
        exact k _ _ _ _ _ _ x2 r2 (.obj e) h.2
  · exact h.elim
end
end Kt
set_option maxHeartbeats 1000000
/-! Kt20: named lists that hold named lists: their repr. -/
namespace Kt
open PySem PySem.Spec L2
def obPy2 (st : List Ob) (n : Nat) : Option PyData := match st[n]? with
  | some (.lst ds) => (toPyA (obPy st) ds).map .list
  | some (.dct ks) => (toPyK (obPy st) ks).map .dict
  | none => none
def toPy2 (st : List Ob) (d : D) : Option PyData := toPyF (obPy2 st) d
section
variable {c : Cf} {F H : Hp} {ν : List Addr} {g : Nat → Option PyData}
theorem ob_py {B : Bs} {s : S} {σ : L2.St} (r : R c B s σ H F ν) {n : Nat} {a : Addr} {p : PyData} (hn : ν[n]? = some a) (hp : obPy s.st n = some p) : Py c.K H (.ref a) p := by
  have hl : n < s.st.length := by rw [r.sn]; exact (List.getElem?_eq_some_iff.mp hn).1
  obtain ⟨o, ho, hr⟩ := r.st n s.st[n] a (by simp [hl]) hn
  unfold obPy at hp
  have e1 : s.st[n]? = some s.st[n] := by simp [hl]
  rw [e1] at hp
  generalize s.st[n] = ob at hr hp
  cases hr with
  | lst q =>
    obtain ⟨ps, e2, rfl⟩ := Option.map_eq_some_iff.mp hp
    exact .lst (SqL.of ho) (py_ofA r.sub (fun _ _ _ _ z => by cases z) q e2)
  | dct q =>
    obtain ⟨ps, e2, rfl⟩ := Option.map_eq_some_iff.mp hp
    exact .dct ho (py_ofK r.sub (fun _ _ _ _ z => by cases z) q e2)
theorem R.py2 {B : Bs} {s : S} {σ : L2.St} (r : R c B s σ H F ν) {v : V} {d : D} {p : PyData} (z : Rz c F ν v d) (e : toPy2 s.st d = some p) : Py c.K H v p := by
  refine py_of r.sub (fun n a p hn hp => ?_) z e
  have hl : n < s.st.length := by rw [r.sn]; exact (List.getElem?_eq_some_iff.mp hn).1
  obtain ⟨o, ho, hr⟩ := r.st n s.st[n] a (by simp [hl]) hn
  unfold obPy2 at hp
  have e1 : s.st[n]? = some s.st[n] := by simp [hl]
  rw [e1] at hp
  generalize s.st[n] = ob at hr hp
  cases hr with
  | lst q =>
    obtain ⟨ps, e2, rfl⟩ := Option.map_eq_some_iff.mp hp
    exact .lst (SqL.of ho) (py_ofA r.sub (fun _ _ _ h1 h2 => ob_py r h1 h2) q e2)
  | dct q =>
    obtain ⟨ps, e2, rfl⟩ := Option.map_eq_some_iff.mp hp
    exact .dct ho (py_ofK r.sub (fun _ _ _ h1 h2 => ob_py r h1 h2) q e2)
end
section
variable {X : Cx} {cl : String → Addr}
def kRepr2 : KA := fun xs st K => ∃ x p, xs = [x] ∧ toPy2 st x = some p ∧ p.showable = true ∧ p.shown.length ≤ sizeLine ∧ p.depth ≤ 64 ∧ K (.str p.shown) st
theorem c_repr2 (hgd : X.A.guards = some []) (hu : X.A.units + 66 < cLine) : CallD X cl (.builtin "repr") kRepr2 := by
  refine ⟨fun vs H Q => ∃ v p, vs = [v] ∧ Py X.K H v p ∧ p.showable = true ∧ p.shown.length ≤ sizeLine ∧ p.depth ≤ 64 ∧ Q (.str p.shown) H, fun pins s σ H xs us Q I r h => ?_, fun B s σ H F ν vs xs K P r rx h k => ?_⟩
  · obtain ⟨v, p, rfl, hp, h1, h2, h3, q⟩ := h
    obtain ⟨u, rfl, ru⟩ := vals1 r
    exact (Py.dr I hp ru).repr h1 h2 hgd (by omega) (fun _ _ e => e) fun h' w tk hk => ⟨.str p.shown, H, I.kept hk, ⟨w, rfl⟩, q⟩
  · obtain ⟨x, p, rfl, hp, h1, h2, h3, q⟩ := h
    cases rx with
    | cons z zr =>
      cases zr
      exact ⟨_, p, rfl, r.py2 z hp, h1, h2, h3, k _ H F ν _ s.st Ext.refl r (.str _) q⟩
end
end Kt
set_option maxHeartbeats 1000000
/-! Kt21: what is shown one level deep is shown two levels deep. -/
namespace Kt
open PySem PySem.Spec L2
section
variable {g h : Nat → Option PyData}
mutual
theorem toPyF_mono (m : ∀ n p, g n = some p → h n = some p) : ∀ (d : D) (p : PyData), toPyF g d = some p → toPyF h d = some p
  | .non, _, e => by rw [toPyF] at e ⊢; exact e
  | .bl _, _, e => by rw [toPyF] at e ⊢; exact e
  | .int _, _, e => by rw [toPyF] at e ⊢; exact e
  | .str _, _, e => by rw [toPyF] at e ⊢; exact e
  | .lst ds, _, e => by
    rw [toPyF] at e ⊢
    obtain ⟨ps, e1, e2⟩ := Option.map_eq_some_iff.mp e
    rw [toPyA_mono m ds ps e1]
    exact congrArg some e2
  | .frl ds, _, e => by
    rw [toPyF] at e ⊢
    obtain ⟨ps, e1, e2⟩ := Option.map_eq_some_iff.mp e
    rw [toPyA_mono m ds ps e1]
    exact congrArg some e2
  | .tup ds, _, e => by
    rw [toPyF] at e ⊢
    obtain ⟨ps, e1, e2⟩ := Option.map_eq_some_iff.mp e
    rw [toPyA_mono m ds ps e1]
    exact congrArg some e2
  | .dct ks, _, e => by
    rw [toPyF] at e ⊢
    obtain ⟨ps, e1, e2⟩ := Option.map_eq_some_iff.mp e
    rw [toPyK_mono m ks ps e1]
    exact congrArg some e2
  | .obj n, p, e => by rw [toPyF] at e ⊢; exact m n p e
  | .part _, _, e => by rw [toPyF] at e; cases e
theorem toPyA_mono (m : ∀ n p, g n = some p → h n = some p) : ∀ (d : List D) (p : List PyData), toPyA g d = some p → toPyA h d = some p
  | [], _, e => by rw [toPyA] at e ⊢; exact e
  | d :: ds, _, e => by
    rw [toPyA] at e ⊢
    cases h1 : toPyF g d with
    | none => rw [h1] at e; cases e
    | some p1 =>
      cases h2 : toPyA g ds with
      | none => rw [h1, h2] at e; cases e
      | some p2 =>
        rw [h1, h2] at e
        rw [toPyF_mono m d p1 h1, toPyA_mono m ds p2 h2]
        exact e
theorem toPyK_mono (m : ∀ n p, g n = some p → h n = some p) : ∀ (d : List (Key × D)) (p : List (PyData × PyData)), toPyK g d = some p → toPyK h d = some p
  | [], _, e => by rw [toPyK] at e ⊢; exact e
  | (k, d) :: ds, _, e => by
    rw [toPyK] at e ⊢
    cases h1 : toPyF g d with
    | none => rw [h1] at e; cases e
    | some p1 =>
      cases h2 : toPyK g ds with
      | none => rw [h1, h2] at e; cases e
      | some p2 =>
        rw [h1, h2] at e
        rw [toPyF_mono m d p1 h1, toPyK_mono m ds p2 h2]
        exact e
end
end
theorem obPy_up {st : List Ob} (n : Nat) (p : PyData) (e : obPy st n = some p) : obPy2 st n = some p := by
  unfold obPy at e
  unfold obPy2
  generalize st[n]? = oq at e ⊢
  match oq, e with
  | some (.lst ds), e =>
    obtain ⟨ps, e1, e2⟩ := Option.map_eq_some_iff.mp e
    show (toPyA (obPy st) ds).map PyData.list = some p
    rw [toPyA_mono (fun _ _ z => by cases z) ds ps e1]
    exact congrArg some e2
  | some (.dct ds), e =>
    obtain ⟨ps, e1, e2⟩ := Option.map_eq_some_iff.mp e
    show (toPyK (obPy st) ds).map PyData.dict = some p
    rw [toPyK_mono (fun _ _ z => by cases z) ds ps e1]
    exact congrArg some e2
theorem toPy_up {st : List Ob} {d : D} {p : PyData} (e : toPy st d = some p) : toPy2 st d = some p := toPyF_mono obPy_up d p e
theorem kRepr_up {xs : List D} {st : List Ob} {K K' : DK} (k : ∀ d st', K d st' → K' d st') (h : kRepr xs st K) : kRepr2 xs st K' := by
  obtain ⟨x, p, e, h1, h2, h3, h4, h5⟩ := h
  exact ⟨x, p, e, toPy_up h1, h2, h3, h4, k _ _ h5⟩
def R_very2 : DS := (dSeq (dIfS (dTest (dIsi "list" (dVar 1))) (dSeq (dDrop (dApN (dVar 1) (dC (.str "more")))) dNext) dNext) (dSeq (dIfS (dTest (dIsi "dict" (dVar 1))) (dSeq (dDPutN (dVar 1) (dC (.str "more")) (dC (.int 1))) dNext) dNext) (dSeq (dRet (dBin kEq (dB kRepr2 (dCons (dVar 0) dNil)) (dB kRepr2 (dCons (dVar 1) dNil)))) dNext)))
end Kt
set_option maxHeartbeats 1000000
/-! Kt22: odd values, asked whether they are the same object, where lists may hold named lists. -/
namespace Kt
open PySem PySem.Spec L2
inductive Vw (st : List Ob) : D → Prop
  | flat {d : D} {t : String} {p : PyData} : (∀ st, tyD st d = some t) → isB "list" t = false → isB "dict" t = false → Rp p → (∀ g, toPyF g d = some p) → Vw st d
  | lst {n : Nat} {ds : List D} {ps : List PyData} : st[n]? = some (.lst ds) → ds.length < 1000 → (∀ st', (∀ k, k ≠ n → st'[k]? = st[k]?) → toPyA (obPy st') (ds ++ [.str "more"]) = some ps) → Rp (.list ps) → Vw st (.obj n)
  | dct {n : Nat} {ks : List (Key × D)} {ps : List (PyData × PyData)} : st[n]? = some (.dct ks) → ks.length < 1000 → toPyK (fun _ => none) (putD ks (.inr "more") (.int 1)) = some ps → Rp (.dict ps) → Vw st (.obj n)
theorem Vk.vw {st : List Ob} {d : D} (h : Vk st d) : Vw st d := by
  cases h with
  | flat a b c e f => exact .flat a b c e f
  | lst a b c e => exact .lst a b (fun st' _ => toPyA_mono (fun _ _ z => by cases z) _ _ c) e
  | dct a b c e => exact .dct a b c e
theorem kRepr2_rp {st : List Ob} {a : D} {p : PyData} {K : DK} (g : Rp p) (h : toPy2 st a = some p) (k : K (.str p.shown) st) : kRepr2 [a] st K := ⟨a, p, rfl, h, g.s, by rw [sizeLine_eq]; exact g.l, g.d, k⟩
section
variable {st : List Ob} {Q : SV → List Ob → Prop} {E : XK'}
theorem very2_ok {d : D} (h : Vw st d) (q : ∀ st', (∀ m, d ≠ .obj m → st'[m]? = st[m]?) → st'.length = st.length → Q (.d (.bl true)) st') : mD 2 2 R_very2 [d, d] st Q E := by
  cases h with
  | @flat _ t p a b c e f =>
    have ht : toPy2 st d = some p := f _
    simp only [mD, R_very2, dSeq, dIfS, dTest, dIsi, dBin, dB, dCons, dNil, dVar, dC, dRet, dNext]
    refine ⟨rfl, d, rfl, t, a st, _, rfl, ?_⟩
    rw [if_neg (by rw [b]; exact Bool.false_ne_true)]
    refine ⟨d, rfl, t, a st, _, rfl, ?_⟩
    rw [if_neg (by rw [c]; exact Bool.false_ne_true)]
    refine ⟨d, rfl, kRepr2_rp e ht ⟨d, rfl, kRepr2_rp e ht ?_⟩⟩
    unfold kEq
    simp only [scEq, decide_true]
    exact q st (fun _ _ => rfl) rfl
  | @lst n ds ps a b c e =>
    have hl := (List.getElem?_eq_some_iff.mp a).1
    have e' : (st.set n (.lst (ds ++ [.str "more"])))[n]? = some (.lst (ds ++ [.str "more"])) := List.getElem?_set_self hl
    have h : toPy2 (st.set n (.lst (ds ++ [.str "more"]))) (.obj n) = some (.list ps) := by
      unfold toPy2
      rw [toPyF, obPy2, e']
      simp only [c _ fun k hk => List.getElem?_set_ne fun z => hk z.symm]
      rfl
    simp only [mD, R_very2, dSeq, dIfS, dTest, dIsi, dBin, dB, dCons, dNil, dVar, dC, dRet, dNext, dDrop, dApN]
    refine ⟨rfl, .obj n, rfl, "list", by simp only [tyD, a], _, rfl, ?_⟩
    rw [if_pos (by decide)]
    refine ⟨.obj n, rfl, ⟨n, ds, rfl, a⟩, n, ds, rfl, a, by rw [sizeLine_eq]; omega, ?_⟩
    refine ⟨.obj n, rfl, "list", by simp only [tyD, e'], _, rfl, ?_⟩
    rw [if_neg (by decide)]
    refine ⟨.obj n, rfl, kRepr2_rp e h ⟨.obj n, rfl, kRepr2_rp e h ?_⟩⟩
    unfold kEq
    simp only [scEq, decide_true]
    exact q _ (fun m hm => List.getElem?_set_ne fun z => hm (by rw [z])) (List.length_set ..)
  | @dct n ks ps a b c e =>
    have hl := (List.getElem?_eq_some_iff.mp a).1
    simp only [mD, R_very2, dSeq, dIfS, dTest, dIsi, dBin, dB, dCons, dNil, dVar, dC, dRet, dNext, dDPutN]
    refine ⟨rfl, .obj n, rfl, "dict", by simp only [tyD, a], _, rfl, ?_⟩
    rw [if_neg (by decide)]
    refine ⟨.obj n, rfl, "dict", by simp only [tyD, a], _, rfl, ?_⟩
    rw [if_pos (by decide)]
    refine ⟨.obj n, rfl, n, ks, .inr "more", rfl, a, rfl, by rw [sizeLine_eq]; omega, ?_⟩
    have h : toPy2 (st.set n (.dct (putD ks (.inr "more") (.int 1)))) (.obj n) = some (.dict ps) := by
      refine toPy_up ?_
      unfold toPy
      rw [toPyF, obPy, List.getElem?_set_self hl]
      simp only [c]
      rfl
    refine ⟨.obj n, rfl, kRepr2_rp e h ⟨.obj n, rfl, kRepr2_rp e h ?_⟩⟩
    unfold kEq
    simp only [scEq, decide_true]
    exact q _ (fun m hm => List.getElem?_set_ne fun z => hm (by rw [z])) (List.length_set ..)
end
end Kt
set_option maxHeartbeats 4000000
/-! Kt23: f-strings; str.index; methods of a text without arguments. -/
namespace Kt
open PySem PySem.Spec L2
section
variable {X : Cx} {cl : String → Addr} {e o : Expr} {es : List Expr} {de da : DE} {pos apos : Pos}
/-- {x}: a text or a number -/
def dFmt (de : DE) : DE := fun s Q E => de s (fun x st => match x with
  | .str y => y.length ≤ sizeLine ∧ Q (.str y) st
  | .int i => i.natAbs.log2 < 1920 ∧ Q (.str (toString i)) st
  | _ => False) E
theorem x_fmt (h : Ex X cl e de) : Ex X cl (.FormattedValue e (-1) none pos) (dFmt de) := by
  obtain ⟨ta, a1, a2⟩ := h.ex
  refine ⟨fun W => tFmt (ta W), fun W t => pe_fmt (a1 W t), ⟨fun B W σ H F ν s Q E P rr w q kk => ?_⟩⟩
  refine a2.go B W σ H F ν s _ E _ rr w q fun v H1 F1 ν1 d st1 x1 r1 z1 q1 => ?_
  cases z1 <;> first | exact q1.elim | skip
  · exact .inr ⟨_, rfl, q1.1, kk _ H1 F1 ν1 _ st1 x1 r1 (.str _) q1.2⟩
  · exact .inl ⟨_, rfl, q1.1, kk _ H1 F1 ν1 _ st1 x1 r1 (.str _) q1.2⟩
/-- the parts one behind the other -/
def dJs : List DE → Str → DE
  | [], acc => fun s Q _ => Q (.str acc) s.st
  | d :: ds, acc => fun s Q E => d s (fun x st => ∃ y, x = .str y ∧ (acc ++ y).length ≤ sizeLine ∧ dJs ds (acc ++ y) ⟨s.sl, st⟩ Q E) E
structure Js (X : Cx) (cl : String → Addr) (es : List Expr) (ds : List DE) : Prop where
  ex : ∃ ts : WX → List TE, (∀ W, Takes X W → PJ X es (ts W)) ∧ ∀ (B : Bs) (W : WX) (σ : L2.St) (H F : Hp) (ν : List Addr) (s : S) (Q : DK) (E : XK') (acc : Str) (P : Str → Hp → Prop), R (cf X cl) B s σ H F ν → Wsh (cf X cl) B s σ F ν W E → dJs ds acc s Q E →
    (∀ z H' F' ν' st', Ext F ν F' ν' → R (cf X cl) B ⟨s.sl, st'⟩ σ H' F' ν' → Q (.str z) st' → P z H') → tJs (ts W) acc σ H P
theorem js_nil : Js X cl [] [] := ⟨fun _ => [], fun _ _ => .nil, fun B W σ H F ν s Q E acc P r w h k => k acc H F ν s.st Ext.refl r h⟩
theorem js_cons {ds : List DE} (h : Ex X cl e de) (t : Js X cl es ds) : Js X cl (e :: es) (de :: ds) := by
  obtain ⟨ta, a1, a2⟩ := h.ex
  obtain ⟨ts, b1, b2⟩ := t.ex
  refine ⟨fun W => ta W :: ts W, fun W t => .cons (a1 W t) (b1 W t), fun B W σ H F ν s Q E acc P r w h k => ?_⟩
  refine a2.go B W σ H F ν s _ E _ r w h fun v H1 F1 ν1 d st1 x1 r1 z1 q1 => ?_
  obtain ⟨y, rfl, hl, q1⟩ := q1
  cases z1
  exact ⟨y, rfl, hl, b2 B W σ H1 F1 ν1 ⟨s.sl, st1⟩ Q E _ P r1 (w.next x1) q1 fun z H' F' ν' st' x r q => k z H' F' ν' st' (x1.trans x) r q⟩
def dJoined (ds : List DE) : DE := dJs ds Str.empty
theorem x_joined {v1 v2 : Expr} {rest : List Expr} {ds : List DE} (h : Js X cl (v1 :: v2 :: rest) ds) : Ex X cl (.JoinedStr (v1 :: v2 :: rest) pos) (dJoined ds) := by
  obtain ⟨ts, b1, b2⟩ := h.ex
  refine ⟨fun W => fun σ H Q => tJs (ts W) Str.empty σ H fun out H1 => Q (.str out) H1, fun W t => pe_joined (b1 W t), ⟨fun B W σ H F ν s Q E P rr w q kk => ?_⟩⟩
  exact b2 B W σ H F ν s Q E _ _ rr w q fun z H' F' ν' st' x r q => kk _ H' F' ν' _ st' x r (.str z) q
/-- where a text stands in another -/
def kSIdx : K2 := fun x y st K => match x, y with
  | .str a, .str b => ∃ i rest, Builtin.Str.occurrences a b 0 a.length 1 = i :: rest ∧ K (.int (i : Nat)) st
  | _, _ => False
theorem m_sindex : MtD X cl "str.index" kSIdx := by
  refine ⟨_, mt_sindex, fun B s σ H F ν v u x y K P r rx ry h k => ?_⟩
  unfold kSIdx at h
  split at h
  · cases rx; cases ry
    obtain ⟨i, rest, h1, h2⟩ := h
    exact ⟨_, _, i, rest, rfl, rfl, h1, k _ H F ν _ s.st Ext.refl r (.int _) h2⟩
  · exact h.elim
/-- in small letters -/
def kLower : K1 := fun x st K => match x with
  | .str a => a.length ≤ 5592405 ∧ K (.str (Txt.lower a)) st
  | _ => False
theorem x_lower (ho : Ex X cl o da) (hbase : attributeBase o "lower" X.env (eval o X.env) = eval o X.env := by rfl) (hline : (apos.endLine == pos.line) = true := by rfl) : Ex X cl (.Call (.Attribute o "lower" apos) [] [] pos) (dUn kLower da) := by
  obtain ⟨ta, a1, a2⟩ := ho.ex
  refine ⟨fun W => tM0 (fun x xs H Q => ∃ a, x = .str a ∧ xs = [] ∧ a.length ≤ 5592405 ∧ Q (.str (Txt.lower a)) H) (ta W), fun W t => pe_lower (a1 W t) hbase hline, ⟨fun B W σ H F ν s Q E P rr w q kk => ?_⟩⟩
  refine a2.go B W σ H F ν s _ E _ rr w q fun v H1 F1 ν1 d st1 x1 r1 z1 q1 => ?_
  unfold kLower at q1
  split at q1
  · cases z1
    exact ⟨⟨_, rfl⟩, _, rfl, rfl, q1.1, kk _ H1 F1 ν1 _ st1 x1 r1 (.str _) q1.2⟩
  · exact q1.elim
end
end Kt
set_option maxHeartbeats 4000000
/-! Kt24: sorted(set(xs)) of a list or a tuple of whole numbers. -/
namespace Kt
open PySem PySem.Spec L2 PyProof.Rows
/-- a set that was just made -/
abbrev oSet (w : World) : Obj := { cls := .type "set", dict := none, data := .set #[] 0 (.fresh 0 0 (!w.params.followText "set-order")) }
abbrev oLit (l : Addr) : Obj := { cls := .type "list_iterator", data := .fields #[.ref l, .int 0 0] }
theorem ints_at {items : Array Value} {ns : List Int} (h : IntsAre items.toList ns) (e : items.size = ns.length) {i : Nat} {v : Value} (g : items[i]? = some v) : ∃ k t, ns[i]? = some k ∧ v = .int k t := by
  have hl : i < ns.length := by rw [← e]; exact (Array.getElem?_eq_some_iff.mp g).1
  obtain ⟨t, rfl⟩ := IntsAre.int_at h i v (by rw [Array.getElem?_toList]; exact g)
  refine ⟨_, t, List.getElem?_eq_getElem hl, ?_⟩
  simp [List.getD_eq_getElem?_getD, List.getElem?_eq_getElem hl]
section
variable {P : Program} {w : World} {A : Around} {E : Value → Shared → Prop} {s : Shared}
set_option maxHeartbeats 8000000 in
theorem set_of_list {l : Addr} {items : Array Value} (ns : List Int) {Q : Value → Shared → Prop} (h0 : A.handled = none) (il : s.heap.IsList l items) (ii : IntsAre items.toList ns) (hb : ns.length + 1 < scanBound)
    (q : ∀ (g : Heap) (tk c : Nat), SetR w g s.heap.objs.size (fun j => decide (j ∈ ns)) c → c ≤ ns.length → (∀ b o, s.heap.get? b = some o → g.get? b = some o) → Q (.ref s.heap.objs.size) { s with heap := g, toks := tk }) :
    wpAny (model P w) A (call (.type "set") [.ref l]) Q E s := by
  have hz : items.size = ns.length := by
    have := IntsAre.length ii
    simpa using this
  obtain ⟨c0, tl, f1⟩ := PySem.F.called_set.mro
  have f2 := PySem.F.called_set.made
  have f3 := PySem.F.called_set.sub
  refine wpAny_call (codeAny_of_tree (show wpAny _ _ (callAny (.type "set") _) _ _ _ from ?_))
  refine wpAny_pure ⟨Code.quiet_builtin _ (by decide +kernel), codeAny_builtin PySem.F.entry_type_call ?_⟩
  rw [Around.under_plain (weight_type_call_type _ _ []) rfl]
  have f4 := PySem.F.called_set.notType
  have f5 := PySem.F.called_set.canCreate
  have f6 := PySem.F.typeCall_set_1 (.ref l)
  repeat (any_goals (first | assumption | wp_step))
  refine codeAny_mono (code_set_led1 (.ref l) (E := E) (Q₁ := fun u t => u = .ref s.heap.objs.size ∧ t = { s with heap := s.heap.push (oSet w) }) ⟨rfl, rfl⟩) fun r t hr => ?_
  match r, hr with
  | .error e, hr => exact hr
  | .ok (.ret u), hr =>
    obtain ⟨rfl, rfl⟩ := hr
    have gS : (s.heap.push (oSet w)).get? s.heap.objs.size = some (oSet w) := Heap.get?_push_size _ rfl
    have tS : Shared.TypeIs { s with heap := s.heap.push (oSet w) } (.ref s.heap.objs.size) "set" := ⟨_, gS, rfl⟩
    have f7 := PySem.F.called_set.init.lookup
    have f8 := PySem.F.called_set.init.bind (.ref s.heap.objs.size)
    repeat (any_goals (first | assumption | wp_step))
    refine codeAny_mono (codeAny_call_builtin (R := wants (fun r t => r = .none ∧ ∃ g tk c, t = { s with heap := g, toks := tk } ∧ SetR w g s.heap.objs.size (fun j => decide (j ∈ ns)) c ∧ c ≤ ns.length ∧
      (∀ b o, s.heap.get? b = some o → g.get? b = some o)) E) PySem.F.called_set.init.plain PySem.F.entry_set_init (check_set_init_1 tS ?_)) fun r t hr => ?_
    · obtain ⟨⟨cl0, dd, dat, slo⟩, ol, oc, n0, od⟩ := il
      simp only at oc od
      subst oc; subst od
      have ol1 : (s.heap.push (oSet w)).get? l = some { cls := .type "list", dict := dd, data := .seq items n0, slots := slo } := Heap.get?_push_of_some _ ol
      have f9 := PySem.F.sub_list_set
      have f10 := PySem.F.sub_list_frozenset
      have f11 : (Value.type "list" == Value.type "dict") = false := rfl
      have il1 : (s.heap.push (oSet w)).IsList l items := ⟨_, ol1, rfl, n0, rfl⟩
      unfold Builtin.«set.__init__» noKeywords Builtin.Frozenset.updateFrom
      generalize eI : pyIter = itr
      wp_walk
      subst eI
      refine wpAny_pyIter_list il1 (wpAny_bind (wpAny_runValue ?_))
      have lt : l < s.heap.objs.size := Heap.lt_size ol
      have h3 : A.in1.in1.in1.handled = none := by simp [h0]
      have sz : (s.heap.push (oSet w)).objs.size = s.heap.objs.size + 1 := Heap.size_push ..
      have n1 : l ≠ (s.heap.push (oSet w)).objs.size := by rw [sz]; exact Nat.ne_of_lt (Nat.lt_succ_of_lt lt)
      have n2 : s.heap.objs.size ∉ [(s.heap.push (oSet w)).objs.size, l] := by
        rw [sz]; simp; exact Nat.ne_of_gt lt
      refine set_update_ints ((Walks.list h3 _ l n1 items).toS) s.heap.objs.size n2 ns hz hb (fun i v g => ints_at ii hz g) (items.size - 0) 0 _ (by omega) (Nat.zero_le _)
        ⟨⟨_, Heap.get?_push_size _ rfl, rfl, rfl⟩, il1.push _⟩ ⟨0, Nat.le_refl 0, setR_new_at (show ((s.heap.push (oSet w)).push (oLit l)).get? _ = _ from Heap.get?_push_of_some _ gS)⟩ ?_
      intro t c hm hc hS
      obtain ⟨g, gg, dr, tk, os⟩ := t
      have e1 : gg = s.gens := hm.gens
      have e2 : dr = s.drawn := hm.drawn
      have e3 : os = s.os := hm.os
      subst e1; subst e2; subst e3
      show wpAny _ _ _ _ _ _
      refine wpAny_pure (show wpAny _ _ (ret Value.none) _ _ _ from ?_)
      rw [hz] at hc
      refine wpAny_pure ⟨rfl, g, tk, c, rfl, hS, hc, fun b o e => ?_⟩
      have lb : b < s.heap.objs.size := Heap.lt_size e
      have b1 : b ≠ s.heap.objs.size := Nat.ne_of_lt lb
      have b2 : b ≠ s.heap.objs.size + 1 := Nat.ne_of_lt (Nat.lt_succ_of_lt lb)
      exact hm.heap b o (by simp; exact ⟨b1, b2⟩) (Heap.get?_push_of_some _ (Heap.get?_push_of_some _ e))
    · match r, hr with
      | .error e, hr => exact hr
      | .ok (.ret u), hr =>
        obtain ⟨rfl, g, tk, c, rfl, hS, hc, hk⟩ := hr
        repeat (any_goals (first | assumption | wp_step))
        exact q _ _ _ hS hc hk
end
/-- set(xs), of a list or a tuple of whole numbers -/
def rSetLT (K : PySem.W.Frag) (w : World) : List V → Hp → VK → Prop := fun xs H Q => ∃ (l : Addr) (ns : List Int), xs = [V.ref l] ∧ (SqL K H l (ns.map V.int) ∨ SqT K H l (ns.map V.int)) ∧ ns.length ≤ 1000 ∧
  ∀ a c, H a = none → c ≤ ns.length → Q (.ref a) (upd H a (SetO w a (fun j => decide (j ∈ ns)) c))
section
variable {X : Cx}
theorem cr_setLT (hc : X.calm = true) : CallR X (.type "set") (rSetLT X.K X.w) := by
  intro pins s σ H xs us Q I r h
  obtain ⟨l, ns, rfl, hq, hz, q⟩ := h
  rw [Vals.ref1 r]
  have hn : H s.heap.objs.size = none := I.hok.fresh (Nat.le_refl _)
  rcases hq with hq | hq
  · obtain ⟨its, rv, pl, _⟩ := I.list hq
    exact set_of_list ns (I.ok.hd hc) pl.isList (by simpa using ints_of_vals rv) (by unfold scanBound; omega) fun g tk c R1 hcn k =>
      ⟨.ref _, upd H s.heap.objs.size (SetO X.w s.heap.objs.size _ c), I.laid (t' := tk) k (Nat.le_refl _) (setO_new R1), rfl, q _ c hn hcn⟩
  · obtain ⟨its, rv, pt, _⟩ := I.tuple hq
    exact call_set_tupI ns (I.ok.hd hc) (show s.heap.IsTuple l its.toArray from pt) (by simpa using ints_of_vals rv) (by unfold scanBound; omega) fun g tk c R1 hcn k =>
      ⟨.ref _, upd H s.heap.objs.size (SetO X.w s.heap.objs.size _ c), I.laid (t' := tk) k (Nat.le_refl _) (setO_new R1), rfl, q _ c hn hcn⟩
end
section
variable {X : Cx} {cl : String → Addr} {e : Expr} {de : DE} {p p2 q pos : Pos}
/-- sorted(set(xs)) of whole numbers -/
def kSortSet : K1 := fun x st K => ∃ ds ns, asSeq st x = some ds ∧ intsOf ds = some ns ∧ ns.length < 64 ∧ ∀ ms : List Int, ms.Pairwise (· < ·) → (∀ k, k ∈ ms ↔ k ∈ ns) → K (.lst (ms.map D.int)) st
theorem x_sortedSet (hc : X.calm = true) (hg : Gl X "sorted") (hm : X.mg "sorted" = none) (hg2 : Gl X "set") (hm2 : X.mg "set" = none) (ha : Ex X cl e de)
    (he2 : starEach (e :: []) X.env = (false, eval e X.env) :: starEach [] X.env := by rfl) (hpl2 : (backTo q (starEach [] X.env)).any (·.1) = false := by rfl)
    (he : starEach (.Call (.Name "set" p2) [e] [] q :: []) X.env = (false, eval (.Call (.Name "set" p2) [e] [] q) X.env) :: starEach [] X.env := by rfl) (hpl : (backTo pos (starEach [] X.env)).any (·.1) = false := by rfl) :
    Ex X cl (.Call (.Name "sorted" p) [.Call (.Name "set" p2) [e] [] q] [] pos) (dUn kSortSet de) := by
  obtain ⟨ta, a1, a2⟩ := ha.ex
  refine ⟨fun W => tCB (rSortedSet X.w) (tCons (tCB (rSetLT X.K X.w) (tCons (ta W) tNil)) tNil), fun W t =>
    pe_callB (cr_sortedSet hc) hg hm boot_sorted (pa_cons (pe_callTy (cr_setLT hc) hg2 hm2 boot_set (pa_cons (a1 W t) pa_nil he2) (by decide) (by decide) he2 hpl2) pa_nil he) (by decide) (by decide) he hpl, ⟨fun B W σ H F ν s Q E P rr w h kk => ?_⟩⟩
  refine a2.go B W σ H F ν s _ E _ rr w h fun v H1 F1 ν1 d st1 x1 r1 z1 q1 => ?_
  obtain ⟨ds, ns, e1, e2, hz, k⟩ := q1
  obtain ⟨a, xs, rfl, hq, qq⟩ := r1.seq z1 e1
  have e4 := intsOf_eq e2
  subst e4
  have e3 := rz_ints_inv qq
  subst e3
  refine ⟨a, ns, rfl, hq, by omega, fun b c hb hcn => ?_⟩
  have f1 := (r1.fresh hb).2.1
  have r2 := r1.froze (o := SetO X.w b (fun j => decide (j ∈ ns)) c) hb
  refine ⟨b, _, c, rfl, upd_same, by omega, fun ms b2 hs hmem _ hb2 => ?_⟩
  have f2 := (r2.fresh hb2).2.1
  exact kk _ _ _ ν1 _ st1 ((x1.trans (ext_upd f1)).trans (ext_upd f2)) (r2.froze hb2) (.lst upd_same (rz_ints _)) (k ms hs fun j => by rw [hmem j, decide_eq_true_eq])
end
end Kt
set_option maxHeartbeats 4000000
/-! Kt25: a def of the text, called while an error is handled (no walk runs in it). -/
namespace Kt
open PySem PySem.Spec L2
open PyProof.Rows (envOfC)
structure FnQ (P : Program) (w : World) (K : PySem.W.Frag) (mg : Str → Option Value) (base : Heap) (k : Nat) (f : Addr) (fd : FuncData) (ps : List Str) (sp : Sp) : Prop where
  len : ∀ vs H Q E, sp vs H Q E → vs.length = ps.length
  run : ∀ (A : Around) (out : List Env) (s : Shared) (H : Hp) (ar : Args) (us : List Value) (vs : List V) (Q : VK) (E : XK) (p : Addr × Obj), L2H.RoomH k A → A.guards = some [] → L2H.PinOk out H s p → Env0 P w K mg base A out s H → BindsTo s fd ar (ps.zip us) → Vals vs us → sp vs H Q E →
    codeAny (model P w) A (.call (.ref f) ar) (CR (L2.CX P w) out P w H s Q E) s
section
variable {P : Program} {w : World} {K : PySem.W.Frag} {mg : Str → Option Value} {base : Heap} {cl : String → Addr}
theorem okQ {x qual : Str} {st : Stmt} {f : Addr} {fd : FuncData} {N ps : List Str} {k : Nat} {sp : Sp} (Fu : Fun K x qual st f fd) (Sc : FnScope N ps (defScope st)) (len : ∀ vs H Q E, sp vs H Q E → vs.length = ps.length)
    (hb : ∀ (cdv : Value) (A : Around) (out : List Env) (s : Shared) (H : Hp) (vs : List V) (Q : VK) (E : XK) (p : Addr × Obj), L2H.RoomH k (A.deeper (envOfC qual (defScope st) s.heap.objs.size f cdv)) → A.guards = some [] → sp vs H Q E →
      ∃ t, PSs (L2H.cxH (L2.CX P w) P w K mg base N qual (defScope st) f cdv A out s H E p) (defBody st) t ∧ t { nx := fun _ H' => Q .non H', rt := Q } (start N vs) H) : FnQ P w K mg base (k + 1) f fd ps sp := by
  obtain ⟨oc, od, kV, dc, pm, an, cdv, ct, osl, rfl, lk, hcd⟩ := Fu.ex
  refine ⟨len, fun A out s H ar us vs Q E p room hgu pin en bi rel hsp => ?_⟩
  have hlen := len _ _ _ _ hsp
  have kin : K.In s.heap := en.mod.kin.keeps fun b o e => (en.bs b o e).1
  have nol : s.heap.NoLimit := en.mod.nolimit.keeps fun b o e => (en.bs b o e).1
  have hkd : ∀ y ∈ ps.zip us, (defScope st).names.lookup y.1 = some .local ∨ ((defScope st).names.lookup y.1 = some .cell ∧ ((cellsFrom (s.heap.objs.size + 1) (defScope st).names []).lookup y.1).isSome = true) := fun ⟨n, v⟩ hy => by
    rcases Sc.par n (List.of_mem_zip hy).1 with q | q
    · exact Or.inl q
    · exact Or.inr ⟨q, PySem.W.cellsFrom_some _ _ _ (Or.inl q)⟩
  refine codeAny_call_function room.depth (kin _ _ lk) rfl Sc.co Sc.gen rfl (PySem.W.codeRec_of kin hcd) (bi _ _ _ _ ?_)
  refine wpAny_newFunctionEnv_cells Sc.kind hkd fun env hen s1 x1 => ?_
  subst hen
  refine ⟨nol.keeps x1.toInCall.keep, codeAny_func ?_⟩
  obtain ⟨t, ht, hq⟩ := hb cdv A out s H vs Q E p (room.deeper _) hgu hsp
  have J : L2.Inv (L2H.cxH (L2.CX P w) P w K mg base N qual (defScope st) f cdv A out s H E p) [] (start N vs) H s1 := L2H.inv_startH Sc pin en hlen rel x1
  refine wpAny_mono (ht.run [] s1 (start N vs) H _ J hq) (fun fl s2 hs => ?_) fun e s2 hs => hs
  have done : ∀ {σ2 : St} {H2 : Hp} {v : V} {u : Value}, L2.Inv (L2H.cxH (L2.CX P w) P w K mg base N qual (defScope st) f cdv A out s H E p) [] σ2 H2 s2 → RelV v u → Q v H2 → CE out P w H s Q u s2 :=
    fun {σ2 H2 v u} J2 rv q => ⟨v, H2, J2.os, J2.bare, J2.base, J2.hok, rv, q⟩
  cases fl with
  | ret u => obtain ⟨v, σ2, H2, J2, rv, q⟩ := hs; exact done J2 rv q
  | next => obtain ⟨σ2, H2, J2, q⟩ := hs; exact done (v := V.non) (u := Value.none) J2 rfl q
  | brk => obtain ⟨_, _, _, q⟩ := hs; exact q.elim
  | cont => obtain ⟨_, _, _, q⟩ := hs; exact q.elim
theorem fnQ {x qual : Str} {st : Stmt} {f : Addr} {fd : FuncData} {N ps : List Str} {k : Nat} {bd : DS} (Fu : Fun K x qual st f fd) (Sc : FnScope N ps (defScope st))
    (hb : ∀ (cdv : Value) (A : Around) (out : List Env) (s : Shared) (H : Hp) (E : XK) (p : Addr × Obj), L2H.RoomH k (A.deeper (envOfC qual (defScope st) s.heap.objs.size f cdv)) → A.guards = some [] → Ss (L2H.cxH (L2.CX P w) P w K mg base N qual (defScope st) f cdv A out s H E p) cl (defBody st) bd) :
    FnQ P w K mg base (k + 1) f fd ps (spOf ⟨K, cl⟩ (mD N.length ps.length bd)) := by
  refine okQ Fu Sc (spOf_len fun ds st Q E q => q.1) fun cdv A out s H vs Q E p hr hg h => ?_
  obtain ⟨t, t1, t2⟩ := (hb cdv A out s H E p hr hg).ex
  refine ⟨t (fun cls d _ H' => E cls d H'), t1 _ (takes_of rfl rfl rfl rfl) (passes_of rfl), ?_⟩
  obtain ⟨F, ν, ds, ob, Qd, Ed, r, ⟨hl, hs⟩, hq, he⟩ := h
  have e : vs.length = ds.length := by have := r.ln; simp at this; omega
  have r0 := r.pad (N.length - ps.length)
  have es : vs.map some ++ List.replicate (N.length - ps.length) none = L2.start N vs := by unfold L2.start; rw [e, hl]
  rw [es] at r0
  refine t2.go _ _ _ H F ν _ _ ⟨fun s => Qd (.d .non) s.st, Qd, fun x s => Ed x s.st, fun _ => False, fun _ => False⟩ r0 ⟨fun s' σ' H' F' ν' x r' q => ?_, fun y st' v H' F' ν' x r' q => hq y st' v H' F' ν' x r' q, fun y s' cls d σ' H' F' ν' x r' z q => ?_, fun _ _ _ _ _ _ _ q => q.elim, fun _ _ _ _ _ _ _ q => q.elim⟩ hs
  · exact hq _ _ .non H' F' ν' x (r'.one (.d .non)) q
  · exact he y s'.st cls d H' F' ν' x r'.forget z q
end
section
variable {X : Cx} {cl : String → Addr} {k j : Nat} {f : Addr} {fd : FuncData} {ps : List Str} {sd : SpD} {x : Str} {p pos : Pos} {e : Expr} {es : List Expr} {da : DA}
theorem run_fnQ {pins : List (Addr × Obj)} {σ : St} {H : Hp} {s : Shared} {Q : VK} {us : List Value} {vs : List V} {sp : Sp} {E : XK} {pp : Addr × Obj} (G : FnQ X.prog X.w X.K X.mg X.base k f fd ps sp) (hr : L2H.RoomH k X.A) (hgd : X.A.guards = some []) (hp : pp ∈ X.pn) (hb : Binds X.K fd ps [])
    (hx : PassesAt (L2.CX X.prog X.w) X σ E) (I : L2.Inv X pins σ H s) (r : Vals vs us) (h : sp vs H Q E) : wpAny (model X.prog X.w) X.A (call (.ref f) us) (EP X pins σ Q) X.xe s := by
  have hlen : us.length = ps.length := by rw [← r.length]; exact G.len _ _ _ _ h
  have bi := hb s us I.kIn (by rw [List.append_nil]; exact hlen)
  rw [List.append_nil] at bi
  have g := I.pin pp (List.mem_append_left _ hp)
  have pin : L2H.PinOk X.stack H s pp := ⟨g.1, g.2.1, fun m => (List.mem_cons.mp (I.stkSub pp.1 m)).elim g.2.2.1 g.2.2.2.1, g.2.2.2.2⟩
  refine wpAny_call (codeAny_mono (G.run X.A X.stack s H ⟨us, []⟩ us vs Q E pp hr hgd pin I.env0 bi r h) fun z s' hq => ?_)
  cases z with
  | error er => exact hx pins H s er s' I hq
  | ok fl =>
    cases fl with
    | ret u => exact I.after hq
    | next => exact hq.elim
    | brk => exact hq.elim
    | cont => exact hq.elim
theorem x_callQ {qual : Str} {st : Stmt} {pp : Addr × Obj} (G : FnQ X.prog X.w X.K X.mg X.base k f fd ps (spOf (cf X cl) sd)) (T : Df X.K X.mg x qual st ps f fd) (hr : L2H.RoomH j X.A) (hj : k ≤ j) (hgd : X.A.guards = some []) (hg : Gl X x) (hp : pp ∈ X.pn)
    (ha : Ar X cl (e :: es) da) (hdb : (x == ("__debug__" : Str)) = false := by decide) (he : starEach (e :: es) X.env = (false, eval e X.env) :: starEach es X.env := by rfl) (hpl : (backTo pos (starEach es X.env)).any (·.1) = false := by rfl) :
    Ex X cl (.Call (.Name x p) (e :: es) [] pos) (dCall sd da) := by
  obtain ⟨ta, a1, a2⟩ := ha.ex
  refine ⟨_, fun W tk => ⟨fun pins s σ H Q I h => ?_⟩, rf_call a2⟩
  refine wpAny_Call_Name_kw (ld_glob I hg T.m ?_ hdb)
  refine PySem.W.callWith_K (h₀ := X.base) I.ok.mod.kin T.fu.kp (thn ((a1 W tk).run pos pins s σ H _ I h) fun us s1 ⟨vs, H1, I1, r, q⟩ => ⟨I1.kIn, ?_⟩) he hpl
  exact run_fnQ G (hr.mono hj) hgd hp T.b (passAt tk σ) I1 r q
/-- the room of a def is the room of its except clauses -/
theorem roomS {A : Around} (h : Room k A) (v : Option Value) : L2H.RoomH k (A.mark v) := ⟨h.dp, h.un⟩
end
theorem hu64Q {k : Nat} {A : Around} (h : L2H.RoomH k A) : A.units + 64 < cLine := by have := h.un; omega
theorem hu66Q {k : Nat} {A : Around} (h : L2H.RoomH k A) : A.units + 66 < cLine := by have := h.un; omega
theorem hu1Q {k : Nat} {A : Around} (h : L2H.RoomH k A) : A.units + 1 < cLine := by have := h.un; omega
end Kt
set_option maxHeartbeats 1000000
/-! Kt26: names of pitches, notes as texts. -/
namespace Kt
open PySem PySem.Spec L2
def cPLC : List (Key × D) := [(.inr "A", (.int 9)), (.inr "B", (.int 11)), (.inr "C", (.int 0)), (.inr "D", (.int 2)), (.inr "E", (.int 4)), (.inr "F", (.int 5)), (.inr "G", (.int 7))]
def cSHF : List (Key × D) := [(.inr "b", (.int 0)), (.inr "", (.int 1)), (.inr "#", (.int 2))]
def R_spell : DS := (dSeq (dIfS (dOr (dNot (dTest (dIsi "str" (dVar 0)))) (dNot (dTest (dChain kLe kLe (dC (.int 2)) (dB kLen (dCons (dVar 0) dNil)) (dC (.int 3)))))) (dSeq (dRet (dC .non)) dNext) dNext) (dSeq (dSet (dName 1) (dBin kIx (dVar 0) (dC (.int 0)))) (dSeq (dSet (dName 2) (dSl (dVar 0) (dP (dC (.int 1))) (dP (dUn kNeg (dC (.int 1)))))) (dSeq (dSet (dName 3) (dBin kIx (dVar 0) (dUn kNeg (dC (.int 1))))) (dSeq (dIfS (dOr (dTest (dKIn true cPLC (dVar 1))) (dOr (dTest (dKIn true cSHF (dVar 2))) (dTest (dBin kNotIn (dVar 3) (dC (.str "0123456789")))))) (dSeq (dRet (dC .non)) dNext) dNext) (dSeq (dRet (dBin kSub (dBin kAdd (dBin kAdd (dBin kMul (dC (.int 12)) (dB kInt (dCons (dVar 3) dNil))) (dKGet cPLC (dVar 1))) (dKGet cSHF (dVar 2))) (dC (.int 1)))) dNext))))))
def m_spell : SpD := mD 4 1 R_spell
def R_needp : DS := (dSeq (dIfS (dNot (dTest (dCall m_pitch (dCons (dVar 0) dNil)))) (dSeq (dRaise1 "BadPitch" "found" (dCons (dVar 0) dNil)) dNext) dNext) dNext)
def m_needp : SpD := mD 1 1 R_needp
def R_ptext : DS := (dSeq (dDrop (dCall m_needp (dCons (dVar 0) dNil))) (dSeq (dSet (dUnp 2 (gMore (dName 1) (gMore (dName 2) gNone))) (dB kDivmod (dCons (dVar 0) (dCons (dC (.int 12)) dNil)))) (dSeq (dRet (dBin kAdd (dBin kIx (dC (.tup [(.str "C"), (.str "C#"), (.str "D"), (.str "D#"), (.str "E"), (.str "F"), (.str "F#"), (.str "G"), (.str "G#"), (.str "A"), (.str "A#"), (.str "B")])) (dVar 2)) (dB kStr (dCons (dVar 1) dNil)))) dNext)))
def m_ptext : SpD := mD 3 1 R_ptext
def R_lname : DS := (dSeq (dSet (dName 1) (dLst (dCons (dC (.str "C")) (dCons (dC (.str "C#")) (dCons (dC (.str "D")) (dCons (dC (.str "D#")) (dCons (dC (.str "E")) (dCons (dC (.str "F")) (dCons (dC (.str "F#")) (dCons (dC (.str "G")) (dCons (dC (.str "G#")) (dCons (dC (.str "A")) (dCons (dC (.str "A#")) (dCons (dC (.str "B")) dNil)))))))))))))) (dSeq (dRet (dBin kAdd (dBin kIx (dVar 1) (dBin kMod (dVar 0) (dC (.int 12)))) (dB kStr (dCons (dBin kDiv (dVar 0) (dC (.int 12))) dNil)))) dNext))
def m_lname : SpD := mD 2 1 R_lname
def R_neednote : DS := (dSeq (dIfS (dNot (dTest (dCall m_isnote (dCons (dVar 0) dNil)))) (dSeq (dRaise1 "BadNote" "found" (dCons (dVar 0) dNil)) dNext) dNext) dNext)
def m_neednote : SpD := mD 1 1 R_neednote
def R_notetext : DS := (dSeq (dDrop (dCall m_neednote (dCons (dVar 0) dNil))) (dSeq (dSet (dUnp 3 (gMore (dName 1) (gMore (dName 2) (gMore (dName 3) gNone)))) (dVar 0)) (dSeq (dSet (dName 4) (dIf (dTest (dBin kEq (dVar 1) (dVar 2))) (dB kStr (dCons (dVar 1) dNil)) (dJoined [(dFmt (dVar 1)), (dC (.str "-")), (dFmt (dVar 2))]))) (dSeq (dRet (dBin kAdd (dBin kAdd (dVar 4) (dC (.str ":"))) (dCall m_ptext (dCons (dVar 3) dNil)))) dNext))))
def m_notetext : SpD := mD 5 1 R_notetext
def R_notein : DS := (dSeq (dSet (dUnp 3 (gMore (dName 1) (gMore (dName 2) (gMore (dName 3) gNone)))) (dM1 kPart (dVar 0) (dC (.str ":")))) (dSeq (dSet (dUnp 3 (gMore (dName 4) (gMore (dName 5) (gMore (dName 6) gNone)))) (dM1 kPart (dVar 1) (dC (.str "-")))) (dSeq (dIfS (dOr (dTest (dBin kEq (dVar 2) (dC (.str "")))) (dNot (dTest (dCall m_numtext (dCons (dVar 4) dNil))))) (dSeq (dRet (dC .non)) dNext) dNext) (dSeq (dIfS (dTest (dBin kEq (dVar 5) (dC (.str "")))) (dSeq (dSet (dName 6) (dVar 4)) dNext) (dSeq (dIfS (dOr (dNot (dTest (dCall m_numtext (dCons (dVar 6) dNil)))) (dTest (dBin kLe (dB kInt (dCons (dVar 6) dNil)) (dB kInt (dCons (dVar 4) dNil))))) (dSeq (dRet (dC .non)) dNext) dNext) dNext)) (dSeq (dSet (dName 7) (dTup (dCons (dB kInt (dCons (dVar 4) dNil)) (dCons (dB kInt (dCons (dVar 6) dNil)) (dCons (dCall m_spell (dCons (dVar 3) dNil)) dNil))))) (dSeq (dRet (dIf (dTest (dCall m_isnote (dCons (dVar 7) dNil))) (dVar 7) (dC .non))) dNext))))))
def m_notein : SpD := mD 8 1 R_notein
def R_readnote : DS := (dSeq (dSet (dName 1) (dIf (dTest (dIsi "str" (dVar 0))) (dCall m_notein (dCons (dVar 0) dNil)) (dC .non))) (dSeq (dIfS (dTest (dBin kIsN (dVar 1) (dC .non))) (dSeq (dRaise1 "BadText" "found" (dCons (dVar 0) dNil)) dNext) dNext) (dSeq (dRet (dVar 1)) dNext)))
def m_readnote : SpD := mD 2 1 R_readnote
section
variable {st : List Ob} {Q : SV → List Ob → Prop} {E : XK'}
theorem two2 {k : Nat} (h : k ≤ 1000) : k ≤ sizeLine := by rw [sizeLine_eq]; omega
/-- the three shifts as texts -/
def sgn : Nat → Str
  | 0 => "b" | 1 => "" | _ => "#"
def sgl : Nat → List Nat
  | 0 => [98] | 1 => [] | _ => [35]
theorem sgn_l (sh : Nat) : (sgn sh).cps.toList = sgl sh := by
  unfold sgn sgl
  split <;> decide +kernel
def txt (L sh o : Nat) : Str := (⟨#[L]⟩ ++ sgn sh) ++ Str.ofString (toString ((o : Nat) : Int))
theorem txt_l {L sh o : Nat} (ho : o < 10) : (txt L sh o).cps.toList = L :: (sgl sh ++ [48 + o]) := by
  have e1 : (txt L sh o).cps.toList = (⟨#[L]⟩ ++ sgn sh : Str).cps.toList ++ (Str.ofString (toString ((o : Nat) : Int))).cps.toList := TL.tl_append _ _
  have e2 : (⟨#[L]⟩ ++ sgn sh : Str).cps.toList = [L] ++ (sgn sh).cps.toList := TL.tl_append _ _
  have e3 : (Str.ofString (toString ((o : Nat) : Int))).cps.toList = TL.numL o := TL.tl_num o
  rw [e1, e2, e3, TL.numL_lt ho, sgn_l]
  simp
theorem txt_eq {L sh o : Nat} (ho : o < 10) : txt L sh o = ⟨(L :: (sgl sh ++ [48 + o])).toArray⟩ := str_ext (by rw [txt_l ho])
def plc : List (Nat × Nat) := [(65, 9), (66, 11), (67, 0), (68, 2), (69, 4), (70, 5), (71, 7)]
theorem plc_get {L pl : Nat} (h : (L, pl) ∈ plc) : getD cPLC (.inr ⟨#[L]⟩) = some (.int pl) := by
  simp only [plc, List.mem_cons, List.not_mem_nil, or_false, Prod.mk.injEq] at h
  rcases h with ⟨rfl, rfl⟩ | ⟨rfl, rfl⟩ | ⟨rfl, rfl⟩ | ⟨rfl, rfl⟩ | ⟨rfl, rfl⟩ | ⟨rfl, rfl⟩ | ⟨rfl, rfl⟩ <;> rfl
theorem shf_get {sh : Nat} (h : sh < 3) : getD cSHF (.inr ⟨(sgl sh).toArray⟩) = some (.int sh) := by
  match sh, h with
  | 0, _ => rfl
  | 1, _ => rfl
  | 2, _ => rfl
theorem fig_int {o : Nat} (ho : o < 10) : PySem.intText? ⟨#[48 + o]⟩ = some (o : Int) := by
  have := intText_digits (x := ⟨#[48 + o]⟩) (fun c hc => by
    have : c = 48 + o := by simpa using hc
    omega) (by simp) (by show 1 ≤ 4300; decide)
  rw [this]
  have e : NumText.digitsVal [48 + o] = o := by show 0 * 10 + (48 + o - 48) = o; omega
  show some ((NumText.digitsVal [48 + o] : Nat) : Int) = _
  rw [e]
def nL : Nat → Nat
  | 0 => 67
  | 1 => 67
  | 2 => 68
  | 3 => 68
  | 4 => 69
  | 5 => 70
  | 6 => 70
  | 7 => 71
  | 8 => 71
  | 9 => 65
  | 10 => 65
  | _ => 66
def nP : Nat → Nat
  | 0 => 0
  | 1 => 0
  | 2 => 2
  | 3 => 2
  | 4 => 4
  | 5 => 5
  | 6 => 5
  | 7 => 7
  | 8 => 7
  | 9 => 9
  | 10 => 9
  | _ => 11
def nS : Nat → Nat
  | 0 => 1
  | 1 => 2
  | 2 => 1
  | 3 => 2
  | 4 => 1
  | 5 => 1
  | 6 => 2
  | 7 => 1
  | 8 => 2
  | 9 => 1
  | 10 => 2
  | _ => 1
def nms : List D := [.str "C", .str "C#", .str "D", .str "D#", .str "E", .str "F", .str "F#", .str "G", .str "G#", .str "A", .str "A#", .str "B"]
theorem nm_at : ∀ {r : Nat}, r < 12 → (nL r, nP r) ∈ plc ∧ nS r < 3 ∧ nP r + nS r = r + 1 ∧ atI nms (r : Int) = some (.str (⟨#[nL r]⟩ ++ sgn (nS r)))
  | 0, _ => ⟨by decide, by decide, rfl, by show some (D.str "C") = _; rw [show (⟨#[nL 0]⟩ ++ sgn (nS 0) : Str) = "C" by decide +kernel]⟩
  | 1, _ => ⟨by decide, by decide, rfl, by show some (D.str "C#") = _; rw [show (⟨#[nL 1]⟩ ++ sgn (nS 1) : Str) = "C#" by decide +kernel]⟩
  | 2, _ => ⟨by decide, by decide, rfl, by show some (D.str "D") = _; rw [show (⟨#[nL 2]⟩ ++ sgn (nS 2) : Str) = "D" by decide +kernel]⟩
  | 3, _ => ⟨by decide, by decide, rfl, by show some (D.str "D#") = _; rw [show (⟨#[nL 3]⟩ ++ sgn (nS 3) : Str) = "D#" by decide +kernel]⟩
  | 4, _ => ⟨by decide, by decide, rfl, by show some (D.str "E") = _; rw [show (⟨#[nL 4]⟩ ++ sgn (nS 4) : Str) = "E" by decide +kernel]⟩
  | 5, _ => ⟨by decide, by decide, rfl, by show some (D.str "F") = _; rw [show (⟨#[nL 5]⟩ ++ sgn (nS 5) : Str) = "F" by decide +kernel]⟩
  | 6, _ => ⟨by decide, by decide, rfl, by show some (D.str "F#") = _; rw [show (⟨#[nL 6]⟩ ++ sgn (nS 6) : Str) = "F#" by decide +kernel]⟩
  | 7, _ => ⟨by decide, by decide, rfl, by show some (D.str "G") = _; rw [show (⟨#[nL 7]⟩ ++ sgn (nS 7) : Str) = "G" by decide +kernel]⟩
  | 8, _ => ⟨by decide, by decide, rfl, by show some (D.str "G#") = _; rw [show (⟨#[nL 8]⟩ ++ sgn (nS 8) : Str) = "G#" by decide +kernel]⟩
  | 9, _ => ⟨by decide, by decide, rfl, by show some (D.str "A") = _; rw [show (⟨#[nL 9]⟩ ++ sgn (nS 9) : Str) = "A" by decide +kernel]⟩
  | 10, _ => ⟨by decide, by decide, rfl, by show some (D.str "A#") = _; rw [show (⟨#[nL 10]⟩ ++ sgn (nS 10) : Str) = "A#" by decide +kernel]⟩
  | 11, _ => ⟨by decide, by decide, rfl, by show some (D.str "B") = _; rw [show (⟨#[nL 11]⟩ ++ sgn (nS 11) : Str) = "B" by decide +kernel]⟩
  | n + 12, h => by omega
/-- a pitch's name -/
def nm (p : Nat) : Str := txt (nL (p % 12)) (nS (p % 12)) (p / 12)
theorem nm_add {p : Nat} {K : DK} (hp : p < 120) (k : K (.str (nm p)) st) : kAdd (.str (⟨#[nL (p % 12)]⟩ ++ sgn (nS (p % 12)))) (.str (Str.ofString (toString ((p / 12 : Nat) : Int)))) st K := by
  have h1 : Smt 1 (sgn (nS (p % 12))) := by
    refine ⟨?_, fun c hc => ?_⟩
    · rw [TL.len_tl]
      show (sgn (nS (p % 12))).cps.toList.length ≤ 1
      rw [sgn_l]
      unfold sgl
      split <;> decide
    · rw [sgn_l] at hc
      unfold sgl at hc
      split at hc <;> simp at hc <;> omega
  have h2 : nL (p % 12) < 256 := by
    have := (nm_at (Nat.mod_lt p (by decide : 12 > 0))).1
    simp only [plc, List.mem_cons, List.not_mem_nil, or_false, Prod.mk.injEq] at this
    omega
  have h3 := (Smt.one h2).app h1
  have h4 : Smt 1 (Str.ofString (toString ((p / 12 : Nat) : Int))) := Smt.num (by decide) (by omega)
  exact ⟨two2 (by have := h3.1; have := h4.1; omega), k⟩
theorem needp_ok {p : Int} (h0 : 0 ≤ p) (h1 : p ≤ 119) (q : Q (.d .non) st) : m_needp [.int p] st Q E := by
  simp only [m_needp, R_needp, mD, dSeq, dIfS, dNot, dTest, dCall, dCons, dNil, dVar, dNext]
  refine ⟨rfl, _, rfl, pitch_ok rfl ⟨rfl, _, rfl, ?_⟩⟩
  have e : isI (.int p) 0 119 = true := by simp [isI]; omega
  rw [if_neg (by show ¬ (!isI (.int p) 0 119) = true; rw [e]; decide)]
  exact q
theorem ptext_ok {p : Nat} (hp : p < 120) (q : Q (.d (.str (nm p))) st) : m_ptext [.int p] st Q E := by
  obtain ⟨a, b, c, d⟩ := nm_at (Nat.mod_lt p (by decide : 12 > 0))
  have e1 : (p : Int) / 12 = ((p / 12 : Nat) : Int) := by omega
  have e2 : (p : Int) % 12 = ((p % 12 : Nat) : Int) := by omega
  simp only [m_ptext, R_ptext, mD, dSeq, dDrop, dCall, dCons, dNil, dVar, dC, dSet, dUnp, gMore, gNone, dName, dB, dBin, dRet, dNext]
  refine ⟨rfl, _, rfl, needp_ok (by omega) (by omega) ⟨rfl, _, rfl, ⟨by decide, by decide⟩, _, rfl, rfl, _, _, rfl, _, _, rfl, rfl, .int ((p % 12 : Nat) : Int), ?_, ?_⟩⟩
  · show some (some (SV.d (D.int ((p : Int) % 12)))) = _
    rw [e2]
  refine ix_seq_of (ds := nms) rfl rfl d ⟨.int ((p / 12 : Nat) : Int), ?_, log_small (by omega), nm_add hp q⟩
  show some (some (SV.d (D.int ((p : Int) / 12)))) = _
  rw [e1]
theorem lname_ok {p : Nat} (hp : p < 120) (q : Q (.d (.str (nm p))) st) : m_lname [.int p] st Q E := by
  obtain ⟨a, b, c, d⟩ := nm_at (Nat.mod_lt p (by decide : 12 > 0))
  have e1 : (p : Int) / 12 = ((p / 12 : Nat) : Int) := by omega
  have e2 : (p : Int) % 12 = ((p % 12 : Nat) : Int) := by omega
  simp only [m_lname, R_lname, mD, dSeq, dSet, dName, dLst, dCons, dNil, dVar, dC, dB, dBin, dRet, dNext]
  refine ⟨rfl, two2 (by show 12 ≤ 1000; decide), .lst nms, rfl, .int p, rfl, by show (0 : Int) < 12; decide, ?_⟩
  dsimp only
  rw [e2]
  refine ix_seq_of (ds := nms) rfl rfl d ⟨.int p, rfl, cdiv (by decide) (by decide), ?_⟩
  dsimp only
  rw [e1]
  exact ⟨log_small (by omega), nm_add hp q⟩
/-- a text that the law may draw for a pitch -/
def Gt (p : Nat) (d : D) : Prop := ∃ L pl sh o : Nat, (L, pl) ∈ plc ∧ sh < 3 ∧ o < 10 ∧ d = .str (txt L sh o) ∧ (p : Int) = 12 * (o : Int) + pl + sh - 1
def pls : List (Nat × Nat) := [(67, 0), (68, 2), (69, 4), (70, 5), (71, 7), (65, 9), (66, 11)]
/-- whether a place with a shift writes the pitch -/
def hit (p pl sh : Nat) : Bool := decide (((p : Int) - pl - sh + 1) % 12 = 0) && (decide (0 ≤ (p : Int) - pl - sh + 1) && decide ((p : Int) - pl - sh + 1 < 120))
def hits (p pl : Nat) : Bool := hit p pl 0 || hit p pl 1 || hit p pl 2
theorem some_hit : ∀ p : Nat, p < 120 → pls.any (fun x => hits p x.2) = true := by
  have : (List.range 120).all (fun p => pls.any (fun x => hits p x.2)) = true := by decide +kernel
  intro p hp
  exact List.all_eq_true.mp this p (List.mem_range.mpr hp)
theorem shift_add {L sh o : Nat} {K : DK} (hL : L < 256) (ho : o < 10) (k : K (.str (txt L sh o)) st) : kAdd (.str (⟨#[L]⟩ ++ sgn sh)) (.str (Str.ofString (toString ((o : Nat) : Int)))) st K := by
  have h1 : Smt 1 (sgn sh) := by
    refine ⟨?_, fun c hc => ?_⟩
    · rw [TL.len_tl]
      show (sgn sh).cps.toList.length ≤ 1
      rw [sgn_l]
      unfold sgl
      split <;> decide
    · rw [sgn_l] at hc
      unfold sgl at hc
      split at hc <;> simp at hc <;> omega
  have h3 := (Smt.one hL).app h1
  have h4 : Smt 1 (Str.ofString (toString ((o : Nat) : Int))) := Smt.num (by decide) (by omega)
  exact ⟨two2 (by have := h3.1; have := h4.1; omega), k⟩
/-- one turn of the inner walk -/
def R_in : DS := (dSeq (dSet (dName 6) (dBin kAdd (dBin kSub (dBin kSub (dVar 1) (dVar 3)) (dVar 5)) (dC (.int 1)))) (dSeq (dIfS (dAnd (dTest (dBin kEq (dBin kMod (dVar 6) (dC (.int 12))) (dC (.int 0)))) (dTest (dChain kLe kLt (dC (.int 0)) (dVar 6) (dC (.int 120))))) (dSeq (dApO 2 (dBin kAdd (dBin kAdd (dVar 4) (dBin kIx (dLst (dCons (dC (.str "b")) (dCons (dC (.str "")) (dCons (dC (.str "#")) dNil)))) (dVar 5))) (dB kStr (dCons (dBin kDiv (dVar 6) (dC (.int 12))) dNil)))) dNext) dNext) dNext))
theorem in_ok {De : DEnds} {x0 : Option SV} {y6 : Option SV} {p pl L sh : Nat} {acc : List D} (hL : (L, pl) ∈ plc) (hp : p < 120) (hs : sh < 3) (hl : acc.length ≤ 1000)
    (k : ∀ y6 acc', (∀ d ∈ acc', d ∈ acc ∨ Gt p d) → acc'.length ≤ acc.length + 1 → acc.length ≤ acc'.length → (hit p pl sh = true → acc' ≠ []) → De.nx ⟨[x0, some (.d (.int p)), some (.ol acc'), some (.d (.int pl)), some (.d (.str ⟨#[L]⟩)), some (.d (.int sh)), y6], st⟩) :
    R_in De ⟨[x0, some (.d (.int p)), some (.ol acc), some (.d (.int pl)), some (.d (.str ⟨#[L]⟩)), some (.d (.int sh)), y6], st⟩ := by
  simp only [R_in, dSeq, dSet, dName, dIfS, dAnd, dTest, dChain, dBin, dB, dCons, dNil, dVar, dC, dNext, dApO, dLst, kLe, kLt, kCmpI, kCmp, kI, kSub]
  refine ⟨_, rfl, _, rfl, True.intro, _, rfl, True.intro, ?_⟩
  generalize ho : (p : Int) - (pl : Int) - (sh : Int) + 1 = oc
  have hh : hit p pl sh = (decide (oc % 12 = 0) && (decide (0 ≤ oc) && decide (oc < 120))) := by rw [← ho]; rfl
  show ∃ d, _ ∧ _
  refine ⟨.int oc, by rw [← ho]; rfl, (by show (0 : Int) < 12; decide), _, rfl, ?_⟩
  have out : De.nx ⟨[x0, some (.d (.int p)), some (.ol acc), some (.d (.int pl)), some (.d (.str ⟨#[L]⟩)), some (.d (.int sh)), some (.d (.int oc))], st⟩ → True := fun _ => trivial
  have no : hit p pl sh = false → De.nx ⟨[x0, some (.d (.int p)), some (.ol acc), some (.d (.int pl)), some (.d (.str ⟨#[L]⟩)), some (.d (.int sh)), some (.d (.int oc))], st⟩ := fun e =>
    k _ acc (fun d hd => .inl hd) (Nat.le_succ _) (Nat.le_refl _) fun z => by rw [e] at z; cases z
  subst ho
  generalize ho : (p : Int) - (pl : Int) - (sh : Int) + 1 = oc at *
  by_cases h1 : oc % 12 = 0
  · rw [if_pos (by simpa using h1)]
    refine ⟨_, rfl, True.intro, _, rfl, ?_⟩
    by_cases h2 : 0 ≤ oc
    · rw [if_pos (by simpa using h2)]
      refine ⟨_, rfl, ?_⟩
      by_cases h3 : oc < 120
      · rw [if_pos (by simpa using h3)]
        have hL2 : L < 256 := by
          simp only [plc, List.mem_cons, List.not_mem_nil, or_false, Prod.mk.injEq] at hL
          omega
        obtain ⟨o, ho1, ho2⟩ : ∃ o : Nat, oc / 12 = (o : Int) ∧ o < 10 := ⟨(oc / 12).toNat, by omega, by omega⟩
        refine ⟨acc, rfl, _, rfl, two2 (show 3 ≤ 1000 by decide), _, rfl, ?_⟩
        have hx : atI [D.str "b", .str "", .str "#"] (sh : Int) = some (.str (sgn sh)) := by
          match sh, hs with
          | 0, _ => rfl
          | 1, _ => rfl
          | 2, _ => rfl
        refine ix_seq_of rfl rfl hx ?_
        have hl1 : (⟨#[L]⟩ : Str).length + (sgn sh).length ≤ sizeLine := by
          have : (sgn sh).length ≤ 1 := by
            rw [TL.len_tl]
            show (sgn sh).cps.toList.length ≤ 1
            rw [sgn_l]
            unfold sgl
            split <;> decide
          exact two2 (by show 1 + (sgn sh).length ≤ 1000; omega)
        refine ⟨hl1, _, rfl, cdiv (by decide) (by decide), ?_⟩
        dsimp only
        rw [ho1]
        refine ⟨log_small (by omega), shift_add hL2 ho2 ?_⟩
        refine ⟨by rw [sizeLine_eq]; omega, k (some (.d (.int oc))) (acc ++ [D.str (txt L sh o)]) (fun d hd => ?_) (by simp) (by simp) (fun _ z => by simp at z)⟩
        rcases List.mem_append.mp hd with hd | hd
        · exact .inl hd
        · have : d = .str (txt L sh o) := by simpa using hd
          exact .inr ⟨L, pl, sh, o, hL, hs, ho2, this, by omega⟩
      · rw [if_neg (by simpa using h3)]
        exact no (by rw [hh, decide_eq_false h3]; simp)
    · rw [if_neg (by simpa using h2)]
      refine ⟨_, rfl, ?_⟩
      rw [if_neg (by decide)]
      exact no (by rw [hh, decide_eq_false h2]; simp)
  · rw [if_neg (by simpa using h1)]
    rw [if_neg (by decide)]
    exact no (by rw [hh, decide_eq_false h1]; simp)
theorem gd_str {x : Str} (h : Smt 1000 x) : Gd (.str x) := ⟨by simp only [gdP, h.strOk], by simp [PyData.depth], by
  have := h.1
  have e : x.cps.size = x.length := rfl
  simp only [PyData.weight]; omega⟩
theorem gd_int {i : Int} (h : -999999999999 ≤ i ∧ i ≤ 999999999999) : Gd (.int i) := ⟨by simp only [gdP, decide_eq_true h.1, decide_eq_true h.2, Bool.and_self], by simp [PyData.depth], by
  have := log_small h
  simp only [PyData.weight]
  split <;> omega⟩
theorem nm_sm {p : Nat} (hp : p < 120) : Smt 1000 (nm p) := by
  have e : (nm p).cps.toList = _ := txt_l (by omega : p / 12 < 10)
  have hL : nL (p % 12) < 256 := by
    have := (nm_at (Nat.mod_lt p (by decide : 12 > 0))).1
    simp only [plc, List.mem_cons, List.not_mem_nil, or_false, Prod.mk.injEq] at this
    omega
  have hs : (sgl (nS (p % 12))).length ≤ 1 ∧ ∀ c ∈ sgl (nS (p % 12)), c < 256 := by
    unfold sgl
    split <;> simp
  refine ⟨?_, fun c hc => ?_⟩
  · rw [TL.len_tl]
    show (nm p).cps.toList.length ≤ 1000
    rw [e]
    simp
    have := hs.1
    omega
  · rw [e] at hc
    rcases List.mem_cons.mp hc with rfl | hc
    · exact hL
    · rcases List.mem_append.mp hc with hc | hc
      · exact hs.2 c hc
      · have : c = 48 + p / 12 := by simpa using hc
        omega
end
end Kt
set_option maxHeartbeats 1000000
/-! Kt27: numbers as texts; spelled; notes as texts. -/
namespace Kt
open PySem PySem.Spec L2
/-- a number's text -/
abbrev sNum (n : Nat) : Str := Str.ofString (toString ((n : Nat) : Int))
theorem numL_hd : ∀ {n : Nat}, 0 < n → (TL.numL n).head? ≠ some 48 := by
  intro n
  induction n using Nat.strongRecOn with
  | _ n ih =>
    intro h
    by_cases h10 : n < 10
    · rw [TL.numL_lt h10]
      simp
      omega
    · rw [TL.numL_step (by omega)]
      have := ih (n / 10) (by omega) (by omega)
      rw [List.head?_append]
      cases e : (TL.numL (n / 10)).head? with
      | none => exact absurd (List.head?_eq_none_iff.mp e) (TL.numL_ne _)
      | some x =>
        rw [e] at this
        simpa using this
theorem numL_figs {n c : Nat} (h : c ∈ TL.numL n) : c ∈ figs := by
  have := TL.numL_digits n c h
  rw [fig_digit]
  omega
theorem sNum_l (n : Nat) : (sNum n).cps.toList = TL.numL n := TL.tl_num n
theorem len_l (x : Str) : x.length = x.cps.toList.length := by
  show x.cps.size = _
  simp
theorem numS_num {n : Nat} (h : n ≤ 99999) : numS (sNum n) = true := by
  have hl := TL.numL_len (n := n) (k := 5) (by decide) (by omega)
  have hp : 1 ≤ (TL.numL n).length := List.length_pos_iff.mpr (TL.numL_ne n)
  have e1 : decide (1 ≤ (sNum n).length) = true := decide_eq_true (by rw [len_l, sNum_l]; exact hp)
  have e2 : decide ((sNum n).length ≤ 5) = true := decide_eq_true (by rw [len_l, sNum_l]; exact hl)
  have e3 : (sNum n).cps.toList.all (fun c => decide (c ∈ figs)) = true := by
    rw [sNum_l]
    exact List.all_eq_true.mpr fun c hc => decide_eq_true (numL_figs hc)
  unfold numS
  rw [e1, e2, e3, sNum_l]
  by_cases h0 : n = 0
  · subst h0
    have : sNum 0 = "0" := by decide +kernel
    rw [this]
    simp
  · rw [decide_eq_true (numL_hd (n := n) (by omega))]
    simp
theorem int_num' {n : Nat} (h : n ≤ 99999) : PySem.intText? (sNum n) = some (n : Int) := TL.int_num (by
  have := TL.numL_len (n := n) (k := 5) (by decide) (by omega)
  omega)
theorem sNum_sm {n : Nat} (h : n ≤ 99999) : Smt 5 (sNum n) := Smt.num (by decide) (by omega)
/-! ### spelled -/
def spW (L : Nat) (m : List Nat) (F : Nat) : D := match getD cPLC (.inr ⟨#[L]⟩), getD cSHF (.inr ⟨m.toArray⟩) with
  | some (.int pl), some (.int sh) => if F ∈ figs then .int (12 * ((F : Int) - 48) + pl + sh - 1) else .non
  | _, _ => .non
def spV : List Nat → D
  | [L, F] => spW L [] F
  | [L, m, F] => spW L [m] F
  | _ => .non
theorem getD_mem {ks : List (Key × D)} {k : Key} {d : D} (h : getD ks k = some d) : (k, d) ∈ ks := by
  unfold getD at h
  obtain ⟨kv, h1, rfl⟩ := Option.map_eq_some_iff.mp h
  have h2 := List.mem_of_find?_eq_some h1
  have h3 := List.find?_some h1
  have : kv.1 = k := by simpa using h3
  rw [← this]
  exact h2
theorem plc_int {k : Key} {d : D} (h : getD cPLC k = some d) : ∃ pl : Int, d = .int pl ∧ 0 ≤ pl ∧ pl ≤ 11 := by
  have := getD_mem h
  simp only [cPLC, List.mem_cons, List.mem_nil_iff, or_false, Prod.mk.injEq] at this
  rcases this with ⟨_, rfl⟩ | ⟨_, rfl⟩ | ⟨_, rfl⟩ | ⟨_, rfl⟩ | ⟨_, rfl⟩ | ⟨_, rfl⟩ | ⟨_, rfl⟩ <;> exact ⟨_, rfl, by decide, by decide⟩
theorem shf_int {k : Key} {d : D} (h : getD cSHF k = some d) : ∃ pl : Int, d = .int pl ∧ 0 ≤ pl ∧ pl ≤ 2 := by
  have := getD_mem h
  simp only [cSHF, List.mem_cons, List.mem_nil_iff, or_false, Prod.mk.injEq] at this
  rcases this with ⟨_, rfl⟩ | ⟨_, rfl⟩ | ⟨_, rfl⟩ <;> exact ⟨_, rfl, by decide, by decide⟩
section
variable {st : List Ob} {Q : SV → List Ob → Prop} {E : XK'}
theorem spell_three {x : Str} {L F : Nat} {m : List Nat} (hx : x.cps.toList = L :: (m ++ [F])) (hm : m.length ≤ 1) (q : Q (.d (spW L m F)) st) : m_spell [.str x] st Q E := by
  have ex : x = ⟨(L :: (m ++ [F])).toArray⟩ := str_ext hx
  subst ex
  have len : (⟨(L :: (m ++ [F])).toArray⟩ : Str).length = 2 + m.length := by
    show (L :: (m ++ [F])).toArray.size = _
    simp; omega
  simp only [m_spell, R_spell, mD, dSeq, dIfS, dOr, dNot, dTest, dIsi, dChain, dBin, dB, dCons, dNil, dVar, dC, dRet, dNext, dSet, dName, dSl, dP, dUn, dKIn, dKGet, kLe, kCmpI, kI]
  refine ⟨rfl, _, rfl, "str", rfl, _, rfl, ?_⟩
  rw [if_neg (by decide)]
  have hz : (⟨(L :: (m ++ [F])).toArray⟩ : Str).length ≤ sizeLine := by rw [len, sizeLine_eq]; omega
  refine ⟨_, rfl, hz, True.intro, _, rfl, ?_⟩
  rw [if_pos (by rw [len]; simp; omega)]
  refine ⟨True.intro, _, rfl, ?_⟩
  rw [if_neg (by rw [len]; simp; omega)]
  have ec : cutS ⟨(L :: (m ++ [F])).toArray⟩ (some 1) (some (-1)) = ⟨m.toArray⟩ := by
    match m, hm with
    | [], _ => rfl
    | [_], _ => rfl
  refine ⟨_, rfl, hz, L, ?_, _, rfl, 1, rfl, -1, rfl, hz, _, rfl, hz, F, ?_, ?_⟩
  · match m, hm with
    | [], _ => rfl
    | [_], _ => rfl
  · match m, hm with
    | [], _ => rfl
    | [_], _ => rfl
  rw [ec]
  refine ⟨_, rfl, .inr ⟨#[L]⟩, rfl, _, rfl, ?_⟩
  cases hp : getD cPLC (.inr ⟨#[L]⟩) with
  | none =>
    rw [if_pos (by simp)]
    unfold spW at q
    rw [hp] at q
    exact q
  | some dp =>
    obtain ⟨pl, rfl, pl0, pl1⟩ := plc_int hp
    rw [if_neg (by simp)]
    refine ⟨_, rfl, .inr ⟨m.toArray⟩, rfl, _, rfl, ?_⟩
    cases hh : getD cSHF (.inr ⟨m.toArray⟩) with
    | none =>
      rw [if_pos (by simp)]
      unfold spW at q
      rw [hp, hh] at q
      exact q
    | some dh =>
      obtain ⟨sh, rfl, sh0, sh1⟩ := shf_int hh
      rw [if_neg (by simp)]
      refine ⟨_, rfl, F, rfl, _, rfl, ?_⟩
      have q' : Q (.d (if F ∈ figs then .int (12 * ((F : Int) - 48) + pl + sh - 1) else .non)) st := by
        unfold spW at q
        rw [hp, hh] at q
        exact q
      by_cases hf : F ∈ ("0123456789" : Str).cps.toList
      · rw [if_neg (by simpa using hf)]
        have hf2 : F ∈ figs := hf
        rw [if_pos hf2] at q'
        obtain ⟨o, rfl, ho⟩ : ∃ o, F = 48 + o ∧ o < 10 := by
          have := fig_digit.mp hf2
          exact ⟨F - 48, by omega, by omega⟩
        refine ⟨_, rfl, (by show 1 ≤ 640; decide), (o : Int), fig_int ho, cmul (by decide) (by decide) (by omega) (by omega), _, rfl, .inr ⟨#[L]⟩, _, rfl, hp, _, rfl, .inr ⟨m.toArray⟩, _, rfl, hh, True.intro, ?_⟩
        have e : (((48 + o : Nat) : Int) - 48) = (o : Int) := by omega
        rw [e] at q'
        exact q'
      · rw [if_pos (by simpa using hf)]
        have hf2 : ¬ F ∈ figs := hf
        rw [if_neg hf2] at q'
        exact q'
theorem spell_no {x : Str} (hz : x.length ≤ 1000) (h : x.length < 2 ∨ 3 < x.length) (q : Q (.d .non) st) : m_spell [.str x] st Q E := by
  simp only [m_spell, R_spell, mD, dSeq, dIfS, dOr, dNot, dTest, dIsi, dChain, dBin, dB, dCons, dNil, dVar, dC, dRet, dNext, kLe, kCmpI, kI]
  refine ⟨rfl, _, rfl, "str", rfl, _, rfl, ?_⟩
  rw [if_neg (by decide)]
  refine ⟨_, rfl, two2 hz, True.intro, _, rfl, ?_⟩
  by_cases h2 : 2 ≤ x.length
  · rw [if_pos (by simp; omega)]
    refine ⟨True.intro, _, rfl, ?_⟩
    rw [if_pos (by simp; omega)]
    exact q
  · rw [if_neg (by simp; omega)]
    exact ⟨_, rfl, by rw [if_pos (by simp)]; exact q⟩
theorem spell_ok {x : Str} (hz : x.length ≤ 1000) (q : Q (.d (spV x.cps.toList)) st) : m_spell [.str x] st Q E := by
  have e := len_l x
  match hl : x.cps.toList with
  | [] => rw [hl] at q e; exact spell_no hz (.inl (by rw [e]; decide)) q
  | [a] => rw [hl] at q e; exact spell_no hz (.inl (by rw [e]; show 1 < 2; decide)) q
  | [L, F] => rw [hl] at q; exact spell_three (m := []) hl (by decide) q
  | [L, m, F] => rw [hl] at q; exact spell_three (m := [m]) hl (Nat.le_refl 1) q
  | a :: b :: c :: d :: r => rw [hl] at q e; exact spell_no hz (.inr (by rw [e]; simp)) q
end
end Kt
set_option maxHeartbeats 1000000
/-! Kt28: notes read out of texts, notes written as texts. -/
namespace Kt
open PySem PySem.Spec L2
def iv (y : Str) : Int := (PySem.intText? y).getD 0
theorem numS_all {y : Str} (h : numS y = true) : 1 ≤ y.length ∧ y.length ≤ 5 ∧ y.cps.toList.all (fun c => decide (c ∈ figs)) = true := by
  unfold numS at h
  simp only [Bool.and_eq_true, decide_eq_true_eq] at h
  exact ⟨h.1.1.1, h.1.1.2, h.1.2⟩
theorem iv_ok {y : Str} (h : numS y = true) : PySem.intText? y = some (iv y) := by
  obtain ⟨h1, h2, h3⟩ := numS_all h
  have e := intText_digits (x := y) (fun c hc => fig_digit.mp (of_decide_eq_true (List.all_eq_true.mp h3 c hc))) (fun z => by
    have := len_l y
    rw [z] at this
    simp at this
    omega) (by omega)
  unfold iv
  rw [e]
  rfl
def ntF (f l n : Str) : D := if isN (.tup [.int (iv f), .int (iv l), spV n.cps.toList]) = true then .tup [.int (iv f), .int (iv l), spV n.cps.toList] else .non
def ntW (c n f b l : Str) : D := if c = "" then .non else if numS f = false then .non else if b = "" then ntF f f n else if numS l = false then .non else if iv l ≤ iv f then .non else ntF f l n
theorem spV_ty (st : List Ob) (l : List Nat) : ∃ t, tyD st (spV l) = some t := by
  have w : ∀ L m F, ∃ t, tyD st (spW L m F) = some t := fun L m F => by
    unfold spW
    split
    · split <;> exact ⟨_, rfl⟩
    · exact ⟨_, rfl⟩
  unfold spV
  split
  · exact w _ _ _
  · exact w _ _ _
  · exact ⟨_, rfl⟩
def R_ntail : DS := (dSeq (dSet (dName 7) (dTup (dCons (dB kInt (dCons (dVar 4) dNil)) (dCons (dB kInt (dCons (dVar 6) dNil)) (dCons (dCall m_spell (dCons (dVar 3) dNil)) dNil))))) (dSeq (dRet (dIf (dTest (dCall m_isnote (dCons (dVar 7) dNil))) (dVar 7) (dC .non))) dNext))
theorem R_notein_eq : R_notein = (dSeq (dSet (dUnp 3 (gMore (dName 1) (gMore (dName 2) (gMore (dName 3) gNone)))) (dM1 kPart (dVar 0) (dC (.str ":")))) (dSeq (dSet (dUnp 3 (gMore (dName 4) (gMore (dName 5) (gMore (dName 6) gNone)))) (dM1 kPart (dVar 1) (dC (.str "-")))) (dSeq (dIfS (dOr (dTest (dBin kEq (dVar 2) (dC (.str "")))) (dNot (dTest (dCall m_numtext (dCons (dVar 4) dNil))))) (dSeq (dRet (dC .non)) dNext) dNext) (dSeq (dIfS (dTest (dBin kEq (dVar 5) (dC (.str "")))) (dSeq (dSet (dName 6) (dVar 4)) dNext) (dSeq (dIfS (dOr (dNot (dTest (dCall m_numtext (dCons (dVar 6) dNil)))) (dTest (dBin kLe (dB kInt (dCons (dVar 6) dNil)) (dB kInt (dCons (dVar 4) dNil))))) (dSeq (dRet (dC .non)) dNext) dNext) dNext)) R_ntail)))) := rfl
section
variable {st : List Ob} {Q : SV → List Ob → Prop} {E : XK'}
theorem ntail_ok {De : DEnds} {f y6 n : Str} {p0 p1 p2 p5 p7 : Option SV} (hn : n.length ≤ 1000) (i1 : ∀ {K : DK}, K (.int (iv f)) st → kInt [.str f] st K) (i2 : ∀ {K : DK}, K (.int (iv y6)) st → kInt [.str y6] st K) (q : De.rt (.d (ntF f y6 n)) st) :
    R_ntail De ⟨[p0, p1, p2, some (.d (.str n)), some (.d (.str f)), p5, some (.d (.str y6)), p7], st⟩ := by
  simp only [R_ntail, dSeq, dSet, dName, dTup, dB, dCons, dNil, dVar, dCall, dRet, dIf, dTest, dC, dNext]
  refine ⟨_, rfl, i1 ⟨_, rfl, i2 ⟨_, rfl, spell_ok hn ⟨rfl, two2 (Nat.le_trans (Nat.le_of_eq (rfl : _ = 3)) (by decide)), ?_⟩⟩⟩⟩
  refine ⟨_, rfl, isnote_ok ⟨⟨_, rfl⟩, fun ds z d hd => ?_⟩ (fun ds z => by cases z; exact Nat.le_trans (Nat.le_of_eq (rfl : _ = 3)) (by decide)) ⟨rfl, _, rfl, ?_⟩⟩
  · cases z
    simp only [List.mem_cons, List.mem_nil_iff, or_false] at hd
    rcases hd with rfl | rfl | rfl
    · exact ⟨_, rfl⟩
    · exact ⟨_, rfl⟩
    · exact spV_ty st _
  · unfold ntF at q
    show (if isN (.tup [.int (iv f), .int (iv y6), spV n.cps.toList]) = true then _ else _)
    by_cases hN : isN (.tup [.int (iv f), .int (iv y6), spV n.cps.toList]) = true
    · rw [if_pos hN]
      rw [if_pos hN] at q
      exact ⟨_, rfl, q⟩
    · rw [if_neg hN]
      rw [if_neg hN] at q
      exact q
theorem notein_ok {x a c n f b l : Str} (hx : x.length ≤ 1000) (ha : a.length ≤ 1000) (h1 : Txt.partition x ":" = (a, c, n)) (h2 : Txt.partition a "-" = (f, b, l)) (hf : f.length ≤ 1000) (hl : l.length ≤ 1000) (hn : n.length ≤ 1000)
    (q : Q (.d (ntW c n f b l)) st) : m_notein [.str x] st Q E := by
  rw [m_notein, R_notein_eq]
  simp only [mD, dSeq, dIfS, dOr, dNot, dTest, dBin, dB, dCall, dCons, dNil, dVar, dC, dRet, dNext, dSet, dUnp, gMore, gNone, dName, dM1]
  refine ⟨rfl, _, rfl, rfl, by decide +kernel, two2 hx, ?_⟩
  rw [h1]
  refine ⟨_, rfl, rfl, _, _, rfl, _, _, rfl, _, _, rfl, rfl, ?_⟩
  refine ⟨_, rfl, rfl, by decide +kernel, two2 ha, ?_⟩
  rw [h2]
  refine ⟨_, rfl, rfl, _, _, rfl, _, _, rfl, _, _, rfl, rfl, ?_⟩
  refine ⟨_, rfl, kEq_strs ⟨_, rfl, ?_⟩⟩
  unfold ntW at q
  by_cases hc : c = ""
  · rw [if_pos (by simpa using hc)]
    rw [if_pos hc] at q
    exact q
  rw [if_neg (by simpa using hc)]
  rw [if_neg hc] at q
  refine ⟨_, rfl, isnum_str hf ⟨rfl, _, rfl, ?_⟩⟩
  cases hnf : numS f with
  | false =>
    rw [if_pos (by decide)]
    rw [if_pos hnf] at q
    exact q
  | true =>
  rw [if_neg (by decide)]
  rw [if_neg (by rw [hnf]; decide)] at q
  have i1 : ∀ {K : DK}, K (.int (iv f)) st → kInt [.str f] st K := fun k => ⟨by have := numS_all hnf; omega, _, iv_ok hnf, k⟩
  refine ⟨_, rfl, kEq_strs ⟨_, rfl, ?_⟩⟩
  by_cases hb : b = ""
  · rw [if_pos (by simpa using hb)]
    rw [if_pos hb] at q
    exact ⟨_, rfl, ntail_ok hn i1 i1 q⟩
  rw [if_neg (by simpa using hb)]
  rw [if_neg hb] at q
  refine ⟨_, rfl, isnum_str hl ⟨rfl, _, rfl, ?_⟩⟩
  cases hnl : numS l with
  | false =>
    rw [if_pos (by decide)]
    rw [if_pos hnl] at q
    exact q
  | true =>
  rw [if_neg (by decide)]
  rw [if_neg (by rw [hnl]; decide)] at q
  have i2 : ∀ {K : DK}, K (.int (iv l)) st → kInt [.str l] st K := fun k => ⟨by have := numS_all hnl; omega, _, iv_ok hnl, k⟩
  refine ⟨_, rfl, i2 ⟨_, rfl, i1 ⟨True.intro, _, rfl, ?_⟩⟩⟩
  by_cases hle : iv l ≤ iv f
  · rw [if_pos (by simpa using hle)]
    rw [if_pos hle] at q
    exact q
  · rw [if_neg (by simpa using hle)]
    rw [if_neg hle] at q
    exact ntail_ok hn i1 i2 q
/-- a text that is asked for a note: what is told -/
theorem readnote_str {x a c n f b l : Str} (hx : x.length ≤ 1000) (ha : a.length ≤ 1000) (h1 : Txt.partition x ":" = (a, c, n)) (h2 : Txt.partition a "-" = (f, b, l)) (hf : f.length ≤ 1000) (hl : l.length ≤ 1000) (hn : n.length ≤ 1000)
    (q : isNon (ntW c n f b l) = false → Q (.d (ntW c n f b l)) st) (e : isNon (ntW c n f b l) = true → E ⟨"BadText", [("found", .str x)]⟩ st) : m_readnote [.str x] st Q E := by
  simp only [m_readnote, R_readnote, mD, dSeq, dSet, dName, dIf, dTest, dIsi, dCall, dCons, dNil, dVar, dC, dIfS, dBin, dRaise1, dRet, dNext]
  refine ⟨rfl, _, rfl, "str", rfl, _, rfl, ?_⟩
  rw [if_pos (by decide)]
  refine ⟨_, rfl, notein_ok hx ha h1 h2 hf hl hn ⟨rfl, ?_⟩⟩
  refine ⟨_, rfl, rfl, _, rfl, ?_⟩
  show (if isNon (ntW c n f b l) = true then _ else _)
  cases hN : isNon (ntW c n f b l) with
  | true => rw [if_pos rfl]; exact ⟨_, rfl, _, rfl, e hN⟩
  | false => rw [if_neg (by decide)]; exact ⟨_, rfl, q hN⟩
theorem readnote_not {d : D} {t : String} (h : tyD st d = some t) (hs : isB "str" t = false) (e : E ⟨"BadText", [("found", d)]⟩ st) : m_readnote [d] st Q E := by
  simp only [m_readnote, R_readnote, mD, dSeq, dSet, dName, dIf, dTest, dIsi, dCall, dCons, dNil, dVar, dC, dIfS, dBin, dRaise1, dRet, dNext]
  refine ⟨rfl, _, rfl, t, h, _, rfl, ?_⟩
  rw [if_neg (by rw [hs]; exact Bool.false_ne_true)]
  refine ⟨_, rfl, rfl, _, rfl, ?_⟩
  rw [if_pos (by decide)]
  exact ⟨_, rfl, _, rfl, e⟩
end
end Kt
set_option maxHeartbeats 1000000
/-! Kt29: a note's text, and back. -/
namespace Kt
open PySem PySem.Spec L2
theorem tl_colon : TL.tl ":" = [58] := by decide +kernel
theorem tl_bar : TL.tl "-" = [45] := by decide +kernel
theorem tl_sNum (n : Nat) : TL.tl (sNum n) = TL.numL n := TL.tl_num n
theorem emp_app (x : Str) : Str.empty ++ x = x := TL.ext_tl (by rw [TL.tl_append]; rfl)
theorem emp_eq : Str.empty = ("" : Str) := by decide +kernel
theorem part_colon {a n : Str} (h : 58 ∉ TL.tl a) : Txt.partition ((a ++ ":") ++ n) ":" = (a, (":" : Str), n) := TL.partition_app tl_colon h
theorem nopart_colon {a : Str} (h : 58 ∉ TL.tl a) : Txt.partition a ":" = (a, ("" : Str), ("" : Str)) := TL.partition_none tl_colon h
theorem part_bar {a n : Str} (h : 45 ∉ TL.tl a) : Txt.partition ((a ++ "-") ++ n) "-" = (a, ("-" : Str), n) := TL.partition_app tl_bar h
theorem nopart_bar {a : Str} (h : 45 ∉ TL.tl a) : Txt.partition a "-" = (a, ("" : Str), ("" : Str)) := TL.partition_none tl_bar h
theorem sNum_free {n s : Nat} (h : s < 48 ∨ 57 < s) : s ∉ TL.tl (sNum n) := by
  rw [tl_sNum]
  exact TL.numL_free h
/-- when: a stroke's moment, or from and to -/
def aheadT (s e : Nat) : Str := if s = e then sNum s else (sNum s ++ "-") ++ sNum e
def noteT (s e : Nat) (n : Str) : Str := (aheadT s e ++ ":") ++ n
theorem ahead_free {s e : Nat} : 58 ∉ TL.tl (aheadT s e) := by
  unfold aheadT
  split
  · exact sNum_free (by decide)
  · rw [TL.tl_append, TL.tl_append, tl_bar]
    intro h
    rcases List.mem_append.mp h with h | h
    · rcases List.mem_append.mp h with h | h
      · exact sNum_free (by decide) h
      · simp at h
    · exact sNum_free (by decide) h
theorem bar_sm : Smt 1 ("-" : Str) := (Smt.one (c := 45) (by decide))
theorem colon_sm : Smt 1 (":" : Str) := (Smt.one (c := 58) (by decide))
theorem ahead_sm {s e : Nat} (hs : s ≤ 99999) (he : e ≤ 99999) : Smt 11 (aheadT s e) := by
  unfold aheadT
  split
  · exact (sNum_sm hs).mono (by decide)
  · exact ((sNum_sm hs).app bar_sm).app (sNum_sm he)
theorem noteT_sm {s e k : Nat} {n : Str} (hs : s ≤ 99999) (he : e ≤ 99999) (hn : Smt k n) : Smt (12 + k) (noteT s e n) := ((ahead_sm hs he).app colon_sm).app hn
theorem iv_num {n : Nat} (h : n ≤ 99999) : iv (sNum n) = (n : Int) := by
  unfold iv
  rw [int_num' h]
  rfl
def nT (s e : Nat) (p : Int) : D := .tup [.int (s : Int), .int (e : Int), .int p]
theorem isN_nT {s e : Nat} {p : Int} (h : s ≤ e) (he : e ≤ 9999) (h0 : 0 ≤ p) (h1 : p ≤ 119) : isN (nT s e p) = true := by
  simp [nT, isN, isI]
  omega
theorem ntW_good {s e : Nat} {p : Int} {n : Str} (h : s ≤ e) (he : e ≤ 9999) (hv : spV n.cps.toList = .int p) (h0 : 0 ≤ p) (h1 : p ≤ 119) :
    ∃ f b l, Txt.partition (aheadT s e) "-" = (f, b, l) ∧ f.length ≤ 1000 ∧ l.length ≤ 1000 ∧ ntW ":" n f b l = nT s e p := by
  have hc : (":" : Str) ≠ "" := by decide +kernel
  have hN := isN_nT (p := p) h he h0 h1
  unfold aheadT
  by_cases hse : s = e
  · subst hse
    refine ⟨sNum s, "", "", by rw [if_pos rfl]; exact nopart_bar (sNum_free (by decide)), by have := (sNum_sm (n := s) (by omega)).1; omega, by decide +kernel, ?_⟩
    unfold ntW
    rw [if_neg hc, if_neg (by rw [numS_num (by omega)]; decide), if_pos rfl]
    unfold ntF
    rw [iv_num (by omega), hv]
    exact if_pos hN
  · refine ⟨sNum s, "-", sNum e, by rw [if_neg hse]; exact part_bar (sNum_free (by decide)), by have := (sNum_sm (n := s) (by omega)).1; omega, by have := (sNum_sm (n := e) (by omega)).1; omega, ?_⟩
    unfold ntW
    rw [if_neg hc, if_neg (by rw [numS_num (by omega)]; decide), if_neg (by decide +kernel), if_neg (by rw [numS_num (by omega)]; decide), iv_num (by omega), iv_num (by omega), if_neg (by omega)]
    unfold ntF
    rw [iv_num (by omega), iv_num (by omega), hv]
    exact if_pos hN
theorem sgn_sm (sh : Nat) : Smt 1 (sgn sh) := by
  refine ⟨?_, fun c hc => ?_⟩
  · rw [TL.len_tl]
    show (sgn sh).cps.toList.length ≤ 1
    rw [sgn_l]
    unfold sgl
    split <;> decide
  · rw [sgn_l] at hc
    unfold sgl at hc
    split at hc <;> simp at hc <;> omega
theorem txt_sm {L pl sh o : Nat} (hL : (L, pl) ∈ plc) (ho : o < 10) : Smt 3 (txt L sh o) := by
  have hL2 : L < 256 := by
    simp only [plc, List.mem_cons, List.not_mem_nil, or_false, Prod.mk.injEq] at hL
    omega
  exact ((Smt.one hL2).app (sgn_sm sh)).app (Smt.num (k := 1) (by decide) (by omega))
theorem nm_sm3 {p : Nat} (hp : p < 120) : Smt 3 (nm p) := txt_sm (nm_at (Nat.mod_lt p (by decide : 12 > 0))).1 (by omega)
theorem spV_txt {L pl sh o : Nat} (hL : (L, pl) ∈ plc) (hs : sh < 3) (ho : o < 10) : spV (txt L sh o).cps.toList = .int (12 * (o : Int) + pl + sh - 1) := by
  have w : spW L (sgl sh) (48 + o) = .int (12 * (o : Int) + pl + sh - 1) := by
    unfold spW
    rw [plc_get hL, shf_get hs]
    show (if 48 + o ∈ figs then D.int (12 * (((48 + o : Nat) : Int) - 48) + pl + sh - 1) else .non) = _
    rw [if_pos (fig_digit.mpr (by omega))]
    congr 2
    omega
  rw [txt_l ho]
  match sh, hs with
  | 0, _ => exact w
  | 1, _ => exact w
  | 2, _ => exact w
theorem spV_nm {p : Nat} (hp : p < 120) : spV (nm p).cps.toList = .int (p : Int) := by
  obtain ⟨a, b, c, d⟩ := nm_at (Nat.mod_lt p (by decide : 12 > 0))
  have := spV_txt (o := p / 12) a b (by omega)
  unfold nm
  rw [this]
  congr 1
  omega
def R_nttail : DS := (dSeq (dRet (dBin kAdd (dBin kAdd (dVar 4) (dC (.str ":"))) (dCall m_ptext (dCons (dVar 3) dNil)))) dNext)
theorem R_notetext_eq : R_notetext = (dSeq (dDrop (dCall m_neednote (dCons (dVar 0) dNil))) (dSeq (dSet (dUnp 3 (gMore (dName 1) (gMore (dName 2) (gMore (dName 3) gNone)))) (dVar 0)) (dSeq (dSet (dName 4) (dIf (dTest (dBin kEq (dVar 1) (dVar 2))) (dB kStr (dCons (dVar 1) dNil)) (dJoined [(dFmt (dVar 1)), (dC (.str "-")), (dFmt (dVar 2))]))) R_nttail))) := rfl
section
variable {st : List Ob} {Q : SV → List Ob → Prop} {E : XK'}
theorem readnote_good {s e : Nat} {p : Int} {n : Str} (h : s ≤ e) (he : e ≤ 9999) (hn : Smt 900 n) (hv : spV n.cps.toList = .int p) (h0 : 0 ≤ p) (h1 : p ≤ 119) (q : Q (.d (nT s e p)) st) : m_readnote [.str (noteT s e n)] st Q E := by
  obtain ⟨f, b, l, e1, hf, hl, e2⟩ := ntW_good h he hv h0 h1
  refine readnote_str (a := aheadT s e) (c := ":") (n := n) (f := f) (b := b) (l := l) (by have := (noteT_sm (s := s) (e := e) (by omega) (by omega) hn).1; omega) (by have := (ahead_sm (s := s) (e := e) (by omega) (by omega)).1; omega) (part_colon ahead_free) e1 hf hl (by have := hn.1; omega) (fun _ => ?_) (fun z => ?_)
  · rw [e2]; exact q
  · rw [e2] at z; cases z
theorem neednote_yes {d : D} (hk : okN st d) (hs : ∀ ds, d = .tup ds → ds.length ≤ 1000) (h : isN d = true) (q : Q (.d .non) st) : m_neednote [d] st Q E := by
  simp only [m_neednote, R_neednote, mD, dSeq, dIfS, dNot, dTest, dCall, dCons, dNil, dVar, dRaise1, dNext]
  refine ⟨rfl, _, rfl, isnote_ok hk hs ⟨rfl, _, rfl, ?_⟩⟩
  show (if (!isN d) = true then _ else _)
  rw [h, if_neg (by decide)]
  exact q
theorem neednote_no {d : D} (hk : okN st d) (hs : ∀ ds, d = .tup ds → ds.length ≤ 1000) (h : isN d = false) (e : E ⟨"BadNote", [("found", d)]⟩ st) : m_neednote [d] st Q E := by
  simp only [m_neednote, R_neednote, mD, dSeq, dIfS, dNot, dTest, dCall, dCons, dNil, dVar, dRaise1, dNext]
  refine ⟨rfl, _, rfl, isnote_ok hk hs ⟨rfl, _, rfl, ?_⟩⟩
  show (if (!isN d) = true then _ else _)
  rw [h, if_pos (by decide)]
  exact ⟨_, rfl, _, rfl, e⟩
theorem okN_nT {s e : Nat} {p : Int} : okN st (nT s e p) ∧ ∀ ds, nT s e p = .tup ds → ds.length ≤ 1000 := by
  refine ⟨⟨⟨_, rfl⟩, fun ds z d hd => ?_⟩, fun ds z => ?_⟩
  · cases z
    simp only [List.mem_cons, List.mem_nil_iff, or_false] at hd
    rcases hd with rfl | rfl | rfl <;> exact ⟨_, rfl⟩
  · cases z
    exact Nat.le_trans (Nat.le_of_eq (rfl : _ = 3)) (by decide)
theorem addS {a b : Str} {j k : Nat} {K : DK} (ha : Smt j a) (hb : Smt k b) (h : j + k ≤ 1000) (q : K (.str (a ++ b)) st) : kAdd (.str a) (.str b) st K := ⟨two2 (by have := ha.1; have := hb.1; omega), q⟩
theorem notetext_no {d : D} (hk : okN st d) (hs : ∀ ds, d = .tup ds → ds.length ≤ 1000) (h : isN d = false) (e : E ⟨"BadNote", [("found", d)]⟩ st) : m_notetext [d] st Q E := by
  simp only [m_notetext, R_notetext, mD, dSeq, dDrop, dCall, dCons, dNil, dVar]
  exact ⟨rfl, _, rfl, neednote_no hk hs h e⟩
theorem nttail_ok {De : DEnds} {s e p : Nat} {p0 p1 p2 : Option SV} (hs : s ≤ 99999) (he : e ≤ 99999) (hp : p < 120) (q : De.rt (.d (.str (noteT s e (nm p)))) st) : R_nttail De ⟨[p0, p1, p2, some (.d (.int (p : Int))), some (.d (.str (aheadT s e)))], st⟩ := by
  simp only [R_nttail, dSeq, dRet, dBin, dCall, dCons, dNil, dVar, dC, dNext]
  exact ⟨_, rfl, addS (ahead_sm hs he) colon_sm (by decide) ⟨_, rfl, ptext_ok hp ⟨rfl, addS ((ahead_sm hs he).app colon_sm) (nm_sm3 hp) (by decide) q⟩⟩⟩
theorem notetext_ok {s e p : Nat} (h : s ≤ e) (he : e ≤ 9999) (hp : p < 120) (q : Q (.d (.str (noteT s e (nm p)))) st) : m_notetext [nT s e p] st Q E := by
  rw [m_notetext, R_notetext_eq]
  simp only [mD, dSeq, dDrop, dCall, dCons, dNil, dVar, dC, dSet, dUnp, gMore, gNone, dName, dIf, dTest, dBin, dB, dJoined, dJs, dFmt]
  refine ⟨rfl, _, rfl, neednote_yes (okN_nT (st := st)).1 (okN_nT (st := st)).2 (isN_nT h he (by omega) (by omega)) ⟨rfl, ?_⟩⟩
  refine ⟨_, rfl, _, rfl, rfl, _, _, rfl, _, _, rfl, _, _, rfl, rfl, ?_⟩
  have sm1 := sNum_sm (n := s) (by omega)
  have sm2 := sNum_sm (n := e) (by omega)
  refine ⟨_, rfl, _, rfl, ?_⟩
  unfold kEq
  simp only [scEq]
  refine ⟨_, rfl, ?_⟩
  by_cases hse : s = e
  · subst hse
    rw [if_pos (by simp)]
    refine ⟨_, rfl, log_small (by omega), ?_⟩
    have := nttail_ok (st := st) (De := { nx := fun s => Q (.d .non) s.st, rt := Q, ex := fun x s => E x s.st, bk := fun _ => False, ct := fun _ => False }) (p0 := some (.d (nT s s p))) (p1 := some (.d (.int (s : Int)))) (p2 := some (.d (.int (s : Int)))) (s := s) (e := s) (by omega) (by omega) hp q
    unfold aheadT at this
    rw [if_pos rfl] at this
    exact this
  · rw [if_neg (by simp; omega)]
    refine ⟨_, rfl, log_small (by omega), _, rfl, ?_, _, rfl, ?_, _, rfl, log_small (by omega), _, rfl, ?_, ?_⟩
    · rw [emp_app]; exact two2 (Nat.le_trans sm1.1 (by decide))
    · rw [emp_app]; exact two2 (Nat.le_trans (sm1.app bar_sm).1 (by decide))
    · rw [emp_app]; exact two2 (Nat.le_trans ((sm1.app bar_sm).app sm2).1 (by decide))
    · rw [emp_app]
      have := nttail_ok (st := st) (De := { nx := fun s => Q (.d .non) s.st, rt := Q, ex := fun x s => E x s.st, bk := fun _ => False, ct := fun _ => False }) (p0 := some (.d (nT s e p))) (p1 := some (.d (.int (s : Int)))) (p2 := some (.d (.int (e : Int)))) (s := s) (e := e) (by omega) (by omega) hp q
      unfold aheadT at this
      rw [if_neg hse] at this
      exact this
end
end Kt
set_option maxHeartbeats 1000000
/-! Kt30: the odd values, with what stays; data of few items. -/
namespace Kt
open PySem PySem.Spec L2
section
variable {st : List Ob} {Q : SV → List Ob → Prop} {E : XK'}
theorem odd_fr {c0 : Int} {n c : Nat} (h : Bx st n c) (hc : c + 1 ≤ 1000000) (q : ∀ d st', d ∈ oddL st.length → Vk2 st' d → (∃ t, tyD st' d = some t) → Bx st' n (c + 1) → (∀ m, d = .obj m → st.length ≤ m) → (∀ m, m ≠ n → m < st.length → st'[m]? = st[m]?) → Q (.d d) st') (hc0 : 0 ≤ c0 ∧ c0 ≤ 1000000 := by decide) : mD 2 1 (R_odd c0) [.obj n] st Q E := by
  have p29 : CPow 10 29 := ⟨by decide, by decide, by decide⟩
  simp only [R_odd, mD, dSeq, dSet, dName, dLst, dLstN, dTup, dDctN, dDctKN, dBin, dUn, dCall, dB, dCons, dNil, dVar, dC, dRet, dNext, unS, kPow, kI, kSub]
  refine ⟨rfl, p29, p29, True.intro, two (by decide), two (by show 15 ≤ 1000; decide), ?_⟩
  refine ⟨_, rfl, two (by decide), two (by decide), two (by decide), two (by decide), two (by decide), two (by decide), two (by decide), two (by decide), two (by decide), two (by decide), two (by decide), two (by decide), two (by decide), two (by show 11 ≤ 1000; decide), two (by show 26 ≤ 1000; decide), ?_⟩
  simp only [List.append_assoc, List.cons_append, List.nil_append, List.length_append, List.length_cons, List.length_nil, Nat.add_assoc, Nat.reduceAdd]
  refine ⟨_, rfl, _, rfl, ?_⟩
  refine ⟨_, rfl, len_seq_of rfl rfl ?_⟩
  refine take_ok (many := 26) h.app (by omega) (by decide) (by decide) (fun r st2 r0 r1 hs => ⟨rfl, ?_⟩) hc0
  have hnl := h.lt
  have fr : ∀ m, m ≠ n → m < st.length → st2[m]? = st[m]? := fun m hm hl => by
    rw [hs.get (Ne.symm hm), List.getElem?_append_left hl]
  have g : ∀ k ob m, m = st.length + k → objs[k]? = some ob → st2[m]? = some ob := by
    intro k ob m hm ho
    subst hm
    rw [hs.get (by omega), List.getElem?_append_right (by omega), Nat.add_sub_cancel_left]
    exact ho
  have fl : ∀ d t p, d ∈ oddL st.length → (∀ st, tyD st d = some t) → isB "list" t = false → isB "dict" t = false → Rp p → (∀ g, toPyF g d = some p) → Q (.d d) st2 := fun d t p o a b c e f =>
    q d st2 o (.flat a b c e f) ⟨t, a _⟩ hs.2 (fun m z => by
      have := f fun _ => none
      rw [z, toPyF] at this
      cases this) fr
  have ol : ∀ k ds ps ps2 m, m = st.length + k → D.obj m ∈ oddL st.length → objs[k]? = some (.lst ds) → ds.length < 900 → toPyA (fun _ => none) (ds ++ [.str "more"]) = some ps → Rp (.list ps) → toPyA (fun _ => none) ((ds ++ [.str "more"]) ++ [.str "more"]) = some ps2 → Rp (.list ps2) → Q (.d (.obj m)) st2 := fun k ds ps ps2 m em o a b c e f i =>
    q _ st2 o (.lst (g k _ m em a) b c e f i) ⟨"list", by simp only [tyD, g k _ m em a]⟩ hs.2 (fun m' z => by cases z; omega) fr
  have od : ∀ k ks ps ps2 m, m = st.length + k → D.obj m ∈ oddL st.length → objs[k]? = some (.dct ks) → ks.length < 900 → toPyK (fun _ => none) (putD ks (.inr "more") (.int 1)) = some ps → Rp (.dict ps) → (putD ks (.inr "more") (.int 1)).length < 900 → toPyK (fun _ => none) (putD (putD ks (.inr "more") (.int 1)) (.inr "more") (.int 1)) = some ps2 → Rp (.dict ps2) → Q (.d (.obj m)) st2 := fun k ks ps ps2 m em o a b c e f i j =>
    q _ st2 o (.dct (g k _ m em a) b c e f i j) ⟨"dict", by simp only [tyD, g k _ m em a]⟩ hs.2 (fun m' z => by cases z; omega) fr
  refine kIx_lst r0 r1 fun d hd => ?_
  have hd0 : d ∈ oddL st.length := hd
  simp only [List.mem_cons, List.not_mem_nil, or_false] at hd
  rcases hd with rfl | rfl | rfl | rfl | rfl | rfl | rfl | rfl | rfl | rfl | rfl | rfl | rfl | rfl | rfl | rfl | rfl | rfl | rfl | rfl | rfl | rfl | rfl | rfl | rfl | rfl
  · exact fl _ _ _ hd0 (fun _ => rfl) (by decide) (by decide) ⟨by decide +kernel, by decide +kernel, by decide +kernel⟩ (fun _ => rfl)
  · exact fl _ _ _ hd0 (fun _ => rfl) (by decide) (by decide) ⟨by decide +kernel, by decide +kernel, by decide +kernel⟩ (fun _ => rfl)
  · exact fl _ _ _ hd0 (fun _ => rfl) (by decide) (by decide) ⟨by decide +kernel, by decide +kernel, by decide +kernel⟩ (fun _ => rfl)
  · exact fl _ _ _ hd0 (fun _ => rfl) (by decide) (by decide) ⟨by decide +kernel, by decide +kernel, by decide +kernel⟩ (fun _ => rfl)
  · exact fl _ _ _ hd0 (fun _ => rfl) (by decide) (by decide) ⟨by decide +kernel, by decide +kernel, by decide +kernel⟩ (fun _ => rfl)
  · exact fl _ _ _ hd0 (fun _ => rfl) (by decide) (by decide) ⟨by decide +kernel, by decide +kernel, by decide +kernel⟩ (fun _ => rfl)
  · exact fl _ _ _ hd0 (fun _ => rfl) (by decide) (by decide) ⟨by decide +kernel, by decide +kernel, by decide +kernel⟩ (fun _ => rfl)
  · exact fl _ _ _ hd0 (fun _ => rfl) (by decide) (by decide) ⟨by decide +kernel, by decide +kernel, by decide +kernel⟩ (fun _ => rfl)
  · exact fl _ _ _ hd0 (fun _ => rfl) (by decide) (by decide) ⟨by decide +kernel, by decide +kernel, by decide +kernel⟩ (fun _ => rfl)
  · exact fl _ _ _ hd0 (fun _ => rfl) (by decide) (by decide) ⟨by decide +kernel, by decide +kernel, by decide +kernel⟩ (fun _ => rfl)
  · exact fl _ _ _ hd0 (fun _ => rfl) (by decide) (by decide) ⟨by decide +kernel, by decide +kernel, by decide +kernel⟩ (fun _ => rfl)
  · exact fl _ _ _ hd0 (fun _ => rfl) (by decide) (by decide) ⟨by decide +kernel, by decide +kernel, by decide +kernel⟩ (fun _ => rfl)
  · exact od 0 _ _ _ _ rfl hd0 rfl (by decide) rfl ⟨by decide +kernel, by decide +kernel, by decide +kernel⟩ (by decide +kernel) rfl ⟨by decide +kernel, by decide +kernel, by decide +kernel⟩
  · exact od 1 _ _ _ _ rfl hd0 rfl (by decide) rfl ⟨by decide +kernel, by decide +kernel, by decide +kernel⟩ (by decide +kernel) rfl ⟨by decide +kernel, by decide +kernel, by decide +kernel⟩
  · exact od 2 _ _ _ _ rfl hd0 rfl (by decide) rfl ⟨by decide +kernel, by decide +kernel, by decide +kernel⟩ (by decide +kernel) rfl ⟨by decide +kernel, by decide +kernel, by decide +kernel⟩
  · exact fl _ _ _ hd0 (fun _ => rfl) (by decide) (by decide) ⟨by decide +kernel, by decide +kernel, by decide +kernel⟩ (fun _ => rfl)
  · exact fl _ _ _ hd0 (fun _ => rfl) (by decide) (by decide) ⟨by decide +kernel, by decide +kernel, by decide +kernel⟩ (fun _ => rfl)
  · exact fl _ _ _ hd0 (fun _ => rfl) (by decide) (by decide) ⟨by decide +kernel, by decide +kernel, by decide +kernel⟩ (fun _ => rfl)
  · exact fl _ _ _ hd0 (fun _ => rfl) (by decide) (by decide) ⟨by decide +kernel, by decide +kernel, by decide +kernel⟩ (fun _ => rfl)
  · exact fl _ _ _ hd0 (fun _ => rfl) (by decide) (by decide) ⟨by decide +kernel, by decide +kernel, by decide +kernel⟩ (fun _ => rfl)
  · exact ol 3 _ _ _ _ rfl hd0 rfl (by decide) rfl ⟨by decide +kernel, by decide +kernel, by decide +kernel⟩ rfl ⟨by decide +kernel, by decide +kernel, by decide +kernel⟩
  · exact ol 4 _ _ _ _ rfl hd0 rfl (by decide) rfl ⟨by decide +kernel, by decide +kernel, by decide +kernel⟩ rfl ⟨by decide +kernel, by decide +kernel, by decide +kernel⟩
  · exact ol 5 _ _ _ _ rfl hd0 rfl (by decide) rfl ⟨by decide +kernel, by decide +kernel, by decide +kernel⟩ rfl ⟨by decide +kernel, by decide +kernel, by decide +kernel⟩
  · exact fl _ _ _ hd0 (fun _ => rfl) (by decide) (by decide) ⟨by decide +kernel, by decide +kernel, by decide +kernel⟩ (fun _ => rfl)
  · exact ol 6 _ _ _ _ rfl hd0 rfl (by decide) rfl ⟨by decide +kernel, by decide +kernel, by decide +kernel⟩ rfl ⟨by decide +kernel, by decide +kernel, by decide +kernel⟩
  · exact ol 7 _ _ _ _ rfl hd0 rfl (by decide) rfl ⟨by decide +kernel, by decide +kernel, by decide +kernel⟩ rfl ⟨by decide +kernel, by decide +kernel, by decide +kernel⟩
end
theorem items_gd : ∀ ps : List PyData, (∀ x ∈ ps, gdP x = true ∧ x.depth ≤ 5 ∧ x.weight ≤ 4000) → gdAll ps = true ∧ PyData.weightAll ps ≤ 5000 * ps.length ∧ PyData.depthAll ps ≤ 5
  | [], _ => ⟨rfl, Nat.le_refl _, Nat.zero_le _⟩
  | p :: ps, h => by
    obtain ⟨i1, i2, i3⟩ := items_gd ps fun x hx => h x (by simp [hx])
    obtain ⟨h1, h2, h3⟩ := h p (by simp)
    refine ⟨by simp only [gdAll, h1, i1, Bool.and_self], ?_, ?_⟩
    · simp only [PyData.weightAll, List.length_cons]; omega
    · simp only [PyData.depthAll]; omega
theorem tup_gd {ps : List PyData} (h : ∀ x ∈ ps, gdP x = true ∧ x.depth ≤ 5 ∧ x.weight ≤ 4000) (hl : ps.length ≤ 100) : Gd (.tuple ps) := by
  obtain ⟨i1, i2, i3⟩ := items_gd ps h
  refine ⟨by simpa only [gdP] using i1, ?_, ?_⟩
  · simp only [PyData.depth]; omega
  · simp only [PyData.weight]; omega
theorem lst_gd {ps : List PyData} (h : ∀ x ∈ ps, gdP x = true ∧ x.depth ≤ 5 ∧ x.weight ≤ 4000) (hl : ps.length ≤ 100) : Gd (.list ps) := by
  obtain ⟨i1, i2, i3⟩ := items_gd ps h
  refine ⟨by simpa only [gdP] using i1, ?_, ?_⟩
  · simp only [PyData.depth]; omega
  · simp only [PyData.weight]; omega
theorem it_int {i : Int} (h : -999999999999 ≤ i ∧ i ≤ 999999999999) : gdP (.int i) = true ∧ (PyData.int i).depth ≤ 5 ∧ (PyData.int i).weight ≤ 4000 := by
  have := log_small h
  refine ⟨by simp only [gdP, decide_eq_true h.1, decide_eq_true h.2, Bool.and_self], by simp [PyData.depth], ?_⟩
  simp only [PyData.weight]
  split <;> omega
theorem it_str {x : Str} (h : Smt 1000 x) : gdP (.str x) = true ∧ (PyData.str x).depth ≤ 5 ∧ (PyData.str x).weight ≤ 4000 := by
  have e : x.cps.size = x.length := rfl
  have := h.1
  refine ⟨by simp only [gdP, h.strOk], by simp [PyData.depth], ?_⟩
  simp only [PyData.weight]; omega
end Kt
set_option maxHeartbeats 1000000
/-! Kt31: what is read out of any text, by its signs. -/
namespace Kt
open PySem PySem.Spec L2
abbrev sL (l : List Nat) : Str := ⟨l.toArray⟩
theorem tl_sL (l : List Nat) : TL.tl (sL l) = l := rfl
theorem len_sL (l : List Nat) : (sL l).length = l.length := by rw [len_l]
theorem part_le (x y : Str) : (Txt.partition x y).1.length ≤ x.length ∧ (Txt.partition x y).2.2.length ≤ x.length := by
  have h := StrLaws.partition_sum x y
  have e : TL.tl x = TL.tl (Txt.partition x y).1 ++ TL.tl (Txt.partition x y).2.1 ++ TL.tl (Txt.partition x y).2.2 := by
    rw [← TL.tl_append, ← TL.tl_append, h]
  rw [TL.len_tl, TL.len_tl, TL.len_tl, e]
  simp only [List.length_append]
  omega
def ntX (x : Str) : D := ntW (Txt.partition x ":").2.1 (Txt.partition x ":").2.2 (Txt.partition (Txt.partition x ":").1 "-").1 (Txt.partition (Txt.partition x ":").1 "-").2.1 (Txt.partition (Txt.partition x ":").1 "-").2.2
section
variable {st : List Ob} {Q : SV → List Ob → Prop} {E : XK'}
theorem readnote_x {x : Str} (hz : x.length ≤ 1000) (q : isNon (ntX x) = false → Q (.d (ntX x)) st) (e : isNon (ntX x) = true → E ⟨"BadText", [("found", .str x)]⟩ st) : m_readnote [.str x] st Q E := by
  have h1 := part_le x ":"
  have h2 := part_le (Txt.partition x ":").1 "-"
  exact readnote_str (a := (Txt.partition x ":").1) (c := (Txt.partition x ":").2.1) (n := (Txt.partition x ":").2.2) (f := (Txt.partition (Txt.partition x ":").1 "-").1) (b := (Txt.partition (Txt.partition x ":").1 "-").2.1) (l := (Txt.partition (Txt.partition x ":").1 "-").2.2) hz (by omega) rfl rfl (by omega) (by omega) (by omega) q e
end
theorem part_at {x : Str} {c : Nat} {y : Str} {a n : List Nat} (hy : TL.tl y = [c]) (hx : TL.tl x = a ++ c :: n) (ha : c ∉ a) : Txt.partition x y = (sL a, y, sL n) := by
  have e : x = (sL a ++ y) ++ sL n := TL.ext_tl (by rw [hx, TL.tl_append, TL.tl_append, hy, tl_sL, tl_sL]; simp)
  rw [e]
  exact TL.partition_app hy (by rw [tl_sL]; exact ha)
theorem ntX_none {x : Str} (h : 58 ∉ TL.tl x) : ntX x = .non := by
  unfold ntX
  rw [nopart_colon h]
  unfold ntW
  rw [if_pos rfl]
theorem colon_ne : (":" : Str) ≠ "" := by decide +kernel
theorem bar_ne : ("-" : Str) ≠ "" := by decide +kernel
theorem ntX_one {x : Str} {a n : List Nat} (hx : TL.tl x = a ++ 58 :: n) (ha : 58 ∉ a) (hb : 45 ∉ a) : ntX x = if numS (sL a) = false then .non else ntF (sL a) (sL a) (sL n) := by
  unfold ntX
  rw [part_at tl_colon hx ha]
  dsimp only
  rw [nopart_bar (show 45 ∉ TL.tl (sL a) by rw [tl_sL]; exact hb)]
  unfold ntW
  rw [if_neg colon_ne, if_pos rfl]
theorem ntX_two {x : Str} {f l n : List Nat} (hx : TL.tl x = f ++ 45 :: (l ++ 58 :: n)) (hf : 58 ∉ f) (hl : 58 ∉ l) (hb : 45 ∉ f) :
    ntX x = if numS (sL f) = false then .non else if numS (sL l) = false then .non else if iv (sL l) ≤ iv (sL f) then .non else ntF (sL f) (sL l) (sL n) := by
  unfold ntX
  have h58 : 58 ∉ f ++ 45 :: l := by
    intro h
    rcases List.mem_append.mp h with h | h
    · exact hf h
    · rcases List.mem_cons.mp h with h | h
      · omega
      · exact hl h
  rw [part_at tl_colon (a := f ++ 45 :: l) (n := n) (by rw [hx]; simp) h58]
  dsimp only
  rw [part_at tl_bar (x := sL (f ++ 45 :: l)) (a := f) (n := l) rfl hb]
  unfold ntW
  rw [if_neg colon_ne, if_neg bar_ne]
theorem numS_bad {l : List Nat} {c : Nat} (h : c ∈ l) (hc : ¬ c ∈ figs) : numS (sL l) = false := by
  cases e : numS (sL l) with
  | false => rfl
  | true =>
    have := (numS_all e).2.2
    exact absurd (of_decide_eq_true (List.all_eq_true.mp this c h)) hc
theorem numS_nil : numS (sL []) = false := rfl
theorem numS_zero {c : Nat} {r : List Nat} : numS (sL (48 :: c :: r)) = false := by
  unfold numS
  have h1 : decide (sL (48 :: c :: r) = "0") = false := decide_eq_false fun z => by
    have := congrArg TL.tl z
    rw [tl_sL] at this
    have e : TL.tl "0" = [48] := by decide +kernel
    rw [e] at this
    cases this
  rw [h1]
  simp
theorem isN_non {a b : Int} : isN (.tup [.int a, .int b, .non]) = false := by simp [isN, isI]
theorem isN_far {a b p : Int} (h : p < 0 ∨ 119 < p) : isN (.tup [.int a, .int b, .int p]) = false := by
  simp [isN, isI]
  omega
theorem isN_late {a b : Int} {d : D} (h : 9999 < b) : isN (.tup [.int a, .int b, d]) = false := by
  simp [isN, isI]
  omega
theorem ntF_no {f l : Str} {n : List Nat} (h : spV n = .non) : ntF f l (sL n) = .non := by
  unfold ntF
  have e : spV (sL n).cps.toList = .non := h
  rw [e, if_neg (by rw [isN_non]; decide)]
theorem ntF_far {f l : Str} {n : List Nat} {p : Int} (h : spV n = .int p) (hp : p < 0 ∨ 119 < p) : ntF f l (sL n) = .non := by
  unfold ntF
  have e : spV (sL n).cps.toList = .int p := h
  rw [e, if_neg (by rw [isN_far hp]; decide)]
theorem ntF_late {f l : Str} {n : Str} (h : 9999 < iv l) : ntF f l n = .non := by
  unfold ntF
  rw [if_neg (by rw [isN_late h]; decide)]
theorem ite_non {c : Prop} [Decidable c] : (if c then D.non else .non) = .non := by split <;> rfl
/-- before the colon no number -/
theorem one_bad {x : Str} {a n : List Nat} (hx : TL.tl x = a ++ 58 :: n) (ha : 58 ∉ a) (hb : 45 ∉ a) (h : numS (sL a) = false) : ntX x = .non := by
  rw [ntX_one hx ha hb, if_pos h]
theorem one_name {x : Str} {a n : List Nat} (hx : TL.tl x = a ++ 58 :: n) (ha : 58 ∉ a) (hb : 45 ∉ a) (h : ∀ f l, ntF f l (sL n) = .non) : ntX x = .non := by
  rw [ntX_one hx ha hb, h, ite_non]
theorem two_f {x : Str} {f l n : List Nat} (hx : TL.tl x = f ++ 45 :: (l ++ 58 :: n)) (hf : 58 ∉ f) (hl : 58 ∉ l) (hb : 45 ∉ f) (h : numS (sL f) = false) : ntX x = .non := by
  rw [ntX_two hx hf hl hb, if_pos h]
theorem two_l {x : Str} {f l n : List Nat} (hx : TL.tl x = f ++ 45 :: (l ++ 58 :: n)) (hf : 58 ∉ f) (hl : 58 ∉ l) (hb : 45 ∉ f) (h : numS (sL l) = false) : ntX x = .non := by
  rw [ntX_two hx hf hl hb, if_pos h, ite_non]
theorem two_le {x : Str} {f l n : List Nat} (hx : TL.tl x = f ++ 45 :: (l ++ 58 :: n)) (hf : 58 ∉ f) (hl : 58 ∉ l) (hb : 45 ∉ f) (h : iv (sL l) ≤ iv (sL f)) : ntX x = .non := by
  rw [ntX_two hx hf hl hb, if_pos h, ite_non, ite_non]
theorem two_late {x : Str} {f l n : List Nat} (hx : TL.tl x = f ++ 45 :: (l ++ 58 :: n)) (hf : 58 ∉ f) (hl : 58 ∉ l) (hb : 45 ∉ f) (h : 9999 < iv (sL l)) : ntX x = .non := by
  rw [ntX_two hx hf hl hb, ntF_late h, ite_non, ite_non, ite_non]
theorem sNum_sL (n : Nat) : sNum n = sL (TL.numL n) := TL.ext_tl (tl_sNum n)
end Kt
set_option maxHeartbeats 1000000
/-! Kt32: texts that are put together; names that are none. -/
namespace Kt
open PySem PySem.Spec L2
/-- an expression that is a small text -/
def Ys (k : Nat) (de : DE) (s : S) (y : Str) : Prop := Smt k y ∧ ∀ (Q : DK) (E : XK'), Q (.str y) s.st → de s Q E
/-- expressions that are small texts -/
def Ya (da : DA) (s : S) (ys : List Str) : Prop := (∀ y ∈ ys, Smt 900 y) ∧ ∀ (Q : List D → List Ob → Prop) (E : XK'), Q (ys.map D.str) s.st → da s Q E
section
variable {s : S} {j k : Nat} {da db de : DE} {a b y x : Str} {r : DA} {ys zs : List Str}
theorem ys_var {i : Nat} (hs : Smt k y) (h : s.sl[i]? = some (some (.d (.str y)))) : Ys k (dVar i) s y := ⟨hs, fun Q E q => ⟨_, h, q⟩⟩
theorem ys_c (hs : Smt k y) : Ys k (dC (.str y)) s y := ⟨hs, fun Q E q => q⟩
theorem ys_add (ha : Ys j da s a) (hb : Ys k db s b) (h : j + k ≤ 900 := by decide) : Ys (j + k) (dBin kAdd da db) s (a ++ b) := by
  refine ⟨ha.1.app hb.1, fun Q E q => ?_⟩
  simp only [dBin]
  exact ha.2 _ _ (hb.2 _ _ (addS ha.1 hb.1 (by omega) q))
theorem ys_ix0 {L : Nat} {l : List Nat} (ha : Ys k da s x) (hk : k ≤ 900) (hx : x.cps.toList = L :: l) (hL : L < 256) : Ys 1 (dBin kIx da (dC (.int 0))) s ⟨#[L]⟩ := by
  refine ⟨Smt.one hL, fun Q E q => ?_⟩
  simp only [dBin, dC]
  refine ha.2 _ _ ⟨two2 (by have := ha.1.1; omega), L, ?_, q⟩
  rw [hx]
  exact atN (i := 0) rfl
theorem ys_low (ha : Ys k da s x) (hk : k ≤ 900) (hb : Smt j (Txt.lower x)) : Ys j (dUn kLower da) s (Txt.lower x) := by
  refine ⟨hb, fun Q E q => ?_⟩
  simp only [dUn]
  exact ha.2 _ _ (show _ ∧ _ from ⟨by have := ha.1.1; omega, q⟩)
theorem ya_nil : Ya dNil s [] := ⟨(fun y h => by simp at h), fun Q E q => q⟩
theorem ya_cons (h : Ys k de s y) (t : Ya r s ys) (hk : k ≤ 900 := by decide) : Ya (dCons de r) s (y :: ys) := by
  refine ⟨fun z hz => ?_, fun Q E q => ?_⟩
  · rcases List.mem_cons.mp hz with rfl | hz
    · exact h.1.mono hk
    · exact t.1 z hz
  · simp only [dCons]
    exact h.2 _ _ (t.2 _ _ q)
theorem set_lst {De : DEnds} {i : Nat} (h : Ya r s ys) (hl : ys.length ≤ 1000) (q : De.nx ⟨s.sl.set i (some (.d (.lst (ys.map D.str)))), s.st⟩) : dSet (dName i) (dLst r) De s := by
  simp only [dSet, dName, dLst]
  exact h.2 _ _ ⟨by rw [List.length_map]; exact two2 hl, q⟩
theorem add_lst {De : DEnds} {i : Nat} (hz : s.sl[i]? = some (some (.d (.lst (zs.map D.str))))) (h : Ya r s ys) (hl : zs.length + ys.length ≤ 1000) (q : De.nx ⟨s.sl.set i (some (.d (.lst ((zs ++ ys).map D.str)))), s.st⟩) : dSet (dName i) (dBin kAdd (dVar i) (dLst r)) De s := by
  simp only [dSet, dName, dLst, dBin, dVar]
  refine ⟨_, hz, h.2 _ _ ⟨by rw [List.length_map]; exact two2 (by omega), ?_⟩⟩
  refine ⟨by rw [List.length_map, List.length_map]; exact two2 hl, ?_⟩
  rw [← List.map_append]
  exact q
end
theorem one_late {x : Str} {a n : List Nat} (hx : TL.tl x = a ++ 58 :: n) (ha : 58 ∉ a) (hb : 45 ∉ a) (h : 9999 < iv (sL a)) : ntX x = .non := by
  rw [ntX_one hx ha hb, ntF_late h, ite_non]
theorem spW_pl {L F : Nat} {m : List Nat} (h : getD cPLC (.inr ⟨#[L]⟩) = none) : spW L m F = .non := by
  unfold spW
  rw [h]
theorem spW_sh {L F : Nat} {m : List Nat} (h : getD cSHF (.inr ⟨m.toArray⟩) = none) : spW L m F = .non := by
  unfold spW
  rw [h]
  cases getD cPLC (.inr ⟨#[L]⟩) with
  | none => rfl
  | some d => cases d <;> rfl
theorem spW_fig {L F : Nat} {m : List Nat} (h : ¬ F ∈ figs) : spW L m F = .non := by
  unfold spW
  split
  · rw [if_neg h]
  · rfl
theorem spV_end {c : Nat} (h : ¬ c ∈ figs) : ∀ xs : List Nat, spV (xs ++ [c]) = .non
  | [] => rfl
  | [L] => spW_fig h
  | [L, m] => spW_fig h
  | a :: b :: c :: r => by
    show spV (a :: b :: c :: (r ++ [_])) = .non
    cases hr : r ++ [_] with
    | nil => simp at hr
    | cons x y => rfl
theorem spV_head {c : Nat} (h : getD cPLC (.inr ⟨#[c]⟩) = none) : ∀ xs : List Nat, spV (c :: xs) = .non
  | [] => rfl
  | [F] => spW_pl h
  | [m, F] => spW_pl h
  | a :: b :: d :: r => rfl
theorem spV_long : ∀ xs : List Nat, 4 ≤ xs.length → spV xs = .non
  | a :: b :: c :: d :: r, _ => rfl
  | [], h => absurd h (by decide)
  | [_], h => absurd h (by show ¬ 4 ≤ 1; decide)
  | [_, _], h => absurd h (by show ¬ 4 ≤ 2; decide)
  | [_, _, _], h => absurd h (by show ¬ 4 ≤ 3; decide)
end Kt
set_option maxHeartbeats 1000000
/-! Kt33: list(range(a, b)). -/
namespace Kt
open PySem PySem.Spec L2
section
variable {X : Cx} {cl : String → Addr} {a b : Expr} {da db : DE} {p p2 q pos : Pos}
def dLRg2 (da db : DE) : DE := fun s Q E => da s (fun x st1 => db ⟨s.sl, st1⟩ (fun y st2 => ∃ i j, x = .int i ∧ y = .int j ∧ RgOk i j ∧ Q (.lst (rngD i (j - i).toNat)) st2) E) E
theorem rz_rng {c : Cf} {F : Hp} {ν : List Addr} (lo : Int) : ∀ (ks : List Nat), RzAll c F ν (ks.map fun i => V.int (lo + (i : Nat))) (ks.map fun i => D.int (lo + (i : Nat)))
  | [] => .nil
  | k :: ks => .cons (.int _) (rz_rng lo ks)
theorem x_listRg2 (hc : X.calm = true) (hg : Gl X "list") (hm : X.mg "list" = none) (hg2 : Gl X "range") (hm2 : X.mg "range" = none) (ha : Ex X cl a da) (hb : Ex X cl b db)
    (na : starEach [.Call (.Name "range" p2) [a, b] [] q] X.env = (false, eval (.Call (.Name "range" p2) [a, b] [] q) X.env) :: starEach [] X.env := by rfl)
    (nb : starEach [a, b] X.env = (false, eval a X.env) :: starEach [b] X.env := by rfl) (nc : starEach [b] X.env = (false, eval b X.env) :: starEach [] X.env := by rfl) (nd : (backTo q (starEach [b] X.env)).any (·.1) = false := by rfl) :
    Ex X cl (.Call (.Name "list" p) [.Call (.Name "range" p2) [a, b] [] q] [] pos) (dLRg2 da db) := by
  obtain ⟨ta, a1, a2⟩ := ha.ex
  obtain ⟨tb, b1, b2⟩ := hb.ex
  refine ⟨fun W => tLstRg (tRg2 (ta W) (tb W)), fun W t => pe_listRg hc hg hm (prg_2 hg2 hm2 (a1 W t) (b1 W t) nb nc nd) na, ⟨fun B W σ H F ν s Q E P rr w h kk => ?_⟩⟩
  refine a2.go B W σ H F ν s _ E _ rr w h fun v H1 F1 ν1 d st1 x1 r1 z1 q1 => ?_
  refine b2.go B W σ H1 F1 ν1 ⟨s.sl, st1⟩ _ E _ r1 (w.next x1) q1 fun u H2 F2 ν2 y st2 x2 r2 z2 q2 => ?_
  obtain ⟨i, j, rfl, rfl, ok, q2⟩ := q2
  cases z1; cases z2
  refine ⟨i, j, rfl, rfl, ok, fun pp hp => ?_⟩
  have f2 := (r2.fresh hp).2.1
  exact kk _ _ _ ν2 _ st2 ((x1.trans x2).trans (ext_upd f2)) (r2.froze hp) (.lst upd_same (rz_rng i _)) q2
end
section
variable {X : Cx} {cl : String → Addr} {e : Expr} {dk : DE} {p pos : Pos}
theorem t_inO (i : Nat) {x : Str} (hu : X.A.units + 1 < cLine) (hN : X.N[i]? = some x) (hi : Ex X cl e dk) (hv : Vis X.env.scope x := by first | exact Or.inl rfl | exact Or.inr (Or.inl rfl) | exact Or.inr (Or.inr rfl)) (hd : (x == ("__debug__" : Str)) = false := by decide)
    (hcd : (x == ("__classdict__" : Str)) = false := by decide) (hm : behindInMarks .In (.Name x p) = false := by first | exact nomark _ | with_unfolding_all rfl) : Ts X cl (.Compare e [.In] [.Name x p] pos) (dTest (dInO false i dk)) := by
  obtain ⟨ti, c1, c2⟩ := hi.ex
  refine ⟨fun W => tTest (tDIn (ti W) (tVar i)), fun W t => pt_cmp (pc_din hu (c1 W t) (pe_var hN hv hd hcd)) hm, rf_test ⟨fun B W σ H F ν s Q E P r w q k => ?_⟩⟩
  refine c2.go B W σ H F ν s _ E _ r w q fun v H1 F1 ν1 d st1 x1 r1 z1 q1 => ?_
  obtain ⟨ks, kk, e0, e2, q1⟩ := q1
  obtain ⟨u, h1, h2⟩ := r1.sl i _ e0
  have ek := keyOf_ok z1 e2
  subst ek
  cases h2 with
  | @od a vs _ f eo z =>
    obtain ⟨oo, hg, ho⟩ := z.dget kk eo
    exact ⟨_, h1, a, oo, rfl, hg, by rw [ho]; exact k _ H1 F1 ν1 _ st1 x1 r1 (.bl _) q1⟩
theorem t_ninO (i : Nat) {x : Str} (hu : X.A.units + 1 < cLine) (hN : X.N[i]? = some x) (hi : Ex X cl e dk) (hv : Vis X.env.scope x := by first | exact Or.inl rfl | exact Or.inr (Or.inl rfl) | exact Or.inr (Or.inr rfl)) (hd : (x == ("__debug__" : Str)) = false := by decide)
    (hcd : (x == ("__classdict__" : Str)) = false := by decide) (hm : behindInMarks .NotIn (.Name x p) = false := by first | exact nomark _ | with_unfolding_all rfl) : Ts X cl (.Compare e [.NotIn] [.Name x p] pos) (dTest (dInO true i dk)) := by
  obtain ⟨ti, c1, c2⟩ := hi.ex
  refine ⟨fun W => tTest (tDNotIn (ti W) (tVar i)), fun W t => pt_cmp (pc_dnotin hu (c1 W t) (pe_var hN hv hd hcd)) hm, rf_test ⟨fun B W σ H F ν s Q E P r w q k => ?_⟩⟩
  refine c2.go B W σ H F ν s _ E _ r w q fun v H1 F1 ν1 d st1 x1 r1 z1 q1 => ?_
  obtain ⟨ks, kk, e0, e2, q1⟩ := q1
  obtain ⟨u, h1, h2⟩ := r1.sl i _ e0
  have ek := keyOf_ok z1 e2
  subst ek
  cases h2 with
  | @od a vs _ f eo z =>
    obtain ⟨oo, hg, ho⟩ := z.dget kk eo
    exact ⟨_, h1, a, oo, rfl, hg, by rw [ho]; exact k _ H1 F1 ν1 _ st1 x1 r1 (.bl _) q1⟩
end
end Kt
set_option maxHeartbeats 1000000
/-! Kt34: a walk over a module's dict; sorted texts; extend. -/
namespace Kt
open PySem PySem.Spec L2 PyProof.Rows
def keyD : Key → D
  | .inl i => .int i
  | .inr x => .str x
/-- the keys, one after the other -/
def Ikd (ks : List Key) : It := ⟨fun i _ => i < ks.length, fun i H v H' => H' = H ∧ ∃ k, ks[i]? = some k ∧ v = kV k, fun i _ => ks.length ≤ i⟩
theorem turn_kd {P : Program} {w : World} {K : PySem.W.Frag} {tg : Expr} (it a : Addr) (vs : List (Key × Value)) (ep : Nat)
    (at' : ∀ (X : Cx), X.prog = P → X.w = w → X.K = K → ∀ (pins : List (Addr × Obj)) (σ : L2.St) (H : Hp) (s : Shared), L2.Inv X pins σ H s → s.heap.DictAt (mixKind P w) a vs ep) :
    Turn P w K tg (Ikd (vs.map (·.1))) [it] it (fun i h => h.IsKeyIter it a i vs.length ep) where
  mem := by simp
  obj := fun i h st b hb => by
    have e : b = it := by simpa using hb
    subst e
    obtain ⟨oi, e, c, dd⟩ := st
    exact ⟨oi, e, fun v z => by rw [dd] at z; cases z⟩
  keep := fun i h h' st k => st.at fun oi e => k it (by simp) oi e
  item := by
    intro X hP hw hK hc i pins s σ H E I hf st hg
    have hm := at' X hP hw hK pins σ H s I
    subst hP hw hK
    obtain ⟨f0, f1, f2, f3, f4, f5⟩ := hf it (by simp)
    have hi : i < vs.length := by
      have : i < (vs.map (·.1)).length := hg
      rwa [List.length_map] at this
    obtain ⟨⟨k, u⟩, hu⟩ : ∃ p, vs[i]? = some p := ⟨vs[i], List.getElem?_eq_getElem hi⟩
    refine wpAny_pyNext_dict_item st hm hu fun key h' hkey st' sb => ?_
    have I1 : L2.Inv X pins σ H { s with heap := h' } := I.turned (t' := s.toks) (fun b ob hb e => (sb.2 b hb).trans e) f0 f1 f3 f4 f5
    obtain ⟨oi, e, c, dd⟩ := id st'
    refine ⟨key, rfl, go_of (s := { s with heap := h' }) e c dd (by decide) ⟨kV k, H, I1, relV_key (show keyIs k key = true from hkey), ⟨rfl, k, ?_, rfl⟩, st', fun b hb => (hf b hb).1⟩⟩
    rw [List.getElem?_map, hu]
    rfl
  done := by
    intro X hP hw hK hc i pins s σ H E I hf st hg
    have hm := at' X hP hw hK pins σ H s I
    subst hP hw hK
    obtain ⟨f0, f1, f2, f3, f4, f5⟩ := hf it (by simp)
    have hi : vs.length ≤ i := by
      have : (vs.map (·.1)).length ≤ i := hg
      rwa [List.length_map] at this
    exact wpAny_pyNext_dict_end (I.ok.hd hc) st hm (List.getElem?_eq_none hi) fun h' eb => ⟨rfl, I.turned (t' := s.toks) (fun b ob hb e => eb b ob (fun z => hb (by simp [z])) e) f0 f1 f3 f4 f5⟩
  self := fun A i s Q E st h => wpAny_pyIter_keyiter st h
theorem wk_kd {c : Cf} {F : Hp} {ν : List Addr} {ks : List Key} : Wk c (Ikd ks) F ν (fun _ => True) (ks.map keyD) := by
  refine ⟨fun B s σ H' F' ν' xx r w => ⟨by show ks.length ≤ _; simp, fun i d hd => ?_⟩⟩
  rw [List.getElem?_map] at hd
  cases e : ks[i]? with
  | none => rw [e] at hd; cases hd
  | some k =>
    rw [e] at hd
    cases hd
    refine ⟨(List.getElem?_eq_some_iff.mp e).1, fun u H'' y => ?_⟩
    obtain ⟨rfl, k2, h1, rfl⟩ := y
    rw [e] at h1
    cases h1
    cases k with
    | inl i => exact ⟨F', ν', Ext.refl, r, .int _⟩
    | inr x => exact ⟨F', ν', Ext.refl, r, .str _⟩
section
variable {X : Cx} {cl : String → Addr} {x : Str} {p pos apos : Pos} {ks : List (Key × D)} {tg e o : Expr} {de da : DE}
/-- for x in X, X a dict of the module -/
def dKds (ks : List (Key × D)) : DI := fun s Q _ => Q ((ks.map (·.1)).map keyD) (fun _ => True) s.st
theorem w_kd (h : KDct X.w X.K X.mg x ks) (hg : Gl X x := by rfl) (hd : (x == ("__debug__" : Str)) = false := by decide) : Iw X cl tg (.Name x p) (dKds ks) := by
  obtain ⟨a, es, ep, h1, h2, h3, h4, h5⟩ := h.ex
  obtain ⟨kvs, vs, b1, b2, b3, b4, b5⟩ := h4.get
  have at' : ∀ (Y : Cx), Y.prog = X.prog → Y.w = X.w → Y.K = X.K → ∀ (pins : List (Addr × Obj)) (σ : L2.St) (H : Hp) (s : Shared), L2.Inv Y pins σ H s → s.heap.DictAt (mixKind X.prog X.w) a vs ep := fun Y e1 e2 e3 pins σ H s I =>
    ⟨_, es, (I.kIn) _ _ (by rw [e3]; exact h2), ⟨rfl, rfl, rfl⟩, rfl, fun en he => b5 en (by simpa using he), b2 _, by rw [b4]; exact h5⟩
  refine ⟨fun W σ H P => P (Ikd (vs.map (·.1))) H, fun W t => ⟨fun pins s σ H P I h => ?_⟩, ⟨fun B W σ H F ν s Q E P r w q k => ?_⟩⟩
  · refine ld_glob I hg h1 ?_ hd
    exact wpAny_pyIter_dict h3 (at' X rfl rfl rfl pins σ H s I) (pi_one (tk := s.toks) I _ (turn_kd _ a vs ep at') ⟨_, Heap.get?_push_size _ rfl, rfl, rfl⟩ h)
  · have e : vs.map (·.1) = ks.map (·.1) := b4
    rw [e]
    exact k _ H F ν _ _ s.st Ext.refl r wk_kd q
/-- sorted(xs), a list of texts -/
def kSortS : KA := fun xs st K => match xs with
  | [d] => ∃ ds ys, asLst st d = some ds ∧ strsOf ds = some ys ∧ ys.length < 64 ∧ ∀ zs : List Str, zs.Perm ys → sortedS zs = true → K (.lst (zs.map D.str)) st
  | _ => False
/-- .. as a named list -/
def kSortSN : KA := fun xs st K => match xs with
  | [d] => ∃ ds ys, asLst st d = some ds ∧ strsOf ds = some ys ∧ ys.length < 64 ∧ ∀ zs : List Str, zs.Perm ys → sortedS zs = true → K (.obj st.length) (st ++ [.lst (zs.map D.str)])
  | _ => False
theorem c_sortS : CallD X cl (.builtin "sorted") kSortS := by
  refine ⟨_, cr_sortedS, fun B s σ H F ν vs xs K P r rx h k => ?_⟩
  unfold kSortS at h
  split at h
  · obtain ⟨ds, ys, e1, e2, hl, h⟩ := h
    cases rx with
    | cons z zr =>
      cases zr
      obtain ⟨a, us, rfl, hq, q⟩ := r.lstq z e1
      have e := strsOf_eq e2
      subst e
      have e3 := rz_strs_inv q
      subst e3
      refine ⟨a, ys, rfl, hq, hl, fun zs pp h1 h2 hp => ?_⟩
      have hf := (r.fresh hp).2.1
      exact k _ _ _ ν _ s.st (ext_upd hf) (r.froze hp) (.lst upd_same (rz_strs _)) (h zs h1 h2)
  · exact h.elim
theorem c_sortSN : CallD X cl (.builtin "sorted") kSortSN := by
  refine ⟨_, cr_sortedS, fun B s σ H F ν vs xs K P r rx h k => ?_⟩
  unfold kSortSN at h
  split at h
  · obtain ⟨ds, ys, e1, e2, hl, h⟩ := h
    cases rx with
    | cons z zr =>
      cases zr
      obtain ⟨a, us, rfl, hq, q⟩ := r.lstq z e1
      have e := strsOf_eq e2
      subst e
      have e3 := rz_strs_inv q
      subst e3
      refine ⟨a, ys, rfl, hq, hl, fun zs pp h1 h2 hp => ?_⟩
      obtain ⟨r2, x2⟩ := r.names hp (.lst (rz_strs zs))
      have e : (ν ++ [pp])[s.st.length]? = some pp := by
        have := r.sn
        rw [show s.st.length = ν.length from this]; simp
      exact k _ _ _ _ _ _ x2 r2 (.obj e) (h zs h1 h2)
  · exact h.elim
/-- x.extend(e), x a list of its own -/
def dExO (i : Nat) (de : DE) : DS := fun D s => ∃ ds, s.sl[i]? = some (some (.ol ds)) ∧ de s (fun v st => ∃ es, v = .lst es ∧ ds.length + es.length ≤ sizeLine ∧ D.nx ⟨s.sl.set i (some (.ol (ds ++ es))), st⟩) (D.xe s)
theorem s_extO {cpos : Pos} (i : Nat) {x : Str} (hN : X.N[i]? = some x) (he : Ex X cl e de) (hv : Vis X.env.scope x := by first | exact Or.inl rfl | exact Or.inr (Or.inl rfl) | exact Or.inr (Or.inr rfl)) (hd : (x == ("__debug__" : Str)) = false := by decide)
    (hcd : (x == ("__classdict__" : Str)) = false := by decide)
    (hbase : attributeBase (.Name x p) "extend" X.env (eval (.Name x p) X.env) = eval (.Name x p) X.env := by rfl)
    (hfew : ((backTo cpos (starEach (e :: []) X.env)).all (fun x => !x.1) && (backToKw cpos (keywordEach [] X.env)).all (fun x => x.1.isSome)
      && decide ((e :: []).length + ([] : List Keyword).length + (if ([] : List Keyword).isEmpty then 0 else 1) < 30)) = true := by rfl)
    (hline : (apos.endLine == cpos.line) = true := by rfl) (hs : starEach (e :: []) X.env = (false, eval e X.env) :: starEach [] X.env := by rfl) (hplain : (backTo cpos (starEach [] X.env)).any (·.1) = false := by rfl)
    (hsw : swapsWith (.Call (.Attribute (.Name x p) "extend" apos) [e] [] cpos) none pos.line X.env = pure false := by rfl) :
    Sm X cl (.Expr (.Call (.Attribute (.Name x p) "extend" apos) [e] [] cpos) pos) (dExO i de) := by
  obtain ⟨te, a1, a2⟩ := he.ex
  refine ⟨fun W => tDrop (tBM X.K "list" rExtend (tVar i) (tCons (te W) tNil)), fun W t _ => ps_expr (pe_bm PySem.F.plainAttrs_list PySem.F.slot_list_extend PySem.F.type_list_extend mt_extend (pe_var hN hv hd hcd) (pa_cons (a1 W t) pa_nil hs) hbase hfew hline hs hplain) hsw, ⟨fun B W σ H F ν s D Dd r m q => ?_⟩⟩
  have wsh := m.wsh (s := s) (σ := σ)
  obtain ⟨ds, e0, q⟩ := q
  obtain ⟨u, h1, h2⟩ := r.sl i _ e0
  cases h2 with
  | @ol a vs _ f eo z =>
    refine ⟨_, h1, .inl ⟨rfl, _, SqL.of eo⟩, ?_⟩
    refine a2.go B W σ H F ν s _ _ _ r wsh q fun v H1 F1 ν1 d st1 x1 r1 z1 q1 => ?_
    obtain ⟨es, rfl, hl, q1⟩ := q1
    obtain ⟨u', h1', h2'⟩ := r1.sl i _ e0
    rw [h1] at h1'
    cases h1'
    cases h2' with
    | @ol _ vs2 _ f2 eo2 zz =>
      cases z1 with
      | @lst b ws _ hb zb =>
        exact ⟨a, b, vs2, ws, rfl, rfl, eo2, r1.sub _ _ hb, by rw [zz.length, zb.length]; exact hl, m.nx _ σ _ F1 ν1 x1 (r1.mutO e0 rfl h1 f2 eo2 (fun H' e => .ol f2 e (zz.append zb)) rfl) q1⟩
/-- x, y, z = a, b, c -/
def dPar3 (i j l : Nat) (da : DA) : DS := fun D s => da s (fun vs st => ∃ v w u, vs = [v, w, u] ∧ D.nx ⟨((s.sl.set i (some (.d v))).set j (some (.d w))).set l (some (.d u)), st⟩) (D.xe s)
theorem s_par3 (i j l : Nat) {x y z : Str} {a b c : Expr} {da : DA} {px py pz pt pt2 : Pos} {kt k2} (hc : X.calm = true) (hN : X.N.Nodup) (hi : X.N[i]? = some x) (hj : X.N[j]? = some y) (hl : X.N[l]? = some z) (hij : i ≠ j) (hil : i ≠ l) (hjl : j ≠ l) (hx : X.env.scope.names.lookup x = some .local) (hy : X.env.scope.names.lookup y = some .local) (hz : X.env.scope.names.lookup z = some .local) (ha : Ar X cl [a, b, c] da)
    (hw : swappedStores [.Tuple [.Name x px, .Name y py, .Name z pz] kt pt] (.Tuple [a, b, c] k2 pt2) X.env = pure (some [x, y, z]) := by first | rfl | with_unfolding_all rfl)
    (hs : swapsWithSole [.Tuple [.Name x px, .Name y py, .Name z pz] kt pt] (.Tuple [a, b, c] k2 pt2) pos.line X.env = pure false := by rfl) :
    Sm X cl (.Assign [.Tuple [.Name x px, .Name y py, .Name z pz] kt pt] (.Tuple [a, b, c] k2 pt2) pos) (dPar3 i j l da) := by
  obtain ⟨t, a1, a2⟩ := ha.ex
  refine ⟨fun W => tPar3 i j l (t W), fun W k _ => ps_par3 hc hN hi hj hl hij hil hjl hx hy hz (a1 W k) hw hs, ⟨fun B W σ H F ν s D Dd r m q => ?_⟩⟩
  refine a2.go B W σ H F ν s _ _ _ r m.wsh q fun vs H1 F1 ν1 ds st1 x1 r1 z1 q1 => ?_
  obtain ⟨v, w, u, rfl, q1⟩ := q1
  cases z1 with
  | cons zv zr =>
    cases zr with
    | cons zw zr2 =>
      cases zr2 with
      | cons zu zr3 =>
        cases zr3
        exact ⟨_, _, _, rfl, m.nx _ _ H1 F1 ν1 x1 (((r1.setD i zv).setD j zw).setD l zu) q1⟩
end
end Kt
set_option maxHeartbeats 4000000
/-! Kt35: the class Part: an instance is made, its field is set and read, methods are called. -/
namespace Kt
open PySem PySem.Spec L2
open PyProof.Rows (envOfC)
section
variable {c : Cf} {B : Bs} {s : S} {σ : St} {H F : Hp} {ν : List Addr}
theorem R.cons0 (r : R c B s σ H F ν) : R c B ⟨none :: s.sl, s.st⟩ (none :: σ) H F ν := by
  refine ⟨r.sub, r.f0, r.fz, r.kp, r.nu, r.nd, r.nf, by simp [r.ln], fun i y e => ?_, fun i j x y a e1 e2 o1 o2 z1 z2 => ?_, r.sn, r.st⟩
  · cases i with
    | zero => cases e
    | succ i => exact r.sl i y e
  · cases i with
    | zero => cases e1
    | succ i =>
      cases j with
      | zero => cases e2
      | succ j => rw [r.ap i j x y a e1 e2 o1 o2 z1 z2]
/-- a new instance in a slot ahead of the others -/
theorem R.consI (r : R c B s σ H F ν) {x dx : Addr} {cls : String} (hx : H x = none) (hd : H dx = none) (ne : dx ≠ x) :
    R c B ⟨some (.oi x cls []) :: s.sl, s.st⟩ (some (.ref x) :: σ) (upd (upd H dx (.own x)) x (.ins (c.cl cls) dx [])) F ν := by
  have r1 := (r.newU (o := .own x) hd).1
  have hx1 : upd H dx (.own x) x = none := by rw [upd_ne (Ne.symm ne)]; exact hx
  exact r1.cons0.setO 0 hx1 fun H' e => .oi (r1.fresh hx1) e .nil
end
def putDF (f : Str) (d : D) : List (Str × D) → List (Str × D)
  | [] => [(f, d)]
  | (g, x) :: r => if g = f then (g, d) :: r else (g, x) :: putDF f d r
theorem rz_putF {c : Cf} {F : Hp} {ν : List Addr} {f : Str} {v : V} {d : D} (z : Rz c F ν v d) : ∀ {vs : List (Str × V)} {ds : List (Str × D)}, RzFs c F ν vs ds → RzFs c F ν (putF f v vs) (putDF f d ds)
  | _, _, .nil => .cons z .nil
  | _, _, .cons (k := k) a r => by
    unfold putF putDF
    by_cases q : k = f
    · rw [if_pos q, if_pos q]; exact .cons z r
    · rw [if_neg q, if_neg q]; exact .cons a (rz_putF z r)
theorem rzfs_len {c : Cf} {F : Hp} {ν : List Addr} : ∀ {vs : List (Str × V)} {ds : List (Str × D)}, RzFs c F ν vs ds → vs.length = ds.length
  | _, _, .nil => rfl
  | _, _, .cons _ r => by simp [rzfs_len r]
/-- __init__ of a class of the text -/
abbrev SpI := Addr → List D → List Ob → (List (Str × D) → List Ob → Prop) → XK' → Prop
def spI (c : Cf) (cls : String) (sd : SpI) : Sp := fun us Hm Q E => ∃ (H : Hp) (x dx : Addr) (vs : List V) (F : Hp) (ν : List Addr) (ds : List D) (st : List Ob) (Qd : List (Str × D) → List Ob → Prop) (Ed : XK'),
  us = .ref x :: vs ∧ Hm = upd (upd H dx (.own x)) x (.ins (c.cl cls) dx []) ∧ H x = none ∧ H dx = none ∧ dx ≠ x ∧ R c ⟨H, F, ν⟩ ⟨ds.map fun d => some (.d d), st⟩ (vs.map some) H F ν ∧ sd x ds st Qd Ed ∧
  (∀ fs st' H' F' ν', Ext F ν F' ν' → R c ⟨H, F, ν⟩ ⟨[some (.oi x cls fs)], st'⟩ [some (.ref x)] H' F' ν' → Qd fs st' → Q .non H') ∧
  (∀ y st' cl d H' F' ν', Ext F ν F' ν' → R c ⟨H, F, ν⟩ ⟨[], st'⟩ [] H' F' ν' → RzX c F' ν' cl d y → Ed y st' → E cl d H')
def mI (cls : String) (n m : Nat) (bd : DS) : SpI := fun x ds st Q E => ds.length + 1 = m ∧
  bd ⟨fun s => ∃ fs, s.sl[0]? = some (some (.oi x cls fs)) ∧ Q fs s.st, fun _ _ => False, fun y s => E y s.st, fun _ => False, fun _ => False⟩ ⟨some (.oi x cls []) :: ((ds.map fun d => some (.d d)) ++ List.replicate (n - m) none), st⟩
section
variable {c : Cf} {B : Bs} {s : S} {σ : St} {H F : Hp} {ν : List Addr}
/-- a slot alone -/
theorem R.only (r : R c B s σ H F ν) {i : Nat} {y : SV} (e : s.sl[i]? = some (some y)) : ∃ v, σ[i]? = some (some v) ∧ R c B ⟨[some y], s.st⟩ [some v] H F ν := by
  obtain ⟨v, h1, h2⟩ := r.sl i y e
  exact ⟨v, h1, r.one h2⟩
end
section
variable {P : Program} {w : World} {K : PySem.W.Frag} {mg : Str → Option Value} {base : Heap} {cl : String → Addr}
theorem fnI {cls : String} {x qual : Str} {st : Stmt} {f : Addr} {fd : FuncData} {N ps : List Str} {k : Nat} {bd : DS} (Fu : Fun K x qual st f fd) (Sc : FnScope N ps (defScope st))
    (hb : ∀ (cdv : Value) (A : Around) (out : List Env) (s : Shared) (H : Hp) (E : XK), Room k (A.deeper (envOfC qual (defScope st) s.heap.objs.size f cdv)) → A.guards = some [] → Ss (cxOf (L2.CX P w) P w K mg base N qual (defScope st) f cdv A out s H E) cl (defBody st) bd) :
    FnG P w K mg base (k + 1) f fd ps (spI ⟨K, cl⟩ cls (mI cls N.length ps.length bd)) := by
  refine okG Fu Sc (fun vs H Q E q => ?_) fun cdv A out s H vs Q E hr hg h => ?_
  · obtain ⟨H0, x, dx, vs', F, ν, ds, st, Qd, Ed, rfl, _, _, _, _, r, ⟨hl, _⟩, _⟩ := q
    have e := r.ln
    simp at e
    simp; omega
  obtain ⟨t, t1, t2⟩ := (hb cdv A out s H E hr hg).ex
  refine ⟨t (fun cls d _ H' => E cls d H'), t1 _ (takes_of rfl rfl rfl rfl) (passes_of rfl), ?_⟩
  obtain ⟨H0, x, dx, vs', F, ν, ds, ob, Qd, Ed, rfl, rfl, hx, hd, ne, r, ⟨hl, hs⟩, hq, he⟩ := h
  have e : vs'.length = ds.length := by have := r.ln; simp at this; omega
  have r0 := (r.pad (N.length - ps.length)).consI (cls := cls) hx hd ne
  have es : some (V.ref x) :: (vs'.map some ++ List.replicate (N.length - ps.length) none) = L2.start N (V.ref x :: vs') := by unfold L2.start; simp [e, ← hl]
  have r0' : R ⟨K, cl⟩ ⟨H0, F, ν⟩ ⟨some (.oi x cls []) :: ((ds.map fun d => some (.d d)) ++ List.replicate (N.length - ps.length) none), ob⟩ (L2.start N (V.ref x :: vs')) (upd (upd H0 dx (.own x)) x (.ins (cl cls) dx [])) F ν := by rw [← es]; exact r0
  refine t2.go _ _ _ _ F ν _ _ ⟨fun s => ∃ fs, s.sl[0]? = some (some (.oi x cls fs)) ∧ Qd fs s.st, fun _ _ => False, fun y s => Ed y s.st, fun _ => False, fun _ => False⟩ r0' ⟨fun s' σ' H' F' ν' xx r' q => ?_, fun _ _ _ _ _ _ _ _ q => q.elim, fun y s' cls d σ' H' F' ν' x r' z q => ?_, fun _ _ _ _ _ _ _ q => q.elim, fun _ _ _ _ _ _ _ q => q.elim⟩ hs
  · obtain ⟨fs, e1, q⟩ := q
    obtain ⟨v, _, r2⟩ := r'.only e1
    have : v = V.ref x := by
      obtain ⟨v', h1, h2⟩ := r2.sl 0 _ rfl
      cases h1
      cases h2 with
      | oi _ _ _ => rfl
    subst this
    exact hq fs s'.st H' F' ν' xx r2 q
  · exact he y s'.st cls d H' F' ν' x r'.forget z q
end
/-- what the class must be -/
structure PtT (K : PySem.W.Frag) (mg : Str → Option Value) (cl : String → Addr) (cls : String) (x : Str) (f : Addr) : Prop where
  mko : Mk K (cl cls) f
  cs : Cls K (cl cls)
  m : mg x = some (.ref (cl cls))
/-- a new part -/
def dMakeP (sd : SpI) (da : DA) : DE := fun s Q E => da s (fun ds st => ∀ x, sd x ds st (fun fs st' => ∃ ns, fs = [(("part_notes" : Str), D.lst ns)] ∧ Q (.part ns) st') E) E
section
variable {X : Cx} {cl : String → Addr} {k : Nat} {f : Addr} {fd : FuncData} {ps : List Str} {sd : SpI} {x : Str} {p pos : Pos} {e : Expr} {es : List Expr} {da : DA}
theorem run_makeG {pins : List (Addr × Obj)} {σ : St} {H : Hp} {s : Shared} {Q : VK} {us : List Value} {vs : List V} {C : Addr} {sp : Sp} {E : XK} (M : Mk X.K C f) (G : FnG X.prog X.w X.K X.mg X.base k f fd ps sp) (hr : Room (k + 1) X.A) (hgd : X.A.guards = some []) (hb : Binds X.K fd ps [])
    (hx : PassesAt (L2.CX X.prog X.w) X σ E) (I : L2.Inv X pins σ H s) (r : Vals vs us)
    (h : ∀ x dx, H x = none → H dx = none → dx ≠ x → sp (.ref x :: vs) (upd (upd H dx (.own x)) x (.ins C dx [])) (fun v H2 => v = .non ∧ Q (.ref x) H2) E) :
    wpAny (model X.prog X.w) X.A (call (.ref C) us) (EP X pins σ Q) X.xe s := by
  have hq := h (s.heap.objs.size + 1) s.heap.objs.size (I.hok.fresh (Nat.le_succ _)) (I.hok.fresh (Nat.le_refl _)) (Nat.ne_of_lt (Nat.lt_succ_self _))
  have I2 := Inv.made (C := C) I
  have r2 : Vals (V.ref (s.heap.objs.size + 1) :: vs) (Value.ref (s.heap.objs.size + 1) :: us) := .cons rfl r
  have hl : (Value.ref (s.heap.objs.size + 1) :: us ++ []).length = ps.length := by
    have e := r2.length
    rw [G.len _ _ _ _ hq] at e
    rw [List.append_nil]
    exact e.symm
  have bi := hb _ (Value.ref (s.heap.objs.size + 1) :: us) I2.kIn hl
  rw [List.append_nil] at bi
  refine wpAny_call (make_map (f := f) I.kIn M.makes M.init (beq_iff_eq.mp M.fn) (codeAny_mono (G.run _ X.stack _ _ ⟨Value.ref (s.heap.objs.size + 1) :: us, []⟩ (Value.ref (s.heap.objs.size + 1) :: us) _ _ E (hr.make C us []) hgd
    (I2.env0.make C us []) bi r2 hq) fun r s' hq' => ?_))
  cases r with
  | error e => exact hx pins _ _ e s' I2 hq'
  | ok fl =>
    cases fl with
    | ret u =>
      obtain ⟨v, H', I3, rv, ev, q3⟩ := I2.after hq'
      subst ev
      exact ⟨rv, ⟨V.ref (s.heap.objs.size + 1), H', I3, rfl, q3⟩⟩
    | next => exact False.elim hq'
    | brk => exact False.elim hq'
    | cont => exact False.elim hq'
end
section
variable {c : Cf} {B : Bs} {s : S} {σ : St} {H F : Hp} {ν : List Addr}
/-- the part that a call made -/
theorem R.made (r : R c B s σ H F ν) {x : Addr} {cls : String} {fs : List (Str × D)} {st' : List Ob} {H' F' : Hp} {ν' : List Addr} (xx : Ext F ν F' ν') (q : R c ⟨H, F, ν⟩ ⟨[some (.oi x cls fs)], st'⟩ [some (.ref x)] H' F' ν') :
    ∃ F'' dx vs, Ext F' ν' F'' ν' ∧ R c B ⟨s.sl, st'⟩ σ H' F'' ν' ∧ F'' x = some (.ins (c.cl cls) dx vs) ∧ RzFs c F'' ν' vs fs := by
  have rr := r.ret xx q
  obtain ⟨v, e1, z⟩ := q.sl 0 _ rfl
  cases e1
  cases z with
  | @oi _ dx _ vs _ f e h =>
    have f' : Frs B F' ν' x := ⟨(r.fresh f.1).1, f.2.1, f.2.2⟩
    have hn : H x = none := f.1
    have hx : Ext F' ν' (upd F' x (.ins (c.cl cls) dx vs)) ν' := ext_upd f.2.1
    refine ⟨_, dx, vs, hx, rr.fzA f' e fun i y e oo w => ?_, upd_same, h.mono hx⟩
    obtain ⟨v, h1, h2⟩ := r.sl i y e
    rw [w] at h1
    cases h1
    cases h2 with
    | d _ => cases oo
    | ol _ e' _ => rw [hn] at e'; cases e'
    | od _ e' _ => rw [hn] at e'; cases e'
    | ex _ _ => cases oo
    | oi _ e' _ => rw [hn] at e'; cases e'
end
section
variable {X : Cx} {cl : String → Addr} {k j : Nat} {f : Addr} {fd : FuncData} {ps : List Str} {sd : SpI} {x : Str} {p pos : Pos} {e : Expr} {es : List Expr} {da : DA} {qual : Str} {st : Stmt}
theorem x_makeP (G : FnG X.prog X.w X.K X.mg X.base k f fd ps (spI (cf X cl) "Part" sd)) (T : PtT X.K X.mg cl "Part" x f) (hb : Binds X.K fd ps []) (hr : Room j X.A) (hj : k + 1 ≤ j) (hgd : X.A.guards = some []) (hg : Gl X x)
    (ha : Ar X cl (e :: es) da) (hdb : (x == ("__debug__" : Str)) = false := by decide) (he : starEach (e :: es) X.env = (false, eval e X.env) :: starEach es X.env := by rfl) (hpl : (backTo pos (starEach es X.env)).any (·.1) = false := by rfl) :
    Ex X cl (.Call (.Name x p) (e :: es) [] pos) (dMakeP sd da) := by
  obtain ⟨ta, a1, a2⟩ := ha.ex
  refine ⟨fun W => fun σ H Q => ta W σ H fun vs H1 => ∀ x dx, H1 x = none → H1 dx = none → dx ≠ x → spI (cf X cl) "Part" sd (.ref x :: vs) (upd (upd H1 dx (.own x)) x (.ins (cl "Part") dx [])) (fun v H2 => v = .non ∧ Q (.ref x) H2) (WE W σ), fun W tk => ⟨fun pins s σ H Q I h => ?_⟩, ⟨fun B W σ H F ν s Q E P r w q kk => ?_⟩⟩
  · refine wpAny_Call_Name_kw (ld_glob I hg T.m ?_ hdb)
    refine PySem.W.callWith_K (h₀ := X.base) I.ok.mod.kin T.mko.kp (thn ((a1 W tk).run pos pins s σ H _ I h) fun us s1 ⟨vs, H1, I1, r, q⟩ => ⟨I1.kIn, ?_⟩) he hpl
    exact run_makeG T.mko G (hr.mono hj) hgd hb (passAt tk σ) I1 r q
  · refine a2.go B W σ H F ν s _ E _ r w q fun vs H1 F1 ν1 ds st1 x1 r1 z1 q1 => ?_
    intro x dx hx hd ne
    refine ⟨H1, x, dx, vs, F1, ν1, ds, st1, _, _, rfl, rfl, hx, hd, ne, r1.based z1, q1 x, fun fs st' H' F' ν' x' r' q' => ?_, fun y st' cls d H' F' ν' x' r' z' q' => ?_⟩
    · obtain ⟨ns, rfl, q'⟩ := q'
      obtain ⟨F'', dx', vs', x2, r2, e2, z2⟩ := r1.made x' r'
      cases z2 with
      | @cons _ v _ _ _ zv zr =>
        cases zr
        cases zv with
        | @lst l xs _ el rl => exact ⟨rfl, kk _ H' F'' ν' _ st' ((x1.trans x').trans x2) r2 (.part e2 el rl) q'⟩
    · exact w.go cls d H' F' ν' y st' (x1.trans x') (r1.ret x' r') z' q'
end

/-! ### fields -/
/-- self.f = e, in __init__ -/
def dFldO (i : Nat) (f : Str) (de : DE) : DS := fun D s => de s (fun d st => ∃ x cls fs, s.sl[i]? = some (some (.oi x cls fs)) ∧ cls = "Part" ∧ fs.length < 1000 ∧ D.nx ⟨s.sl.set i (some (.oi x cls (putDF f d fs))), st⟩) (D.xe s)
/-- self.f, in __init__ -/
def dFldG (i : Nat) (f : Str) : DE := fun s Q _ => ∃ x cls fs d, s.sl[i]? = some (some (.oi x cls fs)) ∧ cls = "Part" ∧ fs.lookup f = some d ∧ Q d s.st
/-- part.part_notes -/
def dPn (de : DE) : DE := fun s Q E => de s (fun d st => ∃ ns, d = .part ns ∧ Q (.lst ns) st) E
section
variable {X : Cx} {cl : String → Addr} {e : Expr} {de : DE} {f x : Str} {pos p p' : Pos}
theorem s_fldO (i : Nat) (T : Cls X.K (cl "Part")) (hno : NoAttr X.K (cl "Part") f) (he : Ex X cl e de) (hN : X.N[i]? = some x := by rfl) (hv : Vis X.env.scope x := by first | exact Or.inl rfl | exact Or.inr (Or.inl rfl) | exact Or.inr (Or.inr rfl)) (hd : (x == ("__debug__" : Str)) = false := by decide)
    (hcd : (x == ("__classdict__" : Str)) = false := by decide) (hs : swapsWith e (some (.Attribute (.Name x p') f p)) pos.line X.env = pure false := by rfl) : Sm X cl (.Assign [.Attribute (.Name x p') f p] e pos) (dFldO i f de) := by
  obtain ⟨te, a1, a2⟩ := he.ex
  refine ⟨fun W => sFld X.K (tVar i) (te W) f, fun W k _ => ps_fld (pe_var hN hv hd hcd) (a1 W k) hs, ⟨fun B W σ H F ν s D Dd r m q => ?_⟩⟩
  refine a2.go B W σ H F ν s _ _ _ r m.wsh q fun v H1 F1 ν1 d st1 x1 r1 z1 q1 => ?_
  obtain ⟨x, cls, fs, e1, rfl, hl, q1⟩ := q1
  obtain ⟨v', h1, h2⟩ := r1.sl i _ e1
  cases h2 with
  | @oi a dx _ vs _ fr eh zf =>
    refine ⟨_, h1, x, cl "Part", dx, vs, rfl, eh, T, hno, by rw [rzfs_len zf]; exact hl, ?_⟩
    exact m.nx _ σ _ F1 ν1 x1 (r1.mutO e1 rfl h1 fr eh (fun H' e => .oi fr e (rz_putF z1 zf)) rfl) q1
theorem x_fldG (i : Nat) (T : Cls X.K (cl "Part")) (hno : NoAttr X.K (cl "Part") f) (hN : X.N[i]? = some x := by rfl) (hv : Vis X.env.scope x := by first | exact Or.inl rfl | exact Or.inr (Or.inl rfl) | exact Or.inr (Or.inr rfl)) (hd : (x == ("__debug__" : Str)) = false := by decide)
    (hcd : (x == ("__classdict__" : Str)) = false := by decide) (hb : attributeBase (.Name x p') f X.env (eval (.Name x p') X.env) = eval (.Name x p') X.env := by rfl) : Ex X cl (.Attribute (.Name x p') f pos) (dFldG i f) := by
  refine ⟨fun _ => tFld X.K (tVar i) f, fun W _ => pe_fld (pe_var hN hv hd hcd) hb, ⟨fun B W σ H F ν s Q E P r w h k => ?_⟩⟩
  obtain ⟨x, cls, fs, d, e1, rfl, el, q⟩ := h
  obtain ⟨v', h1, h2⟩ := r.sl i _ e1
  cases h2 with
  | @oi a dx _ vs _ fr eh zf =>
    obtain ⟨v, ev, zv⟩ := zf.get el
    exact ⟨_, h1, x, cl "Part", dx, vs, v, rfl, eh, T, hno, ev, k v H F ν d s.st Ext.refl r zv q⟩
theorem x_pn (T : Cls X.K (cl "Part")) (hno : NoAttr X.K (cl "Part") "part_notes") (he : Ex X cl e de) (hb : attributeBase e "part_notes" X.env (eval e X.env) = eval e X.env := by rfl) : Ex X cl (.Attribute e "part_notes" pos) (dPn de) := by
  obtain ⟨te, a1, a2⟩ := he.ex
  refine ⟨fun W => tFld X.K (te W) "part_notes", fun W k => pe_fld (a1 W k) hb, ⟨fun B W σ H F ν s Q E P r w q kk => ?_⟩⟩
  refine a2.go B W σ H F ν s _ _ _ r w q fun v H1 F1 ν1 d st1 x1 r1 z1 q1 => ?_
  obtain ⟨ns, rfl, q1⟩ := q1
  cases z1 with
  | @part a l dx vs _ e1 e2 zz => exact ⟨a, cl "Part", dx, _, .ref l, rfl, r1.sub _ _ e1, T, hno, rfl, kk _ H1 F1 ν1 _ st1 x1 r1 (.lst e2 zz) q1⟩

/-! ### methods -/
def dMethP (sd : SpD) (do_ : DE) (da : DA) : DE := fun s Q E => do_ s (fun d st => (∃ ns, d = .part ns) ∧ da ⟨s.sl, st⟩ (fun ds st1 => sd (d :: ds) st1 (fun r st' => r.isR = true ∧ Q r.fz st') E) E) E
variable {k j : Nat} {fa : Addr} {fd : FuncData} {ps : List Str} {sd : SpD} {o : Expr} {es : List Expr} {da : DA} {m : Str} {apos : Pos} {do_ : DE}
theorem rf_meth {c : Cf} {to : WX → TE} {ta : WX → TA} (ho : RfE c to do_) (ha : RfA c ta da) {C : Addr} (hC : C = c.cl "Part") {m : Str} (hm : m ≠ "part_notes") : RfE c (fun W => fun σ H Q => to W σ H fun x H1 => ∃ a dx fs, x = .ref a ∧ H1 a = some (.ins C dx fs) ∧ fs.lookup m = none ∧
    ta W σ H1 fun vs H2 => spOf c sd (x :: vs) H2 Q (WE W σ)) (dMethP sd do_ da) := by
  refine ⟨fun B W σ H F ν s Q E P r w q kk => ?_⟩
  refine ho.go B W σ H F ν s _ E _ r w q fun v H1 F1 ν1 d st1 x1 r1 z1 q1 => ?_
  obtain ⟨⟨ns, rfl⟩, q1⟩ := q1
  have z1' := z1
  cases z1 with
  | @part a l dx vs _ e1 e2 zz =>
    refine ⟨a, dx, _, rfl, by rw [hC]; exact r1.sub _ _ e1, ?_, ?_⟩
    · rw [List.lookup_cons]
      have : (m == ("part_notes" : Str)) = false := by simpa using hm
      rw [this]; rfl
    refine ha.go B W σ H1 F1 ν1 ⟨s.sl, st1⟩ _ E _ r1 (w.next x1) q1 fun vs H2 F2 ν2 ds st2 x2 r2 z2 q2 => ?_
    refine ⟨F2, ν2, _ :: ds, st2, _, _, r2.based (.cons (z1'.mono x2) z2), q2, fun y st' v H' F' ν' x' r' q' => ?_, fun y st' cls d H' F' ν' x' r' z' q' => ?_⟩
    · obtain ⟨hy, q'⟩ := q'
      obtain ⟨v', e1, z⟩ := r'.sl 0 y rfl
      cases e1
      obtain ⟨F'', x3, r3, z3⟩ := r2.fzR x' r' z (fun a dx fs e => by rw [e] at hy; cases hy) (fun a cls fs e => by rw [e] at hy; cases hy)
      exact kk v H' F'' ν' y.fz st' ((x1.trans x2).trans x3) r3 z3 q'
    · exact w.go cls d H' F' ν' y st' ((x1.trans x2).trans x') (r2.ret x' r') z' q'
/-- a method of the class -/
structure MtT (K : PySem.W.Frag) (cl : String → Addr) (m : Str) (f : Addr) (fd : FuncData) (ps : List Str) : Prop where
  mt : Meth K (cl "Part") m f
  b : Binds K fd ps []
theorem x_meth0 {pl : Sem Bool} (G : FnG X.prog X.w X.K X.mg X.base k fa fd ps (spOf (cf X cl) sd)) (T : MtT X.K cl m fa fd ps) (c : Cls X.K (cl "Part")) (hr : Room j X.A) (hj : k ≤ j) (hgd : X.A.guards = some []) (ho : Ex X cl o do_) (hm : m ≠ "part_notes" := by decide)
    (ht : eval (.Call (.Attribute o m apos) [] [] pos) X.env = (do
      let ov ← eval o X.env
      standAt apos.atName
      let (f, first) ← holding [ov] (getMethod ov m pl)
      callWith pos f first (backTo pos (starEach [] X.env)) (backToKw pos (keywordEach [] X.env))) := by rfl) :
    Ex X cl (.Call (.Attribute o m apos) [] [] pos) (dMethP sd do_ dNil) := by
  obtain ⟨to, a1, a2⟩ := ho.ex
  have a0 : RfA (cf X cl) (fun _ => tNil) dNil := ⟨fun B W σ H F ν s Q E P rr w h kk => kk [] H F ν [] s.st Ext.refl rr .nil h⟩
  refine ⟨_, fun W tk => ⟨fun pins s σ H Q I h => ?_⟩, rf_meth a2 a0 rfl hm⟩
  refine PySem.W.methodCall_KW (pl := pl) (thn ((a1 W tk).run pins s σ H _ I h) fun u s1 ⟨x, H1, I1, rx, a, dx, fs, ex, ea, l, q⟩ => ?_) ht
  subst ex
  obtain rfl : u = Value.ref a := rx
  refine getmeth_ok I1 ea c T.mt l ?_
  exact PySem.W.callWith_K0 (first := [.ref a]) I1.kIn T.mt.kp (run_fnG (us := [.ref a]) (vs := [.ref a]) G (hr.mono hj) hgd T.b (passAt tk σ) I1 (.cons rfl .nil) q)
theorem x_meth {pl : Sem Bool} (G : FnG X.prog X.w X.K X.mg X.base k fa fd ps (spOf (cf X cl) sd)) (T : MtT X.K cl m fa fd ps) (c : Cls X.K (cl "Part")) (hr : Room j X.A) (hj : k ≤ j) (hgd : X.A.guards = some []) (ho : Ex X cl o do_) (ha : Ar X cl (e :: es) da) (hm : m ≠ "part_notes" := by decide)
    (hst : starEach (e :: es) X.env = (false, eval e X.env) :: starEach es X.env := by rfl) (hpl : (backTo pos (starEach es X.env)).any (·.1) = false := by rfl)
    (ht : eval (.Call (.Attribute o m apos) (e :: es) [] pos) X.env = (do
      let ov ← eval o X.env
      standAt apos.atName
      let (f, first) ← holding [ov] (getMethod ov m pl)
      callWith pos f first (backTo pos (starEach (e :: es) X.env)) (backToKw pos (keywordEach [] X.env))) := by rfl) :
    Ex X cl (.Call (.Attribute o m apos) (e :: es) [] pos) (dMethP sd do_ da) := by
  obtain ⟨to, a1, a2⟩ := ho.ex
  obtain ⟨ta, b1, b2⟩ := ha.ex
  refine ⟨_, fun W tk => ⟨fun pins s σ H Q I h => ?_⟩, rf_meth a2 b2 rfl hm⟩
  refine PySem.W.methodCall_KW (pl := pl) (thn ((a1 W tk).run pins s σ H _ I h) fun u s1 ⟨x, H1, I1, rx, a, dx, fs, ex, ea, l, q⟩ => ?_) ht
  subst ex
  obtain rfl : u = Value.ref a := rx
  refine getmeth_ok I1 ea c T.mt l ?_
  refine PySem.W.callWith_K (first := [.ref a]) (h₀ := X.base) I1.ok.mod.kin T.mt.kp (thn ((b1 W tk).run pos pins s1 σ H1 _ I1 q) fun us s2 ⟨vs, H2, I2, r, q2⟩ => ⟨I2.kIn, ?_⟩) hst hpl
  exact run_fnG (us := .ref a :: us) (vs := .ref a :: vs) G (hr.mono hj) hgd T.b (passAt tk σ) I2 (.cons (show RelV (V.ref a) (Value.ref a) from rfl) r) q2
end
end Kt
set_option maxHeartbeats 4000000
/-! Kt36: isinstance(x, Part), len(part), sorted(list of notes). -/
namespace Kt
open PySem PySem.Spec L2
/-! ### sorted, of tuples of three whole numbers -/
abbrev Tri := Int × Int × Int
def triD (t : Tri) : D := .tup [.int t.1, .int t.2.1, .int t.2.2]
def triL (t : Tri) : List Int := [t.1, t.2.1, t.2.2]
def cdT (t : Tri) : Int := (t.1 * 20000 + t.2.1) * 20000 + t.2.2
def leT (a b : Tri) : Bool := decide (cdT a ≤ cdT b)
def bdT (t : Tri) : Prop := 0 ≤ t.1 ∧ t.1 < 20000 ∧ 0 ≤ t.2.1 ∧ t.2.1 < 20000 ∧ 0 ≤ t.2.2 ∧ t.2.2 < 20000
def srt (ts : List Tri) : List Tri := ts.mergeSort leT
theorem cdT_inj {a b : Tri} (ha : bdT a) (hb : bdT b) (h : cdT a = cdT b) : a = b := by
  obtain ⟨a1, a2, a3⟩ := a
  obtain ⟨b1, b2, b3⟩ := b
  unfold bdT cdT at *
  simp only at *
  have e1 : a1 = b1 := by omega
  have e2 : a2 = b2 := by omega
  have e3 : a3 = b3 := by omega
  rw [e1, e2, e3]
theorem srt_perm (ts : List Tri) : (srt ts).Perm ts := List.mergeSort_perm ts leT
theorem srt_sorted (ts : List Tri) : (srt ts).Pairwise fun a b => cdT a ≤ cdT b := by
  have h := List.pairwise_mergeSort (le := leT) (fun a b c h1 h2 => by unfold leT at *; simp at *; omega) (fun a b => by unfold leT; simp; omega) ts
  exact h.imp fun {a b} e => by unfold leT at e; simpa using e
theorem sorted_uniq : ∀ {l m : List Tri}, l.Perm m → (∀ t ∈ l, bdT t) → l.Pairwise (fun a b => cdT a ≤ cdT b) → m.Pairwise (fun a b => cdT a ≤ cdT b) → l = m
  | [], m, p, _, _, _ => by
    cases m with
    | nil => rfl
    | cons b m => exact absurd (p.length_eq) (by simp)
  | a :: l, m, p, hb, h1, h2 => by
    cases m with
    | nil => exact absurd (p.length_eq) (by simp)
    | cons b m =>
      have e : a = b := by
        have ha : a ∈ b :: m := p.mem_iff.mp List.mem_cons_self
        have hb' : b ∈ a :: l := p.mem_iff.mpr List.mem_cons_self
        have l1 : cdT b ≤ cdT a := by
          rcases List.mem_cons.mp ha with q | q
          · rw [q]; exact Int.le_refl _
          · exact (List.pairwise_cons.mp h2).1 a q
        have l2 : cdT a ≤ cdT b := by
          rcases List.mem_cons.mp hb' with q | q
          · rw [q]; exact Int.le_refl _
          · exact (List.pairwise_cons.mp h1).1 b q
        exact cdT_inj (hb a List.mem_cons_self) (hb b hb') (Int.le_antisymm l2 l1)
      subst e
      rw [sorted_uniq ((List.perm_cons a).mp p) (fun t ht => hb t (List.mem_cons_of_mem _ ht)) (List.pairwise_cons.mp h1).2 (List.pairwise_cons.mp h2).2]
theorem srt_of {l ts : List Tri} (p : l.Perm ts) (hb : ∀ t ∈ ts, bdT t) (h : l.Pairwise fun a b => cdT a ≤ cdT b) : l = srt ts :=
  sorted_uniq (p.trans (srt_perm ts).symm) (fun t ht => hb t (p.mem_iff.mp ht)) h (srt_sorted ts)
theorem srt_len (ts : List Tri) : (srt ts).length = ts.length := (srt_perm ts).length_eq
theorem srt_mem {ts : List Tri} {t : Tri} : t ∈ srt ts ↔ t ∈ ts := (srt_perm ts).mem_iff
theorem srt_idem {ts : List Tri} (hb : ∀ t ∈ ts, bdT t) : srt (srt ts) = srt ts := (srt_of (List.Perm.refl _) (fun t ht => hb t (srt_mem.mp ht)) (srt_sorted ts)).symm
theorem srt_same {ts : List Tri} (hb : ∀ t ∈ ts, bdT t) (h : ts.Pairwise fun a b => cdT a ≤ cdT b) : srt ts = ts := (srt_of (List.Perm.refl _) hb h).symm
section
variable {c : Cf} {F : Hp} {ν : List Addr}
theorem rz_tri {v : V} {t : Tri} (z : Rz c F ν v (triD t)) : ∃ a, v = .ref a ∧ SqT c.K F a ((triL t).map V.int) := by
  obtain ⟨t1, t2, t3⟩ := t
  cases z with
  | @tup a xs _ h r => exact ⟨a, rfl, by rw [show xs = (triL (t1, t2, t3)).map V.int from rz_ints_inv (ns := [t1, t2, t3]) r] at h; exact h⟩
theorem rz_perm : ∀ {ys xs : List V}, ys.Perm xs → ∀ {ts : List Tri}, RzAll c F ν xs (ts.map triD) → ∃ zs : List Tri, zs.Perm ts ∧ RzAll c F ν ys (zs.map triD) := by
  intro ys xs p
  induction p with
  | nil => intro ts h; cases ts with
    | nil => exact ⟨[], .nil, .nil⟩
    | cons t ts => cases h
  | cons x p ih =>
    intro ts h
    cases ts with
    | nil => cases h
    | cons t ts =>
      cases h with
      | cons z r =>
        obtain ⟨zs, pz, rz⟩ := ih r
        exact ⟨t :: zs, pz.cons t, .cons z rz⟩
  | swap x y l =>
    intro ts h
    cases ts with
    | nil => cases h
    | cons t ts =>
      cases ts with
      | nil => cases h with
        | cons z r => cases r
      | cons t2 ts =>
        cases h with
        | cons z r =>
          cases r with
          | cons z2 r => exact ⟨t2 :: t :: ts, .swap t t2 ts, .cons z2 (.cons z r)⟩
  | trans p q ih1 ih2 =>
    intro ts h
    obtain ⟨zs, pz, rz⟩ := ih2 h
    obtain ⟨us, pu, ru⟩ := ih1 rz
    exact ⟨us, pu.trans pz, ru⟩
theorem rz_pair {H : Hp} {B : Int} (s : Same F H) : ∀ {ys : List V} {zs : List Tri}, RzAll c F ν ys (zs.map triD) → ys.Pairwise (fun x y => ∀ n m, TupI c.K H x n → TupI c.K H y m → TS.code B n ≤ TS.code B m) → zs.Pairwise fun a b => TS.code B (triL a) ≤ TS.code B (triL b)
  | _, [], _, _ => .nil
  | _, z :: zs, .cons (v := v) (vs := vs) h r, p => by
    obtain ⟨p1, p2⟩ := List.pairwise_cons.mp p
    refine List.pairwise_cons.mpr ⟨fun b hb => ?_, rz_pair s r p2⟩
    obtain ⟨i, hi⟩ := List.getElem?_of_mem hb
    obtain ⟨w, hw, zw⟩ := r.get (i := i) (d := triD b) (by rw [List.getElem?_map, hi]; rfl)
    obtain ⟨a1, e1, q1⟩ := rz_tri h
    obtain ⟨a2, e2, q2⟩ := rz_tri zw
    exact p1 w (List.mem_of_getElem? hw) _ _ ⟨a1, e1, sqt_mono s q1⟩ ⟨a2, e2, sqt_mono s q2⟩
end
theorem code_tri (t : Tri) : TS.code 20000 (triL t) = cdT t := by
  obtain ⟨a, b, c⟩ := t
  simp only [triL, TS.code, cdT, List.length_cons, List.length_nil]
  have : (20000 : Int) ^ (0 + 1 + 1) = 400000000 := by decide
  rw [this]
  have h1 : (20000 : Int) ^ (0 + 1) = 20000 := by decide
  rw [h1]
  have h0 : (20000 : Int) ^ 0 = 1 := by decide
  rw [h0]
  omega
def kSortT : KA := fun xs st K => match xs with
  | [d] => ∃ ts : List Tri, asLst st d = some (ts.map triD) ∧ ts.length < 64 ∧ (∀ t ∈ ts, bdT t) ∧ K (.lst ((srt ts).map triD)) st
  | _ => False
section
variable {X : Cx} {cl : String → Addr}
theorem c_sortT : CallD X cl (.builtin "sorted") kSortT := by
  refine ⟨_, cr_sortT (d := 3) (B := 20000) (by decide), fun B s σ H F ν vs xs K P r rx h k => ?_⟩
  unfold kSortT at h
  split at h
  · obtain ⟨ts, e1, hl, hb, h⟩ := h
    cases rx with
    | cons z zr =>
      cases zr
      obtain ⟨a, us, rfl, hq, q⟩ := r.lstq z e1
      have hlen := q.length
      rw [List.length_map] at hlen
      refine ⟨a, us, rfl, hq, by omega, fun x hx => ?_, fun ys pp pm ps hp => ?_⟩
      · obtain ⟨i, hi⟩ := List.getElem?_of_mem hx
        obtain ⟨d, hd, zd⟩ := q.getV hi
        rw [List.getElem?_map] at hd
        cases q3 : ts[i]? with
        | none => rw [q3] at hd; cases hd
        | some t =>
          rw [q3] at hd; cases hd
          obtain ⟨a1, e1, q1⟩ := rz_tri zd
          have hbt := hb t (List.mem_of_getElem? q3)
          obtain ⟨t1, t2, t3⟩ := t
          refine ⟨triL (t1, t2, t3), ⟨a1, e1, sqt_mono r.sub q1⟩, rfl, fun m hm => ?_⟩
          unfold bdT at hbt
          simp only [triL, List.mem_cons, List.not_mem_nil, or_false] at hm
          rcases hm with rfl | rfl | rfl <;> simp only at hbt <;> omega
      · obtain ⟨zs, pz, rz⟩ := rz_perm pm q
        have hs := rz_pair r.sub rz ps
        have hs' : zs.Pairwise fun a b => cdT a ≤ cdT b := hs.imp fun {a b} e => by rw [code_tri, code_tri] at e; exact e
        have ez := srt_of pz hb hs'
        subst ez
        have hf := (r.fresh hp).2.1
        exact k _ _ _ ν _ s.st (ext_upd hf) (r.froze hp) (.lst upd_same (rz.mono (ext_upd hf))) h
  · exact h.elim
end
/-! ### isinstance(x, Part) -/
structure IsT (K : PySem.W.Frag) (cl : String → Addr) : Prop where
  ha : PySem.W.findIn K (.ref (cl "Part")) "__class__" = some (some (.builtin "object.__class__"))
  hn : PySem.W.specialIn K (.builtin "object.__class__") "__get__" = some (some (.builtin "getset_descriptor.__get__"))
  htk : PySem.W.takesIn K (.builtin "object.__class__") = some true
  hm : PySem.W.mroIn K (cl "Part") (.type "object") = some true
  no : ∀ t ∈ tyNs, PySem.W.kitOne K (.type t) (.ref (cl "Part")) = some false
def isP : D → Bool
  | .part _ => true
  | _ => false
def dIsP (de : DE) : DE := fun s Q E => de s (fun d st => (isP d = true ∨ ∃ t, tyD st d = some t) ∧ Q (.bl (isP d)) st) E
section
variable {X : Cx} {cl : String → Addr} {e : Expr} {de : DE} {T : Str} {p p1 pos : Pos}
theorem x_isP (I : IsT X.K cl) (C : Cls X.K (cl "Part")) (hg : Gl X "isinstance") (hm : X.mg "isinstance" = none) (hT : Gl X T) (hTm : X.mg T = some (.ref (cl "Part"))) (ha : Ex X cl e de) (hd : (T == ("__debug__" : Str)) = false := by decide)
    (he : starEach (e :: [.Name T p1]) X.env = (false, eval e X.env) :: starEach [.Name T p1] X.env := by rfl) (hs2 : starEach (.Name T p1 :: []) X.env = (false, eval (.Name T p1) X.env) :: starEach [] X.env := by rfl) (hpl : (backTo pos (starEach [.Name T p1] X.env)).any (·.1) = false := by rfl) :
    Ex X cl (.Call (.Name "isinstance" p) [e, .Name T p1] [] pos) (dIsP de) := by
  obtain ⟨ta, a1, a2⟩ := ha.ex
  refine ⟨fun W => tCB (rIsi X.K) (tCons (ta W) (tCons (tC (.ref (cl "Part"))) tNil)), fun W tk => pe_callB call_isi hg hm (by decide +kernel) (pa_cons (a1 W tk) (pa_cons (pe_glob hT hTm rfl hd) pa_nil hs2) he) (by decide) (by decide) he hpl, ⟨fun B W σ H F ν s Q E P r w q k => ?_⟩⟩
  refine a2.go B W σ H F ν s _ E _ r w q fun v H1 F1 ν1 d st1 x1 r1 z1 q1 => ?_
  obtain ⟨t0, q1⟩ := q1
  by_cases hp : isP d = true
  · cases d with
    | part ns =>
      have z1' := z1
      cases z1 with
      | @part a l dx vs _ e1 e2 zz =>
        exact ⟨_, .ref (cl "Part"), .ref (cl "Part"), .ref (cl "Part"), true, rfl, .own _, .base (.ins (r1.sub _ _ e1) C I.ha I.hn I.htk I.hm), by unfold PySem.W.kitOne; rw [if_pos (by simp)], k _ H1 F1 ν1 _ st1 x1 r1 (.bl _) q1⟩
    | _ => cases hp
  · rcases t0 with t0 | ⟨t, e1⟩
    · exact absurd t0 hp
    · have hp' : isP d = false := by simpa using hp
      rw [hp'] at q1
      exact ⟨v, .ref (cl "Part"), .type t, .ref (cl "Part"), false, rfl, .own _, r1.ty z1 e1, I.no t (tyD_mem e1), k _ H1 F1 ν1 _ st1 x1 r1 (.bl _) q1⟩
end
/-! ### len(part) -/
def bd_len : DS := dSeq (dRet (dB kLen (dCons (dPn (dVar 0)) dNil))) dNext
def kLenP : KA := fun xs st K => (∃ ns, xs = [.part ns] ∧ ns.length ≤ 1000 ∧ K (.int ns.length) st) ∨ kLen xs st K
section
variable {X : Cx} {cl : String → Addr} {k j : Nat} {f : Addr} {fd : FuncData} {ps : List Str}
theorem c_lenP (G : FnG X.prog X.w X.K X.mg X.base k f fd ps (spOf (cf X cl) (mD 1 1 bd_len))) (T : MtT X.K cl "__len__" f fd ps) (hr : Room j X.A) (hj : k + 1 ≤ j) (hgd : X.A.guards = some []) : CallD X cl (.builtin "len") kLenP := by
  refine CallD.or (k := fun xs st K => ∃ ns, xs = [.part ns] ∧ ns.length ≤ 1000 ∧ K (.int ns.length) st) ?_ c_len
  refine ⟨fun vs H P => ∃ a dx fs, vs = [.ref a] ∧ H a = some (.ins (cl "Part") dx fs) ∧ spOf (cf X cl) (mD 1 1 bd_len) [.ref a] H (fun v H' => ∃ n : Int, v = .int n ∧ (0 ≤ n ∧ n < 2 ^ 63) ∧ P (.int n) H') (fun _ _ _ => False), fun pins s σ H vs us Q I rv h => ?_, fun B s σ H F ν vs xs K P r rx h kk => ?_⟩
  · obtain ⟨a, dx, fs, rfl, ha, hsp⟩ := h
    rw [Vals.ref1 rv]
    obtain ⟨mA, J, _⟩ := ins_get I.hok ha
    obtain ⟨od, J, _⟩ := J.look
    obtain ⟨m, hF⟩ := I.fr
    refine PySem.W.len_K hF I.ok.mod.kin J T.mt.at_ T.mt.fn ?_
    have hl := G.len _ _ _ _ hsp
    have r2 : Vals [V.ref a] [Value.ref a] := .cons rfl .nil
    have bi := T.b s [.ref a] I.kIn (by simpa using hl)
    have bi : BindsTo s fd ⟨[.ref a], []⟩ (ps.zip [.ref a]) := by simpa using bi
    have e0 : Env0 X.prog X.w X.K X.mg X.base X.A.in1 X.stack s H := by
      have e := I.env0
      exact ⟨e.frames, e.mod, e.bs, e.bsz, e.funs, e.frf, e.hok, e.bare⟩
    refine wpAny_call (codeAny_mono (G.run X.A.in1 X.stack s H ⟨[.ref a], []⟩ [.ref a] [.ref a] _ _ ((hr.mono hj).in1) hgd e0 bi r2 hsp) fun z s' hq => ?_)
    cases z with
    | error er =>
      obtain ⟨_, _, _, _, _, _, _, _, _, _, _, _, z⟩ := hq
      exact False.elim z
    | ok fl =>
      cases fl with
      | next => exact hq.elim
      | brk => exact hq.elim
      | cont => exact hq.elim
      | ret u =>
        obtain ⟨v, H', I', rv', n, rfl, hn, q⟩ := I.after hq
        obtain ⟨t, rfl⟩ := rv'
        exact ⟨hn, .int n, H', I'.tok _, ⟨_, rfl⟩, q⟩
  · obtain ⟨ns, rfl, hl, q⟩ := h
    cases rx with
    | cons z zr =>
      cases zr
      have z' := z
      cases z with
      | @part a l dx us _ e1 e2 zz =>
        refine ⟨a, dx, _, rfl, r.sub _ _ e1, ?_⟩
        refine ⟨F, ν, [.part ns], s.st, fun y st' => y = .d (.int ns.length) ∧ st' = s.st, fun _ _ => False, r.based (.cons z' .nil), ⟨rfl, ?_⟩, fun y st' v H' F' ν' x' r' q' => ?_, fun _ _ _ _ _ _ _ _ _ _ z => z.elim⟩
        · show ∃ d, _
          refine ⟨_, rfl, ns, rfl, ?_⟩
          exact ⟨ns, rfl, rfl, rfl⟩
        · obtain ⟨rfl, rfl⟩ := q'
          obtain ⟨v', e1, z⟩ := r'.sl 0 _ rfl
          cases e1
          cases z with
          | d z =>
            cases z
            refine ⟨_, rfl, ⟨by omega, ?_⟩, kk _ H' F' ν' _ s.st x' (r.ret x' r') (.int _) q⟩
            have : (1000 : Int) < 2 ^ 63 := by decide
            omega
end
end Kt
set_option maxHeartbeats 1000000
/-! Kt37: x[k] of a dict that is being filled, a text times a number, enumerate. -/
namespace Kt
open PySem PySem.Spec L2
/-! ### facts about the class -/
structure If (K : PySem.W.Frag) (qual : Str) (st : Stmt) (ps : List Str) (f : Addr) (fd : FuncData) : Prop where
  fu : Fun K "__init__" qual st f fd
  b : Binds K fd ps []
structure Mf (K : PySem.W.Frag) (cl : String → Addr) (m qual : Str) (st : Stmt) (ps : List Str) (f : Addr) (fd : FuncData) : Prop where
  fu : Fun K m qual st f fd
  t : MtT K cl m f fd ps
section
variable {X : Cx} {cl : String → Addr} {e b : Expr} {dk de : DE} {p pos : Pos}
/-- x[k], x a dict of its own -/
def dGetO (i : Nat) (dk : DE) : DE := fun s Q E => ∃ ks, s.sl[i]? = some (some (.od ks)) ∧ dk s (fun y st => ∃ k v, keyOf y = some k ∧ getD ks k = some v ∧ Q v st) E
theorem x_dgetO (i : Nat) {x : Str} (hu : X.A.units + 1 < cLine) (hN : X.N[i]? = some x) (hb : Ex X cl b dk) (hv : Vis X.env.scope x := by first | exact Or.inl rfl | exact Or.inr (Or.inl rfl) | exact Or.inr (Or.inr rfl)) (hd : (x == ("__debug__" : Str)) = false := by decide)
    (hcd : (x == ("__classdict__" : Str)) = false := by decide) (hs : NoSl b := by intro _ _; rfl) : Ex X cl (.Subscript (.Name x p) b pos) (dGetO i dk) := by
  obtain ⟨tb, b1, b2⟩ := hb.ex
  refine ⟨fun W => tDGet (tVar i) (tb W), fun W t => pe_dget hu (pe_var hN hv hd hcd) (b1 W t) hs, ⟨fun B W σ H F ν s Q E P r w q k => ?_⟩⟩
  obtain ⟨ks, e0, q⟩ := q
  obtain ⟨u, h1, h2⟩ := r.sl i _ e0
  refine ⟨u, h1, ?_⟩
  refine b2.go B W σ H F ν s _ E _ r w q fun v H2 F2 ν2 d2 st2 x2 r2 z2 q2 => ?_
  obtain ⟨kk, vv, e2, e3, q2⟩ := q2
  have ek := keyOf_ok z2 e2
  subst ek
  obtain ⟨u', h1', h2'⟩ := r2.sl i _ e0
  rw [h1] at h1'
  cases h1'
  cases h2' with
  | @od a vs _ f eo zz =>
    rcases zz.get (k := kk) with ⟨h3, _⟩ | ⟨d3, v3, h3, h4, h5⟩
    · rw [h3] at e3; cases e3
    · rw [h3] at e3; cases e3
      exact ⟨a, v3, rfl, by rw [← h4]; exact DGet.k eo, k v3 H2 F2 ν2 _ st2 x2 r2 h5 q2⟩
end
/-! ### a text, many times -/
def repS (x : Str) (n : Nat) : Str := ⟨(List.replicate n x.cps).foldl (· ++ ·) #[]⟩
theorem rep_size (a : Array Nat) : ∀ (n : Nat) (acc : Array Nat), ((List.replicate n a).foldl (· ++ ·) acc).size = acc.size + n * a.size
  | 0, acc => by simp
  | n + 1, acc => by rw [List.replicate_succ, List.foldl_cons, rep_size a n, Array.size_append, Nat.succ_mul]; omega
theorem repS_len (x : Str) (n : Nat) : (repS x n).length = n * x.length := by
  show ((List.replicate n x.cps).foldl (· ++ ·) #[]).size = _
  rw [rep_size]
  show 0 + _ = _
  rw [Nat.zero_add]; rfl
section
variable {X : Cx} {cl : String → Addr}
theorem op_mulS : OpR X (binaryOp .Mult) (fun x y H Q => ∃ z k, x = .str z ∧ y = .int k ∧ (0 ≤ k ∧ k ≤ 1000) ∧ z.length ≤ 100 ∧ Q (.str (repS z k.toNat)) H) := by
  intro pins s σ H x y v u Q I rx ry h
  obtain ⟨z, k, rfl, rfl, hk, hz, q⟩ := h
  obtain ⟨t, rfl⟩ := rx
  obtain ⟨t', rfl⟩ := ry
  refine PySem.P.mul_str ?_ (fun h1 _ => ?_) (fun h1 _ => ?_) ?_
  · rw [decide_eq_false (by omega), decide_eq_false (by omega)]; rfl
  · have h2 : (1 : Int) ≤ k := by omega
    have h3 : ((2 : Int) ^ 63 - 1) / k ≥ (2 ^ 63 - 1) / 1000 := by
      have e : (2 : Int) ^ 63 - 1 = 9223372036854775807 := by decide
      rw [e]
      have h5 : (9223372036854775807 : Int) / 1000 = 9223372036854775 := by decide
      rw [h5]
      refine (Int.le_ediv_iff_mul_le (by omega)).mpr ?_
      have : (9223372036854775 : Int) * k ≤ 9223372036854775 * 1000 := Int.mul_le_mul_of_nonneg_left hk.2 (by decide)
      omega
    have h4 : ((2 : Int) ^ 63 - 1) / 1000 = 9223372036854775 := by decide
    rw [h4] at h3
    omega
  · unfold Builtin.Str.tooLong
    have : z.length * k.toNat ≤ 100 * 1000 := Nat.mul_le_mul hz (by omega)
    simp only [decide_eq_false_iff_not, gt_iff_lt, Nat.not_lt]
    exact Nat.le_trans this (by decide)
  · by_cases h1 : k < 1
    · have : k = 0 := by omega
      subst this
      rw [if_pos (by decide)]
      exact ⟨(by decide), ⟨.str (repS z 0), H, I.tok _, ⟨_, rfl⟩, q⟩⟩
    · rw [if_neg h1]
      split
      · rename_i h2
        have e : repS z k.toNat = z := by
          rw [Bool.or_eq_true] at h2
          rcases h2 with h2 | h2
          · have : k = 1 := by simpa using h2
            subst this
            unfold repS
            cases z; simp
          · have hzz : z = Str.empty := by
              cases z with
              | mk c =>
                have : c.size = 0 := by simpa [Str.length] using h2
                have : c = #[] := by simpa using this
                subst this; rfl
            subst hzz
            unfold repS
            have : ∀ n : Nat, (List.replicate n (Str.empty).cps).foldl (· ++ ·) (#[] : Array Nat) = #[] := fun n => by
              induction n with
              | zero => rfl
              | succ n ih => rw [List.replicate_succ, List.foldl_cons]; exact ih
            rw [this]; rfl
        rw [e] at q
        exact ⟨.str z, H, I, ⟨_, rfl⟩, q⟩
      · exact ⟨(by
          show (repS z k.toNat).length ≤ sizeLine
          rw [repS_len]
          have : k.toNat * z.length ≤ 1000 * 100 := Nat.mul_le_mul (by omega) hz
          exact Nat.le_trans this (by decide)), ⟨.str (repS z k.toNat), H, I.tok _, ⟨_, rfl⟩, q⟩⟩
/-- a text times a number, or what stands in kMul -/
def kMulS : K2 := fun x y st K => (∃ z k, x = .str z ∧ y = .int k ∧ (0 ≤ k ∧ k ≤ 1000) ∧ z.length ≤ 100 ∧ K (.str (repS z k.toNat)) st) ∨ kMul x y st K
theorem o_mulS : OpD X cl (binaryOp .Mult) kMulS := by
  refine OpD.or (k := fun x y st K => ∃ z k, x = .str z ∧ y = .int k ∧ (0 ≤ k ∧ k ≤ 1000) ∧ z.length ≤ 100 ∧ K (.str (repS z k.toNat)) st) ?_ o_mul
  refine ⟨_, op_mulS, fun B s σ H F ν v u x y K P r rx ry h k => ?_⟩
  obtain ⟨z, j, rfl, rfl, h1, h2, h⟩ := h
  cases rx; cases ry
  exact ⟨z, j, rfl, rfl, h1, h2, k _ H F ν _ s.st Ext.refl r (.str _) h⟩
end
/-! ### enumerate -/
def enD : Nat → List D → List D
  | _, [] => []
  | i, d :: ds => .tup [.int (i : Int), d] :: enD (i + 1) ds
theorem enD_len : ∀ (i : Nat) (ds : List D), (enD i ds).length = ds.length
  | _, [] => rfl
  | i, d :: ds => by simp [enD, enD_len (i + 1) ds]
theorem enD_get : ∀ (i : Nat) (ds : List D) (j : Nat) (d : D), (enD i ds)[j]? = some d → ∃ e, ds[j]? = some e ∧ d = .tup [.int ((i + j : Nat) : Int), e]
  | _, [], j, d, h => by simp [enD] at h
  | i, e :: ds, 0, d, h => by simp [enD] at h; exact ⟨e, rfl, by rw [← h]; simp⟩
  | i, e :: ds, j + 1, d, h => by
    obtain ⟨e', h1, h2⟩ := enD_get (i + 1) ds j d (by simpa [enD] using h)
    exact ⟨e', by simpa using h1, by rw [h2]; congr 3; omega⟩
theorem wk_en {c : Cf} {F : Hp} {ν : List Addr} {a : Addr} {ds : List D} {wt : List Ob → Prop} (hs : ∀ B s σ H' F' ν', Ext F ν F' ν' → R c B s σ H' F' ν' → wt s.st → ∃ xs, SqL c.K H' a xs ∧ RzAll c F' ν' xs ds) : Wk c (Ite c.K a) F ν wt (enD 0 ds) := by
  refine ⟨fun B s σ H' F' ν' x r w => ?_⟩
  obtain ⟨xs, q, z⟩ := hs B s σ H' F' ν' x r w
  refine ⟨⟨xs, q, by rw [enD_len, z.length]; exact Nat.le_refl _⟩, fun i d hd => ?_⟩
  obtain ⟨e, he, rfl⟩ := enD_get 0 ds i d hd
  obtain ⟨v, h1, h2⟩ := z.get he
  refine ⟨⟨xs, v, q, h1⟩, fun u H'' y => ?_⟩
  obtain ⟨T, x', rfl, hT, rfl, y⟩ := y
  have e' := y xs q
  rw [h1] at e'
  cases e'
  have hf := (r.fresh hT).2.1
  refine ⟨_, ν', ext_upd hf, r.froze hT, .tup (Or.inl (Or.inl upd_same)) (.cons ?_ (.cons (h2.mono (ext_upd hf)) .nil))⟩
  rw [Nat.zero_add]
  exact .int _
def dEnum (de : DE) : DI := fun s Q E => de s (fun d st => ∃ ds, (d = .lst ds ∨ d = .frl ds) ∧ Q (enD 0 ds) (fun _ => True) st) E
section
variable {X : Cx} {cl : String → Addr} {e : Expr} {de : DE} {p pos tpos : Pos} {elts : List Expr} {kk : Nat}
theorem w_enum (hg : Gl X "enumerate") (hm : X.mg "enumerate" = none) (ha : Ex X cl e de) (hs : starEach [e] X.env = [(false, eval e X.env)] := by rfl) (hs1 : starEach (e :: []) X.env = (false, eval e X.env) :: starEach [] X.env := by rfl) : Iw X cl (.Tuple elts kk tpos) (.Call (.Name "enumerate" p) [e] [] pos) (dEnum de) := by
  obtain ⟨ta, a1, a2⟩ := ha.ex
  refine ⟨fun W => iEnum X.K (tCons (ta W) tNil), fun W t => pi_enum hg hm (pa_cons (a1 W t) pa_nil hs1) hs, ⟨fun B W σ H F ν s Q E P r w q k => ?_⟩⟩
  refine a2.go B W σ H F ν s _ E _ r w q fun v H1 F1 ν1 d st1 x1 r1 z1 q1 => ?_
  obtain ⟨ds, hd, q1⟩ := q1
  rcases hd with rfl | rfl
  · cases z1 with
    | lst h z => exact ⟨_, _, rfl, SqL.of (r1.sub _ _ h), k _ H1 F1 ν1 _ _ st1 x1 r1 (wk_en fun B' s' σ' H' F' ν' xx rr ww => ⟨_, SqL.of (rr.sub _ _ (xx.s _ _ h)), z.mono xx⟩) q1⟩
  · cases z1 with
    | frl h z => exact ⟨_, _, rfl, sql_mono r1.sub h, k _ H1 F1 ν1 _ _ st1 x1 r1 (wk_en fun B' s' σ' H' F' ν' xx rr ww => ⟨_, sql_mono rr.sub (sql_mono xx.s h), z.mono xx⟩) q1⟩
end
end Kt
set_option maxHeartbeats 400000
/-! Kt38: parts by their readings: Part(notes) of good notes. -/
namespace Kt
open PySem PySem.Spec L2
section
variable {st : List Ob} {Q : SV → List Ob → Prop} {E : XK'}
def R_islist : DS := (dSeq (dRet (dAndV (dIsi2 "list" "tuple" (dVar 0)) (dBin kLe (dB kLen (dCons (dVar 0) dNil)) (dVar 1)))) dNext)
def m_islist : SpD := mD 2 2 R_islist
/-- whether a value is a list or a tuple of at most so many -/
def isL (st : List Ob) (d : D) (most : Int) : Bool := match asSeq st d with
  | some ds => decide ((ds.length : Int) ≤ most)
  | none => false
theorem asSeq_ty {d : D} {t : String} (h : tyD st d = some t) : (isB "list" t || isB "tuple" t) = (asSeq st d).isSome := by
  cases d with
  | obj n =>
    simp only [tyD, asSeq] at h ⊢
    cases e : st[n]? with
    | none => rw [e] at h; cases h
    | some o => rw [e] at h; cases o <;> (cases h; rfl)
  | part ns => cases h
  | _ => cases h; rfl
theorem islist_ok {d : D} {t : String} {most : Int} (h : tyD st d = some t) (q : Q (.d (.bl (isL st d most))) st) : m_islist [d, .int most] st Q E := by
  simp only [m_islist, R_islist, mD, dSeq, dRet, dAndV, dIsi2, dBin, dB, dCons, dNil, dVar, dNext]
  refine ⟨rfl, d, rfl, t, h, _, rfl, ?_⟩
  have e := asSeq_ty h
  rw [e]
  unfold isL at q
  cases e2 : asSeq st d with
  | none => rw [e2] at q; rw [if_neg (by simp)]; exact q
  | some ds =>
    rw [e2] at q
    rw [if_pos (by rfl)]
    refine ⟨d, rfl, len_seq_of ?_ e2 ?_⟩
    rotate_left
    · refine ⟨.int most, rfl, ?_⟩
      show kLe (.int ds.length) (.int most) st _
      exact ⟨True.intro, q⟩
    cases d <;> first | rfl | cases e2
theorem nneed_ok {d : D} (h1 : okN st d) (h2 : ∀ ds, d = .tup ds → ds.length ≤ 1000) (q : isN d = true → Q (.d .non) st) (e : isN d = false → E ⟨"BadNote", [("found", d)]⟩ st) : m_neednote [d] st Q E := by
  simp only [m_neednote, mD, dSeq, dIfS, dNot, dTest, dCall, dCons, dNil, dVar, dRaise1, dNext]
  refine ⟨rfl, d, rfl, isnote_ok h1 h2 ⟨rfl, _, rfl, ?_⟩⟩
  cases hd : isN d with
  | false => rw [if_pos (by decide)]; exact ⟨d, rfl, d, rfl, e hd⟩
  | true => rw [if_neg (by decide)]; exact q hd
/-- a good note -/
def vN (t : Tri) : Prop := 0 ≤ t.1 ∧ t.1 ≤ t.2.1 ∧ t.2.1 ≤ 9999 ∧ 0 ≤ t.2.2 ∧ t.2.2 ≤ 119
theorem vN.bd {t : Tri} (h : vN t) : bdT t := by unfold vN at h; unfold bdT; omega
theorem isN_tri {t : Tri} : isN (triD t) = true ↔ vN t := by
  obtain ⟨a, b, c⟩ := t
  simp only [triD, isN, isI, vN, Bool.and_eq_true, decide_eq_true_eq]
  omega
theorem okN_tri {t : Tri} : okN st (triD t) := by
  obtain ⟨a, b, c⟩ := t
  refine ⟨⟨"tuple", rfl⟩, fun ds e x hx => ?_⟩
  cases e
  simp only [List.mem_cons, List.not_mem_nil, or_false] at hx
  rcases hx with rfl | rfl | rfl <;> exact ⟨"int", rfl⟩
theorem tri_len {t : Tri} : ∀ ds, triD t = .tup ds → ds.length ≤ 1000 := fun ds e => by cases e; exact (by decide : 3 ≤ 1000)
theorem need_tri {t : Tri} (h : vN t) (q : Q (.d .non) st) : m_neednote [triD t] st Q E :=
  nneed_ok okN_tri tri_len (fun _ => q) fun e => absurd (isN_tri.mpr h) (by rw [e]; decide)
/-- notes in order, of one pitch each behind the other -/
def noOv (l : List Tri) : Prop := l.Pairwise fun a b => a.2.2 = b.2.2 → a.2.1 < b.1
def R_part : DS := (dSeq (dIfS (dNot (dTest (dCall m_islist (dCons (dVar 1) (dCons (dC (.int 60)) dNil))))) (dSeq (dRaise1 "BadPart" "found" (dCons (dVar 1) dNil)) dNext) dNext) (dSeq (dFor (dIt (dVar 1)) (dName 2) (dSeq (dDrop (dCall m_neednote (dCons (dVar 2) dNil))) dNext)) (dSeq (dFldO 0 "part_notes" (dB kSortT (dCons (dVar 1) dNil))) (dSeq (dSetD 3) (dSeq (dFor (dIt (dFldG 0 "part_notes")) (dName 2) (dSeq (dSet (dName 4) (dBin kIx (dVar 2) (dC (.int 2)))) (dSeq (dIfS (dAnd (dTest (dInO false 3 (dVar 4))) (dTest (dBin kLe (dBin kIx (dVar 2) (dC (.int 0))) (dBin kIx (dGetO 3 (dVar 4)) (dC (.int 1)))))) (dSeq (dRaise2 "Overlap" "one" "other" (dCons (dGetO 3 (dVar 4)) (dCons (dVar 2) dNil))) dNext) dNext) (dSeq (dDPutO 3 (dVar 4) (dVar 2)) dNext)))) dNext)))))
def m_part : SpI := mI "Part" 5 2 R_part
theorem kIx_tri {t : Tri} {K : DK} : (K (.int t.1) st → kIx (triD t) (.int 0) st K) ∧ (K (.int t.2.1) st → kIx (triD t) (.int 1) st K) ∧ (K (.int t.2.2) st → kIx (triD t) (.int 2) st K) :=
  ⟨fun k => ix_seq_of rfl rfl rfl k, fun k => ix_seq_of rfl rfl rfl k, fun k => ix_seq_of rfl rfl rfl k⟩
theorem putD_mem {ks : List (Key × D)} {k k' : Key} {v v' : D} (h : (k', v') ∈ putD ks k v) : (k' = k ∧ v' = v) ∨ (k', v') ∈ ks := by
  unfold putD at h
  split at h
  · obtain ⟨kv, hm, e⟩ := List.mem_map.mp h
    split at e
    · rename_i h1
      cases e
      exact .inl ⟨h1, rfl⟩
    · cases e; exact .inr hm
  · rcases List.mem_append.mp h with h | h
    · exact .inr h
    · have : (k', v') = (k, v) := by simpa using h
      cases this
      exact .inl ⟨rfl, rfl⟩
theorem putD_len {ks : List (Key × D)} {k : Key} {v : D} : (putD ks k v).length ≤ ks.length + 1 := by
  unfold putD
  split <;> simp
theorem part_ok {x : Addr} {ts : List Tri} {Q : List (Str × D) → List Ob → Prop} (hl : ts.length ≤ 60) (hv : ∀ t ∈ ts, vN t) (ho : noOv (srt ts)) (q : Q [("part_notes", .lst ((srt ts).map triD))] st) : m_part x [.lst (ts.map triD)] st Q E := by
  simp only [m_part, mI, R_part, dSeq, dIfS, dNot, dTest, dCall, dCons, dNil, dVar, dC, dFor, dIt, dDrop, dFldO, dB, dSetD, dName, dNext]
  refine ⟨rfl, _, rfl, islist_ok (t := "list") rfl ⟨rfl, _, rfl, ?_⟩⟩
  have e : isL st (.lst (ts.map triD)) 60 = true := by simp only [isL, asSeq, List.length_map, decide_eq_true_eq]; omega
  rw [e, if_neg (by decide)]
  refine ⟨_, rfl, _, rfl, ?_⟩
  refine loop_inv (ts.map triD) (fun _ s => s.st = st ∧ ∃ y, s.sl = [some (.oi x "Part" []), some (.d (.lst (ts.map triD))), y, none, none]) ⟨rfl, none, rfl⟩ (fun i d s nx hd hI k => ?_) (fun s hI => ?_)
  · obtain ⟨h1, y, h2⟩ := hI
    rw [List.getElem?_map] at hd
    cases e3 : ts[i]? with
    | none => rw [e3] at hd; cases hd
    | some t =>
      rw [e3] at hd; cases hd
      refine ⟨True.intro, triD t, by rw [h2]; rfl, need_tri (hv t (List.mem_of_getElem? e3)) ⟨rfl, k _ ⟨h1, _, by rw [h2]; rfl⟩⟩⟩
  obtain ⟨h1, y, h2⟩ := hI
  refine ⟨True.intro, _, by rw [h2]; rfl, ⟨ts, rfl, by omega, fun t ht => (hv t ht).bd, ?_⟩⟩
  refine ⟨x, "Part", [], by rw [h2]; rfl, rfl, by decide, ?_⟩
  rw [h1, h2]
  refine ⟨x, "Part", _, _, rfl, rfl, rfl, _, rfl, ?_⟩
  refine loop_inv ((srt ts).map triD) (fun i s => s.st = st ∧ ∃ y z ks, s.sl = [some (.oi x "Part" [("part_notes", .lst ((srt ts).map triD))]), some (.d (.lst (ts.map triD))), y, some (.od ks), z] ∧ ks.length ≤ i ∧ ∀ k v, (k, v) ∈ ks → ∃ (j : Nat) (a : Tri), j < i ∧ (srt ts)[j]? = some a ∧ k = .inl a.2.2 ∧ v = triD a) ⟨rfl, _, _, [], rfl, Nat.le_refl _, fun k v h => by cases h⟩ (fun i d s nx hd hI k => ?_) (fun s hI => ?_)
  · obtain ⟨h1, y, z, ks, h2, hk, hm⟩ := hI
    rw [List.getElem?_map] at hd
    cases e3 : (srt ts)[i]? with
    | none => rw [e3] at hd; cases hd
    | some t =>
      rw [e3] at hd; cases hd
      have hil := (List.getElem?_eq_some_iff.mp e3).1
      rw [srt_len] at hil
      obtain ⟨sl, st'⟩ := s
      simp only at h1 h2
      subst h1 h2
      simp only [dSet, dBin, dAnd, dInO, dGetO, dRaise2, dDPutO, dName, dVar, dC, dCons, dNil, dTest, dIfS, dNext, dSeq]
      have fin : ∀ y', nx ⟨[some (.oi x "Part" [("part_notes", .lst ((srt ts).map triD))]), some (.d (.lst (ts.map triD))), y', some (.od (putD ks (.inl t.2.2) (triD t))), some (.d (.int t.2.2))], st'⟩ := fun y' => by
        refine k _ ⟨rfl, _, _, _, rfl, Nat.le_trans putD_len (by omega), fun k' v' h => ?_⟩
        rcases putD_mem h with ⟨rfl, rfl⟩ | h
        · exact ⟨i, t, by omega, e3, rfl, rfl⟩
        · obtain ⟨j, a, h3, h4⟩ := hm k' v' h
          exact ⟨j, a, by omega, h4⟩
      refine ⟨True.intro, triD t, rfl, kIx_tri.2.2 ?_⟩
      refine ⟨_, rfl, ks, .inl t.2.2, rfl, rfl, _, rfl, ?_⟩
      have last : ∃ d, some (some (SV.d (triD t))) = some (some (.d d)) ∧ ∃ d_1, some (some (SV.d (D.int t.2.2))) = some (some (.d d_1)) ∧ True := ⟨_, rfl, _, rfl, True.intro⟩
      cases e4 : getD ks (.inl t.2.2) with
      | none =>
        rw [if_neg (by simp)]
        rw [if_neg (by simp)]
        exact ⟨ks, rfl, triD t, rfl, .int t.2.2, rfl, .inl t.2.2, rfl, by rw [sizeLine_eq]; omega, fin _⟩
      | some v =>
        rw [if_pos (by simp)]
        obtain ⟨j, a, hj, ha, hk', rfl⟩ := hm _ _ (getD_mem e4)
        refine ⟨triD t, rfl, kIx_tri.1 ⟨ks, rfl, .int t.2.2, rfl, .inl t.2.2, triD a, rfl, e4, kIx_tri.2.1 ?_⟩⟩
        have hlt : a.2.1 < t.1 := by
          have hp : a.2.2 = t.2.2 := (Sum.inl.inj hk').symm
          obtain ⟨hj', ej⟩ := List.getElem?_eq_some_iff.mp ha
          obtain ⟨hi', ei⟩ := List.getElem?_eq_some_iff.mp e3
          have := List.pairwise_iff_getElem.mp ho j i hj' hi' hj
          rw [ej, ei] at this
          exact this hp
        refine ⟨True.intro, _, rfl, ?_⟩
        rw [if_neg (by simp; omega)]
        exact ⟨ks, rfl, triD t, rfl, .int t.2.2, rfl, .inl t.2.2, rfl, by rw [sizeLine_eq]; omega, fin _⟩
  · obtain ⟨h1, y, z, ks, h2, _⟩ := hI
    refine ⟨True.intro, _, by rw [h2]; rfl, ?_⟩
    rw [h1]
    exact q
end
end Kt
set_option maxHeartbeats 1000000
/-! Kt39: the notes that a law draws (_law_notes). -/
namespace Kt
open PySem PySem.Spec L2
def R_notesG (tk : SpD) : DS := (dSeq (dSet (dName 2) (dBin kIx (dLst (dCons (dVar 1) (dCons (dVar 1) (dCons (dCall tk (dCons (dVar 0) (dCons (dBin kAdd (dVar 1) (dC (.int 1))) dNil))) (dCons (dCall tk (dCons (dVar 0) (dCons (dC (.int 4)) dNil))) dNil))))) (dCall tk (dCons (dVar 0) (dCons (dC (.int 4)) dNil))))) (dSeq (dSet (dName 3) (dBin kIx (dLst (dCons (dBin kAdd (dC (.int 1)) (dCall tk (dCons (dVar 0) (dCons (dC (.int 4)) dNil)))) (dCons (dC (.int 3)) (dCons (dC (.int 6)) (dCons (dBin kAdd (dC (.int 1)) (dCall tk (dCons (dVar 0) (dCons (dC (.int 12)) dNil)))) dNil))))) (dCall tk (dCons (dVar 0) (dCons (dC (.int 4)) dNil))))) (dSeq (dPar 4 5 (dCons (dCall tk (dCons (dVar 0) (dCons (dC (.int 60)) dNil))) (dCons (dBin kAdd (dC (.int 1)) (dCall tk (dCons (dVar 0) (dCons (dC (.int 4)) dNil)))) dNil))) (dSeq (dSet (dName 6) (dBin kIx (dLst (dCons (dC (.int 3)) (dCons (dC (.int 8)) (dCons (dC (.int 20)) (dCons (dC (.int 150)) dNil))))) (dCall tk (dCons (dVar 0) (dCons (dC (.int 4)) dNil))))) (dSeq (dSet (dName 7) (dBin kIx (dLst (dCons (dC (.int 0)) (dCons (dCall tk (dCons (dVar 0) (dCons (dC (.int 50)) dNil))) dNil))) (dCall tk (dCons (dVar 0) (dCons (dC (.int 2)) dNil))))) (dSeq (dSet (dName 8) (dLstN dNil)) (dSeq (dFor (dRng1 (dVar 2)) (dName 9) (dSeq (dSet (dName 7) (dBin kAdd (dVar 7) (dCall tk (dCons (dVar 0) (dCons (dVar 6) dNil))))) (dSeq (dSet (dName 10) (dBin kAdd (dVar 7) (dBin kIx (dLst (dCons (dC (.int 0)) (dCons (dC (.int 0)) (dCons (dCall tk (dCons (dVar 0) (dCons (dC (.int 4)) dNil))) (dCons (dCall tk (dCons (dVar 0) (dCons (dVar 6) dNil))) dNil))))) (dCall tk (dCons (dVar 0) (dCons (dC (.int 4)) dNil)))))) (dSeq (dSet (dName 11) (dBin kAdd (dVar 4) (dBin kMul (dVar 5) (dCall tk (dCons (dVar 0) (dCons (dVar 3) dNil)))))) (dSeq (dIfS (dTest (dBin kEq (dLcE (dLc (dIt (dVar 8)) (dName 12) (dAnd (dTest (dBin kEq (dBin kIx (dVar 12) (dC (.int 2))) (dVar 11))) (dTest (dBin kGe (dBin kIx (dVar 12) (dC (.int 1))) (dVar 7)))) (dVar 12) [12])) (dLst dNil))) (dSeq (dDrop (dApN (dVar 8) (dTup (dCons (dVar 7) (dCons (dVar 10) (dCons (dVar 11) dNil)))))) dNext) dNext) dNext))))) (dSeq (dRet (dB kSortT (dCons (dVar 8) dNil))) dNext))))))))
def R_notes (c0 : Int) : DS := R_notesG (m_take c0)
def m_notes (c0 : Int) : SpD := mD 13 2 (R_notes c0)
/-- one pitch: the one wholly ahead of the other -/
def Ap (a b : Tri) : Prop := a.2.2 = b.2.2 → (a.2.1 < b.1 ∨ b.2.1 < a.1)
theorem Ap.symm {a b : Tri} (h : Ap a b) : Ap b a := fun e => (h e.symm).symm
theorem noOv_srt {ts : List Tri} (hv : ∀ t ∈ ts, vN t) (h : ts.Pairwise Ap) : noOv (srt ts) := by
  have h1 : (srt ts).Pairwise Ap := (srt_perm ts).symm.pairwise h fun {a b} q => q.symm
  have h2 := srt_sorted ts
  refine (h1.and h2).imp_of_mem fun {a b} ha hb q e => ?_
  obtain ⟨q1, q2⟩ := q
  have va := hv a (srt_mem.mp ha)
  have vb := hv b (srt_mem.mp hb)
  rcases q1 e with q1 | q1
  · exact q1
  · exfalso
    unfold vN at va vb
    unfold cdT at q2
    omega
def pyT (t : Tri) : PyData := .tuple [.int t.1, .int t.2.1, .int t.2.2]
theorem toPyA_tri (g : Nat → Option PyData) : ∀ ts : List Tri, toPyA g (ts.map triD) = some (ts.map pyT)
  | [] => by simp [toPyA]
  | t :: ts => by
    rw [List.map_cons, List.map_cons]
    simp only [toPyA, toPyA_tri g ts]
    obtain ⟨a, b, c⟩ := t
    simp [triD, pyT, toPyF, toPyA]
theorem toPy_tri {st : List Ob} (ts : List Tri) : toPy st (.lst (ts.map triD)) = some (.list (ts.map pyT)) := by
  unfold toPy
  simp only [toPyF, toPyA_tri]
  rfl
theorem wt_small {i : Int} (h : 0 ≤ i ∧ i < 20000) : (PyData.int i).weight ≤ 100 := by
  simp only [PyData.weight]
  split
  · omega
  · rename_i h0
    have h1 : i.natAbs ≠ 0 := by
      intro z
      apply h0
      have : i = 0 := by omega
      simp [this]
    have : i.natAbs.log2 < 15 := (Nat.log2_lt h1).mpr (by omega)
    omega
theorem it_tri {t : Tri} (h : bdT t) : gdP (pyT t) = true ∧ (pyT t).depth ≤ 5 ∧ (pyT t).weight ≤ 4000 := by
  obtain ⟨a, b, c⟩ := t
  unfold bdT at h
  simp only at h
  have h1 := it_int (i := a) (by omega)
  have h2 := it_int (i := b) (by omega)
  have h3 := it_int (i := c) (by omega)
  have k := items_gd [.int a, .int b, .int c] (fun x hx => by
    simp only [List.mem_cons, List.not_mem_nil, or_false] at hx
    rcases hx with rfl | rfl | rfl <;> assumption)
  refine ⟨?_, ?_, ?_⟩
  · show gdP (.tuple [.int a, .int b, .int c]) = true
    unfold gdP; exact k.1
  · show (PyData.tuple [.int a, .int b, .int c]).depth ≤ 5
    simp [PyData.depth, PyData.depthAll]
  · show (PyData.tuple [.int a, .int b, .int c]).weight ≤ 4000
    have w1 := wt_small (i := a) (by omega)
    have w2 := wt_small (i := b) (by omega)
    have w3 := wt_small (i := c) (by omega)
    have e : (PyData.tuple [.int a, .int b, .int c]).weight = PyData.weightAll [.int a, .int b, .int c] := by rw [PyData.weight]
    rw [e]
    simp only [PyData.weightAll]
    omega
theorem gd_tris {ts : List Tri} (h : ∀ t ∈ ts, bdT t) (hl : ts.length ≤ 100) : Gd (.list (ts.map pyT)) :=
  lst_gd (fun x hx => by
    obtain ⟨t, ht, rfl⟩ := List.mem_map.mp hx
    exact it_tri (h t ht)) (by rw [List.length_map]; exact hl)
/-- a list of notes against the empty one -/
theorem kEq_nil {st : List Ob} {ts : List Tri} {K : DK} (h : ∀ t ∈ ts, bdT t) (hl : ts.length ≤ 100) (k : K (.bl (decide (ts = []))) st) : kEq (.lst (ts.map triD)) (.lst []) st K := by
  unfold kEq
  simp only [scEq]
  refine ⟨_, _, toPy_tri ts, toPy_tri [], (gd_tris h hl).shaped, (gd_tris (ts := []) (fun t h => by cases h) (by simp)).shaped, ?_⟩
  have : PyData.eqv (.list (ts.map pyT)) (.list (([] : List Tri).map pyT)) = decide (ts = []) := by
    cases ts with
    | nil => simp [PyData.eqv, PyData.eqvAll]
    | cons t ts => simp [PyData.eqv, PyData.eqvAll]
  rw [this]
  exact k
section
variable {c0 : Int} {n c : Nat} {st : List Ob} {E : XK'}
/-- the walk's own part: what the notes so far are -/
structure Nts (v : Nat) (st : List Ob) (n c : Nat) (at_ : Int) (i : Nat) (ts : List Tri) (s : List Ob) : Prop where
  bx : Bx s n (c + 11 + 6 * i)
  g : s[v]? = some (.lst (ts.map triD))
  len : s.length = st.length + 1
  keep : ∀ m, m ≠ n → m < st.length → s[m]? = st[m]?
  at0 : 0 ≤ at_
  at1 : at_ ≤ 49 + 149 * i
  hl : ts.length ≤ i
  hv : ∀ t ∈ ts, vN t ∧ t.1 ≤ at_
  ap : ts.Pairwise Ap
theorem kAddI {st : List Ob} {i j : Int} {K : DK} (k : K (.int (i + j)) st) : kAdd (.int i) (.int j) st K := k
theorem kMulI {st : List Ob} {i j : Int} {K : DK} (h : CMulW i j) (k : K (.int (i * j)) st) : kMul (.int i) (.int j) st K := ⟨h, k⟩
/-- what is asked of the law's drawing -/
structure TkOk (tk : SpD) : Prop where
  ok : ∀ {n c : Nat} {st : List Ob} {many : Int} {Q : SV → List Ob → Prop} {E : XK'}, Bx st n c → c + 1 ≤ 1000000 → 0 < many → many < 2 ^ 64 → (∀ r st', 0 ≤ r → r < many → Stp n st st' (c + 1) → Q (.d (.int r)) st') → tk [.obj n, .int many] st Q E
theorem notes_okG {tk : SpD} (T : TkOk tk) {most mb : Int} {Q : SV → List Ob → Prop} (h : Bx st n c) (hc : c + 400 ≤ 1000000) (hm : 1 ≤ most ∧ most ≤ mb ∧ 3 ≤ mb ∧ mb ≤ 60)
    (q : ∀ (ts : List Tri) st', (ts.length : Int) ≤ mb → (∀ t ∈ ts, vN t ∧ t.1 ≤ 8989) → noOv ts → srt ts = ts → Bx st' n (c + 371) → st.length ≤ st'.length → (∀ m, m ≠ n → m < st.length → st'[m]? = st[m]?) → Q (.d (.lst (ts.map triD))) st') : mD 13 2 (R_notesG tk) [.obj n, .int most] st Q E := by
  simp only [R_notesG, mD, dSeq, dSet, dPar, dBin, dLst, dLstN, dCall, dCons, dNil, dVar, dC, dName, dNext]
  have l4 : ∀ a b c d : D, [a, b, c, d].length ≤ sizeLine := fun a b c d => by show 4 ≤ sizeLine; rw [sizeLine_eq]; decide
  have l2 : ∀ a b : D, [a, b].length ≤ sizeLine := fun a b => by show 2 ≤ sizeLine; rw [sizeLine_eq]; decide
  refine ⟨rfl, ?_⟩
  -- many
  refine ⟨_, rfl, _, rfl, _, rfl, _, rfl, kAddI (T.ok (many := most + 1) h (by omega) (by omega) (by omega) (fun m1 s1 a1 b1 p1 => ⟨rfl, ?_⟩))⟩
  refine ⟨_, rfl, T.ok (many := 4) p1.2 (by omega) (by decide) (by decide) (fun m2 s2 a2 b2 p2 => ⟨rfl, ⟨l4 _ _ _ _, ?_⟩⟩)⟩
  refine ⟨_, rfl, T.ok (many := 4) p2.2 (by omega) (by decide) (by decide) (fun m3 s3 a3 b3 p3 => ⟨rfl, ?_⟩)⟩
  refine kIx_lst a3 (by show m3 < 4; exact b3) fun d hd => ?_
  obtain ⟨many, rfl, hm0, hm1⟩ : ∃ many, d = .int many ∧ 0 ≤ many ∧ many ≤ mb := by
    simp only [List.mem_cons, List.not_mem_nil, or_false] at hd
    rcases hd with rfl | rfl | rfl | rfl
    · exact ⟨_, rfl, by omega, by omega⟩
    · exact ⟨_, rfl, by omega, by omega⟩
    · exact ⟨_, rfl, by omega, by omega⟩
    · exact ⟨_, rfl, by omega, by omega⟩
  have t3 := (p1.trans p2).trans p3
  clear p1 p2 p3 hd
  -- few
  refine ⟨_, rfl, T.ok (many := 4) t3.2 (by omega) (by decide) (by decide) (fun f1 s4 a4 b4 p4 => ⟨rfl, kAddI ?_⟩)⟩
  refine ⟨_, rfl, T.ok (many := 12) p4.2 (by omega) (by decide) (by decide) (fun f2 s5 a5 b5 p5 => ⟨rfl, kAddI ⟨l4 _ _ _ _, ?_⟩⟩)⟩
  refine ⟨_, rfl, T.ok (many := 4) p5.2 (by omega) (by decide) (by decide) (fun f3 s6 a6 b6 p6 => ⟨rfl, ?_⟩)⟩
  refine kIx_lst a6 (by show f3 < 4; exact b6) fun d hd => ?_
  obtain ⟨few, rfl, hf0, hf1⟩ : ∃ few, d = .int few ∧ 1 ≤ few ∧ few ≤ 12 := by
    simp only [List.mem_cons, List.not_mem_nil, or_false] at hd
    rcases hd with rfl | rfl | rfl | rfl
    · exact ⟨_, rfl, by omega, by omega⟩
    · exact ⟨_, rfl, by omega, by omega⟩
    · exact ⟨_, rfl, by omega, by omega⟩
    · exact ⟨_, rfl, by omega, by omega⟩
  have t6 := ((t3.trans p4).trans p5).trans p6
  clear t3 p4 p5 p6 hd
  -- low, step
  refine ⟨_, rfl, T.ok (many := 60) t6.2 (by omega) (by decide) (by decide) (fun low s7 a7 b7 p7 => ⟨rfl, ?_⟩)⟩
  refine ⟨_, rfl, T.ok (many := 4) p7.2 (by omega) (by decide) (by decide) (fun stp s8 a8 b8 p8 => ⟨rfl, kAddI ⟨_, _, rfl, ?_⟩⟩)⟩
  have t8 := (t6.trans p7).trans p8
  clear t6 p7 p8
  -- wide
  refine ⟨l4 _ _ _ _, _, rfl, T.ok (many := 4) t8.2 (by omega) (by decide) (by decide) (fun w1 s9 a9 b9 p9 => ⟨rfl, ?_⟩)⟩
  refine kIx_lst a9 (by show w1 < 4; exact b9) fun d hd => ?_
  obtain ⟨wide, rfl, hw0, hw1⟩ : ∃ wide, d = .int wide ∧ 1 ≤ wide ∧ wide ≤ 150 := by
    simp only [List.mem_cons, List.not_mem_nil, or_false] at hd
    rcases hd with rfl | rfl | rfl | rfl
    · exact ⟨_, rfl, by omega, by omega⟩
    · exact ⟨_, rfl, by omega, by omega⟩
    · exact ⟨_, rfl, by omega, by omega⟩
    · exact ⟨_, rfl, by omega, by omega⟩
  have t9 := t8.trans p9
  clear t8 p9 hd
  -- at
  refine ⟨_, rfl, T.ok (many := 50) t9.2 (by omega) (by decide) (by decide) (fun w2 s10 a10 b10 p10 => ⟨rfl, ⟨l2 _ _, ?_⟩⟩)⟩
  refine ⟨_, rfl, T.ok (many := 2) p10.2 (by omega) (by decide) (by decide) (fun w3 s11 a11 b11 p11 => ⟨rfl, ?_⟩)⟩
  refine kIx_lst a11 (by show w3 < 2; exact b11) fun d hd => ?_
  obtain ⟨at0, rfl, hat0, hat1⟩ : ∃ at0, d = .int at0 ∧ 0 ≤ at0 ∧ at0 ≤ 49 := by
    simp only [List.mem_cons, List.not_mem_nil, or_false] at hd
    rcases hd with rfl | rfl
    · exact ⟨_, rfl, by omega, by omega⟩
    · exact ⟨_, rfl, by omega, by omega⟩
  have t11 := (t9.trans p10).trans p11
  clear t9 p10 p11 hd
  refine ⟨by show 0 ≤ sizeLine; exact Nat.zero_le _, ?_⟩
  have hv0 : s11.length = st.length := t11.len
  have hbx0 : Bx (s11 ++ [Ob.lst []]) n (c + 11) := (t11.2.mono (by omega)).app
  have hg0 : (s11 ++ [Ob.lst []])[s11.length]? = some (.lst []) := by rw [List.getElem?_append_right (Nat.le_refl _), Nat.sub_self]; rfl
  have hk0 : ∀ m, m ≠ n → m < st.length → (s11 ++ [Ob.lst []])[m]? = st[m]? := fun m h1 h2 => by
    rw [List.getElem?_append_left (by omega)]
    exact t11.get (fun z => h1 z.symm)
  have hnv : n ≠ s11.length := by have := h.lt; omega
  have hlen0 : (s11 ++ [Ob.lst []]).length = st.length + 1 := by rw [List.length_append, hv0]; rfl
  simp only [dFor, dRng1, dVar]
  refine ⟨_, rfl, many, rfl, by omega, by omega, ?_⟩
  generalize hv : s11.length = v at hg0 hnv hv0 ⊢
  generalize s11 ++ [Ob.lst []] = s12 at hbx0 hg0 hk0 hlen0 ⊢
  refine loop_inv (rngD 0 many.toNat) (fun i s => ∃ at_ ts x9 x10 x11 x12, s.sl = [some (.d (.obj n)), some (.d (.int most)), some (.d (.int many)), some (.d (.int few)), some (.d (.int low)), some (.d (.int (1 + stp))), some (.d (.int wide)), some (.d (.int at_)), some (.d (.obj v)), x9, x10, x11, x12] ∧ Nts v st n c at_ i ts s.st)
    ⟨at0, [], _, _, _, _, rfl, ⟨hbx0, hg0, hlen0, hk0, hat0, by omega, Nat.le_refl _, (fun t ht => by cases ht), .nil⟩⟩ (fun i d s nx hd hI k => ?_) (fun s hI => ?_)
  · obtain ⟨at_, ts, x9, x10, x11, x12, h2, N⟩ := hI
    obtain ⟨sl, s0⟩ := s
    simp only at h2 N
    subst h2
    have hi : i < many.toNat := by
      have := (List.getElem?_eq_some_iff.mp hd).1
      rwa [rngD, List.length_map, List.length_range] at this
    refine ⟨True.intro, ?_⟩
    obtain ⟨bx, g, hln, kp, ha0, ha1, hl, hvv, hap⟩ := N
    refine ⟨_, rfl, _, rfl, _, rfl, T.ok (many := wide) bx (by omega) (by omega) (by omega) (fun u1 s1 a1 b1 p1 => ⟨rfl, kAddI ?_⟩)⟩
    refine ⟨_, rfl, _, rfl, T.ok (many := 4) p1.2 (by omega) (by decide) (by decide) (fun u2 s2 a2 b2 p2 => ⟨rfl, ?_⟩)⟩
    refine ⟨_, rfl, _, rfl, T.ok (many := wide) p2.2 (by omega) (by omega) (by omega) (fun u3 s3 a3 b3 p3 => ⟨rfl, l4 _ _ _ _, ?_⟩)⟩
    refine ⟨_, rfl, T.ok (many := 4) p3.2 (by omega) (by decide) (by decide) (fun u4 s4 a4 b4 p4 => ⟨rfl, ?_⟩)⟩
    refine kIx_lst a4 (by show u4 < 4; exact b4) fun d hd => ?_
    obtain ⟨ln, rfl, hl0, hl1⟩ : ∃ ln, d = .int ln ∧ 0 ≤ ln ∧ ln ≤ 149 := by
      simp only [List.mem_cons, List.not_mem_nil, or_false] at hd
      rcases hd with rfl | rfl | rfl | rfl
      · exact ⟨_, rfl, by omega, by omega⟩
      · exact ⟨_, rfl, by omega, by omega⟩
      · exact ⟨_, rfl, by omega, by omega⟩
      · exact ⟨_, rfl, by omega, by omega⟩
    refine kAddI ?_
    refine ⟨_, rfl, _, rfl, _, rfl, _, rfl, T.ok (many := few) p4.2 (by omega) (by omega) (by omega) (fun u5 s5 a5 b5 p5 => ⟨rfl, kMulI (cmul (by omega) (by omega) a5 (by omega)) (kAddI ?_)⟩)⟩
    have t5 := (((p1.trans p2).trans p3).trans p4).trans p5
    clear p1 p2 p3 p4 p5 hd
    have hp0 : 0 ≤ low + (1 + stp) * u5 ∧ low + (1 + stp) * u5 ≤ 119 := by
      have h1 : 0 ≤ (1 + stp) * u5 := Int.mul_nonneg (by omega) a5
      have h2 : (1 + stp) * u5 ≤ 4 * 11 := Int.mul_le_mul (by omega) (by omega) a5 (by omega)
      omega
    generalize low + (1 + stp) * u5 = pit at hp0 ⊢
    have g5 : s5[v]? = some (.lst (ts.map triD)) := by rw [t5.get hnv]; exact g
    simp only [dIfS, dTest, dBin, dLcE, dLst, dNil, dIt, dLc, dVar, dName, dAnd, dC]
    refine ⟨_, rfl, ts.map triD, g5, ?_⟩
    refine comp_fm (fun d => match d with | .tup [_, .int e, .int p] => decide (p = pit) && decide (at_ + u1 ≤ e) | _ => false) id g5 _ [] _ (by rw [List.length_nil, List.length_map, sizeLine_eq]; omega) (fun d hd K K0 hK hK0 => ?_) ?_
    · obtain ⟨t, ht, rfl⟩ := List.mem_map.mp hd
      obtain ⟨ta, tb, tc⟩ := t
      simp only [triD] at hK hK0
      simp only [dName, dAnd, dTest, dBin, dVar, dC]
      refine ⟨triD (ta, tb, tc), rfl, kIx_tri.2.2 ⟨.int pit, rfl, ?_⟩⟩
      refine ⟨_, rfl, ?_⟩
      by_cases e1 : tc = pit
      · rw [if_pos (by simpa using e1)]
        refine ⟨triD (ta, tb, tc), rfl, kIx_tri.2.1 ⟨.int (at_ + u1), rfl, True.intro, _, rfl, ?_⟩⟩
        by_cases e2 : at_ + u1 ≤ tb
        · rw [if_pos (by simpa using e2)]
          exact ⟨_, rfl, hK (by simp [e1, e2])⟩
        · rw [if_neg (by simpa using e2)]
          exact hK0 (by simp [e1, e2])
      · rw [if_neg (by simpa using e1)]
        rw [if_neg (by simp)]
        exact hK0 (by simp [e1])
    · rw [List.nil_append, List.map_id, List.filter_map]
      refine ⟨Nat.zero_le _, kEq_nil (fun t ht => ((hvv t (List.mem_filter.mp ht).1).1).bd) (Nat.le_trans (List.length_filter_le _ _) (by omega)) ⟨_, rfl, ?_⟩⟩
      show if _ = true then _ else _
      by_cases ef : ts.filter ((fun d => match d with | .tup [_, .int e, .int p] => decide (p = pit) && decide (at_ + u1 ≤ e) | _ => false) ∘ triD) = []
      · rw [if_pos (by simpa using ef)]
        have hap2 : ∀ t ∈ ts, Ap t (at_ + u1, at_ + u1 + ln, pit) := fun t ht e => by
          have := List.filter_eq_nil_iff.mp ef t ht
          obtain ⟨ta, tb, tc⟩ := t
          simp only at e
          simp only [triD, Function.comp_apply, Bool.and_eq_true, decide_eq_true_eq, e, true_and] at this
          left
          show tb < at_ + u1
          omega
        simp only [dSeq, dDrop, dApN, dTup, dCons, dNil, dVar, dNext]
        refine ⟨_, rfl, ⟨v, _, rfl, g5⟩, _, rfl, _, rfl, _, rfl, by show 3 ≤ sizeLine; rw [sizeLine_eq]; decide, v, _, rfl, g5, by rw [List.length_map, sizeLine_eq]; omega, ?_⟩
        have hvl : v < s5.length := (List.getElem?_eq_some_iff.mp g5).1
        refine k _ ⟨_, ts ++ [(at_ + u1, at_ + u1 + ln, pit)], _, _, _, _, rfl, ⟨?_, ?_, ?_, fun m h1 h2 => ?_, by omega, by omega, ?_, fun t ht => ?_, ?_⟩⟩
        · obtain ⟨x, y, z, e, r⟩ := t5.2
          exact Bx.mono (c := c + 11 + 6 * i + 1 + 1 + 1 + 1 + 1) ⟨x, y, z, by rw [List.getElem?_set_ne (Ne.symm hnv)]; exact e, r⟩ (by omega)
        · rw [List.getElem?_set_self hvl, List.map_append]; rfl
        · rw [List.length_set, t5.len]; exact hln
        · rw [List.getElem?_set_ne (by omega), t5.get (fun z => h1 z.symm)]; exact kp m h1 h2
        · rw [List.length_append, List.length_singleton]; omega
        · rcases List.mem_append.mp ht with ht | ht
          · exact ⟨(hvv t ht).1, by have := (hvv t ht).2; omega⟩
          · have : t = (at_ + u1, at_ + u1 + ln, pit) := by simpa using ht
            subst this
            refine ⟨?_, Int.le_refl _⟩
            unfold vN
            simp only
            omega
        · rw [List.pairwise_append]
          refine ⟨hap, List.pairwise_singleton _ _, fun a ha b hb => ?_⟩
          have : b = (at_ + u1, at_ + u1 + ln, pit) := by simpa using hb
          subst this
          exact hap2 a ha
      · rw [if_neg (by simpa using ef)]
        simp only [dNext]
        refine k _ ⟨_, ts, _, _, _, _, rfl, ⟨t5.2.mono (by omega), g5, by rw [t5.len]; exact hln, fun m h1 h2 => by rw [t5.get (fun z => h1 z.symm)]; exact kp m h1 h2, by omega, by omega, by omega, fun t ht => ⟨(hvv t ht).1, by have := (hvv t ht).2; omega⟩, hap⟩⟩
  · obtain ⟨at_, ts, x9, x10, x11, x12, h2, N⟩ := hI
    obtain ⟨sl, s0⟩ := s
    simp only at h2 N
    subst h2
    have hlen : (rngD 0 many.toNat).length = many.toNat := by rw [rngD, List.length_map, List.length_range]
    rw [hlen] at N
    refine ⟨True.intro, ?_⟩
    simp only [dRet, dB, dCons, dNil, dVar]
    have hl := N.hl
    have hvs : ∀ t ∈ ts, vN t := fun t ht => (N.hv t ht).1
    refine ⟨_, rfl, ⟨ts, ?_, by omega, fun t ht => (hvs t ht).bd, ?_⟩⟩
    · show asLst s0 (.obj v) = _
      simp only [asLst, N.g]
    · refine q (srt ts) s0 (by rw [srt_len]; omega) (fun t ht => ⟨hvs t (srt_mem.mp ht), by have := (N.hv t (srt_mem.mp ht)).2; have := N.at1; omega⟩) (noOv_srt hvs N.ap) (srt_idem fun t ht => (hvs t ht).bd) (N.bx.mono (by omega)) (by rw [N.len]; omega) N.keep
theorem notes_ok {most : Int} {Q : SV → List Ob → Prop} (h : Bx st n c) (hc : c + 400 ≤ 1000000) (hm : 3 ≤ most ∧ most ≤ 60)
    (q : ∀ (ts : List Tri) st', (ts.length : Int) ≤ most → (∀ t ∈ ts, vN t) → noOv ts → srt ts = ts → Bx st' n (c + 371) → st.length ≤ st'.length → (∀ m, m ≠ n → m < st.length → st'[m]? = st[m]?) → Q (.d (.lst (ts.map triD))) st')
    (hc0 : 0 ≤ c0 ∧ c0 ≤ 1000000 := by decide) : m_notes c0 [.obj n, .int most] st Q E :=
  notes_okG ⟨fun h1 h2 h3 h4 h5 => take_ok h1 h2 h3 h4 h5 hc0⟩ h hc ⟨by omega, Int.le_refl _, hm⟩ fun ts st' h1 h2 => q ts st' h1 fun t ht => (h2 t ht).1
theorem notes_ok1 {most : Int} {Q : SV → List Ob → Prop} (h : Bx st n c) (hc : c + 400 ≤ 1000000) (hm : 1 ≤ most ∧ most ≤ 3)
    (q : ∀ (ts : List Tri) st', (ts.length : Int) ≤ 3 → (∀ t ∈ ts, vN t) → noOv ts → srt ts = ts → Bx st' n (c + 371) → st.length ≤ st'.length → (∀ m, m ≠ n → m < st.length → st'[m]? = st[m]?) → Q (.d (.lst (ts.map triD))) st')
    (hc0 : 0 ≤ c0 ∧ c0 ≤ 1000000 := by decide) : m_notes c0 [.obj n, .int most] st Q E :=
  notes_okG ⟨fun h1 h2 h3 h4 h5 => take_ok h1 h2 h3 h4 h5 hc0⟩ h hc ⟨hm.1, hm.2, by decide, by decide⟩ fun ts st' h1 h2 => q ts st' h1 fun t ht => (h2 t ht).1
theorem notes_okB {most : Int} {Q : SV → List Ob → Prop} (h : Bx st n c) (hc : c + 400 ≤ 1000000) (hm : 3 ≤ most ∧ most ≤ 60)
    (q : ∀ (ts : List Tri) st', (ts.length : Int) ≤ most → (∀ t ∈ ts, vN t ∧ t.1 ≤ 8989) → noOv ts → srt ts = ts → Bx st' n (c + 371) → st.length ≤ st'.length → (∀ m, m ≠ n → m < st.length → st'[m]? = st[m]?) → Q (.d (.lst (ts.map triD))) st')
    (hc0 : 0 ≤ c0 ∧ c0 ≤ 1000000 := by decide) : m_notes c0 [.obj n, .int most] st Q E :=
  notes_okG ⟨fun h1 h2 h3 h4 h5 => take_ok h1 h2 h3 h4 h5 hc0⟩ h hc ⟨by omega, Int.le_refl _, hm⟩ q
end
end Kt
set_option maxHeartbeats 1000000
/-! Kt40: max(xs, default=d), min(xs, default=d) of a list of whole numbers. -/
namespace Kt
open PySem PySem.Spec L2
open PyProof.Rows
section
variable {prog : Program} {w : World} {A : Around} {R : Result → Shared → Prop} {l I S : Addr} {its : List Value} {ns : List Int} {d : Value}
abbrev dfl (d : Value) : List (Str × Value) := [(Str.ofString "default", d)]
/-- the best so far, at the list S -/
def BestAt (le : Int → Int → Prop) (ns : List Int) (S : Addr) (j : Nat) (h : Heap) : Prop :=
  (j = 0 ∧ ∃ c, h.get? S = some { cls := .type "list", dict := none, data := .seq #[] c, slots := #[] }) ∨
  ∃ m t c, 1 ≤ j ∧ h.get? S = some { cls := .type "list", dict := none, data := .seq #[.int m t, .int m t] c, slots := #[] } ∧ m ∈ ns.take j ∧ ∀ a ∈ ns.take j, le a m
/-- how it ends -/
def EndAt (le : Int → Int → Prop) (ns : List Int) (S : Addr) (wr : List Addr) (d : Value) (R : Result → Shared → Prop) (s : Shared) : Prop :=
  ∀ v h' tk, (ns = [] ∧ v = d) ∨ (∃ m t, v = .int m t ∧ m ∈ ns ∧ ∀ a ∈ ns, le a m) → (∀ b o, b ∉ wr → b ≠ S → s.heap.get? b = some o → h'.get? b = some o) → R (.ok (.ret v)) { s with heap := h', toks := tk }
theorem take_snoc {ns : List Int} {j : Nat} {a : Int} (h : ns[j]? = some a) : ns.take (j + 1) = ns.take j ++ [a] := by rw [List.take_succ, h]; rfl
theorem max_loopD (hh : A.in1.handled = none) (hne : l ≠ I) (hi : IntsAre its ns) (hSI : S ≠ I) (hSl : S ≠ l) :
    ∀ (k j : Nat) (s : Shared), ns.length - j = k → j ≤ ns.length → s.heap.IsListIter I l j → s.heap.IsList l its.toArray → BestAt (fun a m => a ≤ m) ns S j s.heap → EndAt (fun a m => a ≤ m) ns S [I] d R s →
    codeAny (model prog w) A (.builtin "max.loop" ⟨[.ref I, .none, .ref S], dfl d⟩) R s := by
  have W := Walks.list (prog := prog) (w := w) hh I l hne its.toArray
  have hsz : its.toArray.size = ns.length := by rw [List.size_toArray, hi.length]
  have hname : (toString "max" ++ toString ".loop" : String) = "max.loop" := by decide
  intro k
  induction k with
  | zero =>
    intro j s hk hj hit hl hb hR
    have hjn : j = its.toArray.size := by omega
    subst hjn
    have hw : ∀ b, b ∉ [I] → b ≠ I := fun b hb e => hb (by rw [e]; simp)
    rcases hb with ⟨h0, c, hS⟩ | ⟨m, t, c, h1, hS, hm, hle⟩
    · have run : wpAny (model prog w) A.in1 (Builtin.«max.loop» ⟨[.ref I, .none, .ref S], dfl d⟩) (fun fin s' => match fin with | .done f => R (.ok f) s' | .again c' => c'.quiet = true ∧ codeAny (model prog w) A c' R s') (fun e s' => R (.error e) s') s := by
        show wpAny _ A.in1 (seqItems? (.ref S) >>= _) _ _ s
        refine wpAny_bind (wpAny_seqItems hS rfl (show wpAny _ A.in1 (tryCatch (pyNext (.ref I)) _ >>= _) _ _ s from ?_))
        refine wpAny_bind (wpAny_tryCatch (W.done s _ _ ⟨hit, hl⟩ fun h' tk hk' => show wpAny _ A.in1 (rule _ >>= fun _ => ret d) _ _ _ from wpAny_bind (wpAny_rule (wpAny_pure (hR d h' tk (.inl ⟨?_, rfl⟩) fun b o hb1 _ e => hk' b o hb1 e)))))
        exact List.eq_nil_of_length_eq_zero (by omega)
      exact codeAny_builtin F.entry_max_loop (by rw [Around.under_plainId F.plain_max_loop _]; exact run)
    · have run : wpAny (model prog w) A.in1 (Builtin.«max.loop» ⟨[.ref I, .none, .ref S], dfl d⟩) (fun fin s' => match fin with | .done f => R (.ok f) s' | .again c' => c'.quiet = true ∧ codeAny (model prog w) A c' R s') (fun e s' => R (.error e) s') s := by
        show wpAny _ A.in1 (seqItems? (.ref S) >>= _) _ _ s
        refine wpAny_bind (wpAny_seqItems hS rfl (show wpAny _ A.in1 (tryCatch (pyNext (.ref I)) _ >>= _) _ _ s from ?_))
        refine wpAny_bind (wpAny_tryCatch (W.done s _ _ ⟨hit, hl⟩ fun h' tk hk' => show wpAny _ A.in1 (updateSeq S (fun _ => #[]) >>= _) _ _ _ from ?_))
        refine wpAny_bind (wpAny_updateSeq (hk' S _ (by simpa using hSI) hS) rfl (wpAny_bind (wpAny_letGo (wpAny_pure (hR _ _ _ (.inr ⟨m, t, rfl, List.mem_of_mem_take hm, fun a ha => hle a ?_⟩) fun b o hb1 hbS e => (Heap.get?_update_other _ _ (Ne.symm hbS)).trans (hk' b o hb1 e))))))
        rw [List.take_of_length_le (by omega)]; exact ha
      exact codeAny_builtin F.entry_max_loop (by rw [Around.under_plainId F.plain_max_loop _]; exact run)
  | succ k ih =>
    intro j s hk hj hit hl hb hR
    have hlt : j < its.toArray.size := by omega
    have out : ∀ {h1 : Heap} {t1 : Tok}, (∀ b o, b ∉ [I] → b ≠ S → s.heap.get? b = some o → h1.get? b = some o) → EndAt (fun a m => a ≤ m) ns S [I] d R { s with heap := h1, toks := t1 } := fun {h1 t1} keep v h' tk hv hk' => hR v h' tk hv fun b o hb1 hbS e => hk' b o hb1 hbS (keep b o hb1 hbS e)
    have next : ∀ {h1 : Heap} {t1 : Tok}, h1.IsListIter I l (j + 1) → h1.IsList l its.toArray → BestAt (fun a m => a ≤ m) ns S (j + 1) h1 → (∀ b o, b ∉ [I] → b ≠ S → s.heap.get? b = some o → h1.get? b = some o) →
        codeAny (model prog w) A (.builtin "max.loop" ⟨[.ref I, .none, .ref S], dfl d⟩) R { s with heap := h1, toks := t1 } := fun {h1 t1} x1 x2 x3 x4 => ih (j + 1) _ (by omega) (by omega) x1 x2 x3 (out x4)
    suffices run : wpAny (model prog w) A.in1 (Builtin.«max.loop» ⟨[.ref I, .none, .ref S], dfl d⟩) (fun fin s' => match fin with | .done f => R (.ok f) s' | .again c' => c'.quiet = true ∧ codeAny (model prog w) A c' R s') (fun e s' => R (.error e) s') s by
      exact codeAny_builtin F.entry_max_loop (by rw [Around.under_plainId F.plain_max_loop _]; exact run)
    show wpAny _ A.in1 (seqItems? (.ref S) >>= _) _ _ s
    have upd_it : ∀ {h1 : Heap} {xs : Array Value}, h1.IsListIter I l (j + 1) → (h1.update S fun o => { o with data := .seq xs 0 }).IsListIter I l (j + 1) → True := fun _ _ => True.intro
    rcases hb with ⟨h0, c, hS⟩ | ⟨m, t, c, h1, hS, hm, hle⟩
    · refine wpAny_bind (wpAny_seqItems hS rfl (show wpAny _ A.in1 (tryCatch (pyNext (.ref I)) _ >>= _) _ _ s from ?_))
      refine wpAny_bind (wpAny_tryCatch (W.item j s _ _ hlt ⟨hit, hl⟩ fun v h' tk hv hst hk' => show wpAny _ A.in1 (updateSeq S (fun _ => #[v, v]) >>= _) _ _ _ from ?_))
      have hS' := hk' S _ (by simpa using hSI) hS
      refine wpAny_bind (wpAny_updateSeq hS' rfl ?_)
      rw [hname]
      refine wpAny_pure ⟨plainId_quiet F.plain_max_loop _, next (hst.1.at fun o e => (Heap.get?_update_other _ _ hSI).trans e) (hst.2.at fun o e => (Heap.get?_update_other _ _ hSl).trans e) ?_ fun b o hb1 hbS e => (Heap.get?_update_other _ _ (Ne.symm hbS)).trans (hk' b o hb1 e)⟩
      obtain ⟨a, u, rfl, ha⟩ := hi.at j v (by simpa using hv)
      refine .inr ⟨a, u, _, Nat.le_add_left _ _, Heap.get?_update_self _ hS' rfl, ?_, ?_⟩
      · rw [take_snoc ha]; simp
      · rw [take_snoc ha, h0]; simp
    · refine wpAny_bind (wpAny_seqItems hS rfl (show wpAny _ A.in1 (tryCatch (pyNext (.ref I)) _ >>= _) _ _ s from ?_))
      refine wpAny_bind (wpAny_tryCatch (W.item j s _ _ hlt ⟨hit, hl⟩ fun v h' tk hv hst hk' => show wpAny _ A.in1 (tryCatch (holding [v, v] (richCompare .Gt v (.int m t) >>= _)) _ >>= _) _ _ _ from ?_))
      have hS' := hk' S _ (by simpa using hSI) hS
      obtain ⟨a, u, rfl, ha⟩ := hi.at j v (by simpa using hv)
      have cmp := CmpOf.ints_gt (prog := prog) (w := w) (A := A.in1) (P := fun i v => ∃ t, v = Value.int (if i = 0 then a else m) t) (fun i => if i = 0 then a else m) (fun _ _ h => h)
      refine wpAny_bind (wpAny_tryCatch (wpAny_holding (wpAny_bind (cmp 0 1 _ _ _ _ _ ⟨u, rfl⟩ ⟨t, rfl⟩ (wpAny_bind (wpAny_holding (wpAny_truthy_bool (wpAny_bind (wpAny_letGo (wpAny_pure ?_))))))))))
      simp only [Nat.one_ne_zero, if_true, if_false]
      by_cases hlt2 : a > m
      · rw [decide_eq_true hlt2]
        simp only [if_true]
        refine wpAny_bind (wpAny_updateSeq hS' rfl (wpAny_bind (wpAny_letGo ?_)))
        rw [hname]
        refine wpAny_pure ⟨plainId_quiet F.plain_max_loop _, next (hst.1.at fun o e => (Heap.get?_update_other _ _ hSI).trans e) (hst.2.at fun o e => (Heap.get?_update_other _ _ hSl).trans e) (.inr ⟨a, u, _, Nat.le_add_left _ _, Heap.get?_update_self _ hS' rfl, ?_, fun b hb => ?_⟩) fun b o hb1 hbS e => (Heap.get?_update_other _ _ (Ne.symm hbS)).trans (hk' b o hb1 e)⟩
        · rw [take_snoc ha]; simp
        · rw [take_snoc ha] at hb
          rcases List.mem_append.mp hb with hb | hb
          · have := hle b hb; show b ≤ a; omega
          · have : b = a := by simpa using hb
            show b ≤ a; omega
      · rw [decide_eq_false hlt2]
        simp only [Bool.false_eq_true, if_false]
        refine wpAny_bind (wpAny_letGo ?_)
        rw [hname]
        refine wpAny_pure ⟨plainId_quiet F.plain_max_loop _, next hst.1 hst.2 (.inr ⟨m, t, _, Nat.le_add_left _ _, hS', ?_, fun b hb => ?_⟩) fun b o hb1 hbS e => hk' b o hb1 e⟩
        · rw [take_snoc ha]; exact List.mem_append_left _ hm
        · rw [take_snoc ha] at hb
          rcases List.mem_append.mp hb with hb | hb
          · exact hle b hb
          · have : b = a := by simpa using hb
            show b ≤ m; omega
theorem min_loopD (hh : A.in1.handled = none) (hne : l ≠ I) (hi : IntsAre its ns) (hSI : S ≠ I) (hSl : S ≠ l) :
    ∀ (k j : Nat) (s : Shared), ns.length - j = k → j ≤ ns.length → s.heap.IsListIter I l j → s.heap.IsList l its.toArray → BestAt (fun a m => m ≤ a) ns S j s.heap → EndAt (fun a m => m ≤ a) ns S [I] d R s →
    codeAny (model prog w) A (.builtin "min.loop" ⟨[.ref I, .none, .ref S], dfl d⟩) R s := by
  have W := Walks.list (prog := prog) (w := w) hh I l hne its.toArray
  have hsz : its.toArray.size = ns.length := by rw [List.size_toArray, hi.length]
  have hname : (toString "min" ++ toString ".loop" : String) = "min.loop" := by decide
  intro k
  induction k with
  | zero =>
    intro j s hk hj hit hl hb hR
    have hjn : j = its.toArray.size := by omega
    subst hjn
    have hw : ∀ b, b ∉ [I] → b ≠ I := fun b hb e => hb (by rw [e]; simp)
    rcases hb with ⟨h0, c, hS⟩ | ⟨m, t, c, h1, hS, hm, hle⟩
    · have run : wpAny (model prog w) A.in1 (Builtin.«min.loop» ⟨[.ref I, .none, .ref S], dfl d⟩) (fun fin s' => match fin with | .done f => R (.ok f) s' | .again c' => c'.quiet = true ∧ codeAny (model prog w) A c' R s') (fun e s' => R (.error e) s') s := by
        show wpAny _ A.in1 (seqItems? (.ref S) >>= _) _ _ s
        refine wpAny_bind (wpAny_seqItems hS rfl (show wpAny _ A.in1 (tryCatch (pyNext (.ref I)) _ >>= _) _ _ s from ?_))
        refine wpAny_bind (wpAny_tryCatch (W.done s _ _ ⟨hit, hl⟩ fun h' tk hk' => show wpAny _ A.in1 (rule _ >>= fun _ => ret d) _ _ _ from wpAny_bind (wpAny_rule (wpAny_pure (hR d h' tk (.inl ⟨?_, rfl⟩) fun b o hb1 _ e => hk' b o hb1 e)))))
        exact List.eq_nil_of_length_eq_zero (by omega)
      exact codeAny_builtin F.entry_min_loop (by rw [Around.under_plainId F.plain_min_loop _]; exact run)
    · have run : wpAny (model prog w) A.in1 (Builtin.«min.loop» ⟨[.ref I, .none, .ref S], dfl d⟩) (fun fin s' => match fin with | .done f => R (.ok f) s' | .again c' => c'.quiet = true ∧ codeAny (model prog w) A c' R s') (fun e s' => R (.error e) s') s := by
        show wpAny _ A.in1 (seqItems? (.ref S) >>= _) _ _ s
        refine wpAny_bind (wpAny_seqItems hS rfl (show wpAny _ A.in1 (tryCatch (pyNext (.ref I)) _ >>= _) _ _ s from ?_))
        refine wpAny_bind (wpAny_tryCatch (W.done s _ _ ⟨hit, hl⟩ fun h' tk hk' => show wpAny _ A.in1 (updateSeq S (fun _ => #[]) >>= _) _ _ _ from ?_))
        refine wpAny_bind (wpAny_updateSeq (hk' S _ (by simpa using hSI) hS) rfl (wpAny_bind (wpAny_letGo (wpAny_pure (hR _ _ _ (.inr ⟨m, t, rfl, List.mem_of_mem_take hm, fun a ha => hle a ?_⟩) fun b o hb1 hbS e => (Heap.get?_update_other _ _ (Ne.symm hbS)).trans (hk' b o hb1 e))))))
        rw [List.take_of_length_le (by omega)]; exact ha
      exact codeAny_builtin F.entry_min_loop (by rw [Around.under_plainId F.plain_min_loop _]; exact run)
  | succ k ih =>
    intro j s hk hj hit hl hb hR
    have hlt : j < its.toArray.size := by omega
    have out : ∀ {h1 : Heap} {t1 : Tok}, (∀ b o, b ∉ [I] → b ≠ S → s.heap.get? b = some o → h1.get? b = some o) → EndAt (fun a m => m ≤ a) ns S [I] d R { s with heap := h1, toks := t1 } := fun {h1 t1} keep v h' tk hv hk' => hR v h' tk hv fun b o hb1 hbS e => hk' b o hb1 hbS (keep b o hb1 hbS e)
    have next : ∀ {h1 : Heap} {t1 : Tok}, h1.IsListIter I l (j + 1) → h1.IsList l its.toArray → BestAt (fun a m => m ≤ a) ns S (j + 1) h1 → (∀ b o, b ∉ [I] → b ≠ S → s.heap.get? b = some o → h1.get? b = some o) →
        codeAny (model prog w) A (.builtin "min.loop" ⟨[.ref I, .none, .ref S], dfl d⟩) R { s with heap := h1, toks := t1 } := fun {h1 t1} x1 x2 x3 x4 => ih (j + 1) _ (by omega) (by omega) x1 x2 x3 (out x4)
    suffices run : wpAny (model prog w) A.in1 (Builtin.«min.loop» ⟨[.ref I, .none, .ref S], dfl d⟩) (fun fin s' => match fin with | .done f => R (.ok f) s' | .again c' => c'.quiet = true ∧ codeAny (model prog w) A c' R s') (fun e s' => R (.error e) s') s by
      exact codeAny_builtin F.entry_min_loop (by rw [Around.under_plainId F.plain_min_loop _]; exact run)
    show wpAny _ A.in1 (seqItems? (.ref S) >>= _) _ _ s
    have upd_it : ∀ {h1 : Heap} {xs : Array Value}, h1.IsListIter I l (j + 1) → (h1.update S fun o => { o with data := .seq xs 0 }).IsListIter I l (j + 1) → True := fun _ _ => True.intro
    rcases hb with ⟨h0, c, hS⟩ | ⟨m, t, c, h1, hS, hm, hle⟩
    · refine wpAny_bind (wpAny_seqItems hS rfl (show wpAny _ A.in1 (tryCatch (pyNext (.ref I)) _ >>= _) _ _ s from ?_))
      refine wpAny_bind (wpAny_tryCatch (W.item j s _ _ hlt ⟨hit, hl⟩ fun v h' tk hv hst hk' => show wpAny _ A.in1 (updateSeq S (fun _ => #[v, v]) >>= _) _ _ _ from ?_))
      have hS' := hk' S _ (by simpa using hSI) hS
      refine wpAny_bind (wpAny_updateSeq hS' rfl ?_)
      rw [hname]
      refine wpAny_pure ⟨plainId_quiet F.plain_min_loop _, next (hst.1.at fun o e => (Heap.get?_update_other _ _ hSI).trans e) (hst.2.at fun o e => (Heap.get?_update_other _ _ hSl).trans e) ?_ fun b o hb1 hbS e => (Heap.get?_update_other _ _ (Ne.symm hbS)).trans (hk' b o hb1 e)⟩
      obtain ⟨a, u, rfl, ha⟩ := hi.at j v (by simpa using hv)
      refine .inr ⟨a, u, _, Nat.le_add_left _ _, Heap.get?_update_self _ hS' rfl, ?_, ?_⟩
      · rw [take_snoc ha]; simp
      · rw [take_snoc ha, h0]; simp
    · refine wpAny_bind (wpAny_seqItems hS rfl (show wpAny _ A.in1 (tryCatch (pyNext (.ref I)) _ >>= _) _ _ s from ?_))
      refine wpAny_bind (wpAny_tryCatch (W.item j s _ _ hlt ⟨hit, hl⟩ fun v h' tk hv hst hk' => show wpAny _ A.in1 (tryCatch (holding [v, v] (richCompare .Lt v (.int m t) >>= _)) _ >>= _) _ _ _ from ?_))
      have hS' := hk' S _ (by simpa using hSI) hS
      obtain ⟨a, u, rfl, ha⟩ := hi.at j v (by simpa using hv)
      have cmp := CmpOf.ints_lt (prog := prog) (w := w) (A := A.in1) (P := fun i v => ∃ t, v = Value.int (if i = 0 then a else m) t) (fun i => if i = 0 then a else m) (fun _ _ h => h)
      refine wpAny_bind (wpAny_tryCatch (wpAny_holding (wpAny_bind (cmp 0 1 _ _ _ _ _ ⟨u, rfl⟩ ⟨t, rfl⟩ (wpAny_bind (wpAny_holding (wpAny_truthy_bool (wpAny_bind (wpAny_letGo (wpAny_pure ?_))))))))))
      simp only [Nat.one_ne_zero, if_true, if_false]
      by_cases hlt2 : a < m
      · rw [decide_eq_true hlt2]
        simp only [if_true]
        refine wpAny_bind (wpAny_updateSeq hS' rfl (wpAny_bind (wpAny_letGo ?_)))
        rw [hname]
        refine wpAny_pure ⟨plainId_quiet F.plain_min_loop _, next (hst.1.at fun o e => (Heap.get?_update_other _ _ hSI).trans e) (hst.2.at fun o e => (Heap.get?_update_other _ _ hSl).trans e) (.inr ⟨a, u, _, Nat.le_add_left _ _, Heap.get?_update_self _ hS' rfl, ?_, fun b hb => ?_⟩) fun b o hb1 hbS e => (Heap.get?_update_other _ _ (Ne.symm hbS)).trans (hk' b o hb1 e)⟩
        · rw [take_snoc ha]; simp
        · rw [take_snoc ha] at hb
          rcases List.mem_append.mp hb with hb | hb
          · have := hle b hb; show a ≤ b; omega
          · have : b = a := by simpa using hb
            show a ≤ b; omega
      · rw [decide_eq_false hlt2]
        simp only [Bool.false_eq_true, if_false]
        refine wpAny_bind (wpAny_letGo ?_)
        rw [hname]
        refine wpAny_pure ⟨plainId_quiet F.plain_min_loop _, next hst.1 hst.2 (.inr ⟨m, t, _, Nat.le_add_left _ _, hS', ?_, fun b hb => ?_⟩) fun b o hb1 hbS e => hk' b o hb1 e⟩
        · rw [take_snoc ha]; exact List.mem_append_left _ hm
        · rw [take_snoc ha] at hb
          rcases List.mem_append.mp hb with hb | hb
          · exact hle b hb
          · have : b = a := by simpa using hb
            show m ≤ b; omega
end
section
variable {prog : Program} {w : World} {A : Around} {E : Value → Shared → Prop} {s : Shared}
theorem tree_kw {id : String} {b : Builtin} {args : List Value} {kw : List (Str × Value)} {Q : Value → Shared → Prop} (hk : builtinKind id = none) (hp : plainId id = true) (hb : entryFor table id = some b) (ha : argsOk id ⟨args, kw⟩)
    (hc : wpAny (model prog w) A.in1 (b ⟨args, kw⟩) (fun fin s' => match fin with
      | .done f => wants Q E (.ok f) s'
      | .again c' => c'.quiet = true ∧ codeAny (model prog w) A c' (wants Q E) s') E s) : wpAny (model prog w) A (call (.builtin id) args kw) Q E s := by
  refine wpAny_call (codeAny_call_builtin hp hb ?_)
  simp only [checkBuiltinCall, hk]
  unfold argsOk at ha
  cases hsig : Manifest.signature? id with
  | none => exact wpAny_pure hc
  | some sig =>
    simp only [hsig] at ha
    have h2 : Bind.checkArgs id sig ⟨args, kw⟩ = pure () := ha
    show wpAny _ A.in1 (Bind.checkArgs id sig ⟨args, kw⟩) _ _ s
    rw [h2]; exact wpAny_pure hc
theorem args_maxD (a d : Value) : argsOk "max" ⟨[a], dfl d⟩ := by unfold argsOk; kernel_rfl
theorem args_minD (a d : Value) : argsOk "min" ⟨[a], dfl d⟩ := by unfold argsOk; kernel_rfl
theorem call_maxD {l : Addr} {its : List Value} {ns : List Int} {d : Value} {Q : Value → Shared → Prop} (hh : A.in1.handled = none) (hl : s.heap.IsList l its.toArray) (hi : IntsAre its ns)
    (h : ∀ v h' tk, (ns = [] ∧ v = d) ∨ (∃ m t, v = .int m t ∧ m ∈ ns ∧ ∀ a ∈ ns, a ≤ m) → (∀ b o, s.heap.get? b = some o → h'.get? b = some o) → Q v { s with heap := h', toks := tk }) :
    wpAny (model prog w) A (call (.builtin "max") [.ref l] (dfl d)) Q E s := by
  have hname : (toString "max" ++ toString ".loop" : String) = "max.loop" := by decide
  refine tree_kw F.kind_max F.plain_max F.entry_max (args_maxD _ _) ?_
  show wpAny _ A.in1 (Builtin.Builtins.bindParams "max" ["key", "default"] 0 ⟨[], dfl d⟩ >>= _) _ _ s
  refine wpAny_bind (wpAny_of_eq (show Builtin.Builtins.bindParams "max" ["key", "default"] 0 ⟨[], dfl d⟩ = pure [none, some d] from rfl) (wpAny_bind (wpAny_pure (wpAny_bind ?_))))
  have hlt : l < s.heap.objs.size := by obtain ⟨_, e, _⟩ := hl; exact Heap.lt_size e
  refine wpAny_pyIter_list hl (wpAny_bind (wpAny_newObj_type ?_))
  rw [hname]
  let h1 := s.heap.push { cls := .type "list_iterator", data := .fields #[.ref l, .int 0 0] }
  have hz : h1.objs.size = s.heap.objs.size + 1 := Heap.size_push _ _
  have it : h1.IsListIter s.heap.objs.size l 0 := ⟨_, Heap.get?_push_size _ rfl, rfl, rfl⟩
  have keep : ∀ b o, h1.get? b = some o → (h1.push { cls := .type "list", data := .seq #[] }).get? b = some o := fun b o e => Heap.get?_push_of_some _ e
  refine wpAny_pure ⟨plainId_quiet F.plain_max_loop _, max_loopD (ns := ns) hh (Nat.ne_of_lt hlt) hi (by show h1.objs.size ≠ _; rw [hz]; exact Nat.succ_ne_self _) (by show h1.objs.size ≠ l; rw [hz]; exact Ne.symm (Nat.ne_of_lt (Nat.lt_succ_of_lt hlt))) _ 0 _ rfl (Nat.zero_le _) (it.at fun o e => keep _ o e) ((hl.push _).at fun o e => keep _ o e) (.inl ⟨rfl, _, Heap.get?_push_size _ rfl⟩) ?_⟩
  intro v h' tk hv hk
  refine h v h' tk hv fun b o e => hk b o (fun hb => ?_) ?_ (keep b o (Heap.get?_push_of_some _ e))
  · exact Nat.ne_of_lt (Heap.lt_size e) (by simpa using hb)
  · show b ≠ h1.objs.size
    rw [hz]; exact Nat.ne_of_lt (Nat.lt_succ_of_lt (Heap.lt_size e))
theorem call_minD {l : Addr} {its : List Value} {ns : List Int} {d : Value} {Q : Value → Shared → Prop} (hh : A.in1.handled = none) (hl : s.heap.IsList l its.toArray) (hi : IntsAre its ns)
    (h : ∀ v h' tk, (ns = [] ∧ v = d) ∨ (∃ m t, v = .int m t ∧ m ∈ ns ∧ ∀ a ∈ ns, m ≤ a) → (∀ b o, s.heap.get? b = some o → h'.get? b = some o) → Q v { s with heap := h', toks := tk }) :
    wpAny (model prog w) A (call (.builtin "min") [.ref l] (dfl d)) Q E s := by
  have hname : (toString "min" ++ toString ".loop" : String) = "min.loop" := by decide
  refine tree_kw F.kind_min F.plain_min F.entry_min (args_minD _ _) ?_
  show wpAny _ A.in1 (Builtin.Builtins.bindParams "min" ["key", "default"] 0 ⟨[], dfl d⟩ >>= _) _ _ s
  refine wpAny_bind (wpAny_of_eq (show Builtin.Builtins.bindParams "min" ["key", "default"] 0 ⟨[], dfl d⟩ = pure [none, some d] from rfl) (wpAny_bind (wpAny_pure (wpAny_bind ?_))))
  have hlt : l < s.heap.objs.size := by obtain ⟨_, e, _⟩ := hl; exact Heap.lt_size e
  refine wpAny_pyIter_list hl (wpAny_bind (wpAny_newObj_type ?_))
  rw [hname]
  let h1 := s.heap.push { cls := .type "list_iterator", data := .fields #[.ref l, .int 0 0] }
  have hz : h1.objs.size = s.heap.objs.size + 1 := Heap.size_push _ _
  have it : h1.IsListIter s.heap.objs.size l 0 := ⟨_, Heap.get?_push_size _ rfl, rfl, rfl⟩
  have keep : ∀ b o, h1.get? b = some o → (h1.push { cls := .type "list", data := .seq #[] }).get? b = some o := fun b o e => Heap.get?_push_of_some _ e
  refine wpAny_pure ⟨plainId_quiet F.plain_min_loop _, min_loopD (ns := ns) hh (Nat.ne_of_lt hlt) hi (by show h1.objs.size ≠ _; rw [hz]; exact Nat.succ_ne_self _) (by show h1.objs.size ≠ l; rw [hz]; exact Ne.symm (Nat.ne_of_lt (Nat.lt_succ_of_lt hlt))) _ 0 _ rfl (Nat.zero_le _) (it.at fun o e => keep _ o e) ((hl.push _).at fun o e => keep _ o e) (.inl ⟨rfl, _, Heap.get?_push_size _ rfl⟩) ?_⟩
  intro v h' tk hv hk
  refine h v h' tk hv fun b o e => hk b o (fun hb => ?_) ?_ (keep b o (Heap.get?_push_of_some _ e))
  · exact Nat.ne_of_lt (Heap.lt_size e) (by simpa using hb)
  · show b ≠ h1.objs.size
    rw [hz]; exact Nat.ne_of_lt (Nat.lt_succ_of_lt (Heap.lt_size e))
end
section
variable {X : Cx} {cl : String → Addr}
def rMaxD (K : PySem.W.Frag) : List V → List V → Hp → VK → Prop := fun vs zs H Q => ∃ (a : Addr) (ns : List Int) (i : Int), vs = [V.ref a] ∧ zs = [.int i] ∧ SqL K H a (ns.map V.int) ∧ (ns = [] → Q (.int i) H) ∧ ∀ m, m ∈ ns → (∀ y ∈ ns, y ≤ m) → Q (.int m) H
theorem cr_maxDf (hc : X.calm = true) : CallRK X (.builtin "max") [Str.ofString "default"] (rMaxD X.K) := by
  intro pins s σ H vs zs us ws Q I r rz h
  obtain ⟨a, ns, i, rfl, rfl, hs, q1, q2⟩ := h
  obtain ⟨its, rv, hl, _⟩ := I.list hs
  rw [Vals.ref1 r]
  obtain ⟨w1, rfl, e1⟩ := vals1 rz
  obtain ⟨t, rfl⟩ := e1
  refine call_maxD (I.ok.hd hc) hl.isList rv.ints fun v h' tk hv hk => ?_
  rcases hv with ⟨hn, rfl⟩ | ⟨m, u, rfl, h1, h2⟩
  · exact ⟨.int i, H, I.kept hk, ⟨_, rfl⟩, q1 hn⟩
  · exact ⟨.int m, H, I.kept hk, ⟨_, rfl⟩, q2 m h1 h2⟩
def rMinD (K : PySem.W.Frag) : List V → List V → Hp → VK → Prop := fun vs zs H Q => ∃ (a : Addr) (ns : List Int) (i : Int), vs = [V.ref a] ∧ zs = [.int i] ∧ SqL K H a (ns.map V.int) ∧ (ns = [] → Q (.int i) H) ∧ ∀ m, m ∈ ns → (∀ y ∈ ns, m ≤ y) → Q (.int m) H
theorem cr_minDf (hc : X.calm = true) : CallRK X (.builtin "min") [Str.ofString "default"] (rMinD X.K) := by
  intro pins s σ H vs zs us ws Q I r rz h
  obtain ⟨a, ns, i, rfl, rfl, hs, q1, q2⟩ := h
  obtain ⟨its, rv, hl, _⟩ := I.list hs
  rw [Vals.ref1 r]
  obtain ⟨w1, rfl, e1⟩ := vals1 rz
  obtain ⟨t, rfl⟩ := e1
  refine call_minD (I.ok.hd hc) hl.isList rv.ints fun v h' tk hv hk => ?_
  rcases hv with ⟨hn, rfl⟩ | ⟨m, u, rfl, h1, h2⟩
  · exact ⟨.int i, H, I.kept hk, ⟨_, rfl⟩, q1 hn⟩
  · exact ⟨.int m, H, I.kept hk, ⟨_, rfl⟩, q2 m h1 h2⟩
/-- max(xs, default=d) -/
def dMxD (le : Int → Int → Prop) (de dd : DE) : DE := fun s Q E => de s (fun d st => dd ⟨s.sl, st⟩ (fun y st2 => ∃ ns i, asLst st2 d = some (ns.map D.int) ∧ y = .int i ∧ (ns = [] → Q (.int i) st2) ∧ ∀ m, m ∈ ns → (∀ y ∈ ns, le y m) → Q (.int m) st2) E) E
abbrev lem : Int → Int → Prop := fun y m => y ≤ m
abbrev gem : Int → Int → Prop := fun y m => m ≤ y
theorem rf_mxD {c : Cf} {le : Int → Int → Prop} {de dd : DE} {te td : WX → TE} (h1 : RfE c te de) (h2 : RfE c td dd) : RfE c (fun W => tCKw (fun vs zs H Q => ∃ (a : Addr) (ns : List Int) (i : Int), vs = [V.ref a] ∧ zs = [.int i] ∧ SqL c.K H a (ns.map V.int) ∧ (ns = [] → Q (.int i) H) ∧ ∀ m, m ∈ ns → (∀ y ∈ ns, le y m) → Q (.int m) H) (tCons (te W) tNil) (tCons (td W) tNil)) (dMxD le de dd) := by
  refine ⟨fun B W σ H F ν s Q E P r w q kk => ?_⟩
  refine h1.go B W σ H F ν s _ E _ r w q fun v H1 F1 ν1 d st1 x1 r1 z1 q1 => ?_
  refine h2.go B W σ H1 F1 ν1 ⟨s.sl, st1⟩ _ E _ r1 (w.next x1) q1 fun u H2 F2 ν2 d2 st2 x2 r2 z2 q2 => ?_
  obtain ⟨ns, i, e1, rfl, k1, k2⟩ := q2
  cases z2
  obtain ⟨a, xs, rfl, hq, qq⟩ := r2.lstq (z1.mono x2) e1
  have e3 := rz_ints_inv qq
  subst e3
  exact ⟨a, ns, i, rfl, rfl, hq, fun hn => kk _ H2 F2 ν2 _ st2 (x1.trans x2) r2 (.int _) (k1 hn), fun m h3 h4 => kk _ H2 F2 ν2 _ st2 (x1.trans x2) r2 (.int _) (k2 m h3 h4)⟩
section
variable {e e2 : Expr} {de dd : DE} {p kp pos : Pos}
theorem x_maxD (hc : X.calm = true) (hg : Gl X "max") (hm : X.mg "max" = none) (ha : Ex X cl e de) (hb : Ex X cl e2 dd)
    (hs : starEach (e :: []) X.env = (false, eval e X.env) :: starEach [] X.env := by rfl)
    (he : backTo pos (starEach (e :: []) X.env) = (false, eval e X.env) :: backTo pos (starEach [] X.env) := by rfl) (hpl : (backTo pos (starEach (e :: []) X.env)).any (·.1) = false := by rfl)
    (hall : (backToKw pos (keywordEach [⟨some (Str.ofString "default"), e2, kp⟩] X.env)).all (·.1.isSome) = true := by rfl) (hnone : (backToKw pos (keywordEach [⟨some (Str.ofString "default"), e2, kp⟩] X.env)).any (·.1.isNone) = false := by rfl) (hks : (backToKw pos (keywordEach [⟨some (Str.ofString "default"), e2, kp⟩] X.env)).filterMap (·.1) = [Str.ofString "default"] := by rfl) :
    Ex X cl (.Call (.Name "max" p) [e] [⟨some (Str.ofString "default"), e2, kp⟩] pos) (dMxD lem de dd) := by
  obtain ⟨ta, a1, a2⟩ := ha.ex
  obtain ⟨tb, b1, b2⟩ := hb.ex
  exact ⟨_, fun W k => pe_callBK (cr_maxDf hc) hg hm (by decide +kernel) (pa_cons (a1 W k) pa_nil hs) (pk_cons (b1 W k) pk_nil) (by decide) (by decide) he hpl hall hnone hks, rf_mxD a2 b2⟩
theorem x_minD (hc : X.calm = true) (hg : Gl X "min") (hm : X.mg "min" = none) (ha : Ex X cl e de) (hb : Ex X cl e2 dd)
    (hs : starEach (e :: []) X.env = (false, eval e X.env) :: starEach [] X.env := by rfl)
    (he : backTo pos (starEach (e :: []) X.env) = (false, eval e X.env) :: backTo pos (starEach [] X.env) := by rfl) (hpl : (backTo pos (starEach (e :: []) X.env)).any (·.1) = false := by rfl)
    (hall : (backToKw pos (keywordEach [⟨some (Str.ofString "default"), e2, kp⟩] X.env)).all (·.1.isSome) = true := by rfl) (hnone : (backToKw pos (keywordEach [⟨some (Str.ofString "default"), e2, kp⟩] X.env)).any (·.1.isNone) = false := by rfl) (hks : (backToKw pos (keywordEach [⟨some (Str.ofString "default"), e2, kp⟩] X.env)).filterMap (·.1) = [Str.ofString "default"] := by rfl) :
    Ex X cl (.Call (.Name "min" p) [e] [⟨some (Str.ofString "default"), e2, kp⟩] pos) (dMxD gem de dd) := by
  obtain ⟨ta, a1, a2⟩ := ha.ex
  obtain ⟨tb, b1, b2⟩ := hb.ex
  exact ⟨_, fun W k => pe_callBK (cr_minDf hc) hg hm (by decide +kernel) (pa_cons (a1 W k) pa_nil hs) (pk_cons (b1 W k) pk_nil) (by decide) (by decide) he hpl hall hnone hks, rf_mxD a2 b2⟩
end
end
end Kt
set_option maxHeartbeats 400000
/-! Kt41: parts that are changed, by their readings. -/
namespace Kt
open PySem PySem.Spec L2
def RR_pnotes : DS := (dSeq (dRet (dB kList (dCons (dPn (dVar 0)) dNil))) dNext)
def mm_pnotes : SpD := mD 1 1 RR_pnotes
def RR_plength : DS := (dSeq (dRet (dMxD lem (dLcE (dLc (dIt (dPn (dVar 0))) (dName 1) dYes (dBin kAdd (dBin kIx (dVar 1) (dC (.int 1))) (dC (.int 1))) [1])) (dC (.int 0)))) dNext)
def mm_plength : SpD := mD 2 1 RR_plength
def RR_needpart : DS := (dSeq (dIfS (dNot (dTest (dIsP (dVar 0)))) (dSeq (dRaise1 "BadPart" "found" (dCons (dVar 0) dNil)) dNext) dNext) dNext)
def mm_needpart : SpD := mD 1 1 RR_needpart
def RR_neednum : DS := (dSeq (dIfS (dNot (dTest (dCall m_isint (dCons (dVar 0) (dCons (dVar 1) (dCons (dVar 2) dNil)))))) (dSeq (dRaise1 "BadNumber" "found" (dCons (dVar 0) dNil)) dNext) dNext) dNext)
def mm_neednum : SpD := mD 3 3 RR_neednum
def RR_ismoment : DS := (dSeq (dRet (dCall m_isint (dCons (dVar 0) (dCons (dC (.int 0)) (dCons (dC (.int 19998)) dNil))))) dNext)
def mm_ismoment : SpD := mD 1 1 RR_ismoment
def RR_needmoment : DS := (dSeq (dIfS (dNot (dTest (dCall mm_ismoment (dCons (dVar 0) dNil)))) (dSeq (dRaise1 "BadMoment" "found" (dCons (dVar 0) dNil)) dNext) dNext) dNext)
def mm_needmoment : SpD := mD 1 1 RR_needmoment
def RR_later : DS := (dSeq (dDrop (dCall mm_needpart (dCons (dVar 0) dNil))) (dSeq (dDrop (dCall mm_neednum (dCons (dVar 1) (dCons (dUn kNeg (dC (.int 9999))) (dCons (dC (.int 9999)) dNil))))) (dSeq (dRet (dMakeP m_part (dCons (dLcE (dLc (dIt (dMethP mm_pnotes (dVar 0) dNil)) (dUnp 3 (gMore (dName 2) (gMore (dName 3) (gMore (dName 4) gNone)))) dYes (dTup (dCons (dBin kAdd (dVar 2) (dVar 1)) (dCons (dBin kAdd (dVar 3) (dVar 1)) (dCons (dVar 4) dNil)))) [2, 3, 4])) dNil))) dNext)))
def mm_later : SpD := mD 5 2 RR_later
def RR_slower : DS := (dSeq (dDrop (dCall mm_needpart (dCons (dVar 0) dNil))) (dSeq (dDrop (dCall mm_neednum (dCons (dVar 1) (dCons (dC (.int 1)) (dCons (dC (.int 99)) dNil))))) (dSeq (dRet (dMakeP m_part (dCons (dLcE (dLc (dIt (dMethP mm_pnotes (dVar 0) dNil)) (dUnp 3 (gMore (dName 2) (gMore (dName 3) (gMore (dName 4) gNone)))) dYes (dTup (dCons (dBin kMul (dVar 2) (dVar 1)) (dCons (dBin kMul (dVar 3) (dVar 1)) (dCons (dVar 4) dNil)))) [2, 3, 4])) dNil))) dNext)))
def mm_slower : SpD := mD 5 2 RR_slower
def RR_transposed : DS := (dSeq (dDrop (dCall mm_needpart (dCons (dVar 0) dNil))) (dSeq (dDrop (dCall mm_neednum (dCons (dVar 1) (dCons (dUn kNeg (dC (.int 119))) (dCons (dC (.int 119)) dNil))))) (dSeq (dRet (dMakeP m_part (dCons (dLcE (dLc (dIt (dMethP mm_pnotes (dVar 0) dNil)) (dUnp 3 (gMore (dName 2) (gMore (dName 3) (gMore (dName 4) gNone)))) dYes (dTup (dCons (dVar 2) (dCons (dVar 3) (dCons (dBin kAdd (dVar 4) (dVar 1)) dNil)))) [2, 3, 4])) dNil))) dNext)))
def mm_transposed : SpD := mD 5 2 RR_transposed
def RR_backward : DS := (dSeq (dDrop (dCall mm_needpart (dCons (dVar 0) dNil))) (dSeq (dSet (dName 1) (dBin kSub (dMethP mm_plength (dVar 0) dNil) (dC (.int 1)))) (dSeq (dRet (dMakeP m_part (dCons (dLcE (dLc (dIt (dMethP mm_pnotes (dVar 0) dNil)) (dUnp 3 (gMore (dName 2) (gMore (dName 3) (gMore (dName 4) gNone)))) dYes (dTup (dCons (dBin kSub (dVar 1) (dVar 3)) (dCons (dBin kSub (dVar 1) (dVar 2)) (dCons (dVar 4) dNil)))) [2, 3, 4])) dNil))) dNext)))
def mm_backward : SpD := mD 5 1 RR_backward
def RR_joined : DS := (dSeq (dDrop (dCall mm_needpart (dCons (dVar 0) dNil))) (dSeq (dDrop (dCall mm_needpart (dCons (dVar 1) dNil))) (dSeq (dIfS (dTest (dBin kGt (dBin kAdd (dB kLenP (dCons (dVar 0) dNil)) (dB kLenP (dCons (dVar 1) dNil))) (dC (.int 60)))) (dSeq (dRaise1 "TooMany" "many" (dCons (dBin kAdd (dB kLenP (dCons (dVar 0) dNil)) (dB kLenP (dCons (dVar 1) dNil))) dNil)) dNext) dNext) (dSeq (dRet (dMakeP m_part (dCons (dBin kAdd (dMethP mm_pnotes (dVar 0) dNil) (dMethP mm_pnotes (dVar 1) dNil)) dNil))) dNext))))
def mm_joined : SpD := mD 2 2 RR_joined
def RR_cut : DS := (dSeq (dDrop (dCall mm_needpart (dCons (dVar 0) dNil))) (dSeq (dDrop (dCall mm_needmoment (dCons (dVar 1) dNil))) (dSeq (dDrop (dCall mm_needmoment (dCons (dVar 2) dNil))) (dSeq (dRet (dMakeP m_part (dCons (dLcE (dLc (dIt (dMethP mm_pnotes (dVar 0) dNil)) (dName 3) (dAnd (dTest (dBin kLe (dVar 1) (dBin kIx (dVar 3) (dC (.int 0))))) (dTest (dBin kLe (dBin kIx (dVar 3) (dC (.int 1))) (dVar 2)))) (dVar 3) [3])) dNil))) dNext))))
def mm_cut : SpD := mD 4 3 RR_cut
section
variable {st : List Ob} {Q : SV → List Ob → Prop} {E : XK'}
theorem pnotes_ok {ns : List D} (q : Q (.d (.lst ns)) st) : mm_pnotes [.part ns] st Q E := by
  simp only [mm_pnotes, RR_pnotes, mD, dSeq, dRet, dB, dCons, dNil, dPn, dVar, dNext]
  exact ⟨rfl, _, rfl, ns, rfl, ns, rfl, q⟩
theorem pneed_ok {ns : List D} (q : Q (.d .non) st) : mm_needpart [.part ns] st Q E := by
  simp only [mm_needpart, RR_needpart, mD, dSeq, dIfS, dNot, dTest, dIsP, dVar, dRaise1, dCons, dNil, dNext]
  refine ⟨rfl, _, rfl, .inl rfl, _, rfl, ?_⟩
  rw [if_neg (by simp [isP])]
  exact q
theorem pneed_no {d : D} {t : String} (h : tyD st d = some t) (e : E ⟨"BadPart", [("found", d)]⟩ st) : mm_needpart [d] st Q E := by
  simp only [mm_needpart, RR_needpart, mD, dSeq, dIfS, dNot, dTest, dIsP, dVar, dRaise1, dCons, dNil, dNext]
  have hp : isP d = false := by cases d <;> first | rfl | cases h
  refine ⟨rfl, _, rfl, .inr ⟨t, h⟩, _, rfl, ?_⟩
  rw [hp, if_pos (by decide)]
  exact ⟨d, rfl, d, rfl, e⟩
theorem num_need {d : D} {t : String} {lo hi : Int} (h : tyD st d = some t) (q : isI d lo hi = true → Q (.d .non) st) (e : isI d lo hi = false → E ⟨"BadNumber", [("found", d)]⟩ st) : mm_neednum [d, .int lo, .int hi] st Q E := by
  simp only [mm_neednum, RR_neednum, mD, dSeq, dIfS, dNot, dTest, dCall, dCons, dNil, dVar, dC, dRaise1, dNext]
  refine ⟨rfl, d, rfl, _, rfl, _, rfl, isint_ok h ⟨rfl, _, rfl, ?_⟩⟩
  cases hd : isI d lo hi with
  | false => rw [if_pos (by decide)]; exact ⟨d, rfl, d, rfl, e hd⟩
  | true => rw [if_neg (by decide)]; exact q hd
theorem moment_need {d : D} {t : String} (h : tyD st d = some t) (q : isI d 0 19998 = true → Q (.d .non) st) (e : isI d 0 19998 = false → E ⟨"BadMoment", [("found", d)]⟩ st) : mm_needmoment [d] st Q E := by
  simp only [mm_needmoment, RR_needmoment, mm_ismoment, RR_ismoment, mD, dSeq, dIfS, dNot, dTest, dCall, dCons, dNil, dVar, dC, dRaise1, dRet, dNext]
  refine ⟨rfl, d, rfl, rfl, d, rfl, isint_ok h ⟨rfl, rfl, _, rfl, ?_⟩⟩
  cases hd : isI d 0 19998 with
  | false => rw [if_pos (by decide)]; exact ⟨d, rfl, d, rfl, e hd⟩
  | true => rw [if_neg (by decide)]; exact q hd
/-- the greatest of some numbers -/
def IsMax (xs : List Int) (m : Int) : Prop := m ∈ xs ∧ ∀ y ∈ xs, y ≤ m
theorem kMxD {de dd : DE} {s : S} {Q : DK} {E : XK'} {le : Int → Int → Prop} : dMxD le de dd s Q E = de s (fun d st => dd ⟨s.sl, st⟩ (fun y st2 => ∃ ns i, asLst st2 d = some (ns.map D.int) ∧ y = .int i ∧ (ns = [] → Q (.int i) st2) ∧ ∀ m, m ∈ ns → (∀ y ∈ ns, le y m) → Q (.int m) st2) E) E := rfl
theorem plength_ok {ts : List Tri} (hl : ts.length ≤ 100) (q0 : ts = [] → Q (.d (.int 0)) st) (q : ∀ m t, t ∈ ts → t.2.1 = m → (∀ u ∈ ts, u.2.1 ≤ m) → Q (.d (.int (m + 1))) st) : mm_plength [.part (ts.map triD)] st Q E := by
  simp only [mm_plength, RR_plength, mD, dSeq, dRet, dMxD, dLcE, dLc, dIt, dPn, dVar, dC, dNext]
  refine ⟨rfl, _, rfl, _, rfl, _, rfl, ?_⟩
  refine comp_map (fun d => match d with | .tup [_, .int e, _] => .int (e + 1) | _ => .non) True.intro (ts.map triD) _ (by rw [List.length_map, sizeLine_eq]; omega) (fun d hd K hK => ?_) ?_
  · obtain ⟨t, _, rfl⟩ := List.mem_map.mp hd
    simp only [dName, dBin, dVar, dC]
    exact ⟨triD t, rfl, kIx_tri.2.1 (kAddI hK)⟩
  · refine ⟨ts.map fun t => t.2.1 + 1, 0, ?_, rfl, fun h => q0 (by simpa using h), fun m hm hle => ?_⟩
    · rw [List.map_map, List.map_map]; rfl
    · obtain ⟨t, ht, rfl⟩ := List.mem_map.mp hm
      exact q _ t ht rfl fun u hu => by have := hle _ (List.mem_map.mpr ⟨u, hu, rfl⟩); omega
/-- one part's first wrong note -/
theorem part_bad {x : Addr} {ts : List Tri} {Q : List (Str × D) → List Ob → Prop} {i0 : Nat} {t0 : Tri} (hl : ts.length ≤ 60) (h0 : ts[i0]? = some t0) (hn : ¬ vN t0) (hp : ∀ j u, j < i0 → ts[j]? = some u → vN u) (e : E ⟨"BadNote", [("found", triD t0)]⟩ st) : m_part x [.lst (ts.map triD)] st Q E := by
  simp only [m_part, mI, R_part, dSeq, dIfS, dNot, dTest, dCall, dCons, dNil, dVar, dC, dFor, dIt, dDrop, dFldO, dB, dSetD, dName, dNext]
  refine ⟨rfl, _, rfl, islist_ok (t := "list") rfl ⟨rfl, _, rfl, ?_⟩⟩
  have e1 : isL st (.lst (ts.map triD)) 60 = true := by simp only [isL, asSeq, List.length_map, decide_eq_true_eq]; omega
  rw [e1, if_neg (by decide)]
  refine ⟨_, rfl, _, rfl, ?_⟩
  have hi0 := (List.getElem?_eq_some_iff.mp h0).1
  refine loop_inv (ts.map triD) (fun i s => i ≤ i0 ∧ s.st = st ∧ ∃ y, s.sl = [some (.oi x "Part" []), some (.d (.lst (ts.map triD))), y, none, none]) ⟨Nat.zero_le _, rfl, none, rfl⟩ (fun i d s nx hd hI k => ?_) (fun s hI => ?_)
  · obtain ⟨hi, h1, y, h2⟩ := hI
    rw [List.getElem?_map] at hd
    cases e3 : ts[i]? with
    | none => rw [e3] at hd; cases hd
    | some t =>
      rw [e3] at hd; cases hd
      refine ⟨True.intro, triD t, by rw [h2]; rfl, ?_⟩
      by_cases hlt : i < i0
      · exact need_tri (hp i t hlt e3) ⟨rfl, k _ ⟨hlt, h1, _, by rw [h2]; rfl⟩⟩
      · have : i = i0 := by omega
        subst this
        rw [h0] at e3; cases e3
        rw [h1]
        exact nneed_ok okN_tri tri_len (fun z => absurd (isN_tri.mp z) hn) fun _ => e
  · exfalso
    have := hI.1
    rw [List.length_map] at this
    omega
end
/-! ### walks that make new notes -/
theorem comp_tri {te : DE} {sl0 : List (Option SV)} {st : List Ob} {i j k : Nat} (φ : Tri → Tri) (ts : List Tri) (Q : List D → List Ob → Prop) (hl : ts.length ≤ 100)
    (he : ∀ t ∈ ts, ∀ (K : DK), K (triD (φ t)) st → te ⟨((sl0.set i (some (.d (.int t.1)))).set j (some (.d (.int t.2.1)))).set k (some (.d (.int t.2.2))), st⟩ K (fun _ _ => False)) (q : Q ((ts.map φ).map triD) st) :
    dComp (dUnp 3 (gMore (dName i) (gMore (dName j) (gMore (dName k) gNone)))) dYes te sl0 (fun _ => True) (ts.map triD) [] st Q := by
  refine comp_map (fun d => match d with | .tup [.int a, .int b, .int c] => triD (φ (a, b, c)) | _ => .non) True.intro (ts.map triD) Q (by rw [List.length_map, sizeLine_eq]; omega) (fun d hd K hK => ?_) ?_
  · obtain ⟨t, ht, rfl⟩ := List.mem_map.mp hd
    exact ⟨_, rfl, rfl, _, _, rfl, _, _, rfl, _, _, rfl, rfl, he t ht K hK⟩
  · have : (ts.map triD).map (fun d => match d with | .tup [.int a, .int b, .int c] => triD (φ (a, b, c)) | _ => .non) = (ts.map φ).map triD := by
      rw [List.map_map, List.map_map]; rfl
    rw [this]; exact q
/-- a part of so many good notes -/
structure Gp (ts : List Tri) : Prop where
  hl : ts.length ≤ 60
  hv : ∀ t ∈ ts, vN t
  ho : ts.Pairwise Ap
theorem Gp.mk_ok {ts : List Tri} (G : Gp ts) {x : Addr} {st : List Ob} {Q : List (Str × D) → List Ob → Prop} {E : XK'} (q : Q [("part_notes", .lst ((srt ts).map triD))] st) : m_part x [.lst (ts.map triD)] st Q E :=
  part_ok G.hl G.hv (noOv_srt G.hv G.ho) q
theorem ap_noOv {ts : List Tri} (h : noOv ts) : ts.Pairwise Ap := h.imp fun {a b} q e => .inl (q e)
theorem Gp.srt {ts : List Tri} (G : Gp ts) : Gp (srt ts) := ⟨by rw [srt_len]; exact G.hl, fun t ht => G.hv t (srt_mem.mp ht), ap_noOv (noOv_srt G.hv G.ho)⟩
theorem Gp.map {ts : List Tri} (G : Gp ts) {φ : Tri → Tri} (hv : ∀ t ∈ ts, vN (φ t)) (ha : ∀ a b, Ap a b → Ap (φ a) (φ b)) : Gp (ts.map φ) :=
  ⟨by rw [List.length_map]; exact G.hl, fun t ht => by obtain ⟨u, hu, rfl⟩ := List.mem_map.mp ht; exact hv u hu, List.pairwise_map.mpr (G.ho.imp fun {a b} q => ha a b q)⟩
/-- turned round -/
def rv (L : Int) (t : Tri) : Tri := (L - t.2.1, L - t.1, t.2.2)
def sh (b : Int) (t : Tri) : Tri := (t.1 + b, t.2.1 + b, t.2.2)
def sc (b : Int) (t : Tri) : Tri := (t.1 * b, t.2.1 * b, t.2.2)
def tp (b : Int) (t : Tri) : Tri := (t.1, t.2.1, t.2.2 + b)
theorem ap_rv (L : Int) (a b : Tri) (h : Ap a b) : Ap (rv L a) (rv L b) := fun e => by
  have := h e
  simp only [rv]
  omega
theorem ap_sh (c : Int) (a b : Tri) (h : Ap a b) : Ap (sh c a) (sh c b) := fun e => by
  have := h e
  simp only [sh]
  omega
section
variable {st : List Ob} {Q : SV → List Ob → Prop} {E : XK'}
theorem back_ok {ts : List Tri} {L : Int} (G : Gp ts) (hL : ts ≠ [] → (∃ t ∈ ts, t.2.1 = L) ∧ ∀ t ∈ ts, t.2.1 ≤ L) (q : Q (.d (.part ((srt (ts.map (rv L))).map triD))) st) : mm_backward [.part (ts.map triD)] st Q E := by
  have hl := G.hl
  simp only [mm_backward, RR_backward, mD, dSeq, dDrop, dCall, dCons, dNil, dVar, dSet, dBin, dMethP, dC, dName, dRet, dMakeP, dLcE, dLc, dIt, dNext]
  refine ⟨rfl, _, rfl, pneed_ok ⟨rfl, ?_⟩⟩
  have main : ∀ L' : Int, (ts ≠ [] → L' = L) → Q (.d (.part ((srt (ts.map (rv L'))).map triD))) st := fun L' h => by
    by_cases he : ts = []
    · subst he; exact q
    · rw [h he]; exact q
  have mk : ∀ L' : Int, (ts ≠ [] → L' = L) → dComp (dUnp 3 (gMore (dName 2) (gMore (dName 3) (gMore (dName 4) gNone)))) dYes (dTup (dCons (dBin kSub (dVar 1) (dVar 3)) (dCons (dBin kSub (dVar 1) (dVar 2)) (dCons (dVar 4) dNil)))) (blkSl [some (.d (.part (ts.map triD))), some (.d (.int L')), none, none, none] [2, 3, 4]) (fun _ => True) (ts.map triD) [] st (fun xs st => ∀ x, m_part x [.lst xs] st (fun fs st' => ∃ ns, fs = [(("part_notes" : Str), D.lst ns)] ∧ Q (.d (.part ns)) st') E) := fun L' hh => by
    refine comp_tri (rv L') ts _ (by omega) (fun t ht K hK => ?_) ?_
    · simp only [dTup, dCons, dNil, dBin, dVar]
      exact ⟨_, rfl, _, rfl, True.intro, _, rfl, _, rfl, True.intro, _, rfl, by show 3 ≤ sizeLine; rw [sizeLine_eq]; decide, hK⟩
    · intro x
      refine (Gp.map G (fun t ht => ?_) (ap_rv L')).mk_ok ⟨_, rfl, main L' hh⟩
      have hne : ts ≠ [] := fun z => by rw [z] at ht; cases ht
      have := (hL hne).2 t ht
      obtain ⟨u, hu, e⟩ := (hL hne).1
      have v1 := G.hv t ht
      have v2 := G.hv u hu
      have := hh hne
      unfold vN at v1 v2 ⊢
      simp only [rv]
      omega
  refine ⟨_, rfl, ⟨_, rfl⟩, plength_ok (by omega) (fun he => ⟨rfl, True.intro, ?_⟩) (fun m t ht e hm => ⟨rfl, True.intro, ?_⟩)⟩
  · exact ⟨_, rfl, ⟨_, rfl⟩, pnotes_ok ⟨rfl, _, rfl, mk (0 - 1) fun h => absurd he h⟩⟩
  · have : m + 1 - 1 = L := by
      have hne : ts ≠ [] := fun z => by rw [z] at ht; cases ht
      obtain ⟨⟨u, hu, eu⟩, hle⟩ := hL hne
      have := hle t ht
      have := hm u hu
      omega
    exact ⟨_, rfl, ⟨_, rfl⟩, pnotes_ok ⟨rfl, _, rfl, mk (m + 1 - 1) fun _ => this⟩⟩
/-- later, slower, transposed by a good number: the notes that come out -/
theorem later_made {ts : List Tri} {b : Int} (hl : ts.length ≤ 60) (hb : -9999 ≤ b ∧ b ≤ 9999) (q : ∀ x, m_part x [.lst ((ts.map (sh b)).map triD)] st (fun fs st' => ∃ ns, fs = [(("part_notes" : Str), D.lst ns)] ∧ Q (.d (.part ns)) st') E) : mm_later [.part (ts.map triD), .int b] st Q E := by
  simp only [mm_later, RR_later, mD, dSeq, dDrop, dCall, dCons, dNil, dVar, dUn, unS, dMethP, dC, dRet, dMakeP, dLcE, dLc, dIt, dNext]
  refine ⟨rfl, _, rfl, pneed_ok ⟨rfl, ?_⟩⟩
  refine ⟨_, rfl, num_need (t := "int") rfl (fun _ => ⟨rfl, ?_⟩) (fun e => absurd e (by simp [isI]; omega))⟩
  refine ⟨_, rfl, ⟨_, rfl⟩, pnotes_ok ⟨rfl, _, rfl, comp_tri (sh b) ts _ (by omega) (fun t ht K hK => ?_) ?_⟩⟩
  · simp only [dTup, dCons, dNil, dBin, dVar]
    exact ⟨_, rfl, _, rfl, kAddI ⟨_, rfl, _, rfl, kAddI ⟨_, rfl, by show 3 ≤ sizeLine; rw [sizeLine_eq]; decide, hK⟩⟩⟩
  · exact q
theorem slower_made {ts : List Tri} {b : Int} (hl : ts.length ≤ 60) (hv : ∀ t ∈ ts, vN t) (hb : 1 ≤ b ∧ b ≤ 99) (q : ∀ x, m_part x [.lst ((ts.map (sc b)).map triD)] st (fun fs st' => ∃ ns, fs = [(("part_notes" : Str), D.lst ns)] ∧ Q (.d (.part ns)) st') E) : mm_slower [.part (ts.map triD), .int b] st Q E := by
  simp only [mm_slower, RR_slower, mD, dSeq, dDrop, dCall, dCons, dNil, dVar, dMethP, dC, dRet, dMakeP, dLcE, dLc, dIt, dNext]
  refine ⟨rfl, _, rfl, pneed_ok ⟨rfl, ?_⟩⟩
  refine ⟨_, rfl, num_need (t := "int") rfl (fun _ => ⟨rfl, ?_⟩) (fun e => absurd e (by simp [isI]; omega))⟩
  refine ⟨_, rfl, ⟨_, rfl⟩, pnotes_ok ⟨rfl, _, rfl, comp_tri (sc b) ts _ (by omega) (fun t ht K hK => ?_) ?_⟩⟩
  · have := hv t ht
    unfold vN at this
    simp only [dTup, dCons, dNil, dBin, dVar]
    exact ⟨_, rfl, _, rfl, kMulI (cmul (by omega) (by omega) (by omega) (by omega)) ⟨_, rfl, _, rfl, kMulI (cmul (by omega) (by omega) (by omega) (by omega)) ⟨_, rfl, by show 3 ≤ sizeLine; rw [sizeLine_eq]; decide, hK⟩⟩⟩
  · exact q
theorem transposed_made {ts : List Tri} {b : Int} (hl : ts.length ≤ 60) (hb : -119 ≤ b ∧ b ≤ 119) (q : ∀ x, m_part x [.lst ((ts.map (tp b)).map triD)] st (fun fs st' => ∃ ns, fs = [(("part_notes" : Str), D.lst ns)] ∧ Q (.d (.part ns)) st') E) : mm_transposed [.part (ts.map triD), .int b] st Q E := by
  simp only [mm_transposed, RR_transposed, mD, dSeq, dDrop, dCall, dCons, dNil, dVar, dUn, unS, dMethP, dC, dRet, dMakeP, dLcE, dLc, dIt, dNext]
  refine ⟨rfl, _, rfl, pneed_ok ⟨rfl, ?_⟩⟩
  refine ⟨_, rfl, num_need (t := "int") rfl (fun _ => ⟨rfl, ?_⟩) (fun e => absurd e (by simp [isI]; omega))⟩
  refine ⟨_, rfl, ⟨_, rfl⟩, pnotes_ok ⟨rfl, _, rfl, comp_tri (tp b) ts _ (by omega) (fun t ht K hK => ?_) ?_⟩⟩
  · simp only [dTup, dCons, dNil, dBin, dVar]
    exact ⟨_, rfl, _, rfl, _, rfl, _, rfl, kAddI ⟨by show 3 ≤ sizeLine; rw [sizeLine_eq]; decide, hK⟩⟩
  · exact q
/-- what is written of a list of notes -/
theorem even_tri {ts : List Tri} (h : ∀ t ∈ ts, bdT t) (hl : ts.length ≤ 100) (q : Q (.d (.bl true)) st) : mD 2 2 R_even [.lst (ts.map triD), .lst (ts.map triD)] st Q E := even_ok (gd_tris h hl) (toPy_tri ts) (toPy_tri ts) q
end
theorem wt_mid {i : Int} (h : -999999999999 ≤ i ∧ i ≤ 999999999999) : (PyData.int i).weight ≤ 100 := by
  simp only [PyData.weight]
  split
  · omega
  · rename_i h0
    have h1 : i.natAbs ≠ 0 := by
      intro z
      apply h0
      have : i = 0 := by omega
      simp [this]
    have : i.natAbs.log2 < 40 := (Nat.log2_lt h1).mpr (by omega)
    omega
theorem it_tri2 {t : Tri} (h1 : -999999999999 ≤ t.1 ∧ t.1 ≤ 999999999999) (h2 : -999999999999 ≤ t.2.1 ∧ t.2.1 ≤ 999999999999) (h3 : -999999999999 ≤ t.2.2 ∧ t.2.2 ≤ 999999999999) : gdP (pyT t) = true ∧ (pyT t).depth ≤ 5 ∧ (pyT t).weight ≤ 4000 := by
  obtain ⟨a, b, c⟩ := t
  simp only at h1 h2 h3
  have k := items_gd [.int a, .int b, .int c] (fun x hx => by
    simp only [List.mem_cons, List.not_mem_nil, or_false] at hx
    rcases hx with rfl | rfl | rfl
    · exact it_int h1
    · exact it_int h2
    · exact it_int h3)
  refine ⟨?_, ?_, ?_⟩
  · show gdP (.tuple [.int a, .int b, .int c]) = true
    unfold gdP; exact k.1
  · show (PyData.tuple [.int a, .int b, .int c]).depth ≤ 5
    simp [PyData.depth, PyData.depthAll]
  · show (PyData.tuple [.int a, .int b, .int c]).weight ≤ 4000
    have w1 := wt_mid h1
    have w2 := wt_mid h2
    have w3 := wt_mid h3
    have e : (PyData.tuple [.int a, .int b, .int c]).weight = PyData.weightAll [.int a, .int b, .int c] := by rw [PyData.weight]
    rw [e]
    simp only [PyData.weightAll]
    omega
theorem toPyF_tri (g : Nat → Option PyData) (t : Tri) : toPyF g (triD t) = some (pyT t) := by
  obtain ⟨a, b, c⟩ := t
  simp [triD, pyT, toPyF, toPyA]
/-- the order of notes, and what keeps it -/
def Lx (a b : Tri) : Prop := a.1 < b.1 ∨ (a.1 = b.1 ∧ (a.2.1 < b.2.1 ∨ (a.2.1 = b.2.1 ∧ a.2.2 ≤ b.2.2)))
theorem cd_lx {a b : Tri} (ha : bdT a) (hb : bdT b) : cdT a ≤ cdT b ↔ Lx a b := by
  unfold bdT at ha hb
  unfold cdT Lx
  omega
theorem srt_map {ts : List Tri} {φ : Tri → Tri} (hs : srt ts = ts) (hv : ∀ t ∈ ts, bdT t) (hw : ∀ t ∈ ts, bdT (φ t)) (hx : ∀ a b, Lx a b → Lx (φ a) (φ b)) : srt (ts.map φ) = ts.map φ := by
  refine srt_same (fun t ht => ?_) ?_
  · obtain ⟨u, hu, rfl⟩ := List.mem_map.mp ht
    exact hw u hu
  · have := srt_sorted ts
    rw [hs] at this
    refine List.pairwise_map.mpr (this.imp_of_mem fun {a b} ha hb h => ?_)
    exact (cd_lx (hw a ha) (hw b hb)).mpr (hx a b ((cd_lx (hv a ha) (hv b hb)).mp h))
theorem lx_sh (c : Int) (a b : Tri) (h : Lx a b) : Lx (sh c a) (sh c b) := by
  unfold Lx at h ⊢
  simp only [sh]
  omega
theorem lx_tp (c : Int) (a b : Tri) (h : Lx a b) : Lx (tp c a) (tp c b) := by
  unfold Lx at h ⊢
  simp only [tp]
  omega
theorem lx_sc {c : Int} (hc : 0 < c) (a b : Tri) (h : Lx a b) : Lx (sc c a) (sc c b) := by
  unfold Lx at h ⊢
  simp only [sc]
  rcases h with h | ⟨h1, h | ⟨h2, h3⟩⟩
  · exact .inl (Int.mul_lt_mul_of_pos_right h hc)
  · exact .inr ⟨by rw [h1], .inl (Int.mul_lt_mul_of_pos_right h hc)⟩
  · exact .inr ⟨by rw [h1], .inr ⟨by rw [h2], h3⟩⟩
theorem ap_tp (c : Int) (a b : Tri) (h : Ap a b) : Ap (tp c a) (tp c b) := fun e => by
  simp only [tp] at e ⊢
  exact h (by omega)
theorem ap_sc {c : Int} (hc : 0 < c) (a b : Tri) (h : Ap a b) : Ap (sc c a) (sc c b) := fun e => by
  simp only [sc] at e ⊢
  rcases h e with h | h
  · exact .inl (Int.mul_lt_mul_of_pos_right h hc)
  · exact .inr (Int.mul_lt_mul_of_pos_right h hc)
end Kt
set_option maxHeartbeats 4000000
/-! Kt42: set comprehensions of whole numbers, sorted; dicts of the module's size. -/
namespace Kt
open PySem PySem.Spec L2 PyProof.Rows
section
variable {X : Cx}
/-- the empty set at D -/
abbrev sE (w : World) (D : Addr) : HO := SetO w D (fun _ => false) 0
abbrev sA (w : World) (D : Addr) (S : Int → Bool) (n : Nat) (k : Int) : HO := SetO w D (fun j => S j || decide (j = k)) (if S k = true then n else n + 1)
def tScI (w : World) (wi : TI) (gg : TG) (tt : TT) (te : TE) (vs : List Nat) : TE := fun σ H Q => wi σ H fun J H1 => ∀ D, H1 D = none →
  ∃ I : Nat → Nat → Hp → Prop, (∃ m, I 0 m (upd H1 D (sE w D))) ∧ ∀ i m H, I i m H → (J.stop i H ∧ Q (.ref D) H) ∨
    (J.go i H ∧ ∃ Nx : Hp → Prop, (∀ H', Nx H' → ∃ m', m' < m ∧ I (i + 1) m' H') ∧ ∀ x H', J.yld i H x H' → gg x (wipe σ vs) H' fun σ2 H2 => wipe σ2 vs = wipe σ vs ∧
      tt σ2 H2 fun b H3 => if b = true then te σ2 H3 fun y H4 => ∃ (k : Int) (S : Int → Bool) (n : Nat), y = .int k ∧ H4 D = some (SetO w D S n) ∧ n + 1 < scanBound ∧ Nx (upd H4 D (sA w D S n k)) else Nx H3)
theorem add_int {pins : List (Addr × Obj)} {σ : L2.St} {H : Hp} {s : Shared} {E : Value → Shared → Prop} {D : Addr} {S : Int → Bool} {n : Nat} {k : Int} {tk : Tok} {Q : Value → Shared → Prop} (J : Inv X pins σ H s) (e : H D = some (SetO X.w D S n)) (hb : n + 1 < scanBound)
    (q : ∀ s', Inv X pins σ (upd H D (sA X.w D S n k)) s' → Q .none s') : wpAny (model X.prog X.w) X.A (call (.builtin "set.add") [.ref D, .int k tk]) Q E s := by
  have RR := setO_get J e
  refine setR_add RR hb fun h' keep fresh => q _ ?_
  obtain ⟨o, _, _, _, eo, _⟩ := id fresh
  exact J.write (e := D) (t' := s.toks + 1) (by rw [e]; trivial) (.inl rfl) (fun b u hne hu => (keep.2 b hne).trans hu) ⟨o, eo⟩ (setO_new fresh)
set_option maxHeartbeats 8000000 in
theorem pe_scI {elt tg iter : Expr} {ifs : List Expr} {scope : Scope} {own : List (PySem.Str × Nat)} {pos : Pos} {wi : TI} {gg : TG} {tt : TT} {te : TE} (calm : X.calm = true) (hN : X.N.Nodup) (iw : PI X tg iter wi) (blk : BlkOk X.N X.env.scope scope own)
    (pgA : ∀ (s : Shared) (H : Hp) (C : Addr) (l : List (PySem.Str × Addr)) (fp : List Addr), PG (X.blk s H scope (compEnvC scope l C X.env) fp) tg gg)
    (ptA : ∀ (s : Shared) (H : Hp) (C : Addr) (l : List (PySem.Str × Addr)) (fp : List Addr), PTs (X.blk s H scope (compEnvC scope l C X.env) fp) ifs tt)
    (peA : ∀ (s : Shared) (H : Hp) (C : Addr) (l : List (PySem.Str × Addr)) (fp : List Addr), PE (X.blk s H scope (compEnvC scope l C X.env) fp) elt te)
    (fs : ∀ x, foldedSetIterable iter X.env x = pure x) : PE X (.SetComp elt [⟨tg, iter, ifs, 0⟩] scope pos) (tScI X.w wi gg tt te (own.map (·.2))) := by
  refine ⟨fun pins s σ H Q J h => ?_⟩
  rw [PpSet.eval_SetComp]
  have fr : ∀ y ∈ scope.names, y.2 = .free → ∃ c, X.env.cells.lookup y.1 = some c := fun y hy e =>
    (blk.free y hy e).elim (fun k => J.ok.has _ (.inl k)) (fun k => J.ok.has _ (.inr k))
  refine wpAny_comprehension_free (use := none) rfl fs (closure_ok fr) blk.kind (fun y hy e => by rw [blk.uniq y hy, e]) (thn (iw.run pins s σ H _ J h) fun _ _ hx => thn hx fun _ s2 h2 => ?_)
  obtain ⟨it, fp, tn, JJ, H2, rfl, J2, T, st2, f2, q⟩ := h2
  refine PpSet.newSet_ok (newEnv_comp ?_)
  have hDn : H2 s2.heap.objs.size = none := J2.hok.fresh (Nat.le_refl _)
  obtain ⟨W, ⟨m0, w0⟩, turn⟩ := q s2.heap.objs.size hDn
  have bef : ∀ b ∈ fp, b < s2.heap.objs.size := fun b hb => by
    obtain ⟨o, e, _⟩ := T.obj _ _ st2 b hb
    exact Heap.lt_size e
  -- the set that was made
  have J3 : Inv X pins σ (upd H2 s2.heap.objs.size (sE X.w s2.heap.objs.size)) { s2 with heap := s2.heap.push (oSet X.w) } :=
    J2.laid (t' := s2.toks) (fun b o e => Heap.get?_push_of_some _ e) (Nat.le_refl _) (setO_new (setR_fresh X.w))
  have f3 : ∀ b ∈ fp, FpOk X pins (upd H2 s2.heap.objs.size (sE X.w s2.heap.objs.size)) b ∧ b < (s2.heap.push (oSet X.w)).objs.size := fun b hb => by
    have lt := bef b hb
    refine ⟨⟨?_, (f2 b hb).2⟩, by rw [Heap.size_push]; exact Nat.lt_succ_of_lt lt⟩
    rw [upd_ne (Nat.ne_of_lt lt)]
    exact (f2 b hb).1
  have st3 : tn 0 (s2.heap.push (oSet X.w)) := T.keep _ _ _ st2 fun b _ o e => Heap.get?_push_of_some _ e
  have J4 := block_start J3 blk hN f3
  show codeAny _ _ (.compStart _ 0 (.ref it) (.ref s2.heap.objs.size) (compEnvC scope (cellsFrom ((s2.heap.push (oSet X.w)).objs.size + 1) scope.names (cloFrom X.env.cells scope.names [])) (s2.heap.push (oSet X.w)).objs.size X.env)) _ { s2 with heap := pushCells ((s2.heap.push (oSet X.w)).push { cls := .type "dict", data := .dict #[] }) scope.names }
  generalize hs3 : ({ s2 with heap := s2.heap.push (oSet X.w) } : Shared) = s3 at J3 J4
  have h3 : s2.heap.push (oSet X.w) = s3.heap := by rw [← hs3]
  rw [h3] at f3 st3 ⊢
  generalize hH3 : upd H2 s2.heap.objs.size (sE X.w s2.heap.objs.size) = H3 at J3 J4 w0 f3
  generalize hD : s2.heap.objs.size = D at w0 turn ⊢
  have pg := pgA s3 H3 s3.heap.objs.size (cellsFrom (s3.heap.objs.size + 1) scope.names (cloFrom X.env.cells scope.names [])) fp
  have pt := ptA s3 H3 s3.heap.objs.size (cellsFrom (s3.heap.objs.size + 1) scope.names (cloFrom X.env.cells scope.names [])) fp
  have pe := peA s3 H3 s3.heap.objs.size (cellsFrom (s3.heap.objs.size + 1) scope.names (cloFrom X.env.cells scope.names [])) fp
  have e4 : ({ s2 with heap := pushCells (s3.heap.push { cls := .type "dict", data := .dict #[] }) scope.names } : Shared) = { s3 with heap := pushCells (s3.heap.push { cls := .type "dict", data := .dict #[] }) scope.names } := by rw [← hs3]
  rw [e4]
  generalize hce : compEnvC scope (cellsFrom (s3.heap.objs.size + 1) scope.names (cloFrom X.env.cells scope.names [])) s3.heap.objs.size X.env = ce at J4 pg pt pe ⊢
  have cL : ce.locals = s3.heap.objs.size := by rw [← hce]; rfl
  generalize hs4 : ({ s3 with heap := pushCells (s3.heap.push { cls := .type "dict", data := .dict #[] }) scope.names } : Shared) = s4 at J4 ⊢
  have st4 : tn 0 s4.heap := T.keep _ _ _ st3 fun b _ o e => by rw [← hs4]; exact pushCells_keeps _ _ _ _ (Heap.get?_push_of_some _ e)
  have stat : ∀ {σ' : L2.St} {H' : Hp} {s' : Shared}, Inv (X.blk s3 H3 scope ce fp) [] σ' H' s' → (∀ b ∈ fp, H' b = none) → ∀ b ∈ fp, FpOk (X.blk s3 H3 scope ce fp) [] H' b := fun {σ' H' s'} J' hn b hb =>
    ⟨hn b hb, (J'.ok.exf b hb).1, J'.ok.exfs b hb, .inl hb, fun x c e => (J'.ok.exf b hb).2 x c e, fun p hp => by cases hp⟩
  refine PpSet.codeAny_compStart_set ?loop (T.self X.A 0 _ _ _ st4 ?loop)
  refine PpSet.compLoopS_any (fun n s' => ∃ i H', Inv (X.blk s3 H3 scope ce fp) [] (wipe σ (own.map (·.2))) H' s' ∧ tn i s'.heap ∧ (∀ b ∈ fp, H' b = none) ∧ W i n H') ?_ m0 ⟨0, H3, J4, st4, fun b hb => (f3 b hb).1.1, w0⟩
  rintro n s5 ⟨i, H5, J5, st5, n5, w5⟩
  rcases turn i n H5 w5 with ⟨stop, qq⟩ | ⟨go, Nx, hNx, step⟩
  · refine thnF (T.done (X.blk s3 H3 scope ce fp) rfl rfl rfl calm i [] s5 _ H5 (fun _ _ => False) J5 (stat J5 n5) st5 stop) fun r s6 hr => ?_
    obtain ⟨rfl, J6⟩ := hr
    have J7 : Inv X pins σ H5 s6 := J3.call' (ch := fp) J6.os J6.base J6.hok J6.bare fun b hb => by
      obtain ⟨⟨_, u1, u2, u3, u4, u5⟩, _⟩ := f3 b hb
      exact ⟨u3, u1, u4, u5⟩
    have free : H5 s3.heap.objs.size = none := by
      have z : H5 ce.locals = none := J6.free
      rwa [cL] at z
    obtain ⟨m, hn, _⟩ := J6.loc
    have hn : s6.heap.Ns ce.locals m := hn
    rw [cL] at hn
    obtain ⟨g0, g1, g2, g3, g4, g5⟩ := J3.fpOk (Nat.le_refl _) free
    exact ⟨m, hn, fun h' sb => ⟨.ref D, H5, J7.turned (t' := s6.toks) (fun b o hb e => (sb.2 b hb).trans e) g0 g1 g3 g4 g5, rfl, qq⟩⟩
  · refine thnF (T.item (X.blk s3 H3 scope ce fp) rfl rfl rfl calm i [] s5 _ H5 (fun _ _ => False) J5 (stat J5 n5) st5 go) fun r s6 hr => ?_
    obtain ⟨u, rfl, h6⟩ := hr
    refine thnF h6 fun _ s7 h7 => ?_
    obtain ⟨x, H7, J7, r7, y7, st7, n7⟩ := h7
    have J7' := J7.pinned (stat J7 n7) (T.obj _ _ st7)
    refine thnF (pg.run _ s7 _ H7 x u _ J7' r7 (step x H7 y7)) fun _ s8 h8 => ?_
    obtain ⟨σ8, H8, J8, hw8, q8⟩ := h8
    refine thnF (pt.run _ s8 σ8 H8 _ J8 q8) fun b s9 h9 => ?_
    obtain ⟨H9, J9, q9⟩ := h9
    have back : ∀ {s' : Shared} {H' : Hp}, Inv (X.blk s3 H3 scope ce fp) ([] ++ pinsAt fp s7.heap) σ8 H' s' → Nx H' → ∃ m, m < n ∧ ∃ i H', Inv (X.blk s3 H3 scope ce fp) [] (wipe σ (own.map (·.2))) H' s' ∧ tn i s'.heap ∧ (∀ b ∈ fp, H' b = none) ∧ W i m H' := fun {s' H'} J' nx => by
      obtain ⟨m', hm, w'⟩ := hNx H' nx
      have pin : ∀ b ∈ fp, ∀ o, s7.heap.get? b = some o → s'.heap.get? b = some o ∧ H' b = none := fun b hb o e => by
        have z := J'.pin (b, o) (List.mem_append_right _ (List.mem_append_right _ (mem_pinsAt hb e)))
        exact ⟨z.1, z.2.1⟩
      refine ⟨m', hm, i + 1, H', (J'.unpinned (pins := [])).weak (by rw [← hw8, wipe_length]) (fun j v e => ?_), T.keep _ _ _ st7 fun b hb o e => (pin b hb o e).1, fun b hb => ?_, w'⟩
      · rw [← hw8] at e
        exact (wipe_some e).1
      · obtain ⟨o, e, _⟩ := T.obj _ _ st7 b hb
        exact (pin b hb o e).2
    cases b with
    | false =>
      simp only [Bool.false_eq_true, if_false] at q9 ⊢
      exact back J9 q9
    | true =>
      simp only [if_true] at q9 ⊢
      refine thnF (pe.run _ s9 σ8 H9 _ J9 q9) fun z s10 h10 => ?_
      obtain ⟨yv, H10, J10, r10, k, S0, n0, rfl, hD10, hz10, nx⟩ := h10
      obtain ⟨tk, rfl⟩ := (show ∃ t, z = Value.int k t from r10)
      exact add_int (X := X.blk s3 H3 scope ce fp) J10 hD10 hz10 fun s11 J11 => back J11 nx
end
section
variable {X : Cx} {cl : String → Addr}
/-- the element is a whole number -/
def dIntE (te : DE) : DE := fun s Q E => te s (fun y st => (∃ k, y = .int k) ∧ Q y st) E
/-- the whole numbers that a set comprehension collects, in the order in which they come -/
def dSc (di : DI) (g : DG) (tt : DT) (te : DE) (vs : List Nat) : S → (List Int → List Ob → Prop) → XK' → Prop := fun s Q E =>
  di s (fun ds wt st => ds.length < 4000 ∧ dComp g tt (dIntE te) (blkSl s.sl vs) wt ds [] st fun xs st' => ∃ ns, intsOf xs = some ns ∧ Q ns st') E
theorem mem_snoc {ns : List Int} {k j : Int} : decide (j ∈ ns ++ [k]) = (decide (j ∈ ns) || decide (j = k)) := by
  by_cases h1 : j ∈ ns <;> by_cases h2 : j = k <;> simp [h1, h2]
theorem scA {di : DI} {tt : DT} {te : DE} {u : TG} {g : DG} {wi : WX → TI} {vs : List Nat} (i2 : RfI (cf X cl) wi di) (rf : RfG (cf X cl) u g) (wp : Wipes u vs) :
    ∀ (B : Bs) (W : WX) (σ : L2.St) (H F : Hp) (ν : List Addr) (s : S) (Q : List Int → List Ob → Prop) (E : XK') (P : VK), R (cf X cl) B s σ H F ν → Wsh (cf X cl) B s σ F ν W E → dSc di g tt te vs s Q E →
      (∀ p H' F' ν' ns c st', Ext F ν F' ν' → R (cf X cl) B ⟨s.sl, st'⟩ σ H' F' ν' → Un B ⟨s.sl, st'⟩ σ H' F' ν' p (SetO X.w p (fun j => decide (j ∈ ns)) c) → c ≤ ns.length → Q ns st' → P (.ref p) H') →
      tScI X.w (wi W) u (canT (cf X cl) tt W0) (canE (cf X cl) te W0) vs σ H P := by
  intro B W σ H F ν s Q E P r w q kk
  refine i2.go B W σ H F ν s _ E _ r w q fun J H1 F1 ν1 wt ds st1 x1 r1 k1 q1 => ?_
  obtain ⟨hz, q1⟩ := q1
  intro p hp
  obtain ⟨r1', u1⟩ := r1.newU (o := sE X.w p) hp
  let Iv : Nat → Hp → Prop := fun i H' => i ≤ ds.length ∧ ∃ (F' : Hp) (ν' : List Addr) (acc : List D) (ns : List Int) (c : Nat) (st' : List Ob), Ext F1 ν1 F' ν' ∧ R (cf X cl) B ⟨s.sl, st'⟩ σ H' F' ν' ∧ Un B ⟨s.sl, st'⟩ σ H' F' ν' p (SetO X.w p (fun j => decide (j ∈ ns)) c) ∧ acc = ns.map D.int ∧ ns.length ≤ i ∧ c ≤ ns.length ∧
    dComp g tt (dIntE te) (blkSl s.sl vs) wt (ds.drop i) acc st' fun xs st' => ∃ ns, intsOf xs = some ns ∧ Q ns st'
  have u1' : Un B ⟨s.sl, st1⟩ σ (upd H1 p (sE X.w p)) F1 ν1 p (SetO X.w p (fun j => decide (j ∈ ([] : List Int))) 0) := by
    have : (fun j : Int => decide (j ∈ ([] : List Int))) = fun _ => false := by funext j; simp
    rw [this]; exact u1
  refine ⟨fun i n H' => n = ds.length - i ∧ Iv i H', ⟨ds.length, by simp, Nat.zero_le _, F1, ν1, [], [], 0, st1, Ext.refl, r1', u1', rfl, Nat.le_refl _, Nat.le_refl _, q1⟩, ?_⟩
  rintro i n H' ⟨rfl, hi, F', ν', acc, ns, c, st', x', r', u', rfl, hni, hcn, q'⟩
  have rI : R (cf X cl) ⟨H', F', ν'⟩ ⟨blkSl s.sl vs, st'⟩ (wipe σ vs) H' F' ν' := r.inner vs (x1.trans x') r'
  have hw : wt st' := by
    cases e : ds.drop i with
    | nil => rw [e] at q'; exact q'.1
    | cons d r => rw [e] at q'; exact q'.1
  obtain ⟨k2, k3⟩ := k1.go ⟨H', F', ν'⟩ _ _ H' F' ν' x' rI hw
  by_cases hlt : i < ds.length
  · have hd : ds[i]? = some ds[i] := by simp [hlt]
    obtain ⟨k4, k5⟩ := k3 i _ hd
    rw [drop_get hd] at q'
    have q' := q'.2
    refine .inr ⟨k4, Iv (i + 1), fun H'' z => ⟨ds.length - (i + 1), by omega, rfl, z⟩, fun x H'' y => ?_⟩
    obtain ⟨F3, ν3, x3, r3, z3⟩ := k5 x H'' y
    have wpp := wp x (wipe σ vs) H''
    rw [wipe_wipe] at wpp
    refine wpp _ (rf.go _ (wipe σ vs) H'' F3 ν3 _ x _ _ _ r3 z3 q' fun s4 σ4 H4 F4 ν4 x4 r4 q4 => ?_)
    refine ⟨⟨H', F', ν'⟩, F4, ν4, s4, _, _, r4, Wsh.no, q4, fun b H5 F5 ν5 st5 x5 r5 q5 => ?_⟩
    cases b with
    | false =>
      rw [if_neg Bool.false_ne_true] at q5 ⊢
      have xx := (x3.trans x4).trans x5
      exact ⟨hlt, F5, ν5, _, ns, c, st5, x'.trans xx, r'.ret xx r5, r'.retU u' xx r5, rfl, by omega, hcn, q5⟩
    | true =>
      rw [if_pos rfl] at q5 ⊢
      refine ⟨⟨H', F', ν'⟩, F5, ν5, _, _, _, r5, Wsh.no, q5, fun v H6 F6 ν6 d6 st6 x6 r6 z6 q6 => ?_⟩
      obtain ⟨⟨k, rfl⟩, _, q6⟩ := q6
      cases z6
      have xx := ((x3.trans x4).trans x5).trans x6
      have u6 := r'.retU u' xx r6
      obtain ⟨r7, u7⟩ := (r'.ret xx r6).mutU (o' := sA X.w p (fun j => decide (j ∈ ns)) c k) u6
      have es : (fun j => decide (j ∈ ns) || decide (j = k)) = fun j => decide (j ∈ ns ++ [k]) := by funext j; rw [mem_snoc]
      refine ⟨k, _, c, rfl, u6.e, by unfold scanBound; omega, hlt, F6, ν6, _, ns ++ [k], _, st6, x'.trans xx, r7, by rw [← es]; exact u7, by rw [List.map_append]; rfl, by rw [List.length_append, List.length_singleton]; omega, ?_, q6⟩
      rw [List.length_append, List.length_singleton]
      split <;> omega
  · have e : i = ds.length := by omega
    subst e
    rw [List.drop_length] at q'
    obtain ⟨_, ns', e', q'⟩ := q'
    have e2 : ns' = ns := by
      have h1 := intsOf_eq e'
      have : ns.map D.int = ns'.map D.int := h1
      have inj : ∀ a b : List Int, a.map D.int = b.map D.int → a = b := by
        intro a
        induction a with
        | nil => intro b h; cases b with
          | nil => rfl
          | cons _ _ => cases h
        | cons x a ih => intro b h; cases b with
          | nil => cases h
          | cons y b =>
            rw [List.map_cons, List.map_cons] at h
            injection h with h1 h2
            injection h1 with h1
            rw [h1, ih b h2]
      exact (inj _ _ this).symm
    subst e2
    exact .inl ⟨k2, kk p H' F' ν' ns' c st' (x1.trans x') r' u' hcn q'⟩
/-- sorted({.. for ..}) -/
def dSortSc (di : DI) (g : DG) (tt : DT) (te : DE) (vs : List Nat) : DE := fun s Q E => dSc di g tt te vs s (fun ns st => ns.length < 64 ∧ ∀ ms : List Int, ms.Pairwise (· < ·) → (∀ k, k ∈ ms ↔ k ∈ ns) → Q (.lst (ms.map D.int)) st) E
theorem x_sortSc {elt tg iter : Expr} {ifs : List Expr} {scope : Scope} {p pos q : Pos} (own : List (Str × Nat)) {di : DI} {tt : DT} {te : DE} {u : TG} {g : DG} (hc : X.calm = true) (hN : X.N.Nodup) (hg1 : Gl X "sorted") (hm1 : X.mg "sorted" = none) (hi : Iw X cl tg iter di) (ok : BlkOk X.N X.env.scope scope own)
    (hg : TgB X cl scope tg (own.map (·.2)) u g)
    (ht : ∀ (s : Shared) (H : Hp) (C : Addr) (l : List (Str × Addr)) (fp : List Addr), Tss (X.blk s H scope (compEnvC scope l C X.env) fp) cl ifs tt) (he : ∀ (s : Shared) (H : Hp) (C : Addr) (l : List (Str × Addr)) (fp : List Addr), Ex (X.blk s H scope (compEnvC scope l C X.env) fp) cl elt te)
    (hs : ∀ x, foldedSetIterable iter X.env x = pure x := by intro _; rfl)
    (h1 : starEach (.SetComp elt [⟨tg, iter, ifs, 0⟩] scope q :: []) X.env = (false, eval (.SetComp elt [⟨tg, iter, ifs, 0⟩] scope q) X.env) :: starEach [] X.env := by rfl) (h2 : (backTo pos (starEach [] X.env)).any (·.1) = false := by rfl) :
    Ex X cl (.Call (.Name "sorted" p) [.SetComp elt [⟨tg, iter, ifs, 0⟩] scope q] [] pos) (dSortSc di g tt te (own.map (·.2))) := by
  obtain ⟨wi, i1, i2⟩ := hi.ex
  refine ⟨fun W => tCB (rSortedSet X.w) (tCons (tScI X.w (wi W) u (canT (cf X cl) tt W0) (canE (cf X cl) te W0) (own.map (·.2))) tNil), fun W k =>
    pe_callB (cr_sortedSet hc) hg1 hm1 boot_sorted (pa_cons (pe_scI hc hN (i1 W k) ok hg.pg (fun s H C l fp => (ht s H C l fp).ex) (fun s H C l fp => (he s H C l fp).can W0 (takesBlk rfl)) hs) pa_nil h1) (by decide) (by decide) h1 h2, ⟨fun B W σ H F ν s Q E P r w q kk => ?_⟩⟩
  simp only [tCB, tCons, tNil]
  refine scA i2 hg.rf hg.wp B W σ H F ν s _ E _ r w q fun p H' F' ν' ns c st' x' r' u' hcn q' => ?_
  obtain ⟨hz, q'⟩ := q'
  refine ⟨p, _, c, rfl, u'.e, by omega, fun ms b hs hm _ hb => ?_⟩
  exact kk _ _ _ ν' _ st' (x'.trans (ext_upd (r'.fresh hb).2.1)) (r'.froze hb) (.lst upd_same (rz_ints _)) (q' ms hs fun j => by rw [hm j, decide_eq_true_eq])
/-- .. as a named list -/
def dSortScN (di : DI) (g : DG) (tt : DT) (te : DE) (vs : List Nat) : DE := fun s Q E => dSc di g tt te vs s (fun ns st => ns.length < 64 ∧ ∀ ms : List Int, ms.Pairwise (· < ·) → (∀ k, k ∈ ms ↔ k ∈ ns) → Q (.obj st.length) (st ++ [.lst (ms.map D.int)])) E
theorem x_sortScN {elt tg iter : Expr} {ifs : List Expr} {scope : Scope} {p pos q : Pos} (own : List (Str × Nat)) {di : DI} {tt : DT} {te : DE} {u : TG} {g : DG} (hc : X.calm = true) (hN : X.N.Nodup) (hg1 : Gl X "sorted") (hm1 : X.mg "sorted" = none) (hi : Iw X cl tg iter di) (ok : BlkOk X.N X.env.scope scope own)
    (hg : TgB X cl scope tg (own.map (·.2)) u g)
    (ht : ∀ (s : Shared) (H : Hp) (C : Addr) (l : List (Str × Addr)) (fp : List Addr), Tss (X.blk s H scope (compEnvC scope l C X.env) fp) cl ifs tt) (he : ∀ (s : Shared) (H : Hp) (C : Addr) (l : List (Str × Addr)) (fp : List Addr), Ex (X.blk s H scope (compEnvC scope l C X.env) fp) cl elt te)
    (hs : ∀ x, foldedSetIterable iter X.env x = pure x := by intro _; rfl)
    (h1 : starEach (.SetComp elt [⟨tg, iter, ifs, 0⟩] scope q :: []) X.env = (false, eval (.SetComp elt [⟨tg, iter, ifs, 0⟩] scope q) X.env) :: starEach [] X.env := by rfl) (h2 : (backTo pos (starEach [] X.env)).any (·.1) = false := by rfl) :
    Ex X cl (.Call (.Name "sorted" p) [.SetComp elt [⟨tg, iter, ifs, 0⟩] scope q] [] pos) (dSortScN di g tt te (own.map (·.2))) := by
  obtain ⟨wi, i1, i2⟩ := hi.ex
  refine ⟨fun W => tCB (rSortedSet X.w) (tCons (tScI X.w (wi W) u (canT (cf X cl) tt W0) (canE (cf X cl) te W0) (own.map (·.2))) tNil), fun W k =>
    pe_callB (cr_sortedSet hc) hg1 hm1 boot_sorted (pa_cons (pe_scI hc hN (i1 W k) ok hg.pg (fun s H C l fp => (ht s H C l fp).ex) (fun s H C l fp => (he s H C l fp).can W0 (takesBlk rfl)) hs) pa_nil h1) (by decide) (by decide) h1 h2, ⟨fun B W σ H F ν s Q E P r w q kk => ?_⟩⟩
  simp only [tCB, tCons, tNil]
  refine scA i2 hg.rf hg.wp B W σ H F ν s _ E _ r w q fun p H' F' ν' ns c st' x' r' u' hcn q' => ?_
  obtain ⟨hz, q'⟩ := q'
  refine ⟨p, _, c, rfl, u'.e, by omega, fun ms b hs hm _ hb => ?_⟩
  obtain ⟨r2, x2⟩ := r'.names (o := .lst (ms.map V.int)) (ob := .lst (ms.map D.int)) hb (.lst (rz_ints _))
  refine kk _ _ _ (ν' ++ [b]) _ _ (x'.trans x2) r2 (.obj ?_) (q' ms hs fun j => by rw [hm j, decide_eq_true_eq])
  show (ν' ++ [b])[st'.length]? = some b
  rw [show st'.length = ν'.length from r'.sn, List.getElem?_append_right (Nat.le_refl _), Nat.sub_self]; rfl
end
end Kt
set_option maxHeartbeats 4000000
/-! Kt43: calls that leave no named thing behind. -/
namespace Kt
open PySem PySem.Spec L2 PyProof.Rows
mutual
def ltO (n : Nat) : D → Bool
  | .obj m => decide (m < n)
  | .lst ds => ltOA n ds
  | .tup ds => ltOA n ds
  | .dct ks => ltOK n ks
  | .part ds => ltOA n ds
  | .frl ds => ltOA n ds
  | _ => true
def ltOA (n : Nat) : List D → Bool
  | [] => true
  | d :: ds => ltO n d && ltOA n ds
def ltOK (n : Nat) : List (Key × D) → Bool
  | [] => true
  | (_, d) :: ks => ltO n d && ltOK n ks
end
section
variable {c : Cf} {F : Hp} {ν ν' : List Addr}
mutual
theorem Rz.lt : ∀ {v : V} {d : D}, Rz c F ν v d → ltO ν.length d = true
  | _, _, .non => by simp only [ltO]
  | _, _, .bl b => by simp only [ltO]
  | _, _, .int i => by simp only [ltO]
  | _, _, .str y => by simp only [ltO]
  | _, _, .lst h r => by simp only [ltO]; exact RzAll.lt r
  | _, _, .frl h r => by simp only [ltO]; exact RzAll.lt r
  | _, _, .tup h r => by simp only [ltO]; exact RzAll.lt r
  | _, _, .dct h r => by simp only [ltO]; exact RzKv.lt r
  | _, _, .obj h => by simp only [ltO, decide_eq_true_eq]; exact (List.getElem?_eq_some_iff.mp h).1
  | _, _, .part h h2 r => by simp only [ltO]; exact RzAll.lt r
theorem RzAll.lt : ∀ {v : List V} {d : List D}, RzAll c F ν v d → ltOA ν.length d = true
  | _, _, .nil => by simp only [ltOA]
  | _, _, .cons a r => by simp only [ltOA, Rz.lt a, RzAll.lt r, Bool.and_self]
theorem RzKv.lt : ∀ {v : List (Key × V)} {d : List (Key × D)}, RzKv c F ν v d → ltOK ν.length d = true
  | _, _, .nil => by simp only [ltOK]
  | _, _, .cons a r => by simp only [ltOK, Rz.lt a, RzKv.lt r, Bool.and_self]
end
mutual
theorem Rz.shr (p : ν <+: ν') : ∀ {v : V} {d : D}, Rz c F ν' v d → ltO ν.length d = true → Rz c F ν v d
  | _, _, .non, _ => .non
  | _, _, .bl b, _ => .bl b
  | _, _, .int i, _ => .int i
  | _, _, .str y, _ => .str y
  | _, _, .lst h r, e => .lst h (RzAll.shr p r (by simpa only [ltO] using e))
  | _, _, .frl h r, e => .frl h (RzAll.shr p r (by simpa only [ltO] using e))
  | _, _, .tup h r, e => .tup h (RzAll.shr p r (by simpa only [ltO] using e))
  | _, _, .dct h r, e => .dct h (RzKv.shr p r (by simpa only [ltO] using e))
  | _, _, .obj h, e => .obj (by
      simp only [ltO, decide_eq_true_eq] at e
      obtain ⟨t, rfl⟩ := p
      rwa [List.getElem?_append_left e] at h)
  | _, _, .part h h2 r, e => .part h h2 (RzAll.shr p r (by simpa only [ltO] using e))
theorem RzAll.shr (p : ν <+: ν') : ∀ {v : List V} {d : List D}, RzAll c F ν' v d → ltOA ν.length d = true → RzAll c F ν v d
  | _, _, .nil, _ => .nil
  | _, _, .cons a r, e => by
    simp only [ltOA, Bool.and_eq_true] at e
    exact .cons (Rz.shr p a e.1) (RzAll.shr p r e.2)
theorem RzKv.shr (p : ν <+: ν') : ∀ {v : List (Key × V)} {d : List (Key × D)}, RzKv c F ν' v d → ltOK ν.length d = true → RzKv c F ν v d
  | _, _, .nil, _ => .nil
  | _, _, .cons a r, e => by
    simp only [ltOK, Bool.and_eq_true] at e
    exact .cons (Rz.shr p a e.1) (RzKv.shr p r e.2)
end
def ltOF (n : Nat) : List (Str × D) → Bool
  | [] => true
  | (_, d) :: ks => ltO n d && ltOF n ks
theorem RzFs.lt : ∀ {v : List (Str × V)} {d : List (Str × D)}, RzFs c F ν v d → ltOF ν.length d = true
  | _, _, .nil => rfl
  | _, _, .cons a r => by simp only [ltOF, a.lt, RzFs.lt r, Bool.and_self]
theorem RzFs.shr (p : ν <+: ν') : ∀ {v : List (Str × V)} {d : List (Str × D)}, RzFs c F ν' v d → ltOF ν.length d = true → RzFs c F ν v d
  | _, _, .nil, _ => .nil
  | _, _, .cons a r, e => by
    simp only [ltOF, Bool.and_eq_true] at e
    exact .cons (a.shr p e.1) (RzFs.shr p r e.2)
end
section
variable {c : Cf} {B : Bs} {sl : List (Option SV)} {st1 st' : List Ob} {σ : L2.St} {H1 H' F1 F' : Hp} {ν1 ν' : List Addr}
/-- named things that nothing leads to are forgotten -/
theorem R.cutN (r1 : R c B ⟨sl, st1⟩ σ H1 F1 ν1) (r2 : R c B ⟨sl, st'⟩ σ H' F' ν') (x : Ext F1 ν1 F' ν') (hp : st1 <+: st') : R c B ⟨sl, st1⟩ σ H' F' ν1 ∧ Ext F1 ν1 F' ν1 := by
  have sub : ∀ a ∈ ν1, a ∈ ν' := fun a m => by obtain ⟨t, e⟩ := x.p; rw [← e]; exact List.mem_append_left _ m
  have fr : ∀ {a}, Frs B F' ν' a → Frs B F' ν1 a := fun {a} f => ⟨f.1, f.2.1, fun m => f.2.2 (sub a m)⟩
  refine ⟨⟨r2.sub, r2.f0, r2.fz, r2.kp, r1.nu, r1.nd, fun a m => r2.nf a (sub a m), r1.ln, fun i y e => ?_, r1.ap, r1.sn, fun n ob a e1 e2 => ?_⟩, ⟨x.s, List.prefix_refl _⟩⟩
  · obtain ⟨v, h1, h2⟩ := r2.sl i y e
    obtain ⟨v', g1, g2⟩ := r1.sl i y e
    refine ⟨v, h1, ?_⟩
    cases h2 with
    | d h => cases g2 with
      | d g => exact .d (h.shr x.p g.lt)
    | ol f eo h => cases g2 with
      | ol _ _ g => exact .ol (fr f) eo (h.shr x.p g.lt)
    | od f eo h => cases g2 with
      | od _ _ g => exact .od (fr f) eo (h.shr x.p g.lt)
    | ex eo h => cases g2 with
      | ex _ g => exact .ex eo (h.shr x.p g.lt)
    | oi f eo h => cases g2 with
      | oi _ _ g => exact .oi (fr f) eo (h.shr x.p g.lt)
  · obtain ⟨o, h1, h2⟩ := r2.st n ob a (pre_get hp e1) (pre_get x.p e2)
    obtain ⟨o', _, g2⟩ := r1.st n ob a e1 e2
    refine ⟨o, h1, ?_⟩
    cases h2 with
    | lst h => cases g2 with
      | lst g => exact .lst (h.shr x.p g.lt)
    | dct h => cases g2 with
      | dct g => exact .dct (h.shr x.p g.lt)
end
/-- a call whose named things are not seen behind it -/
def dCallP (sd : SpD) (da : DA) : DE := fun s Q E => da s (fun ds st => sd ds st (fun r st' => r.isR = true ∧ st <+: st' ∧ ltO st.length r.fz = true ∧ Q r.fz st) (fun _ _ => False)) E
theorem rf_callP {c : Cf} {sd : SpD} {da : DA} {ta : WX → TA} (ha : RfA c ta da) : RfE c (fun W => fun σ H Q => ta W σ H fun vs H1 => spOf c sd vs H1 Q (WE W σ)) (dCallP sd da) := by
  refine ⟨fun B W σ H F ν s Q E P r w q kk => ?_⟩
  refine ha.go B W σ H F ν s _ E _ r w q fun vs H1 F1 ν1 ds st1 x1 r1 z1 q1 => ?_
  refine ⟨F1, ν1, ds, st1, _, _, r1.based z1, q1, fun y st' v H' F' ν' x' r' q' => ?_, fun y st' cls d H' F' ν' x' r' z' q' => q'.elim⟩
  obtain ⟨hy, hp, hl, q'⟩ := q'
  obtain ⟨v', e1, z⟩ := r'.sl 0 y rfl
  cases e1
  obtain ⟨F'', x2, r2, z2⟩ := r1.fzR x' r' z (fun a dx fs e => by rw [e] at hy; cases hy) (fun a cls fs e => by rw [e] at hy; cases hy)
  obtain ⟨r3, x3⟩ := r1.cutN r2 x2 hp
  exact kk v H' F'' ν1 y.fz st1 (x1.trans x3) r3 (z2.shr x2.p (by rw [← r1.sn]; exact hl)) q'
section
variable {X : Cx} {cl : String → Addr}
theorem x_callP {x : Str} {p pos : Pos} {k j : Nat} {qual : Str} {st : Stmt} {f : Addr} {fd : FuncData} {ps : List Str} {sd : SpD} {e : Expr} {es : List Expr} {da : DA} (G : FnG X.prog X.w X.K X.mg X.base k f fd ps (spOf (cf X cl) sd)) (T : Df X.K X.mg x qual st ps f fd) (hr : Room j X.A) (hj : k ≤ j) (hgd : X.A.guards = some []) (hg : Gl X x)
    (ha : Ar X cl (e :: es) da) (hdb : (x == ("__debug__" : Str)) = false := by decide) (he : starEach (e :: es) X.env = (false, eval e X.env) :: starEach es X.env := by rfl) (hpl : (backTo pos (starEach es X.env)).any (·.1) = false := by rfl) :
    Ex X cl (.Call (.Name x p) (e :: es) [] pos) (dCallP sd da) := by
  obtain ⟨ta, a1, a2⟩ := ha.ex
  refine ⟨_, fun W tk => ⟨fun pins s σ H Q I h => ?_⟩, rf_callP a2⟩
  refine wpAny_Call_Name_kw (ld_glob I hg T.m ?_ hdb)
  refine PySem.W.callWith_K (h₀ := X.base) I.ok.mod.kin T.fu.kp (thn ((a1 W tk).run pos pins s σ H _ I h) fun us s1 hq => ?_) he hpl
  obtain ⟨vs, H1, I1, r, q⟩ := hq
  exact ⟨I1.kIn, run_fnG G (hr.mono hj) hgd T.b (passAt tk σ) I1 r q⟩
end
theorem ltO_ints (n : Nat) : ∀ ns : List Int, ltOA n (ns.map D.int) = true
  | [] => by simp [ltOA]
  | x :: ns => by rw [List.map_cons]; simp only [ltOA, ltO, ltO_ints n ns, Bool.and_self]
theorem ltO_tris (n : Nat) : ∀ ts : List Tri, ltOA n (ts.map triD) = true
  | [] => by simp [ltOA]
  | x :: ns => by rw [List.map_cons]; simp only [triD, ltOA, ltO, ltO_tris n ns, Bool.and_self]
end Kt
set_option maxHeartbeats 400000
/-! Kt44: tuning times, moments, busy pitches. -/
namespace Kt
open PySem PySem.Spec L2
/-! ### ascending lists without doubles -/
def ins (k : Int) : List Int → List Int
  | [] => [k]
  | x :: l => if k < x then k :: x :: l else if k = x then x :: l else x :: ins k l
def usort (ns : List Int) : List Int := ns.foldr ins []
theorem mem_ins {j k : Int} : ∀ {l : List Int}, j ∈ ins k l ↔ j = k ∨ j ∈ l
  | [] => by simp [ins]
  | x :: l => by
    unfold ins
    split
    · simp
    · split
      · rename_i h; subst h; simp
      · rw [List.mem_cons, mem_ins, List.mem_cons]
        constructor
        · rintro (h | h | h)
          · exact .inr (.inl h)
          · exact .inl h
          · exact .inr (.inr h)
        · rintro (h | h | h)
          · exact .inr (.inl h)
          · exact .inl h
          · exact .inr (.inr h)
theorem ins_lt {k : Int} : ∀ {l : List Int}, l.Pairwise (· < ·) → (ins k l).Pairwise (· < ·)
  | [], _ => by simp [ins]
  | x :: l, h => by
    have h1 := (List.pairwise_cons.mp h).1
    have h2 := (List.pairwise_cons.mp h).2
    unfold ins
    split
    · rename_i q
      refine List.pairwise_cons.mpr ⟨fun y hy => ?_, h⟩
      rcases List.mem_cons.mp hy with rfl | hy
      · exact q
      · have := h1 y hy; omega
    · split
      · exact h
      · refine List.pairwise_cons.mpr ⟨fun y hy => ?_, ins_lt h2⟩
        rcases mem_ins.mp hy with rfl | hy
        · omega
        · exact h1 y hy
theorem mem_usort {k : Int} : ∀ {ns : List Int}, k ∈ usort ns ↔ k ∈ ns
  | [] => by simp [usort]
  | x :: l => by
    show k ∈ ins x (usort l) ↔ _
    rw [mem_ins, mem_usort, List.mem_cons]
theorem usort_lt : ∀ {ns : List Int}, (usort ns).Pairwise (· < ·)
  | [] => .nil
  | x :: l => ins_lt (usort_lt (ns := l))
theorem ins_len {k : Int} : ∀ {l : List Int}, (ins k l).length ≤ l.length + 1
  | [] => by simp [ins]
  | x :: l => by
    unfold ins
    have := ins_len (k := k) (l := l)
    split
    · simp
    · split
      · simp
      · simp only [List.length_cons]; omega
theorem usort_len : ∀ {ns : List Int}, (usort ns).length ≤ ns.length
  | [] => Nat.le_refl _
  | x :: l => by
    have h1 := ins_len (k := x) (l := usort l)
    have h2 := usort_len (ns := l)
    show (ins x (usort l)).length ≤ l.length + 1
    omega
theorem lt_uniq : ∀ {a b : List Int}, a.Pairwise (· < ·) → b.Pairwise (· < ·) → (∀ k, k ∈ a ↔ k ∈ b) → a = b
  | [], [], _, _, _ => rfl
  | [], y :: b, _, _, h => by have := (h y).mpr (List.mem_cons_self); cases this
  | x :: a, [], _, _, h => by have := (h x).mp (List.mem_cons_self); cases this
  | x :: a, y :: b, ha, hb, h => by
    have a1 := (List.pairwise_cons.mp ha).1
    have b1 := (List.pairwise_cons.mp hb).1
    have e : x = y := by
      rcases List.mem_cons.mp ((h x).mp List.mem_cons_self) with e | m
      · exact e
      · rcases List.mem_cons.mp ((h y).mpr List.mem_cons_self) with e | m2
        · exact e.symm
        · have := a1 y m2; have := b1 x m; omega
    subst e
    rw [lt_uniq (List.pairwise_cons.mp ha).2 (List.pairwise_cons.mp hb).2 fun k => ?_]
    constructor
    · intro m
      rcases List.mem_cons.mp ((h k).mp (List.mem_cons_of_mem _ m)) with e | m2
      · have := a1 k m; omega
      · exact m2
    · intro m
      rcases List.mem_cons.mp ((h k).mpr (List.mem_cons_of_mem _ m)) with e | m2
      · have := b1 k m; omega
      · exact m2
theorem usort_of {ms ns : List Int} (h : ms.Pairwise (· < ·)) (m : ∀ k, k ∈ ms ↔ k ∈ ns) : ms = usort ns := lt_uniq h usort_lt fun k => (m k).trans mem_usort.symm
theorem usort_cong {ms ns : List Int} (m : ∀ k, k ∈ ms ↔ k ∈ ns) : usort ms = usort ns := usort_of usort_lt fun k => mem_usort.trans (m k)
theorem sorted_nodup {a ns : List Int} (p : a.Perm ns) (h : a.Pairwise (· ≤ ·)) (n : ns.Nodup) : a = usort ns := by
  refine usort_of ?_ fun k => p.mem_iff
  have nd : a.Nodup := p.nodup_iff.mpr n
  exact (h.and nd).imp fun {x y} q => by have := q.1; have := q.2; omega
/-! ### what stays -/
/-- the box at n was used, things were added -/
structure Gr (n : Nat) (st st' : List Ob) (c : Nat) : Prop where
  bx : Bx st' n c
  le : st.length ≤ st'.length
  kp : ∀ m, m ≠ n → m < st.length → st'[m]? = st[m]?
theorem Stp.gr {n c : Nat} {st st' : List Ob} (h : Stp n st st' c) : Gr n st st' c := ⟨h.2, Nat.le_of_eq h.len.symm, fun m hm _ => h.get (Ne.symm hm)⟩
theorem Gr.trans {n c c' : Nat} {st s1 s2 : List Ob} (h : Gr n st s1 c) (k : Gr n s1 s2 c') : Gr n st s2 c' :=
  ⟨k.bx, Nat.le_trans h.le k.le, fun m hm hl => by rw [k.kp m hm (Nat.lt_of_lt_of_le hl h.le), h.kp m hm hl]⟩
theorem Gr.mono {n c c' : Nat} {st s1 : List Ob} (h : Gr n st s1 c) (k : c ≤ c') : Gr n st s1 c' := ⟨h.bx.mono k, h.le, h.kp⟩
theorem Gr.self {n c : Nat} {st : List Ob} (h : Bx st n c) : Gr n st st c := ⟨h, Nat.le_refl _, fun _ _ _ => rfl⟩
/-! ### busy -/
def bsy (T m : Int) (t : Tri) : Bool := decide (t.1 ≤ m) && decide (m < t.2.1 + T)
def bz (ts : List Tri) (T m : Int) : List Int := usort ((ts.filter (bsy T m)).map (·.2.2))
def RR_need_time : DS := (dSeq (dIfS (dNot (dTest (dCall m_isint (dCons (dVar 0) (dCons (dC (.int 1)) (dCons (dC (.int 9999)) dNil)))))) (dSeq (dRaise1 "BadTime" "found" (dCons (dVar 0) dNil)) dNext) dNext) dNext)
def mm_need_time : SpD := mD 1 1 (RR_need_time)
def RR_is_busy : DS := (dSeq (dRet (dChain kLe kLt (dBin kIx (dVar 0) (dC (.int 0))) (dVar 2) (dBin kAdd (dBin kIx (dVar 0) (dC (.int 1))) (dVar 1)))) dNext)
def mm_is_busy : SpD := mD 3 3 (RR_is_busy)
def RR_law_time_1 (c0 : Int) : DS := (dSet (dName 2) (dCall (m_take c0) (dCons (dVar 0) (dCons (dC (.int 6)) dNil))))
def RR_law_time_2 (c0 : Int) : DS := (dIfS (dAnd (dTest (dBin kLt (dVar 2) (dC (.int 3)))) (dTest (dBin kNe (dVar 1) (dLst dNil)))) (dSeq (dPar 3 4 (dCons (dBin kIx (dVar 1) (dCall (m_take c0) (dCons (dVar 0) (dCons (dB kLen (dCons (dVar 1) dNil)) dNil)))) (dCons (dBin kIx (dVar 1) (dCall (m_take c0) (dCons (dVar 0) (dCons (dB kLen (dCons (dVar 1) dNil)) dNil)))) dNil))) (dSeq (dSet (dName 5) (dBin kSub (dB kMax2 (dCons (dBin kIx (dVar 3) (dC (.int 0))) (dCons (dBin kIx (dVar 4) (dC (.int 0))) dNil))) (dB kMin2 (dCons (dBin kIx (dVar 3) (dC (.int 1))) (dCons (dBin kIx (dVar 4) (dC (.int 1))) dNil))))) (dSeq (dRet (dB kMin2 (dCons (dC (.int 9999)) (dCons (dB kMax2 (dCons (dC (.int 1)) (dCons (dBin kAdd (dVar 5) (dCall (m_take c0) (dCons (dVar 0) (dCons (dC (.int 2)) dNil)))) dNil))) dNil)))) dNext))) dNext)
def RR_law_time_3 (c0 : Int) : DS := (dRet (dBin kAdd (dC (.int 1)) (dCall (m_take c0) (dCons (dVar 0) (dCons (dBin kIx (dLst (dCons (dC (.int 1)) (dCons (dC (.int 6)) (dCons (dC (.int 30)) (dCons (dC (.int 9999)) dNil))))) (dCall (m_take c0) (dCons (dVar 0) (dCons (dC (.int 4)) dNil)))) dNil)))))
def RR_law_time (c0 : Int) : DS := (dSeq (RR_law_time_1 c0) (dSeq (RR_law_time_2 c0) (dSeq (RR_law_time_3 c0) dNext)))
def mm_law_time (c0 : Int) : SpD := mD 6 2 (RR_law_time c0)
def RR_law_moment_1 (c0 : Int) : DS := (dIfS (dOr (dTest (dBin kEq (dVar 1) (dLst dNil))) (dTest (dBin kEq (dCall (m_take c0) (dCons (dVar 0) (dCons (dC (.int 5)) dNil))) (dC (.int 0))))) (dSeq (dRet (dBin kIx (dLst (dCons (dCall (m_take c0) (dCons (dVar 0) (dCons (dC (.int 19999)) dNil))) (dCons (dCall (m_take c0) (dCons (dVar 0) (dCons (dC (.int 60)) dNil))) (dCons (dC (.int 19998)) dNil)))) (dCall (m_take c0) (dCons (dVar 0) (dCons (dC (.int 3)) dNil))))) dNext) dNext)
def RR_law_moment_2 (c0 : Int) : DS := (dSet (dUnp 3 (gMore (dName 3) (gMore (dName 4) (gMore (dName 5) gNone)))) (dBin kIx (dVar 1) (dCall (m_take c0) (dCons (dVar 0) (dCons (dB kLen (dCons (dVar 1) dNil)) dNil)))))
def RR_law_moment_3 (c0 : Int) : DS := (dRet (dB kMin2 (dCons (dC (.int 19998)) (dCons (dB kMax2 (dCons (dC (.int 0)) (dCons (dBin kSub (dBin kAdd (dBin kIx (dLst (dCons (dVar 3) (dCons (dVar 4) (dCons (dBin kAdd (dVar 4) (dVar 2)) dNil)))) (dCall (m_take c0) (dCons (dVar 0) (dCons (dC (.int 3)) dNil)))) (dCall (m_take c0) (dCons (dVar 0) (dCons (dC (.int 3)) dNil)))) (dC (.int 1))) dNil))) dNil))))
def RR_law_moment (c0 : Int) : DS := (dSeq (RR_law_moment_1 c0) (dSeq (RR_law_moment_2 c0) (dSeq (RR_law_moment_3 c0) dNext)))
def mm_law_moment (c0 : Int) : SpD := mD 6 3 (RR_law_moment c0)
def RR_law_busy : DS := (dSeq (dSet (dName 3) (dLstN dNil)) (dSeq (dFor (dIt (dVar 0)) (dUnp 3 (gMore (dName 4) (gMore (dName 5) (gMore (dName 6) gNone)))) (dSeq (dIfS (dAnd (dTest (dChain kLe kLe (dVar 4) (dVar 2) (dBin kSub (dBin kAdd (dVar 5) (dVar 1)) (dC (.int 1))))) (dTest (dBin kNotIn (dVar 6) (dVar 3)))) (dSeq (dDrop (dApN (dVar 3) (dVar 6))) dNext) dNext) dNext)) (dSeq (dRet (dB kSorted (dCons (dVar 3) dNil))) dNext)))
def mm_law_busy : SpD := mD 7 3 (RR_law_busy)
def RR_busyp : DS := (dSeq (dRet (dSortSc (dIt (dMethP mm_pnotes (dVar 0) dNil)) (dName 3) (dTest (dCall mm_is_busy (dCons (dVar 3) (dCons (dVar 1) (dCons (dVar 2) dNil))))) (dBin kIx (dVar 3) (dC (.int 2))) [3])) dNext)
def mm_busyp : SpD := mD 4 3 RR_busyp
def RR_busy : DS := (dSeq (dDrop (dCall mm_needpart (dCons (dVar 0) dNil))) (dSeq (dDrop (dCall mm_need_time (dCons (dVar 1) dNil))) (dSeq (dDrop (dCall mm_needmoment (dCons (dVar 2) dNil))) (dSeq (dRet (dCall mm_busyp (dCons (dVar 0) (dCons (dVar 1) (dCons (dVar 2) dNil))))) dNext))))
def mm_busy : SpD := mD 3 3 RR_busy
section
variable {st : List Ob} {Q : SV → List Ob → Prop} {E : XK'} {n c : Nat} {ts : List Tri}
theorem time_need {d : D} {t : String} (h : tyD st d = some t) (q : isI d 1 9999 = true → Q (.d .non) st) (e : isI d 1 9999 = false → E ⟨"BadTime", [("found", d)]⟩ st) : mm_need_time [d] st Q E := by
  simp only [mm_need_time, RR_need_time, mD, dSeq, dIfS, dNot, dTest, dCall, dCons, dNil, dVar, dC, dNext, dRaise1]
  refine ⟨rfl, _, rfl, isint_ok h ⟨rfl, _, rfl, ?_⟩⟩
  cases hi : isI d 1 9999 with
  | true => rw [if_neg (by decide)]; exact q hi
  | false => rw [if_pos (by decide)]; exact ⟨_, rfl, _, rfl, e hi⟩
theorem isbusy_ok {t : Tri} {T m : Int} (q : Q (.d (.bl (bsy T m t))) st) : mm_is_busy [triD t, .int T, .int m] st Q E := by
  simp only [mm_is_busy, RR_is_busy, mD, dSeq, dRet, dChain, dBin, dCons, dNil, dVar, dC]
  refine ⟨rfl, _, rfl, kIx_tri.1 ⟨_, rfl, ⟨True.intro, _, rfl, ?_⟩⟩⟩
  by_cases h : t.1 ≤ m
  · rw [if_pos (by simpa using h)]
    refine ⟨_, rfl, kIx_tri.2.1 ⟨_, rfl, ?_⟩⟩
    unfold bsy at q
    rw [decide_eq_true h, Bool.true_and] at q
    exact q
  · rw [if_neg (by simpa using h)]
    unfold bsy at q
    rw [decide_eq_false h, Bool.false_and] at q
    exact q
theorem filter_tri (p : D → Bool) (f : Tri → Bool) (h : ∀ t, p (triD t) = f t) : ∀ ts : List Tri, (ts.map triD).filter p = (ts.filter f).map triD
  | [] => rfl
  | t :: ts => by
    rw [List.map_cons, List.filter_cons, List.filter_cons, h t, filter_tri p f h ts]
    split <;> simp
/-- the third of a tuple -/
def thD : D → D
  | .tup [_, _, d] => d
  | _ => .non
theorem busyp_ok {T m : Int} (hl : ts.length < 64) (q : Q (.d (.lst ((bz ts T m).map D.int))) st) : mm_busyp [.part (ts.map triD), .int T, .int m] st Q E := by
  simp only [mm_busyp, RR_busyp, mD, dSeq, dRet, dSortSc, dSc, dIt, dMethP, dCall, dCons, dNil, dVar, dTest, dBin, dC, dName]
  refine ⟨rfl, _, rfl, ⟨_, rfl⟩, pnotes_ok ⟨rfl, _, rfl, by rw [List.length_map]; omega, ?_⟩⟩
  refine comp_fm (fun d => match d with | .tup [.int a, .int b, .int p] => bsy T m (a, b, p) | _ => false) thD True.intro _ [] _ (by rw [List.length_nil, List.length_map, sizeLine_eq]; omega) (fun d hd K K0 hK hK0 => ?_) ?_
  · obtain ⟨t, _, rfl⟩ := List.mem_map.mp hd
    have hK : bsy T m t = true → K (thD (triD t)) st := hK
    have hK0 : bsy T m t = false → K0 st := hK0
    refine ⟨_, rfl, _, rfl, _, rfl, isbusy_ok ⟨rfl, _, rfl, ?_⟩⟩
    simp only [dIntE, dBin, dVar, dC]
    by_cases hb : bsy T m t = true
    · rw [if_pos hb]
      exact ⟨_, rfl, kIx_tri.2.2 ⟨⟨_, rfl⟩, hK hb⟩⟩
    · rw [if_neg hb]
      exact hK0 (by simpa using hb)
  · rw [List.nil_append, filter_tri _ (bsy T m) (fun t => rfl), List.map_map]
    have e : (ts.filter (bsy T m)).map (thD ∘ triD) = ((ts.filter (bsy T m)).map (·.2.2)).map D.int := by rw [List.map_map]; rfl
    rw [e]
    have hf := List.length_filter_le (bsy T m) ts
    refine ⟨_, intsOf_map _, by rw [List.length_map]; omega, fun ms h1 h2 => ?_⟩
    rw [usort_of h1 h2]
    exact q
theorem busy_good {T m : Int} (hl : ts.length < 64) (hT : 1 ≤ T ∧ T ≤ 9999) (hm : 0 ≤ m ∧ m ≤ 19998) (q : Q (.d (.lst ((bz ts T m).map D.int))) st) : mm_busy [.part (ts.map triD), .int T, .int m] st Q E := by
  simp only [mm_busy, RR_busy, mD, dSeq, dRet, dDrop, dCall, dCons, dNil, dVar]
  exact ⟨rfl, _, rfl, pneed_ok ⟨rfl, _, rfl, time_need (t := "int") rfl (fun _ => ⟨rfl, _, rfl, moment_need (t := "int") rfl (fun _ => ⟨rfl, _, rfl, _, rfl, _, rfl, busyp_ok hl ⟨rfl, q⟩⟩) fun z => absurd z (by simp [isI]; omega)⟩) fun z => absurd z (by simp [isI]; omega)⟩⟩
theorem kNe_nil {K : DK} (h : ∀ t ∈ ts, bdT t) (hl : ts.length ≤ 100) (k : K (.bl (!decide (ts = []))) st) : kNe (.lst (ts.map triD)) (.lst []) st K := kEq_nil h hl ⟨_, rfl, k⟩
theorem kIx_tris {r : Int} {K : DK} (h0 : 0 ≤ r) (h1 : r < ts.length) (q : ∀ t ∈ ts, K (triD t) st) : kIx (.lst (ts.map triD)) (.int r) st K := by
  refine kIx_lst h0 (by rw [List.length_map]; exact h1) fun d hd => ?_
  obtain ⟨t, ht, rfl⟩ := List.mem_map.mp hd
  exact q t ht
theorem four (a b c d : D) : [a, b, c, d].length ≤ sizeLine := Nat.le_trans (Nat.le_of_eq (rfl : _ = 4)) (by rw [sizeLine_eq]; decide)
theorem three (a b c : D) : [a, b, c].length ≤ sizeLine := Nat.le_trans (Nat.le_of_eq (rfl : _ = 3)) (by rw [sizeLine_eq]; decide)
theorem none0 : ([] : List D).length ≤ sizeLine := Nat.zero_le _
theorem tm3_ok {De : DEnds} {c0 : Int} {p : List (Option SV)} (h : Bx st n c) (hc : c + 2 ≤ 1000000) (hc0 : 0 ≤ c0 ∧ c0 ≤ 1000000) (q : ∀ T st', 1 ≤ T → T ≤ 9999 → Stp n st st' (c + 2) → De.rt (.d (.int T)) st') : RR_law_time_3 c0 De ⟨some (.d (.obj n)) :: p, st⟩ := by
  simp only [RR_law_time_3, dRet, dBin, dCall, dCons, dNil, dVar, dC, dLst]
  refine ⟨_, rfl, four _ _ _ _, _, rfl, take_ok (many := 4) h (by omega) (by decide) (by decide) (fun r s1 a b p => ⟨rfl, ?_⟩) hc0⟩
  refine kIx_lst a (by show r < 4; exact b) fun d hd => ?_
  obtain ⟨k, rfl, k0, k1⟩ : ∃ k : Int, d = .int k ∧ 1 ≤ k ∧ k ≤ 9999 := by
    simp only [List.mem_cons, List.not_mem_nil, or_false] at hd
    rcases hd with rfl | rfl | rfl | rfl <;> exact ⟨_, rfl, by omega, by omega⟩
  exact take_ok (many := k) p.2 (by omega) (by omega) (by omega) (fun u s2 a2 b2 p2 => ⟨rfl, kAddI (q _ _ (by omega) (by omega) (p.trans p2))⟩) hc0
theorem tm2_ok {De : DEnds} {c0 w : Int} (h : Bx st n c) (hc : c + 3 ≤ 1000000) (hc0 : 0 ≤ c0 ∧ c0 ≤ 1000000) (hv : ∀ t ∈ ts, vN t) (hl : ts.length ≤ 100)
    (qn : De.nx ⟨[some (.d (.obj n)), some (.d (.lst (ts.map triD))), some (.d (.int w)), none, none, none], st⟩) (q : ∀ T st', 1 ≤ T → T ≤ 9999 → Stp n st st' (c + 3) → De.rt (.d (.int T)) st') :
    RR_law_time_2 c0 De ⟨[some (.d (.obj n)), some (.d (.lst (ts.map triD))), some (.d (.int w)), none, none, none], st⟩ := by
  simp only [RR_law_time_2, dSeq, dSet, dIfS, dAnd, dTest, dPar, dBin, dB, dLst, dCall, dCons, dNil, dVar, dC, dName, dRet, dNext, kLt, kCmp]
  refine ⟨_, rfl, _, rfl, ?_⟩
  by_cases hw : w < 3
  · rw [if_pos (by simpa using hw)]
    refine ⟨_, rfl, none0, kNe_nil (fun t ht => (hv t ht).bd) hl ⟨_, rfl, ?_⟩⟩
    by_cases he : ts = []
    · rw [if_neg (by simp [he])]; exact qn
    · rw [if_pos (by simp [he])]
      have hp : 0 < ts.length := List.length_pos_iff.mpr he
      refine ⟨_, rfl, _, rfl, _, rfl, len_seq_of rfl rfl ?_⟩
      rw [List.length_map]
      refine take_ok h (by omega) (by omega) (by omega) (fun r s1 a b p => ⟨rfl, kIx_tris a b fun t1 h1 => ?_⟩) hc0
      refine ⟨_, rfl, _, rfl, _, rfl, len_seq_of rfl rfl ?_⟩
      rw [List.length_map]
      refine take_ok p.2 (by omega) (by omega) (by omega) (fun r2 s2 a2 b2 p2 => ⟨rfl, kIx_tris a2 b2 fun t2 h2 => ?_⟩) hc0
      refine ⟨_, _, rfl, ?_⟩
      refine ⟨_, rfl, kIx_tri.1 ⟨_, rfl, kIx_tri.1 (kmax fun m _ _ em => ⟨_, rfl, kIx_tri.2.1 ⟨_, rfl, kIx_tri.2.1 (kmin fun m2 _ _ em2 => ⟨True.intro, ?_⟩)⟩⟩)⟩⟩
      refine ⟨_, rfl, _, rfl, take_ok (many := 2) p2.2 (by omega) (by decide) (by decide) (fun u s3 a3 b3 p3 => ⟨rfl, kAddI (kmax fun m3 l1 l2 em3 => kmin fun m4 l3 l4 em4 => ?_)⟩) hc0⟩
      exact q _ _ (by omega) (by omega) (p.trans (p2.trans p3))
  · rw [if_neg (by simpa using hw)]
    rw [if_neg (by decide)]
    exact qn
theorem time_ok {c0 : Int} (h : Bx st n c) (hc : c + 4 ≤ 1000000) (hv : ∀ t ∈ ts, vN t) (hl : ts.length ≤ 100) (q : ∀ T st', 1 ≤ T → T ≤ 9999 → Stp n st st' (c + 4) → Q (.d (.int T)) st')
    (hc0 : 0 ≤ c0 ∧ c0 ≤ 1000000 := by decide) : mm_law_time c0 [.obj n, .lst (ts.map triD)] st Q E := by
  simp only [mm_law_time, RR_law_time, mD, dSeq, dNext]
  refine ⟨rfl, ?_⟩
  simp only [RR_law_time_1, dSet, dCall, dCons, dNil, dVar, dC, dName]
  refine ⟨_, rfl, take_ok (many := 6) h (by omega) (by decide) (by decide) (fun w s1 a1 b1 p1 => ⟨rfl, ?_⟩) hc0⟩
  refine tm2_ok p1.2 (by omega) hc0 hv hl ?_ fun T st' x y z => q T st' x y (p1.trans z)
  exact tm3_ok p1.2 (by omega) hc0 fun T st' x y z => q T st' x y ((p1.trans z).mono (by omega))
theorem mo1_ok {De : DEnds} {c0 T : Int} (h : Bx st n c) (hc : c + 4 ≤ 1000000) (hc0 : 0 ≤ c0 ∧ c0 ≤ 1000000) (hv : ∀ t ∈ ts, vN t) (hl : ts.length ≤ 100)
    (qn : ∀ s, ts ≠ [] → Stp n st s (c + 1) → De.nx ⟨[some (.d (.obj n)), some (.d (.lst (ts.map triD))), some (.d (.int T)), none, none, none], s⟩) (q : ∀ m st', 0 ≤ m → m ≤ 19998 → Stp n st st' (c + 4) → De.rt (.d (.int m)) st') :
    RR_law_moment_1 c0 De ⟨[some (.d (.obj n)), some (.d (.lst (ts.map triD))), some (.d (.int T)), none, none, none], st⟩ := by
  have go : ∀ s, Stp n st s (c + 1) → dRet (dBin kIx (dLst (dCons (dCall (m_take c0) (dCons (dVar 0) (dCons (dC (.int 19999)) dNil))) (dCons (dCall (m_take c0) (dCons (dVar 0) (dCons (dC (.int 60)) dNil))) (dCons (dC (.int 19998)) dNil)))) (dCall (m_take c0) (dCons (dVar 0) (dCons (dC (.int 3)) dNil))))
      De ⟨[some (.d (.obj n)), some (.d (.lst (ts.map triD))), some (.d (.int T)), none, none, none], s⟩ := fun s p => by
    simp only [dRet, dBin, dLst, dCall, dCons, dNil, dVar, dC]
    refine ⟨_, rfl, take_ok (many := 19999) p.2 (by omega) (by decide) (by decide) (fun x1 s1 a1 b1 p1 => ⟨rfl, _, rfl, take_ok (many := 60) p1.2 (by omega) (by decide) (by decide) (fun x2 s2 a2 b2 p2 => ⟨rfl, three _ _ _, _, rfl, take_ok (many := 3) p2.2 (by omega) (by decide) (by decide) (fun x3 s3 a3 b3 p3 => ⟨rfl, ?_⟩) hc0⟩) hc0⟩) hc0⟩
    refine kIx_lst a3 (by show x3 < 3; exact b3) fun d hd => ?_
    obtain ⟨k, rfl, k0, k1⟩ : ∃ k : Int, d = .int k ∧ 0 ≤ k ∧ k ≤ 19998 := by
      simp only [List.mem_cons, List.not_mem_nil, or_false] at hd
      rcases hd with rfl | rfl | rfl <;> exact ⟨_, rfl, by omega, by omega⟩
    exact q _ _ k0 k1 ((p.trans (p1.trans (p2.trans p3))).mono (by omega))
  simp only [RR_law_moment_1, dIfS, dOr, dTest, dSeq, dNext]
  simp only [dBin, dVar, dLst, dNil]
  refine ⟨_, rfl, none0, kEq_nil (fun t ht => (hv t ht).bd) hl ⟨_, rfl, ?_⟩⟩
  by_cases he : ts = []
  · rw [if_pos (by simp [he])]
    rw [if_pos True.intro]
    exact go _ (h.self.mono (by omega))
  · rw [if_neg (by simp [he])]
    simp only [dCall, dCons, dNil, dVar, dC]
    refine ⟨_, rfl, take_ok (many := 5) h (by omega) (by decide) (by decide) (fun x s a b p => ⟨rfl, ?_⟩) hc0⟩
    unfold kEq
    refine ⟨_, rfl, ?_⟩
    by_cases hx : x = 0
    · rw [if_pos (by simp [hx])]; exact go _ p
    · rw [if_neg (by simp [hx])]; exact qn _ he p
theorem moment_ok {c0 T : Int} (h : Bx st n c) (hc : c + 4 ≤ 1000000) (hv : ∀ t ∈ ts, vN t) (hl : ts.length ≤ 100) (q : ∀ m st', 0 ≤ m → m ≤ 19998 → Stp n st st' (c + 4) → Q (.d (.int m)) st')
    (hc0 : 0 ≤ c0 ∧ c0 ≤ 1000000 := by decide) : mm_law_moment c0 [.obj n, .lst (ts.map triD), .int T] st Q E := by
  simp only [mm_law_moment, RR_law_moment, mD, dSeq, dNext]
  refine ⟨rfl, ?_⟩
  refine mo1_ok h hc hc0 hv hl (fun s he p => ?_) q
  have hp : 0 < ts.length := List.length_pos_iff.mpr he
  simp only [RR_law_moment_2, dSeq, dNext, dSet, dUnp, gMore, gNone, dBin, dB, dCall, dCons, dNil, dVar, dC, dName]
  refine ⟨_, rfl, _, rfl, _, rfl, len_seq_of rfl rfl ?_⟩
  rw [List.length_map]
  refine take_ok p.2 (by omega) (by omega) (by omega) (fun r s1 a b p1 => ⟨rfl, kIx_tris a b fun t ht => ?_⟩) hc0
  refine ⟨_, rfl, rfl, _, _, rfl, _, _, rfl, _, _, rfl, rfl, ?_⟩
  simp only [RR_law_moment_3, dRet, dBin, dB, dLst, dCall, dCons, dNil, dVar, dC]
  refine ⟨_, rfl, _, rfl, _, rfl, _, rfl, three _ _ _, _, rfl, take_ok (many := 3) p1.2 (by omega) (by decide) (by decide) (fun u s2 a2 b2 p2 => ⟨rfl, ?_⟩) hc0⟩
  refine kIx_lst a2 (by show u < 3; exact b2) fun d hd => ?_
  obtain ⟨k, rfl⟩ : ∃ k : Int, d = .int k := by
    simp only [List.mem_cons, List.not_mem_nil, or_false] at hd
    rcases hd with rfl | rfl | rfl <;> exact ⟨_, rfl⟩
  refine ⟨_, rfl, take_ok (many := 3) p2.2 (by omega) (by decide) (by decide) (fun u3 s3 a3 b3 p3 => ⟨rfl, kAddI ⟨True.intro, kmax fun m1 l1 l2 _ => kmin fun m2 l3 l4 em => ?_⟩⟩) hc0⟩
  exact q _ _ (by omega) (by omega) (p.trans (p1.trans (p2.trans p3)))
end
end Kt
set_option maxHeartbeats 400000
/-! Kt45: busy pitches as a law counts them; small helps. -/
namespace Kt
open PySem PySem.Spec L2
theorem inF_int (x : Int) (l : List Int) : inF (.int x) (l.map D.int) = decide (x ∈ l) := by
  induction l with
  | nil => rfl
  | cons y l ih =>
    show (eqF (.int y) (.int x) || inF (.int x) (l.map D.int)) = _
    rw [ih]
    show ((y == x) || decide (x ∈ l)) = _
    by_cases h : y = x
    · subst h; simp
    · have h' : ¬ x = y := fun z => h z.symm
      simp [h, h']
theorem flD_ints : ∀ l : List Int, (l.map D.int).all flD = true
  | [] => rfl
  | x :: l => by rw [List.map_cons, List.all_cons, flD_ints l]; rfl
theorem rng_get {lo : Int} {k i : Nat} {d : D} (h : (rngD lo k)[i]? = some d) : i < k ∧ d = .int (lo + (i : Int)) := by
  obtain ⟨hl, e⟩ := List.getElem?_eq_some_iff.mp h
  rw [rngD, List.length_map, List.length_range] at hl
  exact ⟨hl, by rw [← e]; simp [rngD]⟩
theorem rng_len (lo : Int) (k : Nat) : (rngD lo k).length = k := by rw [rngD, List.length_map, List.length_range]
theorem tri_get {ts : List Tri} {i : Nat} {d : D} (h : (ts.map triD)[i]? = some d) : ∃ t, ts[i]? = some t ∧ d = triD t := by
  rw [List.getElem?_map] at h
  cases e : ts[i]? with
  | none => rw [e] at h; cases h
  | some t => rw [e] at h; cases h; exact ⟨t, rfl, rfl⟩
theorem take_succ_get {α : Type} {l : List α} {i : Nat} {x : α} (h : l[i]? = some x) : l.take (i + 1) = l.take i ++ [x] := by rw [List.take_succ, h]; rfl
/-! ### data that repr and == may see, by depth and weight -/
structure It (d w : Nat) (p : PyData) : Prop where
  g : gdP p = true
  d : p.depth ≤ d
  w : p.weight ≤ w
theorem It.mono {d d' w w' : Nat} {p : PyData} (h : It d w p) (h1 : d ≤ d' := by omega) (h2 : w ≤ w' := by omega) : It d' w' p := ⟨h.g, Nat.le_trans h.d h1, Nat.le_trans h.w h2⟩
theorem It.gd {d w : Nat} {p : PyData} (h : It d w p) (h1 : d ≤ 64 := by omega) (h2 : w ≤ 1048576 := by omega) : Gd p := ⟨h.g, Nat.le_trans h.d h1, Nat.le_trans h.w h2⟩
theorem It.int {i : Int} (h : -999999999999 ≤ i ∧ i ≤ 999999999999) : It 0 100 (.int i) := ⟨(it_int h).1, by simp [PyData.depth], wt_mid h⟩
theorem It.non : It 0 0 .none := ⟨rfl, by simp [PyData.depth], by simp [PyData.weight]⟩
theorem It.bl {b : Bool} : It 0 0 (.bool b) := ⟨rfl, by simp [PyData.depth], by simp [PyData.weight]⟩
theorem It.str {k : Nat} {x : Str} (h : Smt k x) : It 0 k (.str x) := ⟨by simp only [gdP, h.strOk], by simp [PyData.depth], by simp only [PyData.weight]; exact h.1⟩
theorem It.all {d w : Nat} : ∀ {ps : List PyData}, (∀ x ∈ ps, It d w x) → gdAll ps = true ∧ PyData.depthAll ps ≤ d ∧ PyData.weightAll ps ≤ ps.length * (w + 1)
  | [], _ => ⟨rfl, by simp [PyData.depthAll], by simp [PyData.weightAll]⟩
  | p :: ps, h => by
    obtain ⟨i1, i2, i3⟩ := It.all (ps := ps) fun x hx => h x (by simp [hx])
    have h0 := h p (by simp)
    refine ⟨by simp only [gdAll, h0.g, i1, Bool.and_self], ?_, ?_⟩
    · simp only [PyData.depthAll]; have := h0.d; omega
    · simp only [PyData.weightAll, List.length_cons, Nat.add_mul]; have := h0.w; omega
theorem It.lst {d w l : Nat} {ps : List PyData} (h : ∀ x ∈ ps, It d w x) (hl : ps.length ≤ l) : It (d + 1) (l * (w + 1)) (.list ps) := by
  obtain ⟨i1, i2, i3⟩ := It.all h
  refine ⟨by simpa only [gdP] using i1, by simp only [PyData.depth]; omega, by simp only [PyData.weight]; exact Nat.le_trans i3 (Nat.mul_le_mul_right _ hl)⟩
theorem It.tup {d w l : Nat} {ps : List PyData} (h : ∀ x ∈ ps, It d w x) (hl : ps.length ≤ l) : It (d + 1) (l * (w + 1)) (.tuple ps) := by
  obtain ⟨i1, i2, i3⟩ := It.all h
  refine ⟨by simpa only [gdP] using i1, by simp only [PyData.depth]; omega, by simp only [PyData.weight]; exact Nat.le_trans i3 (Nat.mul_le_mul_right _ hl)⟩
theorem It.cons {d w : Nat} {p : PyData} {ps : List PyData} (h : It d w p) (hs : ∀ x ∈ ps, It d w x) : ∀ x ∈ p :: ps, It d w x := fun x hx => by
  rcases List.mem_cons.mp hx with rfl | hx
  · exact h
  · exact hs x hx
theorem It.nil {d w : Nat} : ∀ x ∈ ([] : List PyData), It d w x := fun x hx => by cases hx
theorem It.ints {ns : List Int} {l : Nat} (h : ∀ k ∈ ns, -999999999999 ≤ k ∧ k ≤ 999999999999) (hl : ns.length ≤ l) : It 1 (l * 101) (.list (ns.map .int)) :=
  It.lst (d := 0) (w := 100) (fun x hx => by obtain ⟨k, hk, rfl⟩ := List.mem_map.mp hx; exact It.int (h k hk)) (by rw [List.length_map]; exact hl)
theorem It.tri {t : Tri} (h : bdT t) : It 1 303 (pyT t) :=
  It.tup (d := 0) (w := 100) (l := 3) (It.cons (It.int (by unfold bdT at h; omega)) (It.cons (It.int (by unfold bdT at h; omega)) (It.cons (It.int (by unfold bdT at h; omega)) It.nil))) (by simp)
theorem It.tris {ts : List Tri} {l : Nat} (h : ∀ t ∈ ts, bdT t) (hl : ts.length ≤ l) : It 2 (l * 304) (.list (ts.map pyT)) :=
  It.lst (d := 1) (w := 303) (fun x hx => by obtain ⟨t, ht, rfl⟩ := List.mem_map.mp hx; exact It.tri (h t ht)) (by rw [List.length_map]; exact hl)
theorem toPyA_ints (g : Nat → Option PyData) : ∀ ns : List Int, toPyA g (ns.map D.int) = some (ns.map PyData.int)
  | [] => by simp [toPyA]
  | n :: ns => by rw [List.map_cons]; simp only [toPyA, toPyF, toPyA_ints g ns, List.map_cons]
theorem toPyF_ints (g : Nat → Option PyData) (ns : List Int) : toPyF g (.lst (ns.map D.int)) = some (.list (ns.map PyData.int)) := by simp only [toPyF, toPyA_ints, Option.map_some]
theorem toPyF_tris (g : Nat → Option PyData) (ts : List Tri) : toPyF g (.lst (ts.map triD)) = some (.list (ts.map pyT)) := by simp only [toPyF, toPyA_tri, Option.map_some]
theorem obPy_lst {st : List Ob} {n : Nat} {ds : List D} {ps : List PyData} (h : st[n]? = some (.lst ds)) (hp : toPyA (fun _ => none) ds = some ps) : obPy st n = some (.list ps) := by
  unfold obPy; rw [h]; simp [hp]
/-! ### values that are refused -/
/-- the box stands where another thing was changed -/
theorem Bx.keep {st st' : List Ob} {n c : Nat} (h : Bx st n c) (k : st'[n]? = st[n]?) : Bx st' n c := by
  obtain ⟨x, y, z, e, r⟩ := h
  exact ⟨x, y, z, by rw [k]; exact e, r⟩
theorem ty_keep {st st' : List Ob} {d : D} (h : ∃ t, tyD st d = some t) (k : ∀ m, d = .obj m → st'[m]? = st[m]?) : ∃ t, tyD st' d = some t := by
  obtain ⟨t, ht⟩ := h
  refine ⟨t, ?_⟩
  rw [← ht]
  cases d <;> first | rfl | simp only [tyD, k _ rfl]
theorem obj_lt {st : List Ob} {m : Nat} (h : ∃ t, tyD st (.obj m) = some t) : m < st.length := by
  obtain ⟨t, ht⟩ := h
  simp only [tyD] at ht
  cases e : st[m]? with
  | none => rw [e] at ht; cases ht
  | some o => exact (List.getElem?_eq_some_iff.mp e).1
/-- a value that was drawn to be refused: no whole number from lo to hi, new from b on -/
structure Wr (st : List Ob) (b : Nat) (lo hi : Int) (d : D) : Prop where
  v : Vk st d
  t : ∃ t, tyD st d = some t
  i : isI d lo hi = false
  f : ∀ m, d = .obj m → b ≤ m
theorem Wr.keep {st st' : List Ob} {b : Nat} {lo hi : Int} {d : D} (h : Wr st b lo hi d) (k : ∀ m, d = .obj m → st'[m]? = st[m]?) : Wr st' b lo hi d := ⟨h.v.keep k, ty_keep h.t k, h.i, h.f⟩
theorem Wr.lt {st : List Ob} {b : Nat} {lo hi : Int} {m : Nat} (h : Wr st b lo hi (.obj m)) : m < st.length := obj_lt h.t
theorem Wr.gr {st st' : List Ob} {b n c : Nat} {lo hi : Int} {d : D} (h : Wr st b lo hi d) (hn : n < b) (g : Gr n st st' c) : Wr st' b lo hi d :=
  h.keep fun m e => by subst e; exact g.kp m (by have := h.f m rfl; omega) h.lt
theorem wr_fl {st : List Ob} {b : Nat} {lo hi : Int} {d : D} {t : String} {p : PyData} (a : ∀ st, tyD st d = some t) (hb : isB "list" t = false) (hd : isB "dict" t = false) (e : Rp p) (f : ∀ g, toPyF g d = some p) (i : isI d lo hi = false) : Wr st b lo hi d :=
  ⟨.flat a hb hd e f, ⟨t, a _⟩, i, fun m z => by
    have := f fun _ => none
    rw [z, toPyF] at this
    cases this⟩
section
variable {st : List Ob} {b : Nat} {lo hi : Int}
theorem wr_int {i : Int} (h : -999999999999 ≤ i ∧ i ≤ 999999999999) (hn : ¬(lo ≤ i ∧ i ≤ hi)) : Wr st b lo hi (.int i) :=
  wr_fl (t := "int") (p := .int i) (fun _ => rfl) (by decide) (by decide) (It.int h).gd.rp (fun _ => by simp [toPyF]) (by simp only [isI, Bool.and_eq_false_iff, decide_eq_false_iff_not]; omega)
theorem wr_non : Wr st b lo hi .non := wr_fl (t := "NoneType") (p := .none) (fun _ => rfl) (by decide) (by decide) It.non.gd.rp (fun _ => by simp [toPyF]) rfl
theorem wr_bl {q : Bool} : Wr st b lo hi (.bl q) := wr_fl (t := "bool") (p := .bool q) (fun _ => rfl) (by decide) (by decide) It.bl.gd.rp (fun _ => by simp [toPyF]) rfl
theorem wr_str {y : Str} (h : Smt 100 y) : Wr st b lo hi (.str y) := wr_fl (t := "str") (p := .str y) (fun _ => rfl) (by decide) (by decide) (It.str h).gd.rp (fun _ => by simp [toPyF]) rfl
theorem wr_big (h : hi < 100000000000000000000000000000) : Wr st b lo hi (.int (10 ^ Int.toNat 29)) := by
  refine wr_fl (t := "int") (p := .int (10 ^ Int.toNat 29)) (fun _ => rfl) (by decide) (by decide) ⟨by decide +kernel, by decide +kernel, by decide +kernel⟩ (fun _ => by simp [toPyF]) ?_
  have e : (10 : Int) ^ Int.toNat 29 = 100000000000000000000000000000 := by decide
  simp only [isI, e, Bool.and_eq_false_iff, decide_eq_false_iff_not]
  right; omega
theorem wr_lst {m : Nat} {ds : List D} {ps : List PyData} (hm : st[m]? = some (.lst ds)) (h : b ≤ m) (hl : ds.length < 1000) (hp : toPyA (fun _ => none) (ds ++ [.str "more"]) = some ps) (hr : Rp (.list ps)) : Wr st b lo hi (.obj m) :=
  ⟨.lst hm hl hp hr, ⟨"list", by simp only [tyD, hm]⟩, rfl, fun k z => by injection z with z; omega⟩
theorem wr_dct0 {m : Nat} (hm : st[m]? = some (.dct [])) (h : b ≤ m) : Wr st b lo hi (.obj m) :=
  ⟨.dct hm (by decide) rfl ⟨by decide +kernel, by decide +kernel, by decide +kernel⟩, ⟨"dict", by simp only [tyD, hm]⟩, rfl, fun k z => by injection z with z; omega⟩
end
theorem l1 (a : D) : [a].length ≤ sizeLine := Nat.le_trans (Nat.le_of_eq (rfl : _ = 1)) (by rw [sizeLine_eq]; decide)
theorem l2 (a b : D) : [a, b].length ≤ sizeLine := Nat.le_trans (Nat.le_of_eq (rfl : _ = 2)) (by rw [sizeLine_eq]; decide)
theorem l6 (a b c d e f : D) : [a, b, c, d, e, f].length ≤ sizeLine := Nat.le_trans (Nat.le_of_eq (rfl : _ = 6)) (by rw [sizeLine_eq]; decide)
theorem l7 (a b c d e f g : D) : [a, b, c, d, e, f, g].length ≤ sizeLine := Nat.le_trans (Nat.le_of_eq (rfl : _ = 7)) (by rw [sizeLine_eq]; decide)
theorem l8 (a b c d e f g h : D) : [a, b, c, d, e, f, g, h].length ≤ sizeLine := Nat.le_trans (Nat.le_of_eq (rfl : _ = 8)) (by rw [sizeLine_eq]; decide)
theorem l9 (a b c d e f g h i : D) : [a, b, c, d, e, f, g, h, i].length ≤ sizeLine := Nat.le_trans (Nat.le_of_eq (rfl : _ = 9)) (by rw [sizeLine_eq]; decide)
theorem bz_mem {ts : List Tri} {T m k : Int} : k ∈ bz ts T m ↔ ∃ t ∈ ts, t.1 ≤ m ∧ m < t.2.1 + T ∧ t.2.2 = k := by
  unfold bz
  rw [mem_usort, List.mem_map]
  constructor
  · rintro ⟨t, ht, e⟩
    obtain ⟨h1, h2⟩ := List.mem_filter.mp ht
    unfold bsy at h2
    simp only [Bool.and_eq_true, decide_eq_true_eq] at h2
    exact ⟨t, h1, h2.1, h2.2, e⟩
  · rintro ⟨t, ht, h1, h2, e⟩
    refine ⟨t, List.mem_filter.mpr ⟨ht, ?_⟩, e⟩
    unfold bsy
    simp only [Bool.and_eq_true, decide_eq_true_eq]
    exact ⟨h1, h2⟩
theorem bz_len {ts : List Tri} {T m : Int} : (bz ts T m).length ≤ ts.length := by
  unfold bz
  refine Nat.le_trans usort_len ?_
  rw [List.length_map]
  exact List.length_filter_le _ _
theorem bz_lt {ts : List Tri} {T m : Int} : (bz ts T m).Pairwise (· < ·) := usort_lt
section
variable {st : List Ob} {Q : SV → List Ob → Prop} {E : XK'} {n c : Nat} {ts : List Tri}
theorem lbusy_ok {T m : Int} (hl : ts.length ≤ 1000) (q : ∀ o, Q (.d (.lst ((bz ts T m).map D.int))) (st ++ [o])) : mm_law_busy [.lst (ts.map triD), .int T, .int m] st Q E := by
  simp only [mm_law_busy, RR_law_busy, mD, dSeq, dNext, dSet, dLstN, dNil, dName, dFor, dIt, dVar]
  refine ⟨rfl, none0, _, rfl, _, rfl, ?_⟩
  refine loop_inv (ts.map triD) (fun i s => ∃ (F : List Int) (a b e : Option SV), s = ⟨[some (.d (.lst (ts.map triD))), some (.d (.int T)), some (.d (.int m)), some (.d (.obj st.length)), a, b, e], st ++ [.lst (F.map D.int)]⟩ ∧ F.Nodup ∧ F.length ≤ i ∧ ∀ k, k ∈ F ↔ k ∈ ((ts.take i).filter (bsy T m)).map (·.2.2)) ⟨[], none, none, none, rfl, .nil, Nat.le_refl _, fun k => by simp⟩ (fun i d s nx hd hI k => ?_) (fun s hI => ?_)
  · obtain ⟨F, a, b, e, rfl, nd, fl, mem⟩ := hI
    obtain ⟨t, ht, rfl⟩ := tri_get hd
    have hi : i < ts.length := (List.getElem?_eq_some_iff.mp ht).1
    refine ⟨True.intro, ?_⟩
    simp only [dUnp, gMore, gNone, dName, dIfS, dAnd, dTest, dChain, dBin, dVar, dC, dSeq, dNext, dDrop, dApN]
    refine ⟨_, rfl, rfl, _, _, rfl, _, _, rfl, _, _, rfl, rfl, ?_⟩
    have step : ∀ p, bsy T m t = p → ∀ k, k ∈ ((ts.take (i + 1)).filter (bsy T m)).map (·.2.2) ↔ (k ∈ F ∨ (p = true ∧ k = t.2.2)) := fun p hp k => by
      rw [take_succ_get ht, List.filter_append, List.map_append, List.mem_append, ← mem k]
      cases p with
      | true => rw [List.filter_cons_of_pos hp]; simp
      | false => rw [List.filter_cons_of_neg (by rw [hp]; decide)]; simp
    have g : (st ++ [Ob.lst (F.map D.int)])[st.length]? = some (.lst (F.map D.int)) := by rw [List.getElem?_append_right (Nat.le_refl _), Nat.sub_self]; rfl
    have no : bsy T m t = false → nx ⟨[some (.d (.lst (ts.map triD))), some (.d (.int T)), some (.d (.int m)), some (.d (.obj st.length)), some (.d (.int t.1)), some (.d (.int t.2.1)), some (.d (.int t.2.2))], st ++ [.lst (F.map D.int)]⟩ := fun hb =>
      k _ ⟨F, _, _, _, rfl, nd, by omega, fun j => by rw [step _ hb j]; simp⟩
    refine ⟨_, rfl, _, rfl, ⟨True.intro, _, rfl, ?_⟩⟩
    by_cases h1 : t.1 ≤ m
    · rw [if_pos (by simpa using h1)]
      refine ⟨_, rfl, _, rfl, True.intro, True.intro, _, rfl, ?_⟩
      by_cases h2 : m ≤ t.2.1 + T - 1
      · rw [if_pos (by simpa using h2)]
        have hb : bsy T m t = true := by
          unfold bsy; rw [decide_eq_true h1, decide_eq_true (by omega)]; rfl
        refine ⟨_, rfl, _, rfl, rfl, _, seqObj g, flD_ints _, _, rfl, ?_⟩
        rw [inF_int]
        by_cases h3 : t.2.2 ∈ F
        · rw [if_neg (by simp [h3])]
          refine k _ ⟨F, _, _, _, rfl, nd, by omega, fun j => ?_⟩
          rw [step _ hb j]
          constructor
          · exact .inl
          · rintro (z | ⟨_, rfl⟩)
            · exact z
            · exact h3
        · rw [if_pos (by simp [h3])]
          refine ⟨_, rfl, ⟨_, _, rfl, g⟩, _, rfl, _, _, rfl, g, by rw [List.length_map, sizeLine_eq]; omega, ?_⟩
          refine k _ ⟨F ++ [t.2.2], some (.d (.int t.1)), some (.d (.int t.2.1)), some (.d (.int t.2.2)), ?_, ?_, by rw [List.length_append, List.length_singleton]; omega, fun j => ?_⟩
          · rw [List.map_append, List.set_append_right _ _ (Nat.le_refl _), Nat.sub_self]; rfl
          · rw [List.nodup_append]
            refine ⟨nd, by simp, fun x hx y hy => ?_⟩
            have : y = t.2.2 := by simpa using hy
            subst this
            rintro rfl
            exact h3 hx
          · rw [step _ hb j]; simp
      · rw [if_neg (by simpa using h2)]
        exact no (by unfold bsy; rw [decide_eq_true h1, decide_eq_false (by omega)]; rfl)
    · rw [if_neg (by simpa using h1)]
      refine ⟨_, rfl, ?_⟩
      rw [if_neg (by decide)]
      exact no (by unfold bsy; rw [decide_eq_false h1]; rfl)
  · obtain ⟨F, a, b, e, rfl, nd, fl, mem⟩ := hI
    refine ⟨True.intro, ?_⟩
    simp only [dRet, dB, dCons, dNil, dVar, kSorted]
    refine ⟨_, rfl, _, F, ?_, intsOf_map _, fun ns' hp hs => ?_⟩
    · show (match (st ++ [Ob.lst (F.map D.int)])[st.length]? with | some (.lst ds) => some ds | _ => none) = _
      rw [List.getElem?_append_right (Nat.le_refl _), Nat.sub_self]; rfl
    · rw [sorted_nodup hp hs nd, usort_cong mem]
      rw [List.length_map, List.take_length]
      exact q _
end
end Kt
set_option maxHeartbeats 4000000
/-! Kt46: defs with defaults, called with fewer values or by keyword. -/
namespace Kt
open PySem PySem.Spec L2
open PyProof.Rows (envOfC)
/-- a def of the text, whatever its defaults -/
structure FunW (K : PySem.W.Frag) (x qual : Str) (st : Stmt) (f : Addr) (fd : FuncData) : Prop where
  ex : ∃ (oc : Value) (od : Option Addr) (dV kV doc pm : Value) (an : Option Addr) (cdv ct : Value) (osl : Array (Option Value)),
    fd = PySem.W.fnOf x qual (defArgs st) (defBody st) (defScope st) dV kV doc pm an cdv ct ∧ K.lookup f = some ⟨oc, od, .func fd, osl⟩ ∧ PySem.W.codeIn K cdv qual = true
  kp : PySem.W.keepIn K (.ref f) = true
section
variable {P : Program} {w : World} {K : PySem.W.Frag} {mg : Str → Option Value} {base : Heap} {cl : String → Addr}
theorem okW {x qual : Str} {st : Stmt} {f : Addr} {fd : FuncData} {N ps : List Str} {k : Nat} {sp : Sp} (Fu : FunW K x qual st f fd) (Sc : FnScope N ps (defScope st)) (len : ∀ vs H Q E, sp vs H Q E → vs.length = ps.length)
    (hb : ∀ (cdv : Value) (A : Around) (out : List Env) (s : Shared) (H : Hp) (vs : List V) (Q : VK) (E : XK), Room k (A.deeper (envOfC qual (defScope st) s.heap.objs.size f cdv)) → A.guards = some [] → sp vs H Q E →
      ∃ t, PSs (cxOf (L2.CX P w) P w K mg base N qual (defScope st) f cdv A out s H E) (defBody st) t ∧ t { nx := fun _ H' => Q .non H', rt := Q } (start N vs) H) : FnG P w K mg base (k + 1) f fd ps sp := by
  obtain ⟨oc, od, dV, kV, dc, pm, an, cdv, ct, osl, rfl, lk, hcd⟩ := Fu.ex
  refine ⟨len, fun A out s H ar us vs Q E hroom hgu en hbi rel hsp => ?_⟩
  have hlen := len _ _ _ _ hsp
  have kin : K.In s.heap := en.mod.kin.keeps fun b o e => (en.bs b o e).1
  have nolim : s.heap.NoLimit := en.mod.nolimit.keeps fun b o e => (en.bs b o e).1
  have hkd : ∀ y ∈ ps.zip us, (defScope st).names.lookup y.1 = some .local ∨ ((defScope st).names.lookup y.1 = some .cell ∧ ((cellsFrom (s.heap.objs.size + 1) (defScope st).names []).lookup y.1).isSome = true) := fun ⟨n, v⟩ hy => by
    rcases Sc.par n (List.of_mem_zip hy).1 with q | q
    · exact Or.inl q
    · exact Or.inr ⟨q, PySem.W.cellsFrom_some _ _ _ (Or.inl q)⟩
  refine codeAny_call_function hroom.depth (kin _ _ lk) rfl Sc.co Sc.gen rfl (PySem.W.codeRec_of kin hcd) (hbi _ _ _ _ ?_)
  refine wpAny_newFunctionEnv_cells Sc.kind hkd fun env hen s1 x1 => ?_
  subst hen
  refine ⟨nolim.keeps x1.toInCall.keep, codeAny_func ?_⟩
  obtain ⟨t, ht, hq⟩ := hb cdv A out s H vs Q E (hroom.deeper _) hgu hsp
  have J : L2.Inv (cxOf (L2.CX P w) P w K mg base N qual (defScope st) f cdv A out s H E) [] (start N vs) H s1 := inv_start Sc hroom.hd en hlen rel x1
  refine wpAny_mono (ht.run [] s1 (start N vs) H _ J hq) (fun fl s2 hs => ?_) fun e s2 hs => hs
  have done : ∀ {σ2 : St} {H2 : Hp} {v : V} {u : Value}, L2.Inv (cxOf (L2.CX P w) P w K mg base N qual (defScope st) f cdv A out s H E) [] σ2 H2 s2 → RelV v u → Q v H2 → CE out P w H s Q u s2 :=
    fun {σ2 H2 v u} J2 rv q => ⟨v, H2, J2.os, J2.bare, J2.base, J2.hok, rv, q⟩
  cases fl with
  | ret u => obtain ⟨v, σ2, H2, J2, rv, q⟩ := hs; exact done J2 rv q
  | next => obtain ⟨σ2, H2, J2, q⟩ := hs; exact done (v := V.non) (u := Value.none) J2 rfl q
  | brk => obtain ⟨_, _, _, q⟩ := hs; exact q.elim
  | cont => obtain ⟨_, _, _, q⟩ := hs; exact q.elim
theorem fnW {x qual : Str} {st : Stmt} {f : Addr} {fd : FuncData} {N ps : List Str} {k : Nat} {bd : DS} (Fu : FunW K x qual st f fd) (Sc : FnScope N ps (defScope st))
    (hb : ∀ (cdv : Value) (A : Around) (out : List Env) (s : Shared) (H : Hp) (E : XK), Room k (A.deeper (envOfC qual (defScope st) s.heap.objs.size f cdv)) → A.guards = some [] → Ss (cxOf (L2.CX P w) P w K mg base N qual (defScope st) f cdv A out s H E) cl (defBody st) bd) :
    FnG P w K mg base (k + 1) f fd ps (spOf ⟨K, cl⟩ (mD N.length ps.length bd)) := by
  refine okW Fu Sc (spOf_len fun ds st Q E q => q.1) fun cdv A out s H vs Q E hr hg h => ?_
  obtain ⟨t, t1, t2⟩ := (hb cdv A out s H E hr hg).ex
  refine ⟨t (fun cls d _ H' => E cls d H'), t1 _ (takes_of rfl rfl rfl rfl) (passes_of rfl), ?_⟩
  obtain ⟨F, ν, ds, ob, Qd, Ed, r, ⟨hl, hs⟩, hq, he⟩ := h
  have e : vs.length = ds.length := by have := r.ln; simp at this; omega
  have r0 := r.pad (N.length - ps.length)
  have es : vs.map some ++ List.replicate (N.length - ps.length) none = L2.start N vs := by unfold L2.start; rw [e, hl]
  rw [es] at r0
  refine t2.go _ _ _ H F ν _ _ ⟨fun s => Qd (.d .non) s.st, Qd, fun x s => Ed x s.st, fun _ => False, fun _ => False⟩ r0 ⟨fun s' σ' H' F' ν' x r' q => ?_, fun y st' v H' F' ν' x r' q => hq y st' v H' F' ν' x r' q, fun y s' cls d σ' H' F' ν' x r' z q => ?_, fun _ _ _ _ _ _ _ q => q.elim, fun _ _ _ _ _ _ _ q => q.elim⟩ hs
  · exact hq _ _ .non H' F' ν' x (r'.one (.d .non)) q
  · exact he y s'.st cls d H' F' ν' x r'.forget z q
end
/-- a def whose last parameter has a default -/
structure Dw (K : PySem.W.Frag) (mg : Str → Option Value) (x qual : Str) (st : Stmt) (ps : List Str) (f : Addr) (fd : FuncData) (v : V) : Prop where
  fu : FunW K x qual st f fd
  b0 : Binds K fd ps []
  b1 : ∃ ds, Vals [v] ds ∧ Binds K fd ps ds
  m : mg x = some (.ref f)
/-- a def with one parameter by name alone, which has a default -/
structure Dk (K : PySem.W.Frag) (mg : Str → Option Value) (x qual : Str) (st : Stmt) (ps : List Str) (f : Addr) (fd : FuncData) (n : Nat) (kn : Str) (v : V) : Prop where
  fu : Fun K x qual st f fd
  b1 : ∃ ds, Vals [v] ds ∧ Binds K fd ps ds
  bk : KBn K fd ps n [kn] (fun us ws => us ++ ws) (fun vs zs => vs ++ zs)
  m : mg x = some (.ref f)
section
variable {K : PySem.W.Frag} {mg : Str → Option Value} {x qual : Str} {st : Stmt} {ps : List Str} {f T D : Addr} {oc : Value} {od an : Option Addr} {osl : Array (Option Value)} {kV doc pm cdv ct it : Value} {v : V}
theorem dw_mk {o1 : Value} {o2 : Option Addr} {o3 : Array (Option Value)} {n j : Nat} (l : K.lookup f = some ⟨oc, od, .func (PySem.W.fnOf x qual (defArgs st) (defBody st) (defScope st) (.ref T) kV doc pm an cdv ct), osl⟩) (c : PySem.W.codeIn K cdv qual = true) (k : PySem.W.keepIn K (.ref f) = true)
    (lt : K.lookup T = some ⟨o1, o2, .seq #[it] n, o3⟩) (rv : RelV v it) (m : mg x = some (.ref f)) (hj : j + 1 = ps.length)
    (h0 : ∀ (T : Addr) (kV doc pm : Value) (an : Option Addr) (cdv ct : Value) (us its : List Value), us.length = ps.length → its.length = 1 → ∃ k, bindArgs (PySem.W.fnOf x qual (defArgs st) (defBody st) (defScope st) (.ref T) kV doc pm an cdv ct) ⟨us, []⟩ = seqItems? (.ref T) >>= k ∧ k (some its.toArray) = pure (ps.zip (us ++ its.drop 1)))
    (h1 : ∀ (T : Addr) (kV doc pm : Value) (an : Option Addr) (cdv ct : Value) (us its : List Value), us.length = j → its.length = 1 → ∃ k, bindArgs (PySem.W.fnOf x qual (defArgs st) (defBody st) (defScope st) (.ref T) kV doc pm an cdv ct) ⟨us, []⟩ = seqItems? (.ref T) >>= k ∧ k (some its.toArray) = pure (ps.zip (us ++ its.drop 0))) :
    Dw K mg x qual st ps f (PySem.W.fnOf x qual (defArgs st) (defBody st) (defScope st) (.ref T) kV doc pm an cdv ct) v := by
  have F : FunD K x qual (defArgs st) (defBody st) (defScope st) [v] [] f (PySem.W.fnOf x qual (defArgs st) (defBody st) (defScope st) (.ref T) kV doc pm an cdv ct) :=
    ⟨⟨oc, od, .ref T, kV, doc, pm, an, cdv, ct, osl, rfl, l, c, .inr ⟨by simp, T, _, [it], n, rfl, lt, rfl, .cons rv .nil⟩, .inl rfl⟩, k⟩
  refine ⟨⟨⟨oc, od, .ref T, kV, doc, pm, an, cdv, ct, osl, rfl, l, c⟩, k⟩, ?_, F.binds1 j 0 (by simp) (by simpa using hj) h1, m⟩
  obtain ⟨ds, r, b⟩ := F.binds1 ps.length 1 (by simp) (by simp) h0
  cases r
  exact b
theorem dk_mk {kn : Str} {n : Nat} (l : K.lookup f = some ⟨oc, od, .func (PySem.W.fnOf x qual (defArgs st) (defBody st) (defScope st) .none (.ref D) doc pm an cdv ct), osl⟩) (c : PySem.W.codeIn K cdv qual = true) (k : PySem.W.keepIn K (.ref f) = true)
    (lt : PySem.W.nsIn K D kn = some (some it)) (rv : RelV v it) (m : mg x = some (.ref f)) (hn : n + 1 = ps.length)
    (h0 : ∀ (D : Addr) (doc pm : Value) (an : Option Addr) (cdv ct : Value) (us ks : List Value), us.length = n → ks.length = 1 → KwChain D ([kn].zip ks) (bindArgs (PySem.W.fnOf x qual (defArgs st) (defBody st) (defScope st) .none (.ref D) doc pm an cdv ct) ⟨us, []⟩) (ps.zip (us ++ ks)))
    (h1 : ∀ (D : Addr) (doc pm : Value) (an : Option Addr) (cdv ct : Value) (us ws : List Value), us.length = n → ws.length = 1 → bindArgs (PySem.W.fnOf x qual (defArgs st) (defBody st) (defScope st) .none (.ref D) doc pm an cdv ct) ⟨us, [kn].zip ws⟩ = pure (ps.zip (us ++ ws))) :
    Dk K mg x qual st ps f (PySem.W.fnOf x qual (defArgs st) (defBody st) (defScope st) .none (.ref D) doc pm an cdv ct) n kn v := by
  have F : FunD K x qual (defArgs st) (defBody st) (defScope st) [] [(kn, v)] f (PySem.W.fnOf x qual (defArgs st) (defBody st) (defScope st) .none (.ref D) doc pm an cdv ct) :=
    ⟨⟨oc, od, .none, .ref D, doc, pm, an, cdv, ct, osl, rfl, l, c, .inl ⟨rfl, rfl⟩, .inr ⟨D, rfl, fun q hq => by
      have : q = (kn, v) := by simpa using hq
      subst this
      exact ⟨it, lt, rv⟩⟩⟩, k⟩
  refine ⟨⟨⟨oc, od, .ref D, doc, pm, an, cdv, ct, osl, rfl, l, c⟩, k⟩, F.binds0 n (by simp) (by simpa using hn) h0, ?_, m⟩
  obtain ⟨mv, b⟩ := F.kbinds0 n [kn] [] (fun us mv ws => us ++ ws) (by simp) (fun q hq => by cases hq) (fun r1 r2 r3 => r1.append r3) fun D doc pm an cdv ct us mv ws e1 e2 e3 => by
    have : mv = [] := List.length_eq_zero_iff.mp e2
    subst this
    exact h1 D doc pm an cdv ct us ws e1 e3
  exact b
end
/-- further values behind those that are written -/
def dApp (da dk : DA) : DA := fun s Q E => da s (fun ds st => dk ⟨s.sl, st⟩ (fun es st' => Q (ds ++ es) st') E) E
def dDef (ds : List D) : DA := fun s Q _ => Q ds s.st
theorem rfa_app {c : Cf} {ta tk : WX → TA} {da dk : DA} (h1 : RfA c ta da) (h2 : RfA c tk dk) : RfA c (fun W => fun σ H Q => ta W σ H fun vs H1 => tk W σ H1 fun zs H2 => Q (vs ++ zs) H2) (dApp da dk) := by
  refine ⟨fun B W σ H F ν s Q E P r w h kk => ?_⟩
  refine h1.go B W σ H F ν s _ E _ r w h fun vs H1 F1 ν1 ds st1 x1 r1 z1 q1 => ?_
  exact h2.go B W σ H1 F1 ν1 ⟨s.sl, st1⟩ _ E _ r1 (w.next x1) q1 fun zs H2 F2 ν2 es st2 x2 r2 z2 q2 => kk _ H2 F2 ν2 _ st2 (x1.trans x2) r2 ((z1.mono x2).append z2) q2
theorem rfa_def {c : Cf} {vs : List V} {ds : List D} (h : ∀ F ν, RzAll c F ν vs ds) : RfA c (fun _ => fun _ H Q => Q vs H) (dDef ds) :=
  ⟨fun B W σ H F ν s Q E P r w q kk => kk vs H F ν ds s.st Ext.refl r (h F ν) q⟩
section
variable {X : Cx} {cl : String → Addr} {k j : Nat} {f : Addr} {fd : FuncData} {ps : List Str} {sd : SpD} {x qual : Str} {st : Stmt} {p pos : Pos} {e e2 : Expr} {es : List Expr} {da : DA} {dd : DE} {v : V} {d : D}
theorem x_callW (G : FnG X.prog X.w X.K X.mg X.base k f fd ps (spOf (cf X cl) sd)) (T : Dw X.K X.mg x qual st ps f fd v) (hr : Room j X.A) (hj : k ≤ j) (hgd : X.A.guards = some []) (hg : Gl X x)
    (ha : Ar X cl (e :: es) da) (hdb : (x == ("__debug__" : Str)) = false := by decide) (he : starEach (e :: es) X.env = (false, eval e X.env) :: starEach es X.env := by rfl) (hpl : (backTo pos (starEach es X.env)).any (·.1) = false := by rfl) :
    Ex X cl (.Call (.Name x p) (e :: es) [] pos) (dCall sd da) := x_call G (hr.mono hj) hgd hg T.m T.fu.kp T.b0 ha hdb he hpl
theorem run_fnGd {pins : List (Addr × Obj)} {σ : St} {H : Hp} {s : Shared} {Q : VK} {us ds : List Value} {vs dvs : List V} {sp : Sp} {E : XK} (G : FnG X.prog X.w X.K X.mg X.base k f fd ps sp) (hr : Room k X.A) (hgd : X.A.guards = some []) (hb : Binds X.K fd ps ds) (hv : Vals dvs ds)
    (hx : PassesAt (L2.CX X.prog X.w) X σ E) (I : L2.Inv X pins σ H s) (r : Vals vs us) (h : sp (vs ++ dvs) H Q E) : wpAny (model X.prog X.w) X.A (call (.ref f) us) (EP X pins σ Q) X.xe s := by
  have rr : Vals (vs ++ dvs) (us ++ ds) := r.append hv
  have hlen : (us ++ ds).length = ps.length := by rw [← rr.length]; exact G.len _ _ _ _ h
  refine wpAny_call (codeAny_mono (G.run X.A X.stack s H ⟨us, []⟩ (us ++ ds) (vs ++ dvs) Q E hr hgd I.env0 (hb s us I.kIn hlen) rr h) fun z s' hq => ?_)
  cases z with
  | error er => exact hx pins H s er s' I hq
  | ok fl =>
    cases fl with
    | ret u => exact I.after hq
    | next => exact hq.elim
    | brk => exact hq.elim
    | cont => exact hq.elim
/-- f(e, ..), the last parameter by its default -/
theorem x_callDf {fk : PySem.W.keepIn X.K (.ref f) = true} (G : FnG X.prog X.w X.K X.mg X.base k f fd ps (spOf (cf X cl) sd)) (hb : ∃ ds, Vals [v] ds ∧ Binds X.K fd ps ds) (hm : X.mg x = some (.ref f)) (hv : ∀ c F ν, Rz c F ν v d) (hr : Room j X.A) (hj : k ≤ j) (hgd : X.A.guards = some []) (hg : Gl X x)
    (ha : Ar X cl (e :: es) da) (hdb : (x == ("__debug__" : Str)) = false := by decide) (he : starEach (e :: es) X.env = (false, eval e X.env) :: starEach es X.env := by rfl) (hpl : (backTo pos (starEach es X.env)).any (·.1) = false := by rfl) :
    Ex X cl (.Call (.Name x p) (e :: es) [] pos) (dCall sd (dApp da (dDef [d]))) := by
  obtain ⟨ta, a1, a2⟩ := ha.ex
  obtain ⟨ds, rv, hb⟩ := hb
  refine ⟨_, fun W tk => ⟨fun pins s σ H Q I h => ?_⟩, rf_call (rfa_app a2 (rfa_def (vs := [v]) fun F ν => .cons (hv _ F ν) .nil))⟩
  refine wpAny_Call_Name_kw (ld_glob I hg hm ?_ hdb)
  refine PySem.W.callWith_K (h₀ := X.base) I.ok.mod.kin fk (thn ((a1 W tk).run pos pins s σ H _ I h) fun us s1 hq => ?_) he hpl
  obtain ⟨vs, H1, I1, r, q⟩ := hq
  exact ⟨I1.kIn, run_fnGd G (hr.mono hj) hgd hb rv (passAt tk σ) I1 r q⟩
/-- f(e, .., kn = e2) -/
theorem x_callKw {n : Nat} {kn : Str} {kp : Pos} (G : FnG X.prog X.w X.K X.mg X.base k f fd ps (spOf (cf X cl) sd)) (T : Dk X.K X.mg x qual st ps f fd n kn v) (hn : n + 1 = ps.length) (hr : Room j X.A) (hj : k ≤ j) (hgd : X.A.guards = some []) (hg : Gl X x)
    (ha : Ar X cl (e :: es) da) (hb : Ex X cl e2 dd) (hall : (backToKw pos (keywordEach [⟨some kn, e2, kp⟩] X.env)).all (·.1.isSome) = true := by rfl) (hks : (backToKw pos (keywordEach [⟨some kn, e2, kp⟩] X.env)).filterMap (·.1) = [kn] := by rfl)
    (hdb : (x == ("__debug__" : Str)) = false := by decide) (he : starEach (e :: es) X.env = (false, eval e X.env) :: starEach es X.env := by rfl)
    (hpl : ((backTo pos (starEach (e :: es) X.env)).any (·.1) || (backToKw pos (keywordEach [⟨some kn, e2, kp⟩] X.env)).any (·.1.isNone)) = false := by rfl) :
    Ex X cl (.Call (.Name x p) (e :: es) [⟨some kn, e2, kp⟩] pos) (dCall sd (dApp da (dCons dd dNil))) := by
  obtain ⟨ta, a1, a2⟩ := ha.ex
  obtain ⟨tb, b1, b2⟩ := hb.ex
  have bN : RfA (cf X cl) (fun W => fun σ H Q => tCons (tb W) tNil σ H fun zs H1 => zs.length = 1 ∧ Q zs H1) (dCons dd dNil) := ⟨fun B W σ H F ν s Q E P r w h kk => by
    refine b2.go B W σ H F ν s _ E _ r w h fun u H1 F1 ν1 d1 st1 x1 r1 z1 q1 => ?_
    exact ⟨rfl, kk [u] H1 F1 ν1 [d1] st1 x1 r1 (.cons z1 .nil) q1⟩⟩
  refine ⟨_, fun W tk => ⟨fun pins s σ H Q I h => ?_⟩, rf_call (rfa_app a2 bN)⟩
  refine wpAny_Call_Name_kw (ld_glob I hg T.m ?_ hdb)
  refine PySem.W.callWith_KW (h₀ := X.base) I.ok.mod.kin T.fu.kp hall (thn ((a1 W tk).run pos pins s σ H _ I h) fun us s1 hq => ?_) hpl he
  obtain ⟨vs, H1, I1, r, q⟩ := hq
  refine thn ((pk_cons (b1 W tk) pk_nil).run pos pins s1 σ H1 _ I1 q) fun ws s2 hq => ?_
  obtain ⟨zs, H2, I2, rz, l2, q2⟩ := hq
  refine ⟨I2.kIn, ?_⟩
  rw [hks]
  have hx := passAt tk σ
  have l1 : vs.length = n := by
    have := G.len _ _ _ _ q2
    rw [List.length_append, l2] at this
    omega
  refine wpAny_call (codeAny_mono (G.run X.A X.stack s2 H2 ⟨us, [kn].zip ws⟩ (us ++ ws) (vs ++ zs) Q _ (hr.mono hj) hgd I2.env0 (T.bk.to s2 us ws I2.kIn (by rw [← r.length]; exact l1) (by rw [← rz.length]; exact l2)) (T.bk.rel r rz) q2) fun z s' hq => ?_)
  cases z with
  | error er => exact hx pins H2 s2 er s' I2 hq
  | ok fl =>
    cases fl with
    | ret u => exact I2.after hq
    | next => exact hq.elim
    | brk => exact hq.elim
    | cont => exact hq.elim
end
end Kt
set_option maxHeartbeats 400000
/-! Kt47: plans; general walks; tuned notes. -/
namespace Kt
open PySem PySem.Spec L2
/-! ### a call whose named list is frozen behind it -/
def dCallZ (sd : SpD) (da : DA) : DE := fun s Q E => da s (fun ds st => sd ds st (fun r st' => ∃ m es, r = .d (.obj m) ∧ st.length ≤ m ∧ st'[m]? = some (.lst es) ∧ ltOA st.length es = true ∧ st <+: st' ∧ Q (.lst es) st) (fun _ _ => False)) E
theorem rf_callZ {c : Cf} {sd : SpD} {da : DA} {ta : WX → TA} (ha : RfA c ta da) : RfE c (fun W => fun σ H Q => ta W σ H fun vs H1 => spOf c sd vs H1 Q (WE W σ)) (dCallZ sd da) := by
  refine ⟨fun B W σ H F ν s Q E P r w q kk => ?_⟩
  refine ha.go B W σ H F ν s _ E _ r w q fun vs H1 F1 ν1 ds st1 x1 r1 z1 q1 => ?_
  refine ⟨F1, ν1, ds, st1, _, _, r1.based z1, q1, fun y st' v H' F' ν' x' r' q' => ?_, fun y st' cls d H' F' ν' x' r' z' q' => q'.elim⟩
  obtain ⟨m, es, rfl, hm, em, hlt, hp, q'⟩ := q'
  obtain ⟨v', e1, z⟩ := r'.sl 0 _ rfl
  cases e1
  cases z with
  | d z =>
    cases z with
    | @obj a _ ea =>
      have r2 := r1.ret x' r'
      obtain ⟨o, eo, ro⟩ := r2.st m _ a em ea
      obtain ⟨r3, x3⟩ := r1.cutN r2 x' hp
      cases ro with
      | @lst us _ zz =>
        have hF : F' a = none := r2.nf a (List.mem_of_getElem? ea)
        have hnu : a ∉ ν1 := fun mm => by
          obtain ⟨i, hi⟩ := List.getElem?_of_mem mm
          have hi' := pre_get x'.p hi
          have l1 := (List.getElem?_eq_some_iff.mp hi).1
          have l2 := (List.getElem?_eq_some_iff.mp ea)
          have l3 := (List.getElem?_eq_some_iff.mp hi')
          obtain ⟨l2, g2⟩ := l2
          obtain ⟨l3, g3⟩ := l3
          have := (List.getElem_inj r2.nd).mp (g3.trans g2.symm)
          have sn := r1.sn
          have sn : st1.length = ν1.length := sn
          omega
        have hB1 : H1 a = none := by
          obtain ⟨μ, e2, h0⟩ := r'.nu
          have mm := List.mem_of_getElem? ea
          rw [e2] at mm
          rcases List.mem_append.mp mm with mm | mm
          · exact absurd mm hnu
          · exact h0 a mm
        have fr : Frs B F' ν1 a := ⟨(r1.fresh hB1).1, hF, hnu⟩
        have no : ∀ (i : Nat) x, s.sl[i]? = some (some x) → x.own = true → σ[i]? ≠ some (some (.ref a)) := fun i x e oo z => by
          obtain ⟨v, g1, g2⟩ := r1.sl i x e
          rw [z] at g1
          cases g1
          cases g2 with
          | d _ => cases oo
          | ol _ e' _ => rw [hB1] at e'; cases e'
          | od _ e' _ => rw [hB1] at e'; cases e'
          | ex _ _ => cases oo
          | oi _ e' _ => rw [hB1] at e'; cases e'
        have r4 := r3.fzA fr eo no
        have xx : Ext F' ν1 (upd F' a (.lst us)) ν1 := ext_upd hF
        refine kk (.ref a) H' _ ν1 (.lst es) st1 ((x1.trans x3).trans xx) r4 (.lst upd_same ((zz.shr x'.p ?_).mono xx)) q'
        rw [show ν1.length = st1.length from r1.sn.symm]
        exact hlt
section
variable {X : Cx} {cl : String → Addr}
theorem x_callZ {x : Str} {p pos : Pos} {k j : Nat} {qual : Str} {st : Stmt} {f : Addr} {fd : FuncData} {ps : List Str} {sd : SpD} {e : Expr} {es : List Expr} {da : DA} (G : FnG X.prog X.w X.K X.mg X.base k f fd ps (spOf (cf X cl) sd)) (T : Df X.K X.mg x qual st ps f fd) (hr : Room j X.A) (hj : k ≤ j) (hgd : X.A.guards = some []) (hg : Gl X x)
    (ha : Ar X cl (e :: es) da) (hdb : (x == ("__debug__" : Str)) = false := by decide) (he : starEach (e :: es) X.env = (false, eval e X.env) :: starEach es X.env := by rfl) (hpl : (backTo pos (starEach es X.env)).any (·.1) = false := by rfl) :
    Ex X cl (.Call (.Name x p) (e :: es) [] pos) (dCallZ sd da) := by
  obtain ⟨ta, a1, a2⟩ := ha.ex
  refine ⟨_, fun W tk => ⟨fun pins s σ H Q I h => ?_⟩, rf_callZ a2⟩
  refine wpAny_Call_Name_kw (ld_glob I hg T.m ?_ hdb)
  refine PySem.W.callWith_K (h₀ := X.base) I.ok.mod.kin T.fu.kp (thn ((a1 W tk).run pos pins s σ H _ I h) fun us s1 hq => ?_) he hpl
  obtain ⟨vs, H1, I1, r, q⟩ := hq
  exact ⟨I1.kIn, run_fnG G (hr.mono hj) hgd T.b (passAt tk σ) I1 r q⟩
end
/-! ### items, walks -/
def gi (l : List Int) (j : Nat) : Int := l.getD j 0
def gt (l : List Tri) (j : Nat) : Tri := l.getD j (0, 0, 0)
def natD (l : List Nat) : List D := l.map fun j : Nat => D.int (j : Int)
theorem natD_ints (l : List Nat) : natD l = (l.map fun j : Nat => (j : Int)).map D.int := by unfold natD; rw [List.map_map]; rfl
theorem rng0 (n : Nat) : rngD 0 n = natD (List.range n) := by
  unfold rngD natD
  simp
theorem gi_get {l : List Int} {j : Nat} (h : j < l.length) : l[j]? = some (gi l j) := by
  unfold gi; rw [List.getD_eq_getElem?_getD, List.getElem?_eq_getElem h]; rfl
theorem gt_get {l : List Tri} {j : Nat} (h : j < l.length) : l[j]? = some (gt l j) := by
  unfold gt; rw [List.getD_eq_getElem?_getD, List.getElem?_eq_getElem h]; rfl
theorem gt_mem {l : List Tri} {j : Nat} (h : j < l.length) : gt l j ∈ l := List.mem_of_getElem? (gt_get h)
theorem gi_mem {l : List Int} {j : Nat} (h : j < l.length) : gi l j ∈ l := List.mem_of_getElem? (gi_get h)
/-- whole numbers as a plan: a list, a tuple, or a named list -/
structure PlD (st : List Ob) (d : D) (pl : List Int) : Prop where
  s : isStr d = false
  q : asSeq st d = some (pl.map D.int)
  t : ∃ t, tyD st d = some t
theorem PlD.lst {st : List Ob} {pl : List Int} : PlD st (.lst (pl.map D.int)) pl := ⟨rfl, rfl, "list", rfl⟩
theorem PlD.tup {st : List Ob} {pl : List Int} : PlD st (.tup (pl.map D.int)) pl := ⟨rfl, rfl, "tuple", rfl⟩
theorem PlD.obj {st : List Ob} {pl : List Int} {m : Nat} (h : st[m]? = some (.lst (pl.map D.int))) : PlD st (.obj m) pl := ⟨rfl, seqObj h, "list", by simp only [tyD, h]⟩
section
variable {st : List Ob} {K : DK}
theorem kIx_pl {d : D} {pl : List Int} {j : Nat} (P : PlD st d pl) (h : j < pl.length) (k : K (.int (gi pl j)) st) : kIx d (.int (j : Int)) st K :=
  ix_seq_of P.s P.q (atN (by rw [List.getElem?_map, gi_get h]; rfl)) k
theorem kIx_ints {pl : List Int} {j : Nat} (h : j < pl.length) (k : K (.int (gi pl j)) st) : kIx (.lst (pl.map D.int)) (.int (j : Int)) st K := kIx_pl .lst h k
theorem kIx_nts {ts : List Tri} {j : Nat} (h : j < ts.length) (k : K (triD (gt ts j)) st) : kIx (.lst (ts.map triD)) (.int (j : Int)) st K :=
  ix_seq_of (ds := ts.map triD) rfl rfl (atN (by rw [List.getElem?_map, gt_get h]; rfl)) k
/-- the last item -/
theorem kIx_last {ds : List D} {d : D} (h : ds.getLast? = some d) (k : K d st) : kIx (.lst ds) (.int (-1)) st K := by
  refine ix_seq_of (ds := ds) rfl rfl ?_ k
  rw [List.getLast?_eq_getElem?] at h
  have hl := (List.getElem?_eq_some_iff.mp h).1
  unfold atI ixN
  rw [if_neg (by omega), if_pos (by omega)]
  show ds[((-1 : Int) + ds.length).toNat]? = some d
  rw [← h]
  congr 1
  omega
theorem kLen_pl {d : D} {pl : List Int} (P : PlD st d pl) (k : K (.int pl.length) st) : kLen [d] st K := len_seq_of P.s P.q (by rw [List.length_map]; exact k)
theorem kLen_lst {ds : List D} (k : K (.int ds.length) st) : kLen [.lst ds] st K := len_seq_of (ds := ds) rfl rfl k
theorem kEqI {a b : Int} (k : K (.bl (decide (a = b))) st) : kEq (.int a) (.int b) st K := by
  have e : (a == b) = decide (a = b) := by by_cases h : a = b <;> simp [h]
  unfold kEq
  simp only [scEq, e]
  exact k
theorem kNeI {a b : Int} (k : K (.bl (!decide (a = b))) st) : kNe (.int a) (.int b) st K := kEqI ⟨_, rfl, k⟩
theorem kEq_e {ds : List D} {ps : List PyData} (h : toPyA (obPy st) ds = some ps) (g : Gd (.list ps)) (k : K (.bl ds.isEmpty) st) : kEq (.lst ds) (.lst []) st K := by
  unfold kEq
  simp only [scEq]
  refine ⟨.list ps, .list [], by simp only [toPy, toPyF, h, Option.map_some], rfl, g.shaped, (It.lst (d := 0) (w := 0) (l := 0) (ps := []) It.nil (Nat.le_refl _)).gd.shaped, ?_⟩
  have : PyData.eqv (.list ps) (.list []) = ds.isEmpty := by
    cases ds with
    | nil => simp [toPyA] at h; subst h; simp [PyData.eqv, PyData.eqvAll]
    | cons d ds =>
      cases ps with
      | nil =>
        simp only [toPyA] at h
        split at h <;> cases h
      | cons p ps => simp [PyData.eqv, PyData.eqvAll]
  rw [this]
  exact k
theorem kNe_e {ds : List D} {ps : List PyData} (h : toPyA (obPy st) ds = some ps) (g : Gd (.list ps)) (k : K (.bl (!ds.isEmpty)) st) : kNe (.lst ds) (.lst []) st K := kEq_e h g ⟨_, rfl, k⟩
theorem kEq_nats {l : List Nat} (hl : l.length ≤ 200) (hb : ∀ j ∈ l, j ≤ 100000) (k : K (.bl l.isEmpty) st) : kEq (.lst (natD l)) (.lst []) st K := by
  rw [natD_ints]
  refine kEq_e (toPyA_ints _ _) (It.ints (l := 200) (fun z hz => ?_) (by simpa using hl)).gd ?_
  · obtain ⟨j, hj, rfl⟩ := List.mem_map.mp hz
    have := hb j hj; omega
  · have : ((l.map fun j : Nat => (j : Int)).map D.int).isEmpty = l.isEmpty := by cases l <;> rfl
    rw [this]; exact k
end
/-- a walk over a frozen or a named thing -/
theorem dIt_var {i : Nat} {s : S} {d : D} {ds : List D} {Q : List D → (List Ob → Prop) → List Ob → Prop} {E : XK'} (hv : s.sl[i]? = some (some (.d d))) (hs : isStr d = false) (h : asSeq s.st d = some ds) (q : ∀ wt : List Ob → Prop, (∀ st', (∀ m, d = .obj m → st'[m]? = s.st[m]?) → wt st') → Q ds wt s.st) : dIt (dVar i) s Q E := by
  refine ⟨d, hv, ?_⟩
  cases d with
  | obj n =>
    have h : (match s.st[n]? with | some (.lst ds) => some ds | _ => none) = some ds := h
    split at h
    · rename_i ds' e
      cases h
      exact ⟨_, e, q _ fun st' k => by rw [k n rfl]; exact e⟩
    · cases h
  | lst _ => exact ⟨_, h, q _ fun _ _ => True.intro⟩
  | tup _ => exact ⟨_, h, q _ fun _ _ => True.intro⟩
  | frl _ => exact ⟨_, h, q _ fun _ _ => True.intro⟩
  | str _ => cases hs
  | _ => cases h
/-- [f(j) for j in range(n) if q(j)] -/
theorem comp_rng {tt : DT} {te : DE} {sl0 : List (Option SV)} {st : List Ob} {k : Nat} {Q : List D → List Ob → Prop} (n : Nat) (p : Nat → Bool) (f : Nat → D) (hn : n ≤ 100000)
    (hs : ∀ j, j < n → ∀ (K : D → List Ob → Prop) (K0 : List Ob → Prop), (p j = true → K (f j) st) → (p j = false → K0 st) → tt ⟨sl0.set k (some (.d (.int (j : Int)))), st⟩ (fun b st2 => if b = true then te ⟨sl0.set k (some (.d (.int (j : Int)))), st2⟩ K (fun _ _ => False) else K0 st2) (fun _ _ => False))
    (q : Q (((List.range n).filter p).map f) st) : dComp (dName k) tt te sl0 (fun _ => True) (rngD 0 n) [] st Q := by
  have key : ∀ (l : List Nat) (acc : List D), (∀ j ∈ l, j < n) → acc.length + l.length ≤ 100000 → Q (acc ++ (l.filter p).map f) st → dComp (dName k) tt te sl0 (fun _ => True) (natD l) acc st Q := by
    intro l
    induction l with
    | nil => intro acc _ _ q; exact ⟨True.intro, by simpa using q⟩
    | cons j l ih =>
      intro acc hb hl q
      rw [List.length_cons] at hl
      refine ⟨True.intro, hs j (hb j List.mem_cons_self) (fun y st3 => acc.length < sizeLine ∧ dComp (dName k) tt te sl0 (fun _ => True) (natD l) (acc ++ [y]) st3 Q) (fun st2 => dComp (dName k) tt te sl0 (fun _ => True) (natD l) acc st2 Q) (fun h => ⟨by rw [sizeLine_eq]; omega, ih _ (fun i hi => hb i (List.mem_cons_of_mem _ hi)) (by rw [List.length_append, List.length_singleton]; omega) ?_⟩) (fun h => ih _ (fun i hi => hb i (List.mem_cons_of_mem _ hi)) (by omega) ?_)⟩
      · rw [List.filter_cons_of_pos h, List.map_cons] at q
        rw [List.append_assoc]; exact q
      · rw [List.filter_cons_of_neg (by rw [h]; decide)] at q
        exact q
  rw [rng0]
  exact key (List.range n) [] (fun j hj => List.mem_range.mp hj) (by simpa using hn) (by simpa using q)
/-- [f(note) for note in notes if q(note)] -/
theorem comp_nts {tt : DT} {te : DE} {sl0 : List (Option SV)} {st : List Ob} {k : Nat} {wt : List Ob → Prop} {Q : List D → List Ob → Prop} (ts : List Tri) (p : Tri → Bool) (f : Tri → D) (hw : wt st) (hn : ts.length ≤ 100000)
    (hs : ∀ t ∈ ts, ∀ (K : D → List Ob → Prop) (K0 : List Ob → Prop), (p t = true → K (f t) st) → (p t = false → K0 st) → tt ⟨sl0.set k (some (.d (triD t))), st⟩ (fun b st2 => if b = true then te ⟨sl0.set k (some (.d (triD t))), st2⟩ K (fun _ _ => False) else K0 st2) (fun _ _ => False))
    (q : Q ((ts.filter p).map f) st) : dComp (dName k) tt te sl0 wt (ts.map triD) [] st Q := by
  have key : ∀ (l : List Tri) (acc : List D), (∀ j ∈ l, j ∈ ts) → acc.length + l.length ≤ 100000 → Q (acc ++ (l.filter p).map f) st → dComp (dName k) tt te sl0 wt (l.map triD) acc st Q := by
    intro l
    induction l with
    | nil => intro acc _ _ q; exact ⟨hw, by simpa using q⟩
    | cons j l ih =>
      intro acc hb hl q
      rw [List.length_cons] at hl
      refine ⟨hw, hs j (hb j List.mem_cons_self) (fun y st3 => acc.length < sizeLine ∧ dComp (dName k) tt te sl0 wt (l.map triD) (acc ++ [y]) st3 Q) (fun st2 => dComp (dName k) tt te sl0 wt (l.map triD) acc st2 Q) (fun h => ⟨by rw [sizeLine_eq]; omega, ih _ (fun i hi => hb i (List.mem_cons_of_mem _ hi)) (by rw [List.length_append, List.length_singleton]; omega) ?_⟩) (fun h => ih _ (fun i hi => hb i (List.mem_cons_of_mem _ hi)) (by omega) ?_)⟩
      · rw [List.filter_cons_of_pos h, List.map_cons] at q
        rw [List.append_assoc]; exact q
      · rw [List.filter_cons_of_neg (by rw [h]; decide)] at q
        exact q
  exact key ts [] (fun j hj => hj) (by simpa using hn) (by simpa using q)
/-! ### dicts -/
theorem getD_putD {ks : List (Key × D)} {k k' : Key} {v : D} : getD (putD ks k v) k' = if k' = k then some v else getD ks k' := by
  unfold putD
  by_cases h : (ks.any fun kv => decide (kv.1 = k)) = true
  · rw [if_pos h]
    have go : ∀ l : List (Key × D), (l.any fun kv => decide (kv.1 = k)) = true → getD (l.map fun kv => if kv.1 = k then (kv.1, v) else kv) k' = if k' = k then some v else getD l k' := by
      intro l
      induction l with
      | nil => intro h; cases h
      | cons a l ih =>
        intro h
        rw [List.map_cons]
        unfold getD
        by_cases ha : a.1 = k
        · rw [if_pos ha]
          by_cases hk : k' = k
          · subst hk
            rw [List.find?_cons_of_pos (by simpa using ha), if_pos rfl]; rfl
          · rw [if_neg hk, List.find?_cons_of_neg (by simp; rw [ha]; exact fun z => hk z.symm), List.find?_cons_of_neg (by simp; rw [ha]; exact fun z => hk z.symm)]
            have : ∀ m : List (Key × D), (List.find? (fun kv => decide (kv.1 = k')) (m.map fun kv => if kv.1 = k then (kv.1, v) else kv)) = List.find? (fun kv => decide (kv.1 = k')) m := by
              intro m
              induction m with
              | nil => rfl
              | cons b m im =>
                rw [List.map_cons]
                by_cases hb : b.1 = k
                · rw [if_pos hb, List.find?_cons_of_neg (by simp; rw [hb]; exact fun z => hk z.symm), List.find?_cons_of_neg (by simp; rw [hb]; exact fun z => hk z.symm), im]
                · rw [if_neg hb]
                  by_cases hq : b.1 = k'
                  · rw [List.find?_cons_of_pos (by simpa using hq), List.find?_cons_of_pos (by simpa using hq)]
                  · rw [List.find?_cons_of_neg (by simpa using hq), List.find?_cons_of_neg (by simpa using hq), im]
            rw [this]
        · rw [if_neg ha]
          have h2 : (l.any fun kv => decide (kv.1 = k)) = true := by
            rw [List.any_cons] at h
            simpa [ha] using h
          by_cases hq : a.1 = k'
          · rw [List.find?_cons_of_pos (by simpa using hq), List.find?_cons_of_pos (by simpa using hq), if_neg (fun z => ha (by rw [hq, z]))]
          · rw [List.find?_cons_of_neg (by simpa using hq), List.find?_cons_of_neg (by simpa using hq)]
            exact ih h2
    exact go ks h
  · rw [if_neg h]
    unfold getD
    rw [List.find?_append]
    by_cases hk : k' = k
    · subst hk
      rw [if_pos rfl]
      have : List.find? (fun kv : Key × D => decide (kv.1 = k')) ks = none := by
        rw [List.find?_eq_none]
        intro x hx z
        exact h (List.any_eq_true.mpr ⟨x, hx, z⟩)
      rw [this]
      simp
    · rw [if_neg hk, List.find?_cons_of_neg (by simpa using fun z => hk z.symm)]
      simp
def RR_is_drum : DS := (dSeq (dRet (dCall m_isint (dCons (dVar 0) (dCons (dC (.int 1)) (dCons (dVar 1) dNil))))) dNext)
def mm_is_drum : SpD := mD 2 2 (RR_is_drum)
def RR_need_all_drums : DS := (dSeq (dFor (dIt (dVar 0)) (dName 2) (dSeq (dIfS (dNot (dTest (dCall mm_is_drum (dCons (dVar 2) (dCons (dVar 1) dNil))))) (dSeq (dRaise1 "BadPlan" "found" (dCons (dVar 2) dNil)) dNext) dNext) dNext)) dNext)
def mm_need_all_drums : SpD := mD 3 2 (RR_need_all_drums)
def RR_need_plan : DS := (dSeq (dIfS (dOr (dNot (dTest (dCall m_islist (dCons (dVar 1) (dCons (dC (.int 60)) dNil))))) (dTest (dBin kNe (dB kLen (dCons (dVar 1) dNil)) (dB kLenP (dCons (dVar 0) dNil))))) (dSeq (dRaise1 "BadPlan" "found" (dCons (dVar 1) dNil)) dNext) dNext) (dSeq (dDrop (dCall mm_need_all_drums (dCons (dVar 1) (dCons (dVar 2) dNil)))) dNext))
def mm_need_plan : SpD := mD 3 3 (RR_need_plan)
def RR_tunedN : DS := (dSeq (dSetD 2) (dSeq (dSet (dName 3) (dLstN dNil)) (dSeq (dFor (dEnum (dMethP mm_pnotes (dVar 0) dNil)) (dUnp 2 (gMore (dName 4) (gMore (dName 5) gNone))) (dSeq (dSet (dName 6) (dBin kIx (dVar 1) (dVar 4))) (dSeq (dIfS (dOr (dTest (dInO true 2 (dVar 6))) (dTest (dBin kNe (dGetO 2 (dVar 6)) (dBin kIx (dVar 5) (dC (.int 2)))))) (dSeq (dDrop (dApN (dVar 3) (dVar 4))) dNext) dNext) (dSeq (dDPutO 2 (dVar 6) (dBin kIx (dVar 5) (dC (.int 2)))) dNext)))) (dSeq (dRet (dVar 3)) dNext))))
def mm_tunedN : SpD := mD 7 2 (RR_tunedN)
def RR_tuned : DS := (dSeq (dDrop (dCall mm_needpart (dCons (dVar 0) dNil))) (dSeq (dDrop (dCall mm_need_plan (dApp (dCons (dVar 0) (dCons (dVar 1) dNil)) (dDef [.int 12])))) (dSeq (dRet (dCall mm_tunedN (dCons (dVar 0) (dCons (dVar 1) dNil)))) dNext)))
def mm_tuned : SpD := mD 2 2 (RR_tuned)
def RR_law_tuned : DS := (dSeq (dSetO 2 dNil) (dSeq (dFor (dRng1 (dB kLen (dCons (dVar 0) dNil))) (dName 3) (dSeq (dSetC 4 (dLc (dRng1 (dVar 3)) (dName 5) (dTest (dBin kEq (dBin kIx (dVar 1) (dVar 5)) (dBin kIx (dVar 1) (dVar 3)))) (dVar 5) [5])) (dSeq (dIfS (dOr (dTest (dBin kEq (dVar 4) (dLst dNil))) (dTest (dBin kNe (dBin kIx (dBin kIx (dVar 0) (dBin kIx (dVar 4) (dUn kNeg (dC (.int 1))))) (dC (.int 2))) (dBin kIx (dBin kIx (dVar 0) (dVar 3)) (dC (.int 2)))))) (dSeq (dApO 2 (dVar 3)) dNext) dNext) dNext))) (dSeq (dRetO 2) dNext)))
def mm_law_tuned : SpD := mD 6 2 (RR_law_tuned)

end Kt
set_option maxHeartbeats 400000
/-! Kt48: what is asked of plans; tuned notes. -/
namespace Kt
open PySem PySem.Spec L2
section
variable {st : List Ob} {Q : SV → List Ob → Prop} {E : XK'} {ts : List Tri}
theorem isdrum_ok {d : D} {t : String} {dr : Int} (h : tyD st d = some t) (q : Q (.d (.bl (isI d 1 dr))) st) : mm_is_drum [d, .int dr] st Q E := by
  simp only [mm_is_drum, RR_is_drum, mD, dSeq, dRet, dCall, dCons, dNil, dVar, dC]
  exact ⟨rfl, _, rfl, _, rfl, isint_ok h ⟨rfl, q⟩⟩
/-- all items from the first on, up to one that is none -/
theorem needall_gen {pd : D} {ds : List D} {dr : Int} {i0 : Nat} (hs : isStr pd = false) (hq : asSeq st pd = some ds) (hp : ∀ j d, j < i0 → ds[j]? = some d → isI d 1 dr = true) (hty : ∀ j d, ds[j]? = some d → j ≤ i0 → ∃ t, tyD st d = some t)
    (he : ∀ d, ds[i0]? = some d → isI d 1 dr = false ∧ E ⟨"BadPlan", [("found", d)]⟩ st) (q : ds.length ≤ i0 → Q (.d .non) st) : mm_need_all_drums [pd, .int dr] st Q E := by
  simp only [mm_need_all_drums, RR_need_all_drums, mD, dSeq, dFor, dNext]
  refine ⟨rfl, dIt_var rfl hs hq fun wt hw => ?_⟩
  refine loop_inv ds (fun i s => i ≤ i0 ∧ ∃ a, s = ⟨[some (.d pd), some (.d (.int dr)), a], st⟩) ⟨Nat.zero_le _, _, rfl⟩ (fun i d s nx hd hI k => ?_) (fun s hI => ?_)
  · obtain ⟨hi, a, rfl⟩ := hI
    refine ⟨hw _ fun _ _ => rfl, ?_⟩
    obtain ⟨t, ht⟩ := hty i d hd hi
    simp only [dName, dSeq, dIfS, dNot, dTest, dCall, dCons, dNil, dVar, dNext, dRaise1]
    refine ⟨_, rfl, _, rfl, isdrum_ok ht ⟨rfl, _, rfl, ?_⟩⟩
    by_cases h0 : i < i0
    · rw [hp i d h0 hd, if_neg (by decide)]
      exact k _ ⟨h0, _, rfl⟩
    · have : i = i0 := by omega
      subst this
      obtain ⟨e1, e2⟩ := he d hd
      rw [e1, if_pos (by decide)]
      exact ⟨_, rfl, _, rfl, e2⟩
  · obtain ⟨hi, a, rfl⟩ := hI
    exact ⟨hw _ fun _ _ => rfl, q hi⟩
theorem PlD.len {d : D} {pl : List Int} (P : PlD st d pl) : isL st d 60 = decide ((pl.length : Int) ≤ 60) := by
  unfold isL; rw [P.q]; simp
theorem needplan_ok {pd : D} {pl : List Int} {ns : List D} {dr : Int} (P : PlD st pd pl) (hl : pl.length = ns.length) (h60 : ns.length ≤ 60) (hd : ∀ x ∈ pl, 1 ≤ x ∧ x ≤ dr) (q : Q (.d .non) st) : mm_need_plan [.part ns, pd, .int dr] st Q E := by
  obtain ⟨t, ht⟩ := P.t
  simp only [mm_need_plan, RR_need_plan, mD, dSeq, dIfS, dOr, dNot, dTest, dBin, dB, dDrop, dCall, dCons, dNil, dVar, dC, dNext]
  refine ⟨rfl, _, rfl, islist_ok ht ⟨rfl, _, rfl, ?_⟩⟩
  rw [P.len, if_neg (by simp; omega)]
  refine ⟨_, rfl, kLen_pl P ⟨_, rfl, .inl ⟨ns, rfl, by omega, kNeI ⟨_, rfl, ?_⟩⟩⟩⟩
  rw [if_neg (by simp; omega)]
  refine ⟨_, rfl, _, rfl, needall_gen (i0 := pl.length) P.s P.q (fun j d _ h => ?_) (fun j d h _ => ?_) (fun d h => ?_) fun _ => ⟨rfl, q⟩⟩
  · rw [List.getElem?_map] at h
    cases e : pl[j]? with
    | none => rw [e] at h; cases h
    | some x =>
      rw [e] at h; cases h
      have := hd x (List.mem_of_getElem? e)
      simp [isI]; omega
  · rw [List.getElem?_map] at h
    cases e : pl[j]? with
    | none => rw [e] at h; cases h
    | some x => rw [e] at h; cases h; exact ⟨_, rfl⟩
  · rw [List.getElem?_eq_none (by simp)] at h; cases h
/-- what is no list of so many items -/
theorem needplan_no {pd : D} {t : String} {ns : List D} {dr : Int} (ht : tyD st pd = some t) (h1000 : ns.length ≤ 1000) (h : isL st pd 60 = false ∨ ∃ ds, isStr pd = false ∧ asSeq st pd = some ds ∧ ds.length ≠ ns.length) (e : E ⟨"BadPlan", [("found", pd)]⟩ st) : mm_need_plan [.part ns, pd, .int dr] st Q E := by
  simp only [mm_need_plan, RR_need_plan, mD, dSeq, dIfS, dOr, dNot, dTest, dBin, dB, dDrop, dCall, dCons, dNil, dVar, dC, dNext, dRaise1]
  refine ⟨rfl, _, rfl, islist_ok ht ⟨rfl, _, rfl, ?_⟩⟩
  cases hi : isL st pd 60 with
  | false =>
    rw [if_pos (by decide), if_pos True.intro]
    exact ⟨_, rfl, _, rfl, e⟩
  | true =>
    rw [if_neg (by decide)]
    rcases h with h | ⟨ds, hs, hq, hn⟩
    · rw [hi] at h; cases h
    · refine ⟨_, rfl, len_seq_of hs hq ⟨_, rfl, .inl ⟨ns, rfl, h1000, kNeI ⟨_, rfl, ?_⟩⟩⟩⟩
      rw [if_pos (by simp; omega)]
      exact ⟨_, rfl, _, rfl, e⟩
/-- a wrong item behind good ones -/
theorem needplan_bad {pd : D} {ds : List D} {ns : List D} {dr : Int} {i0 : Nat} {b : D} (ht : ∃ t, tyD st pd = some t) (hs : isStr pd = false) (hq : asSeq st pd = some ds) (hl : ds.length = ns.length) (h60 : ns.length ≤ 60) (hp : ∀ j d, j < i0 → ds[j]? = some d → isI d 1 dr = true)
    (hb : ds[i0]? = some b) (hbt : ∃ t, tyD st b = some t) (hbi : isI b 1 dr = false) (e : E ⟨"BadPlan", [("found", b)]⟩ st) : mm_need_plan [.part ns, pd, .int dr] st Q E := by
  obtain ⟨t, ht⟩ := ht
  have hL : isL st pd 60 = true := by unfold isL; rw [hq]; simp; omega
  simp only [mm_need_plan, RR_need_plan, mD, dSeq, dIfS, dOr, dNot, dTest, dBin, dB, dDrop, dCall, dCons, dNil, dVar, dC, dNext]
  refine ⟨rfl, _, rfl, islist_ok ht ⟨rfl, _, rfl, ?_⟩⟩
  rw [hL, if_neg (by decide)]
  refine ⟨_, rfl, len_seq_of hs hq ⟨_, rfl, .inl ⟨ns, rfl, by omega, kNeI ⟨_, rfl, ?_⟩⟩⟩⟩
  rw [if_neg (by simp; omega)]
  refine ⟨_, rfl, _, rfl, needall_gen (i0 := i0) hs hq hp (fun j d h hj => ?_) (fun d h => ?_) fun hz => ?_⟩
  · by_cases hj2 : j < i0
    · have := hp j d hj2 h
      cases d <;> first | (simp [isI] at this; done) | exact ⟨_, rfl⟩
    · have : j = i0 := by omega
      subst this
      rw [hb] at h; cases h
      exact hbt
  · rw [hb] at h; cases h
    exact ⟨hbi, e⟩
  · have := (List.getElem?_eq_some_iff.mp hb).1
    omega
end
/-! ### tuned notes -/
/-- the notes before the i-th one on a drum -/
def bef (pl : List Int) (i : Nat) (d : Int) : List Nat := (List.range i).filter fun j => decide (gi pl j = d)
theorem bef_succ (pl : List Int) (i : Nat) (d : Int) : bef pl (i + 1) d = bef pl i d ++ if gi pl i = d then [i] else [] := by
  unfold bef
  rw [List.range_succ, List.filter_append]
  congr 1
  by_cases h : gi pl i = d
  · rw [if_pos h, List.filter_cons_of_pos (by simpa using h)]; rfl
  · rw [if_neg h, List.filter_cons_of_neg (by simpa using h)]; rfl
theorem bef_lt {pl : List Int} {i j : Nat} {d : Int} (h : j ∈ bef pl i d) : j < i := by
  unfold bef at h
  exact List.mem_range.mp (List.mem_filter.mp h).1
theorem bef_len {pl : List Int} {i : Nat} {d : Int} : (bef pl i d).length ≤ i := by
  unfold bef
  exact Nat.le_trans (List.length_filter_le _ _) (by simp)
def lastOn (pl : List Int) (i : Nat) (d : Int) : Option Nat := (bef pl i d).getLast?
theorem lastOn_succ (pl : List Int) (i : Nat) (d : Int) : lastOn pl (i + 1) d = if gi pl i = d then some i else lastOn pl i d := by
  unfold lastOn
  rw [bef_succ]
  by_cases h : gi pl i = d
  · rw [if_pos h, if_pos h, List.getLast?_append]; rfl
  · rw [if_neg h, if_neg h, List.append_nil]
theorem lastOn_lt {pl : List Int} {i j : Nat} {d : Int} (h : lastOn pl i d = some j) : j < i := bef_lt (List.mem_of_getLast? h)
/-- whether the i-th note is tuned -/
def tunD (ts : List Tri) (pl : List Int) (i : Nat) : Bool := match lastOn pl i (gi pl i) with
  | none => true
  | some j => !decide ((gt ts j).2.2 = (gt ts i).2.2)
def tunL (ts : List Tri) (pl : List Int) : List Nat := (List.range ts.length).filter (tunD ts pl)
theorem range_filter_succ (p : Nat → Bool) (i : Nat) : (List.range (i + 1)).filter p = (List.range i).filter p ++ if p i = true then [i] else [] := by
  rw [List.range_succ, List.filter_append]
  congr 1
  by_cases h : p i = true
  · rw [if_pos h, List.filter_cons_of_pos h]; rfl
  · rw [if_neg h, List.filter_cons_of_neg h]; rfl
theorem natD_app (a b : List Nat) : natD (a ++ b) = natD a ++ natD b := List.map_append
theorem natD_len (a : List Nat) : (natD a).length = a.length := List.length_map ..
theorem natD_last {l : List Nat} : (natD l).getLast? = l.getLast?.map fun j : Nat => D.int (j : Int) := List.getLast?_map
section
variable {st : List Ob} {Q : SV → List Ob → Prop} {E : XK'} {ts : List Tri} {pl : List Int}
theorem ltuned_ok (hl : pl.length = ts.length) (h60 : ts.length ≤ 60) (q : Q (.ol (natD (tunL ts pl))) st) : mm_law_tuned [.lst (ts.map triD), .lst (pl.map D.int)] st Q E := by
  simp only [mm_law_tuned, RR_law_tuned, mD, dSeq, dNext, dSetO, dNil, dFor, dRng1, dB, dCons, dVar]
  refine ⟨rfl, none0, _, rfl, kLen_lst ⟨_, rfl, by rw [List.length_map]; omega, by rw [List.length_map]; omega, ?_⟩⟩
  rw [List.length_map]
  refine loop_inv (rngD 0 (ts.length : Int).toNat) (fun i s => ∃ F a b e, s = ⟨[some (.d (.lst (ts.map triD))), some (.d (.lst (pl.map D.int))), some (.ol F), a, b, e], st⟩ ∧ F = natD ((List.range i).filter (tunD ts pl))) ⟨_, _, _, _, rfl, rfl⟩ (fun i d s nx hd hI k => ?_) (fun s hI => ?_)
  · obtain ⟨F, a, b, e, rfl, rfl⟩ := hI
    obtain ⟨hi, rfl⟩ := rng_get hd
    have hi : i < ts.length := by omega
    rw [show ((0 : Int) + (i : Int)) = (i : Int) by omega]
    refine ⟨True.intro, ?_⟩
    simp only [dName, dSeq, dSetC, dLc, dRng1, dIfS, dOr, dTest, dBin, dUn, unS, kNeg, dLst, dNil, dVar, dC, dApO, dNext]
    refine ⟨_, rfl, _, rfl, by omega, by omega, ?_⟩
    refine comp_rng i (fun j => decide (gi pl j = gi pl i)) (fun j => .int (j : Int)) (by omega) (fun j hj K K0 hK hK0 => ?_) ?_
    · simp only [dTest, dBin, dVar]
      refine ⟨_, rfl, _, rfl, kIx_ints (by omega) ⟨_, rfl, _, rfl, kIx_ints (by omega) (kEqI ⟨_, rfl, ?_⟩)⟩⟩
      by_cases h : gi pl j = gi pl i
      · rw [if_pos (by simpa using h)]
        exact ⟨_, rfl, hK (by simpa using h)⟩
      · rw [if_neg (by simpa using h)]
        exact hK0 (by simpa using h)
    · show _
      have eb : ((List.range i).filter fun j => decide (gi pl j = gi pl i)).map (fun j : Nat => D.int (j : Int)) = natD (bef pl i (gi pl i)) := rfl
      rw [eb]
      refine ⟨_, rfl, none0, kEq_nats (by have := bef_len (pl := pl) (i := i) (d := gi pl i); omega) (fun j hj => by have := bef_lt hj; omega) ⟨_, rfl, ?_⟩⟩
      have fin : ∀ p, tunD ts pl i = p → (if p = true then nx ⟨[some (.d (.lst (ts.map triD))), some (.d (.lst (pl.map D.int))), some (.ol (natD ((List.range i).filter (tunD ts pl)) ++ [.int (i : Int)])), some (.d (.int (i : Int))), some (.d (.lst (natD (bef pl i (gi pl i))))), e], st⟩
          else nx ⟨[some (.d (.lst (ts.map triD))), some (.d (.lst (pl.map D.int))), some (.ol (natD ((List.range i).filter (tunD ts pl)))), some (.d (.int (i : Int))), some (.d (.lst (natD (bef pl i (gi pl i))))), e], st⟩) := fun p hp => by
        cases p with
        | true =>
          rw [if_pos rfl]
          exact k _ ⟨_, _, _, _, rfl, by rw [range_filter_succ, if_pos hp, natD_app]; rfl⟩
        | false =>
          rw [if_neg (by decide)]
          exact k _ ⟨_, _, _, _, rfl, by rw [range_filter_succ, if_neg (by rw [hp]; decide), List.append_nil]⟩
      cases hb : bef pl i (gi pl i) with
      | nil =>
        have ht : tunD ts pl i = true := by unfold tunD lastOn; rw [hb]; rfl
        have := fin _ ht
        rw [if_pos rfl] at this
        rw [if_pos (by rfl), if_pos True.intro]
        rw [hb] at this
        exact ⟨_, rfl, _, rfl, by rw [natD_len, sizeLine_eq]; have := List.length_filter_le (tunD ts pl) (List.range i); simp at this; omega, this⟩
      | cons x l =>
        rw [if_neg (by simp)]
        obtain ⟨j, hj⟩ : ∃ j, lastOn pl i (gi pl i) = some j := by
          unfold lastOn; rw [hb]
          exact ⟨_, List.getLast?_cons⟩
        have hjl := lastOn_lt hj
        have ej : (natD (x :: l)).getLast? = some (.int (j : Int)) := by
          rw [natD_last]
          unfold lastOn at hj
          rw [hb] at hj
          rw [hj]; rfl
        refine ⟨_, rfl, _, rfl, kIx_last ej (kIx_nts (by omega) (kIx_tri.2.2 ⟨_, rfl, _, rfl, kIx_nts hi (kIx_tri.2.2 (kNeI ⟨_, rfl, ?_⟩))⟩))⟩
        have ht : tunD ts pl i = !decide ((gt ts j).2.2 = (gt ts i).2.2) := by unfold tunD; rw [hj]
        have := fin _ ht
        rw [hb] at this
        split
        · rename_i hc
          rw [if_pos hc] at this
          exact ⟨_, rfl, _, rfl, by rw [natD_len, sizeLine_eq]; have := List.length_filter_le (tunD ts pl) (List.range i); simp at this; omega, this⟩
        · rename_i hc
          rw [if_neg hc] at this
          exact this
  · obtain ⟨F, a, b, e, rfl, rfl⟩ := hI
    refine ⟨True.intro, _, rfl, ?_⟩
    rw [rng_len, show ((ts.length : Int)).toNat = ts.length by omega]
    exact q
theorem PlD.keep {st st' : List Ob} {d : D} {pl : List Int} (P : PlD st d pl) (k : ∀ m, d = .obj m → st'[m]? = st[m]?) : PlD st' d pl := by
  refine ⟨P.s, ?_, ty_keep P.t k⟩
  have := P.q
  cases d <;> first | exact this | skip
  show (match st'[_]? with | some (Ob.lst ds) => some ds | _ => none) = _
  rw [k _ rfl]; exact this
theorem PlD.lt {st : List Ob} {m : Nat} {pl : List Int} (P : PlD st (.obj m) pl) : m < st.length := obj_lt P.t
theorem PlD.app {st more : List Ob} {d : D} {pl : List Int} (P : PlD st d pl) : PlD (st ++ more) d pl := P.keep fun m e => by
  subst e
  rw [List.getElem?_append_left P.lt]
theorem app_get {st : List Ob} {o : Ob} : (st ++ [o])[st.length]? = some o := by rw [List.getElem?_append_right (Nat.le_refl _), Nat.sub_self]; rfl
theorem app_set {st : List Ob} {o o' : Ob} : (st ++ [o]).set st.length o' = st ++ [o'] := by rw [List.set_append_right _ _ (Nat.le_refl _), Nat.sub_self]; rfl
theorem en_get {ts : List Tri} {i : Nat} {d : D} (h : (enD 0 (ts.map triD))[i]? = some d) : i < ts.length ∧ d = .tup [.int (i : Int), triD (gt ts i)] := by
  obtain ⟨e, h1, rfl⟩ := enD_get _ _ _ _ h
  obtain ⟨t, h2, rfl⟩ := tri_get h1
  have hl := (List.getElem?_eq_some_iff.mp h2).1
  rw [gt_get hl] at h2
  cases h2
  exact ⟨hl, by simp⟩
/-- what a dict keeps of the last note on each drum -/
def Lasts (f : Nat → D) (pl : List Int) (i : Nat) (ks : List (Key × D)) : Prop := (∀ d, getD ks (.inl d) = (lastOn pl i d).map f) ∧ ks.length ≤ i
theorem Lasts.nil {f : Nat → D} {pl : List Int} : Lasts f pl 0 [] := ⟨fun d => rfl, Nat.le_refl _⟩
theorem Lasts.put {f : Nat → D} {pl : List Int} {i : Nat} {ks : List (Key × D)} (h : Lasts f pl i ks) : Lasts f pl (i + 1) (putD ks (.inl (gi pl i)) (f i)) := by
  refine ⟨fun d => ?_, by have := putD_len (ks := ks) (k := .inl (gi pl i)) (v := f i); have := h.2; omega⟩
  rw [getD_putD, lastOn_succ]
  by_cases hd : gi pl i = d
  · subst hd
    rw [if_pos rfl, if_pos rfl]; rfl
  · rw [if_neg (fun z => hd (by injection z with z; exact z.symm)), if_neg hd]
    exact h.1 d
theorem tunedN_ok {pd : D} (P : PlD st pd pl) (hl : pl.length = ts.length) (h60 : ts.length ≤ 60) (q : Q (.d (.obj st.length)) (st ++ [.lst (natD (tunL ts pl))])) : mm_tunedN [.part (ts.map triD), pd] st Q E := by
  simp only [mm_tunedN, RR_tunedN, mD, dSeq, dNext, dSetD, dSet, dLstN, dNil, dName, dFor, dEnum, dMethP, dVar]
  refine ⟨rfl, none0, _, rfl, ⟨_, rfl⟩, pnotes_ok ⟨rfl, _, .inl rfl, ?_⟩⟩
  refine loop_inv (enD 0 (ts.map triD)) (fun i s => ∃ ks F a b e, s = ⟨[some (.d (.part (ts.map triD))), some (.d pd), some (.od ks), some (.d (.obj st.length)), a, b, e], st ++ [.lst F]⟩ ∧ F = natD ((List.range i).filter (tunD ts pl)) ∧ Lasts (fun j => .int (gt ts j).2.2) pl i ks) ⟨_, _, _, _, _, rfl, rfl, .nil⟩ (fun i d s nx hd hI k => ?_) (fun s hI => ?_)
  · obtain ⟨ks, F, a, b, e, rfl, rfl, L⟩ := hI
    obtain ⟨hi, rfl⟩ := en_get hd
    refine ⟨True.intro, ?_⟩
    simp only [dUnp, gMore, gNone, dName, dSeq, dSet, dIfS, dOr, dTest, dBin, dInO, dGetO, dVar, dC, dDrop, dApN, dDPutO, dNext, if_true]
    refine ⟨_, rfl, rfl, _, _, rfl, _, _, rfl, rfl, _, rfl, _, rfl, kIx_pl P.app (by omega) ⟨_, rfl, _, _, rfl, rfl, _, rfl, ?_⟩⟩
    have g := L.1 (gi pl i)
    have fl : (natD ((List.range i).filter (tunD ts pl))).length < sizeLine := by rw [natD_len, sizeLine_eq]; have := List.length_filter_le (tunD ts pl) (List.range i); simp at this; omega
    have kl : ks.length < sizeLine := by rw [sizeLine_eq]; have := L.2; omega
    have yes : tunD ts pl i = true → nx ⟨[some (.d (.part (ts.map triD))), some (.d pd), some (.od (putD ks (.inl (gi pl i)) (.int (gt ts i).2.2))), some (.d (.obj st.length)), some (.d (.int (i : Int))), some (.d (triD (gt ts i))), some (.d (.int (gi pl i)))], st ++ [.lst (natD ((List.range i).filter (tunD ts pl)) ++ [.int (i : Int)])]⟩ := fun h =>
      k _ ⟨_, _, _, _, _, rfl, by rw [range_filter_succ, if_pos h, natD_app]; rfl, L.put (f := fun j => .int (gt ts j).2.2)⟩
    cases hj : lastOn pl i (gi pl i) with
    | none =>
      rw [hj] at g
      rw [g]
      rw [if_pos (by rfl)]
      refine ⟨_, rfl, ⟨_, _, rfl, app_get⟩, _, rfl, _, _, rfl, app_get, fl, ?_⟩
      rw [app_set]
      exact ⟨_, rfl, _, rfl, kIx_tri.2.2 ⟨_, rfl, _, rfl, kl, yes (by unfold tunD; rw [hj])⟩⟩
    | some j =>
      rw [hj] at g
      rw [g]
      rw [if_neg (by simp)]
      refine ⟨_, rfl, _, rfl, _, _, rfl, g, _, rfl, kIx_tri.2.2 (kNeI ⟨_, rfl, ?_⟩)⟩
      by_cases hp : (gt ts j).2.2 = (gt ts i).2.2
      · rw [if_neg (by simp [hp])]
        refine ⟨_, rfl, _, rfl, kIx_tri.2.2 ⟨_, rfl, _, rfl, kl, ?_⟩⟩
        exact k _ ⟨_, _, _, _, _, rfl, by rw [range_filter_succ, if_neg (by unfold tunD; rw [hj]; simp [hp]), List.append_nil], L.put (f := fun j => .int (gt ts j).2.2)⟩
      · rw [if_pos (by simp [hp])]
        refine ⟨_, rfl, ⟨_, _, rfl, app_get⟩, _, rfl, _, _, rfl, app_get, fl, ?_⟩
        rw [app_set]
        exact ⟨_, rfl, _, rfl, kIx_tri.2.2 ⟨_, rfl, _, rfl, kl, yes (by unfold tunD; rw [hj]; simp [hp])⟩⟩
  · obtain ⟨ks, F, a, b, e, rfl, rfl, L⟩ := hI
    refine ⟨True.intro, _, rfl, ?_⟩
    rw [enD_len, List.length_map]
    exact q
theorem tuned_ok {pd : D} (P : PlD st pd pl) (hl : pl.length = ts.length) (h60 : ts.length ≤ 60) (hd : ∀ x ∈ pl, 1 ≤ x ∧ x ≤ 12) (q : Q (.d (.obj st.length)) (st ++ [.lst (natD (tunL ts pl))])) : mm_tuned [.part (ts.map triD), pd] st Q E := by
  simp only [mm_tuned, RR_tuned, mD, dSeq, dDrop, dRet, dCall, dApp, dDef, dCons, dNil, dVar]
  exact ⟨rfl, _, rfl, pneed_ok ⟨rfl, _, rfl, _, rfl, needplan_ok P (by rw [List.length_map]; exact hl) (by rw [List.length_map]; exact h60) hd ⟨rfl, _, rfl, _, rfl, tunedN_ok P hl h60 ⟨rfl, q⟩⟩⟩⟩
end
end Kt
set_option maxHeartbeats 400000
/-! Kt49: what a law draws. -/
namespace Kt
open PySem PySem.Spec L2
/-- [.. for .. in ds], each item a whole number from lo to hi, by at most one draw -/
theorem comp_draw {g : DG} {te : DE} {sl0 : List (Option SV)} {wt : List Ob → Prop} {st : List Ob} {n c : Nat} {lo hi : Int} {ds : List D} {Q : List D → List Ob → Prop} (h : Bx st n c) (hw : ∀ st1 c1, Stp n st st1 c1 → wt st1) (hz : ds.length ≤ 1000)
    (hs : ∀ d ∈ ds, ∀ (st1 : List Ob) (c1 : Nat) (K : D → List Ob → Prop), Bx st1 n c1 → c1 < c + ds.length → (∀ x st2, lo ≤ x → x ≤ hi → Stp n st1 st2 (c1 + 1) → K (.int x) st2) → g d ⟨sl0, st1⟩ fun s2 => te ⟨s2.sl, s2.st⟩ K (fun _ _ => False))
    (q : ∀ (pl : List Int) st', pl.length = ds.length → (∀ x ∈ pl, lo ≤ x ∧ x ≤ hi) → Stp n st st' (c + ds.length) → Q (pl.map D.int) st') : dComp g dYes te sl0 wt ds [] st Q := by
  refine comp_inv ds (fun i acc s => ∃ pl : List Int, acc = pl.map D.int ∧ pl.length = i ∧ (∀ x ∈ pl, lo ≤ x ∧ x ≤ hi) ∧ Stp n st s (c + i)) ⟨[], rfl, rfl, (fun x hx => by cases hx), h.self⟩ (fun i d acc s K hd hI k => ?_) (fun acc s hI => ?_)
  · obtain ⟨pl, rfl, hi', hb, g1⟩ := hI
    have hl := (List.getElem?_eq_some_iff.mp hd).1
    refine ⟨hw s _ g1, ?_⟩
    simp only [dYes, if_true]
    refine hs d (List.mem_of_getElem? hd) s (c + i) (fun y st3 => (pl.map D.int).length < sizeLine ∧ K (pl.map D.int ++ [y]) st3) g1.2 (by omega) fun x st2 h1 h2 g2 => ⟨by rw [List.length_map, sizeLine_eq]; omega, k _ _ ⟨pl ++ [x], by rw [List.map_append]; rfl, by rw [List.length_append, List.length_singleton, hi'], fun y hy => ?_, g1.trans g2⟩⟩
    rcases List.mem_append.mp hy with hy | hy
    · exact hb y hy
    · have : y = x := by simpa using hy
      subst this; exact ⟨h1, h2⟩
  · obtain ⟨pl, rfl, hi', hb, g1⟩ := hI
    exact ⟨hw s _ g1, q pl s hi' hb g1⟩
section
variable {st : List Ob} {Q : SV → List Ob → Prop} {E : XK'}
theorem kList_lst {ds : List D} {K : DK} (k : K (.lst ds) st) : kList [.lst ds] st K := by
  unfold kList; exact ⟨_, rfl, k⟩
theorem kTuple_lst {ds : List D} {K : DK} (k : K (.tup ds) st) : kTuple [.lst ds] st K := by
  unfold kTuple; exact ⟨_, rfl, k⟩
theorem It.nats {l : List Nat} {z : Nat} (h : ∀ j ∈ l, j ≤ 100000) (hl : l.length ≤ z) : It 1 (z * 101) (.list (l.map fun j : Nat => PyData.int (j : Int))) := by
  have := It.ints (ns := l.map fun j : Nat => (j : Int)) (l := z) (fun k hk => by obtain ⟨j, hj, rfl⟩ := List.mem_map.mp hk; have := h j hj; omega) (by simpa using hl)
  rw [List.map_map] at this
  exact this
theorem toPyA_nats (g : Nat → Option PyData) (l : List Nat) : toPyA g (natD l) = some (l.map fun j : Nat => PyData.int (j : Int)) := by
  rw [natD_ints, toPyA_ints, List.map_map]; rfl
theorem toPyF_nats (g : Nat → Option PyData) (l : List Nat) : toPyF g (.lst (natD l)) = some (.list (l.map fun j : Nat => PyData.int (j : Int))) := by simp only [toPyF, toPyA_nats, Option.map_some]
theorem tunL_lt {ts : List Tri} {pl : List Int} : ∀ j ∈ tunL ts pl, j < ts.length := fun j hj => List.mem_range.mp (List.mem_filter.mp hj).1
theorem tunL_len {ts : List Tri} {pl : List Int} : (tunL ts pl).length ≤ ts.length := by
  unfold tunL
  exact Nat.le_trans (List.length_filter_le _ _) (by simp)
/-- == of the same data -/
theorem kNe_it {a b : D} {p : PyData} {d w : Nat} {K : DK} (I : It d w p) (h1 : toPy st a = some p) (h2 : toPy st b = some p) (k : K (.bl false) st) (hd : d ≤ 64 := by omega) (hw : w ≤ 1048576 := by omega) : kNe a b st K := kNe_same (I.gd hd hw) h1 h2 k
theorem kNe_ints {pl : List Int} {K : DK} (h : ∀ x ∈ pl, -999999999999 ≤ x ∧ x ≤ 999999999999) (hl : pl.length ≤ 1000) (k : K (.bl false) st) : kNe (.lst (pl.map D.int)) (.lst (pl.map D.int)) st K :=
  kNe_it (It.ints (l := 1000) h hl) (toPyF_ints _ _) (toPyF_ints _ _) k
theorem kNe_tris {ts : List Tri} {K : DK} (h : ∀ t ∈ ts, bdT t) (hl : ts.length ≤ 100) (k : K (.bl false) st) : kNe (.lst (ts.map triD)) (.lst (ts.map triD)) st K :=
  kNe_it (It.tris (l := 100) h hl) (toPyF_tris _ _) (toPyF_tris _ _) k
end
/-! ### the first statements of most laws -/
section
variable {st : List Ob} {De : DEnds} {sl : List (Option SV)} {n c : Nat} {c0 : Int}
theorem lw_box {a b : Int} {ns : List Int} {k : Int} (e0 : sl[0]? = some (some (.d (.frl (ns.map D.int))))) (e1 : sl[1]? = some (some (.d (.int k)))) (h0 : 0 ≤ k) (hk : k ≤ 1000) (ha : 0 ≤ a ∧ a < 2 ^ 64)
    (q : ∀ o, Bx (st ++ [o]) st.length 0 → De.nx ⟨sl.set 2 (some (.d (.obj st.length))), st ++ [o]⟩) :
    (dSet (dName 2) (dCall (mD 1 1 R_box) (dCons (dCall (mD 2 2 (R_cell a b)) (dCons (dVar 0) (dCons (dVar 1) dNil))) dNil))) De ⟨sl, st⟩ := by
  simp only [dSet, dCall, dCons, dNil, dVar, dName]
  exact ⟨_, e0, _, e1, cell_ok h0 (by omega) (fun z => ⟨rfl, box_ok fun o hb => ⟨rfl, q o hb⟩⟩) ha⟩
def cs (xs : List Int) : DA := xs.foldr (fun x r => dCons (dC (.int x)) r) dNil
theorem cs_run {xs : List Int} {s : S} {Q : List D → List Ob → Prop} {E : XK'} (q : Q (xs.map D.int) s.st) : cs xs s Q E := by
  induction xs generalizing Q with
  | nil => exact q
  | cons x xs ih =>
    show cs xs ⟨s.sl, s.st⟩ (fun ys st' => Q (.int x :: ys) st') E
    exact ih q
theorem pick_ok {i : Nat} {xs : List Int} {lo hi : Int} {E : XK'} {Q : DK} (e2 : sl[i]? = some (some (.d (.obj n)))) (h : Bx st n c) (hc : c + 1 ≤ 1000000) (hx : ∀ x ∈ xs, lo ≤ x ∧ x ≤ hi) (h0 : 0 < xs.length) (hl : xs.length ≤ 1000) (hc0 : 0 ≤ c0 ∧ c0 ≤ 1000000)
    (q : ∀ x st', lo ≤ x → x ≤ hi → Stp n st st' (c + 1) → Q (.int x) st') : dBin kIx (dLst (cs xs)) (dCall (m_take c0) (dCons (dVar i) (dCons (dC (.int xs.length)) dNil))) ⟨sl, st⟩ Q E := by
  simp only [dBin, dLst, dCall, dCons, dNil, dVar, dC]
  refine cs_run ⟨by rw [List.length_map, sizeLine_eq]; show _ ≤ 16777216; omega, _, e2, take_ok h hc (by omega) (by omega) (fun r s2 a b p => ⟨rfl, ?_⟩) hc0⟩
  refine kIx_lst a (by rw [List.length_map]; exact b) fun d hd => ?_
  obtain ⟨x, hm, rfl⟩ := List.mem_map.mp hd
  exact q x s2 (hx x hm).1 (hx x hm).2 p
theorem lw_notes {i : Nat} {me : DE} {mb : Int} (e2 : sl[2]? = some (some (.d (.obj n)))) (hc : c + 400 ≤ 1000000) (hm : ∀ (Q : DK) (E : XK'), (∀ most st', 3 ≤ most → most ≤ mb → Stp n st st' c → Q (.int most) st') → me ⟨sl, st⟩ Q E) (hmb : mb ≤ 60) (hc0 : 0 ≤ c0 ∧ c0 ≤ 1000000)
    (q : ∀ (ts : List Tri) st', (ts.length : Int) ≤ mb → (∀ t ∈ ts, vN t) → noOv ts → srt ts = ts → Gr n st st' (c + 371) → De.nx ⟨sl.set i (some (.d (.lst (ts.map triD)))), st'⟩) :
    (dSet (dName i) (dCall (m_notes c0) (dCons (dVar 2) (dCons me dNil)))) De ⟨sl, st⟩ := by
  simp only [dSet, dCall, dCons, dNil, dVar, dName]
  refine ⟨_, e2, hm _ _ fun most s1 m1 m2 g1 => notes_ok (c0 := c0) g1.2 hc ⟨m1, by omega⟩ (fun ts st' a b c d e f g => ⟨rfl, q ts st' (by omega) b c d ?_⟩) hc0⟩
  exact g1.gr.trans ⟨e, f, g⟩
theorem lw_part {i j : Nat} {ts : List Tri} (e : sl[j]? = some (some (.d (.lst (ts.map triD))))) (hl : ts.length ≤ 60) (hv : ∀ t ∈ ts, vN t) (ho : noOv ts) (hs : srt ts = ts) (q : De.nx ⟨sl.set i (some (.d (.part (ts.map triD)))), st⟩) :
    (dSet (dName i) (dMakeP m_part (dCons (dVar j) dNil))) De ⟨sl, st⟩ := by
  simp only [dSet, dMakeP, dCons, dNil, dVar, dName]
  refine ⟨_, e, fun x => part_ok hl hv (by rw [hs]; exact ho) ⟨_, rfl, ?_⟩⟩
  rw [hs]; exact q
theorem lw_time {i j : Nat} {ts : List Tri} (e2 : sl[2]? = some (some (.d (.obj n)))) (e : sl[j]? = some (some (.d (.lst (ts.map triD))))) (h : Bx st n c) (hc : c + 4 ≤ 1000000) (hl : ts.length ≤ 60) (hv : ∀ t ∈ ts, vN t) (hc0 : 0 ≤ c0 ∧ c0 ≤ 1000000) (q : ∀ T st', 1 ≤ T → T ≤ 9999 → Stp n st st' (c + 4) → De.nx ⟨sl.set i (some (.d (.int T))), st'⟩) :
    (dSet (dName i) (dCall (mm_law_time c0) (dCons (dVar 2) (dCons (dVar j) dNil)))) De ⟨sl, st⟩ := by
  simp only [dSet, dCall, dCons, dNil, dVar, dName]
  exact ⟨_, e2, _, e, time_ok (c0 := c0) h hc hv (by omega) (fun T st' a b g => ⟨rfl, q T st' a b g⟩) hc0⟩
theorem lw_moment {i j k : Nat} {ts : List Tri} {T : Int} (e2 : sl[2]? = some (some (.d (.obj n)))) (e : sl[j]? = some (some (.d (.lst (ts.map triD))))) (e3 : sl[k]? = some (some (.d (.int T)))) (h : Bx st n c) (hc : c + 4 ≤ 1000000) (hl : ts.length ≤ 60) (hv : ∀ t ∈ ts, vN t) (hc0 : 0 ≤ c0 ∧ c0 ≤ 1000000) (q : ∀ m st', 0 ≤ m → m ≤ 19998 → Stp n st st' (c + 4) → De.nx ⟨sl.set i (some (.d (.int m))), st'⟩) :
    (dSet (dName i) (dCall (mm_law_moment c0) (dCons (dVar 2) (dCons (dVar j) (dCons (dVar k) dNil))))) De ⟨sl, st⟩ := by
  simp only [dSet, dCall, dCons, dNil, dVar, dName]
  exact ⟨_, e2, _, e, _, e3, moment_ok (c0 := c0) h hc hv (by omega) (fun T st' a b g => ⟨rfl, q T st' a b g⟩) hc0⟩
/-- the law's own loop: k turns, at most 63 -/
theorem lw_law {lo hi : Int} {tb rest : DS} {ns : List Int} {Q : SV → List Ob → Prop} {E : XK'} {m : Nat} (hm : 2 ≤ m) (hlo : 0 ≤ lo ∧ lo ≤ 63) (hhi : hi ≤ 63) (hns : ns.length ≤ 63)
    (hs : ∀ (i : Nat) (sl : List (Option SV)) (st : List Ob) (De : DEnds), i < 63 → sl.length = m → sl[0]? = some (some (.d (.frl (ns.map D.int)))) → sl[1]? = some (some (.d (.int (i : Int)))) → (∀ sl' st', sl'.length = m → sl'[0]? = some (some (.d (.frl (ns.map D.int)))) → De.nx ⟨sl', st'⟩) → tb De ⟨sl, st⟩)
    (hr : ∀ (sl : List (Option SV)) (st : List Ob) (De : DEnds), De.rt = Q → rest De ⟨sl, st⟩) :
    mD m 1 (dSeq (dFor (dRng1 (dB kMax2 (dCons (dC (.int lo)) (dCons (dB kMin2 (dCons (dC (.int hi)) (dCons (dB kLen (dCons (dVar 0) dNil)) dNil))) dNil)))) (dName 1) tb) rest) [.frl (ns.map D.int)] [] Q E := by
  simp only [mD, dSeq, dFor, dRng1, dB, dCons, dNil, dVar, dC, dName]
  have hlen : (ns.map D.int).length = ns.length := List.length_map ..
  refine ⟨rfl, _, rfl, len_seq_of rfl rfl (kmin fun k1 m1 m2 m3 => kmax fun k k1 k2 k3 => ⟨k, rfl, by omega, by omega, ?_⟩)⟩
  refine loop_inv (rngD 0 k.toNat) (fun i s => s.sl.length = m ∧ s.sl[0]? = some (some (.d (.frl (ns.map D.int))))) ⟨by simp; omega, rfl⟩ (fun i d s nx hd hI kk => ?_) (fun s hI => ?_)
  · obtain ⟨hi, rfl⟩ := rng_get hd
    obtain ⟨h1, h2⟩ := hI
    refine ⟨True.intro, ?_⟩
    refine hs i _ _ _ (by omega) (by rw [List.length_set]; exact h1) (by rw [List.getElem?_set_ne (by decide)]; exact h2) ?_ fun sl' st' g1 g2 => kk ⟨sl', st'⟩ ⟨g1, g2⟩
    rw [List.getElem?_set_self (by omega), show ((0 : Int) + (i : Int)) = (i : Int) by omega]
  · exact ⟨True.intro, hr s.sl s.st _ rfl⟩
end
end Kt
set_option maxHeartbeats 4000000
/-! Kt50: sorted(list of tuples of d whole numbers). -/
namespace Kt
open PySem PySem.Spec L2
def tupI (l : List Int) : D := .tup (l.map D.int)
section
variable {c : Cf} {F : Hp} {ν : List Addr}
theorem rz_tupI {v : V} {l : List Int} (z : Rz c F ν v (tupI l)) : ∃ a, v = .ref a ∧ SqT c.K F a (l.map V.int) := by
  cases z with
  | @tup a xs _ h r => exact ⟨a, rfl, by rw [rz_ints_inv r] at h; exact h⟩
theorem rz_permL {α : Type} (f : α → D) : ∀ {ys xs : List V}, ys.Perm xs → ∀ {ts : List α}, RzAll c F ν xs (ts.map f) → ∃ zs : List α, zs.Perm ts ∧ RzAll c F ν ys (zs.map f) := by
  intro ys xs p
  induction p with
  | nil => intro ts h; cases ts with
    | nil => exact ⟨[], .nil, .nil⟩
    | cons t ts => cases h
  | cons x p ih =>
    intro ts h
    cases ts with
    | nil => cases h
    | cons t ts =>
      cases h with
      | cons z r =>
        obtain ⟨zs, pz, rz⟩ := ih r
        exact ⟨t :: zs, pz.cons t, .cons z rz⟩
  | swap x y l =>
    intro ts h
    cases ts with
    | nil => cases h
    | cons t ts =>
      cases ts with
      | nil => cases h with
        | cons z r => cases r
      | cons t2 ts =>
        cases h with
        | cons z r =>
          cases r with
          | cons z2 r => exact ⟨t2 :: t :: ts, .swap t t2 ts, .cons z2 (.cons z r)⟩
  | trans p q ih1 ih2 =>
    intro ts h
    obtain ⟨zs, pz, rz⟩ := ih2 h
    obtain ⟨us, pu, ru⟩ := ih1 rz
    exact ⟨us, pu.trans pz, ru⟩
theorem rz_pairL {H : Hp} {B : Int} (s : Same F H) : ∀ {ys : List V} {zs : List (List Int)}, RzAll c F ν ys (zs.map tupI) → ys.Pairwise (fun x y => ∀ n m, TupI c.K H x n → TupI c.K H y m → TS.code B n ≤ TS.code B m) → zs.Pairwise fun a b => TS.code B a ≤ TS.code B b
  | _, [], _, _ => .nil
  | _, z :: zs, .cons (v := v) (vs := vs) h r, p => by
    obtain ⟨p1, p2⟩ := List.pairwise_cons.mp p
    refine List.pairwise_cons.mpr ⟨fun b hb => ?_, rz_pairL s r p2⟩
    obtain ⟨i, hi⟩ := List.getElem?_of_mem hb
    obtain ⟨w, hw, zw⟩ := r.get (i := i) (d := tupI b) (by rw [List.getElem?_map, hi]; rfl)
    obtain ⟨a1, e1, q1⟩ := rz_tupI h
    obtain ⟨a2, e2, q2⟩ := rz_tupI zw
    exact p1 w (List.mem_of_getElem? hw) _ _ ⟨a1, e1, sqt_mono s q1⟩ ⟨a2, e2, sqt_mono s q2⟩
end
def BdL (d : Nat) (ts : List (List Int)) : Prop := ∀ t ∈ ts, t.length = d ∧ ∀ k ∈ t, 0 ≤ k ∧ k < 20000
def kSortL (d : Nat) : KA := fun xs st K => match xs with
  | [x] => ∃ ts : List (List Int), asLst st x = some (ts.map tupI) ∧ ts.length < 64 ∧ BdL d ts ∧ ∀ zs : List (List Int), zs.Perm ts → zs.Pairwise (fun a b => TS.code 20000 a ≤ TS.code 20000 b) → K (.lst (zs.map tupI)) st
  | _ => False
def kSortLN (d : Nat) : KA := fun xs st K => match xs with
  | [x] => ∃ ts : List (List Int), asLst st x = some (ts.map tupI) ∧ ts.length < 64 ∧ BdL d ts ∧ ∀ zs : List (List Int), zs.Perm ts → zs.Pairwise (fun a b => TS.code 20000 a ≤ TS.code 20000 b) → K (.obj st.length) (st ++ [.lst (zs.map tupI)])
  | _ => False
section
variable {X : Cx} {cl : String → Addr}
theorem c_sortL_gen {d : Nat} (hd : 1 ≤ d) {B : Bs} {s : S} {σ : L2.St} {H F : Hp} {ν : List Addr} {vs : List V} {x : D} {ts : List (List Int)} {P : VK} (r : R (cf X cl) B s σ H F ν) (rx : RzAll (cf X cl) F ν vs [x]) (e1 : asLst s.st x = some (ts.map tupI)) (hl : ts.length < 64) (hb : BdL d ts)
    (k : ∀ (zs : List (List Int)) (us : List V) (p : Addr), zs.Perm ts → zs.Pairwise (fun a b => TS.code 20000 a ≤ TS.code 20000 b) → H p = none → RzAll (cf X cl) F ν us (zs.map tupI) → P (.ref p) (upd H p (.lst us))) : rSortU X.K d 20000 vs H P := by
  cases rx with
  | cons z zr =>
    cases zr
    obtain ⟨a, us, rfl, hq, q⟩ := r.lstq z e1
    have hlen := q.length
    rw [List.length_map] at hlen
    refine ⟨a, us, rfl, hq, by omega, fun x hx => ?_, fun ys pp pm ps hp => ?_⟩
    · obtain ⟨i, hi⟩ := List.getElem?_of_mem hx
      obtain ⟨d, hd, zd⟩ := q.getV hi
      rw [List.getElem?_map] at hd
      cases q3 : ts[i]? with
      | none => rw [q3] at hd; cases hd
      | some t =>
        rw [q3] at hd; cases hd
        obtain ⟨a1, e1, q1⟩ := rz_tupI zd
        obtain ⟨b1, b2⟩ := hb t (List.mem_of_getElem? q3)
        exact ⟨t, ⟨a1, e1, sqt_mono r.sub q1⟩, b1, fun m hm => b2 m hm⟩
    · obtain ⟨zs, pz, rz⟩ := rz_permL tupI pm q
      exact k zs ys pp pz (rz_pairL r.sub rz ps) hp rz
theorem c_sortL {d : Nat} (hd : 1 ≤ d) : CallD X cl (.builtin "sorted") (kSortL d) := by
  refine ⟨_, cr_sortT (d := d) (B := 20000) hd, fun B s σ H F ν vs xs K P r rx h k => ?_⟩
  unfold kSortL at h
  split at h
  · obtain ⟨ts, e1, hl, hb, h⟩ := h
    refine c_sortL_gen hd r rx e1 hl hb fun zs us p pz ps hp rz => ?_
    have hf := (r.fresh hp).2.1
    exact k _ _ _ ν _ s.st (ext_upd hf) (r.froze hp) (.lst upd_same (rz.mono (ext_upd hf))) (h zs pz ps)
  · exact h.elim
theorem c_sortLN {d : Nat} (hd : 1 ≤ d) : CallD X cl (.builtin "sorted") (kSortLN d) := by
  refine ⟨_, cr_sortT (d := d) (B := 20000) hd, fun B s σ H F ν vs xs K P r rx h k => ?_⟩
  unfold kSortLN at h
  split at h
  · obtain ⟨ts, e1, hl, hb, h⟩ := h
    refine c_sortL_gen hd r rx e1 hl hb fun zs us p pz ps hp rz => ?_
    obtain ⟨r2, x2⟩ := r.names hp (.lst rz)
    have e : (ν ++ [p])[s.st.length]? = some p := by
      have := r.sn
      rw [show s.st.length = ν.length from this]; simp
    exact k _ _ _ _ _ _ x2 r2 (.obj e) (h zs pz ps)
  · exact h.elim
end
end Kt
set_option maxHeartbeats 4000000
/-! Kt51: sum, max, min of a list; pop; list(range(n)); zip. -/
namespace Kt
open PySem PySem.Spec L2
section
variable {X : Cx} {cl : String → Addr}
def kIntsL (p : List Int → DK → List Ob → Prop) : KA := fun xs st K => match xs with
  | [d] => ∃ ds ns, asLst st d = some ds ∧ intsOf ds = some ns ∧ p ns K st
  | _ => False
def kSum : KA := kIntsL fun ns K st => K (.int ns.sum) st
def kMax1 : KA := kIntsL fun ns K st => 0 < ns.length ∧ ∀ m, m ∈ ns → (∀ y ∈ ns, y ≤ m) → K (.int m) st
def kMin1 : KA := kIntsL fun ns K st => 0 < ns.length ∧ ∀ m, m ∈ ns → (∀ y ∈ ns, m ≤ y) → K (.int m) st
theorem intsL_run {p : List Int → DK → List Ob → Prop} {B : Bs} {s : S} {σ : L2.St} {H F : Hp} {ν : List Addr} {vs : List V} {xs : List D} {K : DK} (r : R (cf X cl) B s σ H F ν) (rx : RzAll (cf X cl) F ν vs xs) (h : kIntsL p xs s.st K) :
    ∃ (a : Addr) (ns : List Int), vs = [.ref a] ∧ SqL X.K H a (ns.map V.int) ∧ p ns K s.st := by
  unfold kIntsL at h
  split at h
  · obtain ⟨ds, ns, e1, e2, h⟩ := h
    cases rx with
    | cons z zr =>
      cases zr
      obtain ⟨a, us, rfl, hq, q⟩ := r.lstq z e1
      have e := intsOf_eq e2
      subst e
      have e3 := rz_ints_inv q
      subst e3
      exact ⟨a, ns, rfl, hq, h⟩
  · exact h.elim
theorem c_sum (hc : X.calm = true) : CallD X cl (.builtin "sum") kSum := by
  refine ⟨_, cr_sum hc, fun B s σ H F ν vs xs K P r rx h k => ?_⟩
  obtain ⟨a, ns, e, hq, h⟩ := intsL_run r rx h
  exact ⟨a, ns, e, hq, k _ H F ν _ s.st Ext.refl r (.int _) h⟩
theorem c_max1 (hc : X.calm = true) : CallD X cl (.builtin "max") kMax1 := by
  refine ⟨_, cr_max hc, fun B s σ H F ν vs xs K P r rx h k => ?_⟩
  obtain ⟨a, ns, e, hq, h0, h⟩ := intsL_run r rx h
  exact ⟨a, ns, e, hq, h0, fun m hm hle => k _ H F ν _ s.st Ext.refl r (.int _) (h m hm hle)⟩
theorem c_min1 (hc : X.calm = true) : CallD X cl (.builtin "min") kMin1 := by
  refine ⟨_, cr_min hc, fun B s σ H F ν vs xs K P r rx h k => ?_⟩
  obtain ⟨a, ns, e, hq, h0, h⟩ := intsL_run r rx h
  exact ⟨a, ns, e, hq, h0, fun m hm hle => k _ H F ν _ s.st Ext.refl r (.int _) (h m hm hle)⟩
/-- list(range(n)) -/
def dLRg1 (da : DE) : DE := fun s Q E => da s (fun x st1 => ∃ n : Int, x = .int n ∧ -1000 ≤ n ∧ n ≤ 100000 ∧ Q (.lst (rngD 0 n.toNat)) st1) E
theorem x_listRg1 {a : Expr} {da : DE} {p p2 q pos : Pos} (hc : X.calm = true) (hg : Gl X "list") (hm : X.mg "list" = none) (hg2 : Gl X "range") (hm2 : X.mg "range" = none) (ha : Ex X cl a da)
    (na : starEach [.Call (.Name "range" p2) [a] [] q] X.env = (false, eval (.Call (.Name "range" p2) [a] [] q) X.env) :: starEach [] X.env := by rfl)
    (nb : starEach [a] X.env = (false, eval a X.env) :: starEach [] X.env := by rfl) :
    Ex X cl (.Call (.Name "list" p) [.Call (.Name "range" p2) [a] [] q] [] pos) (dLRg1 da) := by
  obtain ⟨ta, a1, a2⟩ := ha.ex
  refine ⟨fun W => tLstRg (tRg1 (ta W)), fun W t => pe_listRg hc hg hm (prg_1 hg2 hm2 (a1 W t) nb) na, ⟨fun B W σ H F ν s Q E P rr w h kk => ?_⟩⟩
  refine a2.go B W σ H F ν s _ E _ rr w h fun v H1 F1 ν1 d st1 x1 r1 z1 q1 => ?_
  obtain ⟨n, rfl, h0, h1, q1⟩ := q1
  cases z1
  refine ⟨n, rfl, ⟨by decide, by decide, by omega, by omega, by omega⟩, fun pp hp => ?_⟩
  have f2 := (r1.fresh hp).2.1
  have e : rgV 0 n = (List.range n.toNat).map fun i : Nat => V.int (0 + (i : Nat)) := by unfold rgV; simp
  refine kk _ _ _ ν1 _ st1 (x1.trans (ext_upd f2)) (r1.froze hp) (.lst (by rw [upd_same, e]) (rz_rng 0 _)) q1
/-- o.pop(i), o a named list -/
def dPopN (dO de : DE) : DE := fun s Q E => dO s (fun x st1 => (∃ n ds, x = .obj n ∧ st1[n]? = some (.lst ds)) ∧ de ⟨s.sl, st1⟩ (fun v st2 => ∃ n ds i k y, x = .obj n ∧ v = .int i ∧ st2[n]? = some (.lst ds) ∧ ds.length ≤ 100000 ∧ ixN ds.length i = some k ∧ ds[k]? = some y ∧ Q y (st2.set n (.lst (ds.eraseIdx k)))) E) E
theorem RzAll.erase {c : Cf} {F : Hp} {ν : List Addr} : ∀ {vs : List V} {ds : List D} (k : Nat), RzAll c F ν vs ds → RzAll c F ν (vs.eraseIdx k) (ds.eraseIdx k)
  | _, _, _, .nil => .nil
  | _, _, 0, .cons _ r => r
  | _, _, k + 1, .cons a r => .cons a (RzAll.erase k r)
theorem x_popN {o e : Expr} {dO de : DE} {apos cpos : Pos} (ho : Ex X cl o dO) (he : Ex X cl e de)
    (hbase : attributeBase o "pop" X.env (eval o X.env) = eval o X.env := by rfl)
    (hfew : ((backTo cpos (starEach (e :: []) X.env)).all (fun x => !x.1) && (backToKw cpos (keywordEach [] X.env)).all (fun x => x.1.isSome)
      && decide ((e :: []).length + ([] : List Keyword).length + (if ([] : List Keyword).isEmpty then 0 else 1) < 30)) = true := by rfl)
    (hline : (apos.endLine == cpos.line) = true := by rfl) (hs : starEach (e :: []) X.env = (false, eval e X.env) :: starEach [] X.env := by rfl) (hplain : (backTo cpos (starEach [] X.env)).any (·.1) = false := by rfl) :
    Ex X cl (.Call (.Attribute o "pop" apos) [e] [] cpos) (dPopN dO de) := by
  obtain ⟨tO, b1, b2⟩ := ho.ex
  obtain ⟨te, a1, a2⟩ := he.ex
  refine ⟨fun W => tBM X.K "list" rPopAt (tO W) (tCons (te W) tNil), fun W t => pe_bm PySem.F.plainAttrs_list PySem.F.slot_list_pop PySem.F.type_list_pop mt_popAt (b1 W t) (pa_cons (a1 W t) pa_nil hs) hbase hfew hline hs hplain, ⟨fun B W σ H F ν s Q E P r w q k => ?_⟩⟩
  refine b2.go B W σ H F ν s _ E _ r w q fun u H1 F1 ν1 d st1 x1 r1 z1 q1 => ?_
  obtain ⟨⟨n, ds, rfl, e1⟩, q1⟩ := q1
  have z1' := z1
  cases z1 with
  | @obj a _ h =>
    obtain ⟨oo, ho, hr⟩ := r1.st n _ a e1 h
    cases hr with
    | @lst vs _ z =>
      refine ⟨.inl ⟨rfl, _, SqL.of ho⟩, ?_⟩
      refine a2.go B W σ H1 F1 ν1 ⟨s.sl, st1⟩ _ E _ r1 (w.next x1) q1 fun v H2 F2 ν2 d2 st2 x2 r2 z2 q2 => ?_
      obtain ⟨n', ds', i, kx, y, en, rfl, e2, hl, hix, hy, q2⟩ := q2
      cases en
      cases z2
      have h2 := pre_get x2.p h
      obtain ⟨oo2, ho2, hr2⟩ := r2.st n _ a e2 h2
      cases hr2 with
      | @lst vs2 _ zz =>
        obtain ⟨vy, hvy, zy⟩ := zz.get hy
        have hb : (i : Int) < 2 ^ 63 ∧ -(2 ^ 63) ≤ i ∧ seqIndex? i vs2.length = some kx := by
          rw [zz.length]
          obtain ⟨g1, g2, g3, g4⟩ := ixN_seq hix
          exact ⟨by omega, by omega, g1⟩
        exact ⟨a, vs2, i, kx, vy, rfl, rfl, ho2, hb.2.1, hb.1, hb.2.2, hvy, k _ _ F2 ν2 _ _ (x1.trans x2) (r2.mutN h2 (.lst (zz.erase kx))) zy q2⟩
end
end Kt
set_option maxHeartbeats 400000
/-! Kt52: the load over time. -/
namespace Kt
open PySem PySem.Spec L2
/-! ### plain -/
def trn (ts : List Tri) (T : Int) : List Int := usort (ts.map (·.1) ++ ts.map fun t => t.2.1 + T)
def nbz (ts : List Tri) (T m : Int) : Nat := (bz ts T m).length
/-- the moments at which the number changes -/
def rowsG (f : Int → Nat) : Nat → List Int → List (Int × Nat)
  | _, [] => []
  | k, m :: l => (if f m = k then [] else [(m, f m)]) ++ rowsG f (f m) l
def rowsL (ts : List Tri) (T : Int) : List (Int × Nat) := rowsG (nbz ts T) 0 (trn ts T)
def rwD (r : Int × Nat) : D := .tup [.int r.1, .int (r.2 : Int)]
def rowMax (rs : List (Int × Nat)) : Nat := rs.foldl (fun k r => max k r.2) 0
theorem rowMax_le : ∀ (rs : List (Int × Nat)) (k : Nat), (∀ r ∈ rs, r.2 ≤ rs.foldl (fun k r => max k r.2) k) ∧ k ≤ rs.foldl (fun k r => max k r.2) k
  | [], k => ⟨(fun r hr => by cases hr), Nat.le_refl _⟩
  | r :: rs, k => by
    obtain ⟨h1, h2⟩ := rowMax_le rs (max k r.2)
    refine ⟨fun x hx => ?_, by rw [List.foldl_cons]; omega⟩
    rw [List.foldl_cons]
    rcases List.mem_cons.mp hx with rfl | hx
    · omega
    · exact h1 x hx
theorem rowMax_mem : ∀ (rs : List (Int × Nat)) (k : Nat), rs.foldl (fun k r => max k r.2) k = k ∨ ∃ r ∈ rs, rs.foldl (fun k r => max k r.2) k = r.2
  | [], k => .inl rfl
  | r :: rs, k => by
    rw [List.foldl_cons]
    rcases rowMax_mem rs (max k r.2) with h | ⟨x, hx, h⟩
    · rw [h]
      by_cases hk : r.2 ≤ k
      · exact .inl (by omega)
      · exact .inr ⟨r, List.mem_cons_self, by omega⟩
    · exact .inr ⟨x, List.mem_cons_of_mem _ hx, h⟩
def mostF (ts : List Tri) (T : Int) : Int × Nat := let rs := rowsL ts T
  ((rs.find? fun r => decide (r.2 = rowMax rs)).map fun r => (r.1, rowMax rs)).getD (0, 0)
theorem rowsG_mem {f : Int → Nat} : ∀ {l : List Int} {k : Nat} {r : Int × Nat}, r ∈ rowsG f k l → r.1 ∈ l ∧ r.2 = f r.1
  | [], _, _, h => by cases h
  | m :: l, k, r, h => by
    rw [rowsG] at h
    rcases List.mem_append.mp h with h | h
    · split at h
      · cases h
      · have : r = (m, f m) := by simpa using h
        subst this
        exact ⟨List.mem_cons_self, rfl⟩
    · obtain ⟨h1, h2⟩ := rowsG_mem h
      exact ⟨List.mem_cons_of_mem _ h1, h2⟩
theorem rowsG_len {f : Int → Nat} : ∀ {l : List Int} {k : Nat}, (rowsG f k l).length ≤ l.length
  | [], _ => Nat.le_refl _
  | m :: l, k => by
    rw [rowsG, List.length_append, List.length_cons]
    have := rowsG_len (f := f) (l := l) (k := f m)
    split <;> simp <;> omega
/-- the numbers of the rows are those of the moments -/
theorem rowsG_val {f : Int → Nat} : ∀ {l : List Int} {k : Nat} {m : Int}, m ∈ l → f m = k ∨ ∃ r ∈ rowsG f k l, r.2 = f m
  | [], _, _, h => by cases h
  | a :: l, k, m, h => by
    rw [rowsG]
    rcases List.mem_cons.mp h with rfl | h
    · by_cases e : f m = k
      · exact .inl e
      · rw [if_neg e]; exact .inr ⟨_, List.mem_append_left _ (List.mem_singleton.mpr rfl), rfl⟩
    · rcases rowsG_val (f := f) (k := f a) h with e | ⟨r, hr, e⟩
      · by_cases e2 : f a = k
        · exact .inl (by rw [e, e2])
        · rw [if_neg e2]; exact .inr ⟨_, List.mem_append_left _ (List.mem_singleton.mpr rfl), e.symm⟩
      · exact .inr ⟨r, List.mem_append_right _ hr, e⟩
/-- the first row with a number other than the first one is the first moment with it -/
theorem rowsG_first {f : Int → Nat} {v : Nat} : ∀ {l : List Int} {k : Nat}, v ≠ k → (rowsG f k l).find? (fun r => decide (r.2 = v)) = (l.find? fun m => decide (f m = v)).map fun m => (m, v)
  | [], _, _ => rfl
  | m :: l, k, hk => by
    rw [rowsG]
    by_cases e : f m = v
    · rw [if_neg (by omega), List.singleton_append, List.find?_cons_of_pos (by simpa using e), List.find?_cons_of_pos (by simpa using e), Option.map_some, e]
    · rw [List.find?_cons_of_neg (by simpa using e)]
      by_cases e2 : f m = k
      · rw [if_pos e2, List.nil_append]
        exact rowsG_first (by omega)
      · rw [if_neg e2, List.singleton_append, List.find?_cons_of_neg (by simpa using e)]
        exact rowsG_first (fun z => e z.symm)
theorem bsy_iff {T m : Int} {t : Tri} : bsy T m t = true ↔ t.1 ≤ m ∧ m < t.2.1 + T := by
  unfold bsy; simp
theorem bz_sub {ts : List Tri} {T a b : Int} (h : ∀ t ∈ ts, bsy T a t = true → bsy T b t = true) : nbz ts T a ≤ nbz ts T b := by
  unfold nbz
  have nd : (bz ts T a).Nodup := bz_lt.imp fun {x y} h => by omega
  refine nd.length_le_of_subset fun k hk => ?_
  obtain ⟨t, ht, h1, h2, e⟩ := bz_mem.mp hk
  have := bsy_iff.mp (h t ht (bsy_iff.mpr ⟨h1, h2⟩))
  exact bz_mem.mpr ⟨t, ht, this.1, this.2, e⟩
theorem max_below {m : Int} : ∀ ts : List Tri, (∀ t ∈ ts, m < t.1) ∨ ∃ t ∈ ts, t.1 ≤ m ∧ ∀ u ∈ ts, u.1 ≤ m → u.1 ≤ t.1
  | [] => .inl fun t ht => by cases ht
  | t :: ts => by
    rcases max_below (m := m) ts with h | ⟨x, hx, h1, h2⟩
    · by_cases e : t.1 ≤ m
      · refine .inr ⟨t, List.mem_cons_self, e, fun u hu hm => ?_⟩
        rcases List.mem_cons.mp hu with rfl | hu
        · exact Int.le_refl _
        · have := h u hu; omega
      · refine .inl fun u hu => ?_
        rcases List.mem_cons.mp hu with rfl | hu
        · omega
        · exact h u hu
    · by_cases e : t.1 ≤ m ∧ x.1 < t.1
      · refine .inr ⟨t, List.mem_cons_self, e.1, fun u hu hm => ?_⟩
        rcases List.mem_cons.mp hu with rfl | hu
        · exact Int.le_refl _
        · have := h2 u hu hm; omega
      · refine .inr ⟨x, List.mem_cons_of_mem _ hx, h1, fun u hu hm => ?_⟩
        rcases List.mem_cons.mp hu with rfl | hu
        · omega
        · exact h2 u hu hm
theorem nbz_below (ts : List Tri) (T m : Int) : nbz ts T m = 0 ∨ ∃ t ∈ ts, t.1 ≤ m ∧ nbz ts T m ≤ nbz ts T t.1 := by
  rcases max_below (m := m) ts with h | ⟨t, ht, h1, h2⟩
  · left
    unfold nbz
    rw [List.length_eq_zero_iff, List.eq_nil_iff_forall_not_mem]
    intro k hk
    obtain ⟨t, ht, h1, _⟩ := bz_mem.mp hk
    have := h t ht; omega
  · refine .inr ⟨t, ht, h1, bz_sub fun u hu hb => ?_⟩
    obtain ⟨b1, b2⟩ := bsy_iff.mp hb
    exact bsy_iff.mpr ⟨h2 u hu b1, by omega⟩
theorem nbz_pos {ts : List Tri} {T : Int} {t : Tri} (hT : 1 ≤ T) (ht : t ∈ ts) (hv : vN t) : 0 < nbz ts T t.1 := by
  unfold nbz
  refine List.length_pos_of_mem (bz_mem.mpr ⟨t, ht, Int.le_refl _, ?_, rfl⟩)
  unfold vN at hv; omega
/-- the most pitches that are busy where a note begins -/
structure IsMost (ts : List Tri) (T : Int) (M : Nat) : Prop where
  n : ts = [] → M = 0
  e : ts ≠ [] → ∃ t ∈ ts, nbz ts T t.1 = M
  le : ∀ u ∈ ts, nbz ts T u.1 ≤ M
theorem IsMost.uniq {ts : List Tri} {T : Int} {M M' : Nat} (h : IsMost ts T M) (h' : IsMost ts T M') : M = M' := by
  by_cases e : ts = []
  · rw [h.n e, h'.n e]
  · obtain ⟨t, ht, e1⟩ := h.e e
    obtain ⟨t', ht', e2⟩ := h'.e e
    have := h.le t' ht'
    have := h'.le t ht
    omega
theorem IsMost.all {ts : List Tri} {T : Int} {M : Nat} (h : IsMost ts T M) (m : Int) : nbz ts T m ≤ M := by
  rcases nbz_below ts T m with e | ⟨t, ht, _, e⟩
  · omega
  · have := h.le t ht; omega
theorem mem_trn {ts : List Tri} {T k : Int} : k ∈ trn ts T ↔ ∃ t ∈ ts, k = t.1 ∨ k = t.2.1 + T := by
  unfold trn
  rw [mem_usort, List.mem_append, List.mem_map, List.mem_map]
  constructor
  · rintro (⟨t, ht, e⟩ | ⟨t, ht, e⟩)
    · exact ⟨t, ht, .inl e.symm⟩
    · exact ⟨t, ht, .inr e.symm⟩
  · rintro ⟨t, ht, e | e⟩
    · exact .inl ⟨t, ht, e.symm⟩
    · exact .inr ⟨t, ht, e.symm⟩
theorem rows_most (ts : List Tri) (T : Int) : IsMost ts T (rowMax (rowsL ts T)) := by
  have up : ∀ u ∈ ts, nbz ts T u.1 ≤ rowMax (rowsL ts T) := fun u hu => by
    rcases rowsG_val (f := nbz ts T) (k := 0) (mem_trn.mpr ⟨u, hu, .inl rfl⟩ : u.1 ∈ trn ts T) with e | ⟨r, hr, e⟩
    · omega
    · rw [← e]; exact (rowMax_le (rowsL ts T) 0).1 r hr
  refine ⟨fun e => ?_, fun e => ?_, up⟩
  · subst e; rfl
  · rcases rowMax_mem (rowsL ts T) 0 with h | ⟨r, hr, h⟩
    · obtain ⟨t, ht⟩ := List.exists_mem_of_ne_nil ts e
      refine ⟨t, ht, ?_⟩
      have := up t ht
      have h : rowMax (rowsL ts T) = 0 := h
      omega
    · have h : rowMax (rowsL ts T) = r.2 := h
      obtain ⟨_, e2⟩ := rowsG_mem hr
      rcases nbz_below ts T r.1 with z | ⟨t, ht, _, z⟩
      · obtain ⟨t, ht⟩ := List.exists_mem_of_ne_nil ts e
        exact ⟨t, ht, by have := up t ht; omega⟩
      · exact ⟨t, ht, by have := up t ht; omega⟩
theorem find_lt {p : Int → Bool} : ∀ {l : List Int} {m : Int}, l.Pairwise (· < ·) → l.find? p = some m → p m = true ∧ m ∈ l ∧ ∀ k ∈ l, p k = true → m ≤ k
  | [], _, _, h => by cases h
  | a :: l, m, hp, h => by
    by_cases e : p a = true
    · rw [List.find?_cons_of_pos e] at h
      cases h
      refine ⟨e, List.mem_cons_self, fun k hk _ => ?_⟩
      rcases List.mem_cons.mp hk with rfl | hk
      · exact Int.le_refl _
      · have := (List.pairwise_cons.mp hp).1 k hk; omega
    · rw [List.find?_cons_of_neg e] at h
      obtain ⟨h1, h2, h3⟩ := find_lt (List.pairwise_cons.mp hp).2 h
      refine ⟨h1, List.mem_cons_of_mem _ h2, fun k hk hpk => ?_⟩
      rcases List.mem_cons.mp hk with rfl | hk
      · exact absurd hpk e
      · exact h3 k hk hpk
/-- what fullest returns -/
theorem mostF_is {ts : List Tri} {T : Int} (hT : 1 ≤ T) (hv : ∀ t ∈ ts, vN t) : IsMost ts T (mostF ts T).2 ∧ (ts = [] → mostF ts T = (0, 0)) ∧ (ts ≠ [] → (∃ t ∈ ts, (mostF ts T).1 = t.1 ∧ nbz ts T t.1 = (mostF ts T).2) ∧ ∀ u ∈ ts, nbz ts T u.1 = (mostF ts T).2 → (mostF ts T).1 ≤ u.1) := by
  have M := rows_most ts T
  by_cases e : ts = []
  · subst e
    exact ⟨⟨fun _ => rfl, fun z => absurd rfl z, fun u hu => by cases hu⟩, fun _ => rfl, fun z => absurd rfl z⟩
  · obtain ⟨t0, ht0, e0⟩ := M.e e
    have hpos : rowMax (rowsL ts T) ≠ 0 := by have := nbz_pos hT ht0 (hv t0 ht0); omega
    have hf : (rowsL ts T).find? (fun r => decide (r.2 = rowMax (rowsL ts T))) = ((trn ts T).find? fun m => decide (nbz ts T m = rowMax (rowsL ts T))).map fun m => (m, rowMax (rowsL ts T)) := rowsG_first hpos
    cases hm : (trn ts T).find? fun m => decide (nbz ts T m = rowMax (rowsL ts T)) with
    | none =>
      have := List.find?_eq_none.mp hm t0.1 (mem_trn.mpr ⟨t0, ht0, .inl rfl⟩)
      simp [e0] at this
    | some m =>
      obtain ⟨h1, h2, h3⟩ := find_lt usort_lt hm
      have h1 : nbz ts T m = rowMax (rowsL ts T) := by simpa using h1
      have es : mostF ts T = (m, rowMax (rowsL ts T)) := by
        unfold mostF
        simp only [hf, hm, Option.map_some, Option.getD_some]
      rw [es]
      refine ⟨M, fun z => absurd z e, fun _ => ⟨?_, fun u hu hn => h3 u.1 (mem_trn.mpr ⟨u, hu, .inl rfl⟩) (by simpa using hn)⟩⟩
      rcases nbz_below ts T m with z | ⟨t, ht, hle, z⟩
      · omega
      · have hq := M.le t ht
        have := h3 t.1 (mem_trn.mpr ⟨t, ht, .inl rfl⟩) (by simp; omega)
        exact ⟨t, ht, by show m = t.1; omega, by show nbz ts T t.1 = rowMax (rowsL ts T); omega⟩
def RR_turns : DS := (dSeq (dSetC 2 (dLc (dIt (dMethP mm_pnotes (dVar 0) dNil)) (dName 3) dYes (dBin kIx (dVar 3) (dC (.int 0))) [3])) (dSeq (dSetC 4 (dLc (dIt (dMethP mm_pnotes (dVar 0) dNil)) (dName 3) dYes (dBin kAdd (dBin kIx (dVar 3) (dC (.int 1))) (dVar 1)) [3])) (dSeq (dRet (dUn kSortSet (dBin kAdd (dVar 2) (dVar 4)))) dNext)))
def mm_turns : SpD := mD 5 2 (RR_turns)
def RR_load_rows_1 : DS := (dSet (dName 2) (dLstN dNil))
def RR_load_rows_2 : DS := (dSet (dName 3) (dC (.int 0)))
def RR_load_rows_3 : DS := (dFor (dIt (dCall mm_turns (dCons (dVar 0) (dCons (dVar 1) dNil)))) (dName 4) (dSeq (dSet (dName 5) (dB kLen (dCons (dCall mm_busyp (dCons (dVar 0) (dCons (dVar 1) (dCons (dVar 4) dNil)))) dNil))) (dSeq (dIfS (dTest (dBin kNe (dVar 5) (dVar 3))) (dSeq (dDrop (dApN (dVar 2) (dTup (dCons (dVar 4) (dCons (dVar 5) dNil))))) dNext) dNext) (dSeq (dSet (dName 3) (dVar 5)) dNext))))
def RR_load_rows_4 : DS := (dRet (dVar 2))
def RR_load_rows : DS := (dSeq RR_load_rows_1 (dSeq RR_load_rows_2 (dSeq RR_load_rows_3 (dSeq RR_load_rows_4 dNext))))
def mm_load_rows : SpD := mD 6 2 (RR_load_rows)
def RR_load : DS := (dSeq (dDrop (dCall mm_needpart (dCons (dVar 0) dNil))) (dSeq (dDrop (dCall mm_need_time (dCons (dVar 1) dNil))) (dSeq (dRet (dCall mm_load_rows (dCons (dVar 0) (dCons (dVar 1) dNil)))) dNext)))
def mm_load : SpD := mD 2 2 (RR_load)
def RR_most_busy_1 : DS := (dSet (dName 2) (dCallZ mm_load_rows (dCons (dVar 0) (dCons (dVar 1) dNil))))
def RR_most_busy_2 : DS := (dSet (dName 3) (dMxD lem (dLcE (dLc (dIt (dVar 2)) (dName 4) dYes (dBin kIx (dVar 4) (dC (.int 1))) [4])) (dC (.int 0))))
def RR_most_busy_3 : DS := (dFor (dIt (dVar 2)) (dUnp 2 (gMore (dName 5) (gMore (dName 6) gNone))) (dSeq (dIfS (dTest (dBin kEq (dVar 6) (dVar 3))) (dSeq (dRet (dTup (dCons (dVar 5) (dCons (dVar 3) dNil)))) dNext) dNext) dNext))
def RR_most_busy_4 : DS := (dRet (dTup (dCons (dC (.int 0)) (dCons (dC (.int 0)) dNil))))
def RR_most_busy : DS := (dSeq RR_most_busy_1 (dSeq RR_most_busy_2 (dSeq RR_most_busy_3 (dSeq RR_most_busy_4 dNext))))
def mm_most_busy : SpD := mD 7 2 (RR_most_busy)
def RR_fullest : DS := (dSeq (dDrop (dCall mm_needpart (dCons (dVar 0) dNil))) (dSeq (dDrop (dCall mm_need_time (dCons (dVar 1) dNil))) (dSeq (dRet (dCall mm_most_busy (dCons (dVar 0) (dCons (dVar 1) dNil)))) dNext)))
def mm_fullest : SpD := mD 2 2 (RR_fullest)
def RR_law_most : DS := (dSeq (dRet (dMxD lem (dLcE (dLc (dIt (dVar 0)) (dName 2) dYes (dB kLen (dCons (dCallP mm_law_busy (dCons (dVar 0) (dCons (dVar 1) (dCons (dBin kIx (dVar 2) (dC (.int 0))) dNil)))) dNil)) [2])) (dC (.int 0)))) dNext)
def mm_law_most : SpD := mD 3 2 (RR_law_most)

section
variable {st : List Ob} {Q : SV → List Ob → Prop} {E : XK'} {n c : Nat} {ts : List Tri}
theorem kAddL {a b : List D} {K : DK} (h : a.length + b.length ≤ 100000) (k : K (.lst (a ++ b)) st) : kAdd (.lst a) (.lst b) st K := ⟨by rw [sizeLine_eq]; omega, k⟩
theorem turns_ok {T : Int} (hl : ts.length ≤ 31) (q : Q (.d (.lst ((trn ts T).map D.int))) st) : mm_turns [.part (ts.map triD), .int T] st Q E := by
  simp only [mm_turns, RR_turns, mD, dSeq, dNext, dSetC, dLc, dIt, dMethP, dNil, dVar, dRet, dUn, dBin]
  refine ⟨rfl, _, rfl, ⟨_, rfl⟩, pnotes_ok ⟨rfl, _, rfl, ?_⟩⟩
  refine comp_nts ts (fun _ => true) (fun t => .int t.1) True.intro (by omega) (fun t ht K K0 hK hK0 => ?_) ?_
  · simp only [dYes, if_true, dBin, dVar, dC]
    exact ⟨_, rfl, kIx_tri.1 (hK rfl)⟩
  refine ⟨_, rfl, ⟨_, rfl⟩, pnotes_ok ⟨rfl, _, rfl, ?_⟩⟩
  refine comp_nts ts (fun _ => true) (fun t => .int (t.2.1 + T)) True.intro (by omega) (fun t ht K K0 hK hK0 => ?_) ?_
  · simp only [dYes, if_true, dBin, dVar, dC]
    exact ⟨_, rfl, kIx_tri.2.1 ⟨_, rfl, hK rfl⟩⟩
  have f1 : ts.filter (fun _ => true) = ts := List.filter_eq_self.mpr (by simp)
  rw [f1]
  refine ⟨_, rfl, _, rfl, kAddL (by simp; omega) ?_⟩
  have e : ts.map (fun t => D.int t.1) ++ ts.map (fun t => D.int (t.2.1 + T)) = (ts.map (·.1) ++ ts.map fun t => t.2.1 + T).map D.int := by rw [List.map_append, List.map_map, List.map_map]; rfl
  rw [e]
  refine ⟨_, _, rfl, intsOf_map _, by simp; omega, fun ms h1 h2 => ?_⟩
  rw [usort_of h1 h2]
  exact q
theorem ints_get {l : List Int} {i : Nat} {d : D} (h : (l.map D.int)[i]? = some d) : ∃ x, l[i]? = some x ∧ d = .int x := by
  rw [List.getElem?_map] at h
  cases e : l[i]? with
  | none => rw [e] at h; cases h
  | some x => rw [e] at h; cases h; exact ⟨x, rfl, rfl⟩
theorem rowsG_app {f : Int → Nat} : ∀ {a b : List Int} {k : Nat}, rowsG f k (a ++ b) = rowsG f k a ++ rowsG f ((a.getLast?.map f).getD k) b
  | [], b, k => rfl
  | m :: a, b, k => by
    rw [List.cons_append, rowsG, rowsG, rowsG_app, List.append_assoc]
    congr 3
    cases a with
    | nil => rfl
    | cons x a => rw [List.getLast?_cons_cons]; cases h : (x :: a).getLast? with
      | none => simp at h
      | some y => rfl
theorem loadrows_ok {T : Int} (hl : ts.length ≤ 31) (q : Q (.d (.obj st.length)) (st ++ [.lst ((rowsL ts T).map rwD)])) : mm_load_rows [.part (ts.map triD), .int T] st Q E := by
  simp only [mm_load_rows, RR_load_rows, RR_load_rows_1, RR_load_rows_2, RR_load_rows_3, RR_load_rows_4, mD, dSeq, dNext, dSet, dLstN, dNil, dName, dC, dFor, dIt, dCall, dCons, dVar]
  refine ⟨rfl, none0, _, rfl, _, rfl, turns_ok hl ⟨rfl, _, rfl, ?_⟩⟩
  have hz : (trn ts T).length ≤ 62 := by
    have := usort_len (ns := ts.map (·.1) ++ ts.map fun t => t.2.1 + T)
    unfold trn
    simp at this
    omega
  refine loop_inv ((trn ts T).map D.int) (fun i s => ∃ (F : List (Int × Nat)) (k : Nat) (a b : Option SV), s = ⟨[some (.d (.part (ts.map triD))), some (.d (.int T)), some (.d (.obj st.length)), some (.d (.int (k : Int))), a, b], st ++ [.lst (F.map rwD)]⟩ ∧ F = rowsG (nbz ts T) 0 ((trn ts T).take i) ∧ k = (((trn ts T).take i).getLast?.map (nbz ts T)).getD 0) ⟨[], 0, none, none, rfl, rfl, rfl⟩ (fun i d s nx hd hI kk => ?_) (fun s hI => ?_)
  · obtain ⟨F, k, a, b, rfl, hF, hk⟩ := hI
    obtain ⟨m, hm, rfl⟩ := ints_get hd
    have htk := take_succ_get hm
    refine ⟨True.intro, ?_⟩
    simp only [dName, dSeq, dSet, dB, dCall, dCons, dNil, dVar, dIfS, dTest, dBin, dDrop, dApN, dTup, dNext]
    refine ⟨_, rfl, _, rfl, _, rfl, busyp_ok (by omega) ⟨rfl, kLen_lst ?_⟩⟩
    rw [List.length_map]
    refine ⟨_, rfl, _, rfl, kNeI ⟨_, rfl, ?_⟩⟩
    have hk' : ((((trn ts T).take (i + 1)).getLast?.map (nbz ts T)).getD 0) = nbz ts T m := by rw [htk, List.getLast?_append]; rfl
    have hF' : rowsG (nbz ts T) 0 ((trn ts T).take (i + 1)) = F ++ if nbz ts T m = k then [] else [(m, nbz ts T m)] := by
      rw [htk, rowsG_app, ← hF, ← hk]
      show F ++ ((if nbz ts T m = k then [] else [(m, nbz ts T m)]) ++ []) = _
      rw [List.append_nil]
    have hFl : F.length ≤ 62 := by
      rw [hF]
      refine Nat.le_trans rowsG_len ?_
      rw [List.length_take]; omega
    by_cases e : nbz ts T m = k
    · rw [if_neg (by unfold nbz at e; simp [e])]
      exact ⟨_, rfl, kk _ ⟨_, nbz ts T m, _, _, rfl, by rw [hF', if_pos e, List.append_nil], by rw [hk']⟩⟩
    · rw [if_pos (by unfold nbz at e; simp; omega)]
      refine ⟨_, rfl, ⟨_, _, rfl, app_get⟩, _, rfl, _, rfl, l2 _ _, _, _, rfl, app_get, by rw [List.length_map, sizeLine_eq]; omega, ?_⟩
      rw [app_set]
      exact ⟨_, rfl, kk _ ⟨F ++ [(m, nbz ts T m)], nbz ts T m, _, _, by rw [List.map_append]; rfl, by rw [hF', if_neg e], by rw [hk']⟩⟩
  · obtain ⟨F, k, a, b, rfl, hF, hk⟩ := hI
    refine ⟨True.intro, _, rfl, ?_⟩
    rw [List.length_map, List.take_length] at hF
    rw [hF]
    exact q
theorem load_ok {T : Int} (hl : ts.length ≤ 31) (hT : 1 ≤ T ∧ T ≤ 9999) (q : Q (.d (.obj st.length)) (st ++ [.lst ((rowsL ts T).map rwD)])) : mm_load [.part (ts.map triD), .int T] st Q E := by
  simp only [mm_load, RR_load, mD, dSeq, dRet, dDrop, dCall, dCons, dNil, dVar]
  exact ⟨rfl, _, rfl, pneed_ok ⟨rfl, _, rfl, time_need (t := "int") rfl (fun _ => ⟨rfl, _, rfl, _, rfl, loadrows_ok hl ⟨rfl, q⟩⟩) fun z => absurd z (by simp [isI]; omega)⟩⟩
/-- [f(x) for .. in xs if p(x)], the items of xs as data of some kind -/
theorem comp_el {α : Type} {g : DG} {tt : DT} {te : DE} {sl0 : List (Option SV)} {st : List Ob} {wt : List Ob → Prop} {Q : List D → List Ob → Prop} (e0 : α → D) (xs : List α) (p : α → Bool) (f : α → D) (hw : wt st) (hn : xs.length ≤ 100000)
    (hs : ∀ x ∈ xs, ∀ (K : D → List Ob → Prop) (K0 : List Ob → Prop), (p x = true → K (f x) st) → (p x = false → K0 st) → g (e0 x) ⟨sl0, st⟩ fun s2 => tt s2 (fun b st2 => if b = true then te ⟨s2.sl, st2⟩ K (fun _ _ => False) else K0 st2) (fun _ _ => False))
    (q : Q ((xs.filter p).map f) st) : dComp g tt te sl0 wt (xs.map e0) [] st Q := by
  have key : ∀ (l : List α) (acc : List D), (∀ j ∈ l, j ∈ xs) → acc.length + l.length ≤ 100000 → Q (acc ++ (l.filter p).map f) st → dComp g tt te sl0 wt (l.map e0) acc st Q := by
    intro l
    induction l with
    | nil => intro acc _ _ q; exact ⟨hw, by simpa using q⟩
    | cons j l ih =>
      intro acc hb hl q
      rw [List.length_cons] at hl
      refine ⟨hw, hs j (hb j List.mem_cons_self) (fun y st3 => acc.length < sizeLine ∧ dComp g tt te sl0 wt (l.map e0) (acc ++ [y]) st3 Q) (fun st2 => dComp g tt te sl0 wt (l.map e0) acc st2 Q) (fun h => ⟨by rw [sizeLine_eq]; omega, ih _ (fun i hi => hb i (List.mem_cons_of_mem _ hi)) (by rw [List.length_append, List.length_singleton]; omega) ?_⟩) (fun h => ih _ (fun i hi => hb i (List.mem_cons_of_mem _ hi)) (by omega) ?_)⟩
      · rw [List.filter_cons_of_pos h, List.map_cons] at q
        rw [List.append_assoc]; exact q
      · rw [List.filter_cons_of_neg (by rw [h]; decide)] at q
        exact q
  exact key xs [] (fun j hj => hj) (by simpa using hn) (by simpa using q)
theorem find_pre {α : Type} {p : α → Bool} : ∀ {l : List α} {i : Nat} {x : α}, (∀ j y, j < i → l[j]? = some y → p y = false) → l[i]? = some x → p x = true → l.find? p = some x
  | [], _, _, _, h, _ => by simp at h
  | a :: l, 0, x, _, h, hp => by
    have : a = x := by simpa using h
    subst this
    exact List.find?_cons_of_pos hp
  | a :: l, i + 1, x, hn, h, hp => by
    have h0 := hn 0 a (by omega) rfl
    rw [List.find?_cons_of_neg (by rw [h0]; decide)]
    exact find_pre (i := i) (fun j y hj hy => hn (j + 1) y (by omega) (by simpa using hy)) (by simpa using h) hp
theorem find_no {α : Type} {p : α → Bool} {l : List α} (h : ∀ (j : Nat) y, j < l.length → l[j]? = some y → p y = false) : l.find? p = none := by
  rw [List.find?_eq_none]
  intro x hx
  obtain ⟨j, hj⟩ := List.getElem?_of_mem hx
  rw [h j x (List.getElem?_eq_some_iff.mp hj).1 hj]; decide
theorem el_get {α : Type} {e0 : α → D} {xs : List α} {i : Nat} {d : D} (h : (xs.map e0)[i]? = some d) : ∃ x, xs[i]? = some x ∧ d = e0 x := by
  rw [List.getElem?_map] at h
  cases e : xs[i]? with
  | none => rw [e] at h; cases h
  | some x => rw [e] at h; cases h; exact ⟨x, rfl, rfl⟩
theorem ltO_rows (n : Nat) : ∀ rs : List (Int × Nat), ltOA n (rs.map rwD) = true
  | [] => by simp [ltOA]
  | x :: ns => by rw [List.map_cons]; simp only [rwD, ltOA, ltO, ltO_rows n ns, Bool.and_self]
theorem rowMax_of {rs : List (Int × Nat)} {m : Int} (h : m ∈ rs.map fun r => (r.2 : Int)) (hle : ∀ y ∈ rs.map (fun r => (r.2 : Int)), y ≤ m) : m = (rowMax rs : Int) := by
  obtain ⟨r, hr, rfl⟩ := List.mem_map.mp h
  have h1 := (rowMax_le rs 0).1 r hr
  have h1 : r.2 ≤ rowMax rs := h1
  rcases rowMax_mem rs 0 with e | ⟨x, hx, e⟩
  · have e : rowMax rs = 0 := e
    omega
  · have e : rowMax rs = x.2 := e
    have := hle x.2 (List.mem_map.mpr ⟨x, hx, rfl⟩)
    omega
theorem mostbusy_ok {T : Int} (hl : ts.length ≤ 31) (q : Q (.d (.tup [.int (mostF ts T).1, .int (mostF ts T).2])) st) : mm_most_busy [.part (ts.map triD), .int T] st Q E := by
  simp only [mm_most_busy, RR_most_busy, mD, dSeq, dNext]
  refine ⟨rfl, ?_⟩
  simp only [RR_most_busy_1, dSet, dCallZ, dCons, dNil, dVar, dName]
  refine ⟨_, rfl, _, rfl, loadrows_ok hl ⟨_, _, rfl, Nat.le_refl _, app_get, ltO_rows _ _, ⟨_, rfl⟩, ?_⟩⟩
  simp only [RR_most_busy_2, dSet, dMxD, dLcE, dLc, dIt, dVar, dC, dName]
  have hz : (rowsL ts T).length ≤ 100000 := by
    refine Nat.le_trans rowsG_len ?_
    have := usort_len (ns := ts.map (·.1) ++ ts.map fun t => t.2.1 + T)
    unfold trn
    simp at this
    omega
  refine ⟨_, rfl, _, rfl, ?_⟩
  refine comp_el rwD (rowsL ts T) (fun _ => true) (fun r => .int (r.2 : Int)) True.intro hz (fun r hr K K0 hK hK0 => ?_) ?_
  · simp only [dName, dYes, if_true, dBin, dVar, dC]
    exact ⟨_, rfl, ix_seq_of (ds := [.int r.1, .int (r.2 : Int)]) (e := .int (r.2 : Int)) rfl rfl rfl (hK rfl)⟩
  rw [List.filter_eq_self.mpr (by simp)]
  have fin : ∀ m : Int, m = (rowMax (rowsL ts T) : Int) → RR_most_busy_3 { nx := RR_most_busy_4 { nx := fun s => Q (.d .non) s.st, rt := Q, ex := fun x s => E x s.st }, rt := Q, ex := fun x s => E x s.st } ⟨[some (.d (.part (ts.map triD))), some (.d (.int T)), some (.d (.lst ((rowsL ts T).map rwD))), some (.d (.int m)), none, none, none], st⟩ := fun m hm => by
    subst hm
    simp only [RR_most_busy_3, dFor, dIt, dVar]
    refine ⟨_, rfl, _, rfl, ?_⟩
    refine loop_inv ((rowsL ts T).map rwD) (fun i s => (∃ a b, s = ⟨[some (.d (.part (ts.map triD))), some (.d (.int T)), some (.d (.lst ((rowsL ts T).map rwD))), some (.d (.int (rowMax (rowsL ts T) : Int))), none, a, b], st⟩) ∧ ∀ j r, j < i → (rowsL ts T)[j]? = some r → decide (r.2 = rowMax (rowsL ts T)) = false) ⟨⟨_, _, rfl⟩, fun j r hj => by omega⟩ (fun i d s nx hd hI kk => ?_) (fun s hI => ?_)
    · obtain ⟨⟨a, b, rfl⟩, hno⟩ := hI
      obtain ⟨r, hr, rfl⟩ := el_get hd
      refine ⟨True.intro, ?_⟩
      simp only [dUnp, gMore, gNone, dName, dSeq, dIfS, dTest, dBin, dVar, dRet, dTup, dCons, dNil, dNext]
      refine ⟨_, rfl, rfl, _, _, rfl, _, _, rfl, rfl, _, rfl, _, rfl, kEqI ⟨_, rfl, ?_⟩⟩
      by_cases e : r.2 = rowMax (rowsL ts T)
      · rw [if_pos (by simp [e])]
        refine ⟨_, rfl, _, rfl, l2 _ _, ?_⟩
        have hf : (rowsL ts T).find? (fun r => decide (r.2 = rowMax (rowsL ts T))) = some r := find_pre hno hr (by simpa using e)
        have : mostF ts T = (r.1, rowMax (rowsL ts T)) := by
          unfold mostF
          simp only [hf, Option.map_some, Option.getD_some]
        rw [this] at q
        exact q
      · rw [if_neg (by simp; omega)]
        refine kk _ ⟨⟨_, _, rfl⟩, fun j r' hj hr' => ?_⟩
        by_cases hj' : j < i
        · exact hno j r' hj' hr'
        · have : j = i := by omega
          subst this
          rw [hr] at hr'; cases hr'
          simpa using e
    · obtain ⟨⟨a, b, rfl⟩, hno⟩ := hI
      refine ⟨True.intro, ?_⟩
      simp only [RR_most_busy_4, dRet, dTup, dCons, dNil, dC]
      refine ⟨l2 _ _, ?_⟩
      have hf : (rowsL ts T).find? (fun r => decide (r.2 = rowMax (rowsL ts T))) = none := find_no fun j r hj hr => hno j r (by rw [List.length_map]; exact hj) hr
      have : mostF ts T = (0, 0) := by
        unfold mostF
        simp only [hf, Option.map_none, Option.getD_none]
      rw [this] at q
      exact q
  have eN : (rowsL ts T).map (fun r => D.int (r.2 : Int)) = ((rowsL ts T).map fun r => (r.2 : Int)).map D.int := by rw [List.map_map]; rfl
  rw [eN]
  refine ⟨_, 0, rfl, rfl, fun hn => fin 0 ?_, fun m hm hle => fin m (rowMax_of hm hle)⟩
  have : rowsL ts T = [] := by simpa using hn
  rw [this]; rfl
theorem fullest_ok {T : Int} (hl : ts.length ≤ 31) (hT : 1 ≤ T ∧ T ≤ 9999) (q : Q (.d (.tup [.int (mostF ts T).1, .int (mostF ts T).2])) st) : mm_fullest [.part (ts.map triD), .int T] st Q E := by
  simp only [mm_fullest, RR_fullest, mD, dSeq, dRet, dDrop, dCall, dCons, dNil, dVar]
  exact ⟨rfl, _, rfl, pneed_ok ⟨rfl, _, rfl, time_need (t := "int") rfl (fun _ => ⟨rfl, _, rfl, _, rfl, mostbusy_ok hl ⟨rfl, q⟩⟩) fun z => absurd z (by simp [isI]; omega)⟩⟩
/-- the law's own number -/
theorem lmost_ok {T : Int} {M : Nat} (hl : ts.length ≤ 60) (hM : IsMost ts T M) (q : Q (.d (.int (M : Int))) st) : mm_law_most [.lst (ts.map triD), .int T] st Q E := by
  simp only [mm_law_most, RR_law_most, mD, dSeq, dNext, dRet, dMxD, dLcE, dLc, dIt, dVar, dC]
  refine ⟨rfl, _, rfl, _, rfl, ?_⟩
  refine comp_nts ts (fun _ => true) (fun t => .int (nbz ts T t.1 : Int)) True.intro (by omega) (fun t ht K K0 hK hK0 => ?_) ?_
  · simp only [dYes, if_true, dB, dCons, dNil, dCallP, dBin, dVar, dC]
    refine ⟨_, rfl, _, rfl, _, rfl, kIx_tri.1 (lbusy_ok (by omega) fun o => ⟨rfl, ⟨_, rfl⟩, by show ltO _ (.lst _) = true; simp only [ltO]; exact ltO_ints _ _, kLen_lst ?_⟩)⟩
    rw [List.length_map]
    exact hK rfl
  rw [List.filter_eq_self.mpr (by simp)]
  have eN : ts.map (fun t => D.int (nbz ts T t.1 : Int)) = (ts.map fun t => (nbz ts T t.1 : Int)).map D.int := by rw [List.map_map]; rfl
  rw [eN]
  refine ⟨_, 0, rfl, rfl, fun hn => ?_, fun m hm hle => ?_⟩
  · have : ts = [] := by simpa using hn
    have := hM.n this
    subst this
    exact q
  · obtain ⟨t, ht, rfl⟩ := List.mem_map.mp hm
    obtain ⟨t', ht', e'⟩ := hM.e (List.ne_nil_of_mem ht)
    have h1 := hM.le t ht
    have h2 := hle _ (List.mem_map.mpr ⟨t', ht', rfl⟩)
    have : nbz ts T t.1 = M := by omega
    rw [this]; exact q
end
end Kt
set_option maxHeartbeats 400000
/-! Kt53: wrong values drawn and asked, in general. -/
namespace Kt
open PySem PySem.Spec L2
theorem isI10 {d : D} : isI d 1 0 = false := by
  cases d <;> simp [isI]
  omega
theorem gr_of {n c : Nat} {st st' : List Ob} (h : Bx st n c) {c' : Nat} (b1 : Bx st' n c') (kp : ∀ m, m ≠ n → m < st.length → st'[m]? = st[m]?) : Gr n st st' c' := by
  refine ⟨b1, ?_, kp⟩
  by_cases hz : st.length = n + 1
  · have := b1.lt; omega
  · have hn := h.lt
    by_cases hq : st.length ≤ st'.length
    · exact hq
    · exfalso
      have := kp (st.length - 1) (by omega) (by omega)
      rw [List.getElem?_eq_none (by omega), List.getElem?_eq_getElem (by omega)] at this
      cases this
theorem odd_wr {st : List Ob} {Q : SV → List Ob → Prop} {E : XK'} {c0 : Int} {n c : Nat} (h : Bx st n c) (hc : c + 1 ≤ 1000000) (hc0 : 0 ≤ c0 ∧ c0 ≤ 1000000) (q : ∀ od st', Wr st' st.length 1 0 od → Gr n st st' (c + 1) → Q (.d od) st') : mD 2 1 (R_odd c0) [.obj n] st Q E :=
  odd_fr (c0 := c0) h hc (fun od s1 _ hv hty b1 hge kp => q od s1 ⟨hv.vk, hty, isI10, hge⟩ (gr_of h b1 kp)) hc0
section
variable {st : List Ob} {De : DEnds} {sl : List (Option SV)} {n c : Nat} {c0 : Int}
theorem lw_odd {i : Nat} (e2 : sl[2]? = some (some (.d (.obj n)))) (h : Bx st n c) (hc : c + 1 ≤ 1000000) (hc0 : 0 ≤ c0 ∧ c0 ≤ 1000000) (q : ∀ od st', Wr st' st.length 1 0 od → Gr n st st' (c + 1) → De.nx ⟨sl.set i (some (.d od)), st'⟩) :
    (dSet (dName i) (dCall (mD 2 1 (R_odd c0)) (dCons (dVar 2) dNil))) De ⟨sl, st⟩ := by
  simp only [dSet, dCall, dCons, dNil, dVar, dName]
  exact ⟨_, e2, odd_wr h hc hc0 fun od st' W g => ⟨rfl, q od st' W g⟩⟩
/-- [a, b, -1, None, True, "1", [1], 10 ** 29][take(box, 8)] -/
def wrongE (c0 a b : Int) : DE := (dBin kIx (dLst (dCons (dC (.int a)) (dCons (dC (.int b)) (dCons (dUn kNeg (dC (.int 1))) (dCons (dC .non) (dCons (dC (.bl true)) (dCons (dC (.str "1")) (dCons (dLstN (dCons (dC (.int 1)) dNil)) (dCons (dBin kPow (dC (.int 10)) (dC (.int 29))) dNil))))))))) (dCall (m_take c0) (dCons (dVar 2) (dCons (dC (.int 8)) dNil))))
theorem wrongE_ok {a b lo hi : Int} {Q : DK} {E : XK'} (e2 : sl[2]? = some (some (.d (.obj n)))) (h : Bx st n c) (hc : c + 1 ≤ 1000000) (hc0 : 0 ≤ c0 ∧ c0 ≤ 1000000) (ha : -1000000 ≤ a ∧ a ≤ 1000000 ∧ ¬(lo ≤ a ∧ a ≤ hi)) (hb : -1000000 ≤ b ∧ b ≤ 1000000 ∧ ¬(lo ≤ b ∧ b ≤ hi)) (hl : 0 ≤ lo ∧ hi ≤ 1000000)
    (q : ∀ w st', Wr st' st.length lo hi w → Gr n st st' (c + 1) → Q w st') : wrongE c0 a b ⟨sl, st⟩ Q E := by
  simp only [wrongE, dCall, dCons, dNil, dBin, dUn, unS, kNeg, dLst, dLstN, dVar, dC, kPow, kI]
  refine ⟨l1 _, ⟨by decide, by decide, by decide⟩, l8 _ _ _ _ _ _ _ _, _, e2, take_ok (many := 8) h.app (by omega) (by decide) (by decide) (fun r s2 a2 b2 t2 => ⟨rfl, ?_⟩) hc0⟩
  have hnl := h.lt
  have g : s2[st.length]? = some (.lst [.int 1]) := by
    rw [t2.get (by omega), List.getElem?_append_right (Nat.le_refl _), Nat.sub_self]; rfl
  refine kIx_lst a2 (by show r < 8; exact b2) fun w hw => q w s2 ?_ ⟨t2.2, by rw [t2.len, List.length_append]; omega, fun m hm hl => by rw [t2.get (Ne.symm hm), List.getElem?_append_left hl]⟩
  simp only [List.mem_cons, List.not_mem_nil, or_false] at hw
  rcases hw with rfl | rfl | rfl | rfl | rfl | rfl | rfl | rfl
  · exact wr_int (by omega) ha.2.2
  · exact wr_int (by omega) hb.2.2
  · exact wr_int (by omega) (by omega)
  · exact wr_non
  · exact wr_bl
  · exact wr_str (sm_lit (by decide +kernel))
  · exact wr_lst g (Nat.le_refl _) (by decide) rfl ⟨by decide +kernel, by decide +kernel, by decide +kernel⟩
  · exact wr_big (by omega)
theorem lw_wrong {i : Nat} {a b lo hi : Int} (e2 : sl[2]? = some (some (.d (.obj n)))) (h : Bx st n c) (hc : c + 1 ≤ 1000000) (hc0 : 0 ≤ c0 ∧ c0 ≤ 1000000) (ha : -1000000 ≤ a ∧ a ≤ 1000000 ∧ ¬(lo ≤ a ∧ a ≤ hi)) (hb : -1000000 ≤ b ∧ b ≤ 1000000 ∧ ¬(lo ≤ b ∧ b ≤ hi)) (hl : 0 ≤ lo ∧ hi ≤ 1000000)
    (q : ∀ w st', Wr st' st.length lo hi w → Gr n st st' (c + 1) → De.nx ⟨sl.set i (some (.d w)), st'⟩) : (dSet (dName i) (wrongE c0 a b)) De ⟨sl, st⟩ := by
  unfold dSet
  refine wrongE_ok e2 h hc hc0 ha hb hl fun w st' W g => ?_
  simp only [dName]
  exact q w st' W g
/-- odd, wrong = _law_odd(box), [..][take(box, 8)] -/
theorem lw_oddwrong {i j : Nat} {a b lo hi : Int} (e2 : sl[2]? = some (some (.d (.obj n)))) (h : Bx st n c) (hc : c + 2 ≤ 1000000) (hc0 : 0 ≤ c0 ∧ c0 ≤ 1000000) (ha : -1000000 ≤ a ∧ a ≤ 1000000 ∧ ¬(lo ≤ a ∧ a ≤ hi)) (hb : -1000000 ≤ b ∧ b ≤ 1000000 ∧ ¬(lo ≤ b ∧ b ≤ hi)) (hl : 0 ≤ lo ∧ hi ≤ 1000000)
    (q : ∀ od w b2 st', Wr st' st.length 1 0 od → Wr st' b2 lo hi w → n < st.length → st.length ≤ b2 → (∀ m, od = .obj m → m < b2) → Gr n st st' (c + 2) → De.nx ⟨(sl.set i (some (.d od))).set j (some (.d w)), st'⟩) :
    (dPar i j (dCons (dCall (mD 2 1 (R_odd c0)) (dCons (dVar 2) dNil)) (dCons (wrongE c0 a b) dNil))) De ⟨sl, st⟩ := by
  simp only [dPar, dCall, dCons, dNil, dVar]
  refine ⟨_, e2, odd_wr h (by omega) hc0 fun od s1 W1 g1 => ⟨rfl, ?_⟩⟩
  refine wrongE_ok e2 g1.bx (by omega) hc0 ha hb hl fun w s2 W2 g2 => ⟨_, _, rfl, ?_⟩
  have hn := h.lt
  exact q od w s1.length s2 (W1.gr hn g2) W2 hn g1.le (fun m e => by subst e; exact W1.lt) (g1.trans g2)
/-- one row is asked: found[0] is the name, found[1] the very thing -/
def vBody (a b e : Nat) : DS := (dSeq (dIfS (dOr (dTest (dBin kNe (dBin kIx (dVar a) (dC (.int 0))) (dVar b))) (dNot (dTest (dCall (mD 2 2 R_very) (dCons (dBin kIx (dVar a) (dC (.int 1))) (dCons (dVar e) dNil)))))) (dSeq (dRet (dC (.bl false))) dNext) dNext) dNext)
theorem vBody_ok {a b e : Nat} {nm : Str} {v : D} (ea : sl[a]? = some (some (.d (.lst [.str nm, v])))) (eb : sl[b]? = some (some (.d (.str nm)))) (ee : sl[e]? = some (some (.d v))) (h : Vk st v) (q : ∀ st', (∀ m, v ≠ .obj m → st'[m]? = st[m]?) → st'.length = st.length → De.nx ⟨sl, st'⟩) : vBody a b e De ⟨sl, st⟩ := by
  simp only [vBody, dSeq, dIfS, dOr, dNot, dTest, dBin, dCall, dCons, dNil, dVar, dC, dRet, dNext]
  refine ⟨_, ea, ix_seq_of (ds := [.str nm, v]) (e := .str nm) rfl rfl rfl ⟨_, eb, ⟨_, rfl, _, rfl, ?_⟩⟩⟩
  rw [if_neg (by simp)]
  refine ⟨_, ea, ix_seq_of (ds := [.str nm, v]) (e := v) rfl rfl rfl ⟨_, ee, very_ok h fun st' k l => ⟨rfl, _, rfl, ?_⟩⟩⟩
  rw [if_neg (by decide)]
  exact q st' k l
theorem set3 {α : Type} {l : List α} {a b e : Nat} {x y z x' y' z' : α} (h1 : a ≠ b) (h2 : a ≠ e) (h3 : b ≠ e) : (((((l.set a x).set b y).set e z).set a x').set b y').set e z' = ((l.set a x').set b y').set e z' := by
  apply List.ext_getElem?
  intro i
  by_cases ie : e = i
  · subst ie
    by_cases hl : e < l.length
    · rw [List.getElem?_set_self (by simpa using hl), List.getElem?_set_self (by simpa using hl)]
    · rw [List.getElem?_eq_none (by simp; omega), List.getElem?_eq_none (by simp; omega)]
  · rw [List.getElem?_set_ne ie, List.getElem?_set_ne ie]
    by_cases ib : b = i
    · subst ib
      by_cases hl : b < l.length
      · rw [List.getElem?_set_self (by simpa using hl), List.getElem?_set_self (by simpa using hl)]
      · rw [List.getElem?_eq_none (by simp; omega), List.getElem?_eq_none (by simp; omega)]
    · rw [List.getElem?_set_ne ib, List.getElem?_set_ne ib]
      by_cases ia : a = i
      · subst ia
        by_cases hl : a < l.length
        · rw [List.getElem?_set_self (by simpa using hl), List.getElem?_set_self (by simpa using hl)]
        · rw [List.getElem?_eq_none (by simp; omega), List.getElem?_eq_none (by simp; omega)]
      · rw [List.getElem?_set_ne ia, List.getElem?_set_ne ia, List.getElem?_set_ne ie, List.getElem?_set_ne ib, List.getElem?_set_ne ia]
def rowV (r : Str × D) : D := .tup [.lst [.str r.1, r.2], .str r.1, r.2]
/-- a walk over rows, each asked -/
theorem loop_very {a b e : Nat} {wt : List Ob → Prop} (hw : ∀ s, wt s) (h1 : a ≠ b) (h2 : a ≠ e) (h3 : b ≠ e) (ha : a < sl.length) (hb : b < sl.length) (he : e < sl.length) : ∀ (rows : List (Str × D)) (st : List Ob) (x y z : Option SV), (∀ r ∈ rows, Vk st r.2) → rows.Pairwise (fun r r' => ∀ m, r.2 = .obj m → r'.2 ≠ .obj m) →
    (∀ x y z st', (∀ m, (∀ r ∈ rows, r.2 ≠ .obj m) → st'[m]? = st[m]?) → st'.length = st.length → De.nx ⟨((sl.set a x).set b y).set e z, st'⟩) →
    dLoop (dUnp 3 (gMore (dName a) (gMore (dName b) (gMore (dName e) gNone)))) (vBody a b e) De wt (rows.map rowV) ⟨((sl.set a x).set b y).set e z, st⟩
  | [], st, x, y, z, _, _, q => ⟨hw _, q x y z st (fun _ _ => rfl) rfl⟩
  | r :: rows, st, x, y, z, hv, hp, q => by
    obtain ⟨p1, p2⟩ := List.pairwise_cons.mp hp
    refine ⟨hw _, _, rfl, rfl, _, _, rfl, _, _, rfl, _, _, rfl, rfl, ?_⟩
    simp only [dName]
    rw [set3 h1 h2 h3]
    refine vBody_ok (nm := r.1) (v := r.2) ?_ ?_ ?_ (hv r List.mem_cons_self) fun st' k l => ?_
    · rw [List.getElem?_set_ne (Ne.symm h2), List.getElem?_set_ne (Ne.symm h1), List.getElem?_set_self ha]
    · rw [List.getElem?_set_ne (Ne.symm h3), List.getElem?_set_self (by simpa using hb)]
    · rw [List.getElem?_set_self (by simpa using he)]
    refine loop_very hw h1 h2 h3 ha hb he rows st' _ _ _ (fun r' hr' => (hv r' (List.mem_cons_of_mem _ hr')).keep fun m em => k m fun e' => p1 r' hr' m e' em) p2 fun x y z st2 k2 l2 => ?_
    refine q x y z st2 (fun m hm => ?_) (by rw [l2, l])
    rw [k2 m fun r' hr' => hm r' (List.mem_cons_of_mem _ hr'), k m (hm r List.mem_cons_self)]
end
theorem told_ix {l : List D} {d : D} {st : List Ob} {K : DK} (k : K d st) : kIx (.lst (d :: l)) (.int 0) st K := ix_seq_of (ds := d :: l) (e := d) rfl rfl (atN (i := 0) rfl) k
end Kt
set_option maxHeartbeats 4000000
/-! Kt54: x in a list, by ==, of data of any depth. -/
namespace Kt
open PySem PySem.Spec L2
theorem hu65 {k : Nat} {A : Around} (h : Room k A) : A.units + 65 < cLine := by have := hu66 h; omega
section
variable {K : PySem.W.Frag} {H : Hp}
mutual
theorem Py.dp : ∀ {v : V} {p : PyData}, Py K H v p → gdP p = true → Dp K H v p
  | _, _, .non, _ => .non
  | _, _, .bl b, _ => .bl b
  | _, _, .int i, _ => .int i
  | _, _, .str x, _ => .str x
  | _, _, .lst h r, g => .lst h (PyA.dp r (by simpa only [gdP] using g))
  | _, _, .tup h r, g => .tup h (PyA.dp r (by simpa only [gdP] using g))
  | _, _, .dct h r, g => by simp [gdP] at g
theorem PyA.dp : ∀ {v : List V} {p : List PyData}, PyA K H v p → gdAll p = true → DpAll K H v p
  | _, _, .nil, _ => .nil
  | _, _, .cons a r, g => by
    simp only [gdAll, Bool.and_eq_true] at g
    exact .cons (Py.dp a g.1) (PyA.dp r g.2)
end
end
/-- x in y, x not in y, y a list -/
def kInP (neg : Bool) : K2 := fun x y st K => ∃ p ps, toPy st x = some p ∧ toPy st y = some (.list ps) ∧ Gd p ∧ Gd (.list ps) ∧ K (.bl (if neg then !ps.any (fun z => PyData.eqv z p) else ps.any fun z => PyData.eqv z p)) st
section
variable {X : Cx} {cl : String → Addr}
theorem o_inP (hu : X.A.units + 65 < cLine) : OpD X cl (compareOp .In) (kInP false) := by
  refine ⟨_, op_inD hu, fun B s σ H F ν v u x y K P r rx ry h k => ?_⟩
  obtain ⟨p, ps, e1, e2, g1, g2, h⟩ := h
  exact ⟨p, ps, (r.py rx e1).dp g1.g, (r.py ry e2).dp g2.g, g1.shaped, g2.shaped, k _ H F ν _ s.st Ext.refl r (.bl _) h⟩
theorem o_notInP (hu : X.A.units + 65 < cLine) : OpD X cl (compareOp .NotIn) (kInP true) := by
  refine ⟨_, op_notInD hu, fun B s σ H F ν v u x y K P r rx ry h k => ?_⟩
  obtain ⟨p, ps, e1, e2, g1, g2, h⟩ := h
  exact ⟨p, ps, (r.py rx e1).dp g1.g, (r.py ry e2).dp g2.g, g1.shaped, g2.shaped, k _ H F ν _ s.st Ext.refl r (.bl _) h⟩
end
/-! ### == of tuples of whole numbers -/
theorem eqv_ints : ∀ (a b : List Int), PyData.eqvAll (a.map PyData.int) (b.map PyData.int) = decide (a = b)
  | [], [] => by simp [PyData.eqvAll]
  | [], b :: bs => by simp [PyData.eqvAll]
  | a :: as, [] => by simp [PyData.eqvAll]
  | a :: as, b :: bs => by
    rw [List.map_cons, List.map_cons, PyData.eqvAll, eqv_ints as bs]
    have e : (a == b) = decide (a = b) := by by_cases h : a = b <;> simp [h]
    simp [PyData.eqv, e]
theorem eqv_tri (a b : Tri) : PyData.eqv (pyT a) (pyT b) = decide (a = b) := by
  obtain ⟨a1, a2, a3⟩ := a
  obtain ⟨b1, b2, b3⟩ := b
  have := eqv_ints [a1, a2, a3] [b1, b2, b3]
  show PyData.eqv (.tuple [.int a1, .int a2, .int a3]) (.tuple [.int b1, .int b2, .int b3]) = _
  rw [PyData.eqv]
  refine Eq.trans this ?_
  by_cases h : a1 = b1 ∧ a2 = b2 ∧ a3 = b3
  · obtain ⟨rfl, rfl, rfl⟩ := h; simp
  · rw [decide_eq_false (by simpa using h), decide_eq_false (by simpa using h)]
theorem any_tri (t : Tri) : ∀ ts : List Tri, (ts.map pyT).any (fun z => PyData.eqv z (pyT t)) = decide (t ∈ ts)
  | [] => by simp
  | u :: ts => by
    rw [List.map_cons, List.any_cons, any_tri t ts, eqv_tri]
    by_cases h : u = t
    · subst h; simp
    · have h' : ¬ t = u := fun z => h z.symm
      simp [h, h']
theorem kInP_tri {neg : Bool} {st : List Ob} {t : Tri} {ts : List Tri} {y : D} {K : DK} (ht : bdT t) (hts : ∀ t ∈ ts, bdT t) (hl : ts.length ≤ 1000) (hy : toPy st y = some (.list (ts.map pyT))) (k : K (.bl (if neg then !decide (t ∈ ts) else decide (t ∈ ts))) st) : kInP neg (triD t) y st K := by
  refine ⟨pyT t, ts.map pyT, toPyF_tri _ _, hy, (It.tri ht).gd, (It.tris (l := 1000) hts hl).gd, ?_⟩
  rw [any_tri]
  exact k
/-- rows (moment, number) -/
def rwP (r : Int × Nat) : PyData := .tuple [.int r.1, .int (r.2 : Int)]
theorem toPyA_rows (g : Nat → Option PyData) : ∀ rs : List (Int × Nat), toPyA g (rs.map rwD) = some (rs.map rwP)
  | [] => by simp [toPyA]
  | r :: rs => by rw [List.map_cons]; simp only [rwD, toPyA, toPyF, toPyA_rows g rs, List.map_cons, rwP, Option.map_some]
theorem eqv_row (a b : Int × Nat) : PyData.eqv (rwP a) (rwP b) = decide (a = b) := by
  obtain ⟨a1, a2⟩ := a
  obtain ⟨b1, b2⟩ := b
  have := eqv_ints [a1, (a2 : Int)] [b1, (b2 : Int)]
  show PyData.eqv (.tuple [.int a1, .int a2]) (.tuple [.int b1, .int b2]) = _
  rw [PyData.eqv]
  refine Eq.trans this ?_
  by_cases h : a1 = b1 ∧ a2 = b2
  · obtain ⟨rfl, rfl⟩ := h; simp
  · rw [decide_eq_false (by simp; omega), decide_eq_false (by simp; omega)]
theorem any_row (t : Int × Nat) : ∀ ts : List (Int × Nat), (ts.map rwP).any (fun z => PyData.eqv z (rwP t)) = decide (t ∈ ts)
  | [] => by simp
  | u :: ts => by
    rw [List.map_cons, List.any_cons, any_row t ts, eqv_row]
    by_cases h : u = t
    · subst h; simp
    · have h' : ¬ t = u := fun z => h z.symm
      simp [h, h']
theorem It.row {r : Int × Nat} (h : -100000 ≤ r.1 ∧ r.1 ≤ 100000) (h2 : r.2 ≤ 100000) : It 1 202 (rwP r) :=
  It.tup (d := 0) (w := 100) (l := 2) (It.cons (It.int (by omega)) (It.cons (It.int (by omega)) It.nil)) (by simp)
theorem It.rows {rs : List (Int × Nat)} {l : Nat} (h : ∀ r ∈ rs, (-100000 ≤ r.1 ∧ r.1 ≤ 100000) ∧ r.2 ≤ 100000) (hl : rs.length ≤ l) : It 2 (l * 203) (.list (rs.map rwP)) :=
  It.lst (d := 1) (w := 202) (fun x hx => by obtain ⟨r, hr, rfl⟩ := List.mem_map.mp hx; exact It.row (h r hr).1 (h r hr).2) (by rw [List.length_map]; exact hl)
theorem kInP_row {neg : Bool} {st : List Ob} {r : Int × Nat} {rs : List (Int × Nat)} {y : D} {K : DK} (hr : (-100000 ≤ r.1 ∧ r.1 ≤ 100000) ∧ r.2 ≤ 100000) (hrs : ∀ r ∈ rs, (-100000 ≤ r.1 ∧ r.1 ≤ 100000) ∧ r.2 ≤ 100000) (hl : rs.length ≤ 1000) (hy : toPy st y = some (.list (rs.map rwP))) (k : K (.bl (if neg then !decide (r ∈ rs) else decide (r ∈ rs))) st) : kInP neg (rwD r) y st K := by
  refine ⟨rwP r, rs.map rwP, by simp only [toPy, rwD, toPyF, toPyA, rwP, Option.map_some], hy, (It.row hr.1 hr.2).gd, (It.rows (l := 1000) hrs hl).gd, ?_⟩
  rw [any_row]
  exact k
end Kt
set_option maxHeartbeats 400000
/-! Kt55: links (each note with the next one of its pitch). -/
namespace Kt
open PySem PySem.Spec L2
/-! ### plain -/
def pts (ts : List Tri) : List Int := ts.map (·.2.2)
theorem pts_gi {ts : List Tri} {i : Nat} (h : i < ts.length) : gi (pts ts) i = (gt ts i).2.2 := by
  have h1 : (pts ts)[i]? = some (gi (pts ts) i) := gi_get (by simpa [pts] using h)
  unfold pts at h1
  rw [List.getElem?_map, gt_get h] at h1
  injection h1 with h1
  exact h1.symm
/-- i and j are of one pitch, none between is of it -/
structure Lk (ps : List Int) (n i j : Nat) : Prop where
  lt : i < j
  ln : j < n
  e : gi ps i = gi ps j
  no : ∀ m, i < m → m < j → gi ps m ≠ gi ps j
theorem lastOn_iff {ps : List Int} {d : Int} {k : Nat} : ∀ {i : Nat}, lastOn ps i d = some k ↔ k < i ∧ gi ps k = d ∧ ∀ m, k < m → m < i → gi ps m ≠ d
  | 0 => by simp [lastOn, bef]
  | i + 1 => by
    rw [lastOn_succ]
    by_cases h : gi ps i = d
    · rw [if_pos h]
      constructor
      · intro e; cases e
        exact ⟨by omega, h, fun m h1 h2 => by omega⟩
      · rintro ⟨h1, h2, h3⟩
        by_cases hk : k = i
        · rw [hk]
        · exact absurd h (h3 i (by omega) (by omega))
    · rw [if_neg h, lastOn_iff]
      constructor
      · rintro ⟨h1, h2, h3⟩
        refine ⟨by omega, h2, fun m m1 m2 => ?_⟩
        by_cases hm : m = i
        · rw [hm]; exact h
        · exact h3 m m1 (by omega)
      · rintro ⟨h1, h2, h3⟩
        refine ⟨?_, h2, fun m m1 m2 => h3 m m1 (by omega)⟩
        by_cases hk : k = i
        · rw [hk] at h2; exact absurd h2 h
        · omega
def proF (ps : List Int) (j : Nat) : Option (Nat × Nat) := (lastOn ps j (gi ps j)).map fun k => (k, j)
def proL (ps : List Int) (n : Nat) : List (Nat × Nat) := (List.range n).filterMap (proF ps)
def beh (ps : List Int) (n i : Nat) : List Nat := (List.range' (i + 1) (n - (i + 1))).filter fun j => decide (gi ps j = gi ps i)
def lawF (ps : List Int) (n i : Nat) : Option (Nat × Nat) := (beh ps n i).head?.map fun j => (i, j)
def lawL (ps : List Int) (n : Nat) : List (Nat × Nat) := (List.range n).filterMap (lawF ps n)
theorem proF_iff {ps : List Int} {j : Nat} {p : Nat × Nat} : proF ps j = some p ↔ p.2 = j ∧ Lk ps (j + 1) p.1 p.2 := by
  obtain ⟨a, b⟩ := p
  unfold proF
  rw [Option.map_eq_some_iff]
  constructor
  · rintro ⟨k, hk, e⟩
    cases e
    obtain ⟨h1, h2, h3⟩ := lastOn_iff.mp hk
    exact ⟨rfl, h1, Nat.lt_succ_self _, h2, h3⟩
  · rintro ⟨e, L⟩
    have e : b = j := e
    subst e
    exact ⟨a, lastOn_iff.mpr ⟨L.lt, L.e, L.no⟩, rfl⟩
theorem mem_proL {ps : List Int} {n : Nat} {p : Nat × Nat} : p ∈ proL ps n ↔ Lk ps n p.1 p.2 := by
  unfold proL
  rw [List.mem_filterMap]
  constructor
  · rintro ⟨j, hj, e⟩
    obtain ⟨e1, L⟩ := proF_iff.mp e
    have := List.mem_range.mp hj
    exact ⟨L.lt, by omega, L.e, L.no⟩
  · intro L
    exact ⟨p.2, List.mem_range.mpr L.ln, proF_iff.mpr ⟨rfl, L.lt, Nat.lt_succ_self _, L.e, L.no⟩⟩
theorem lawF_iff {ps : List Int} {n i : Nat} {p : Nat × Nat} : lawF ps n i = some p ↔ p.1 = i ∧ Lk ps n p.1 p.2 := by
  obtain ⟨a, b⟩ := p
  unfold lawF beh
  rw [Option.map_eq_some_iff]
  simp only [List.head?_filter, List.find?_range'_eq_some, List.mem_range'_1]
  constructor
  · rintro ⟨j, ⟨h1, h2, h3⟩, e⟩
    have ea : i = a := congrArg Prod.fst e
    have eb : j = b := congrArg Prod.snd e
    subst ea; subst eb
    have h1 : gi ps j = gi ps i := by simpa using h1
    refine ⟨rfl, by show i < j; omega, by show j < n; omega, h1.symm, fun m m1 m2 => ?_⟩
    have := h3 m m1 m2
    simp only [Bool.not_eq_true', decide_eq_false_iff_not] at this
    rw [h1]; exact this
  · rintro ⟨e, L⟩
    have e : a = i := e
    subst e
    have h1 : a < b := L.lt
    have h2 : b < n := L.ln
    have h4 : gi ps a = gi ps b := L.e
    refine ⟨b, ⟨by simpa using h4.symm, by omega, fun m m1 m2 => ?_⟩, rfl⟩
    have : gi ps m ≠ gi ps b := L.no m m1 m2
    simp only [Bool.not_eq_true', decide_eq_false_iff_not]
    rw [h4]; exact this
theorem mem_lawL {ps : List Int} {n : Nat} {p : Nat × Nat} : p ∈ lawL ps n ↔ Lk ps n p.1 p.2 := by
  unfold lawL
  rw [List.mem_filterMap]
  constructor
  · rintro ⟨j, hj, e⟩
    exact (lawF_iff.mp e).2
  · intro L
    exact ⟨p.1, List.mem_range.mpr (Nat.lt_trans L.lt L.ln), lawF_iff.mpr ⟨rfl, L⟩⟩
theorem proL_lt {ps : List Int} {n : Nat} : (proL ps n).Pairwise fun a b => a.2 < b.2 := by
  unfold proL
  refine List.Pairwise.filterMap _ (fun a a' h b hb b' hb' => ?_) List.pairwise_lt_range
  rw [(proF_iff.mp hb).1, (proF_iff.mp hb').1]; exact h
theorem lawL_lt {ps : List Int} {n : Nat} : (lawL ps n).Pairwise fun a b => a.1 < b.1 := by
  unfold lawL
  refine List.Pairwise.filterMap _ (fun a a' h b hb b' hb' => ?_) List.pairwise_lt_range
  rw [(lawF_iff.mp hb).1, (lawF_iff.mp hb').1]; exact h
theorem pro_law {ps : List Int} {n : Nat} : (proL ps n).Perm (lawL ps n) :=
  (List.perm_ext_iff_of_nodup (proL_lt.imp fun {a b} h e => by subst e; omega) (lawL_lt.imp fun {a b} h e => by subst e; omega)).mpr fun p => mem_proL.trans mem_lawL.symm
theorem proL_len {ps : List Int} {n : Nat} : (proL ps n).length ≤ n := by
  unfold proL
  exact Nat.le_trans (List.length_filterMap_le _ _) (by simp)
theorem lawL_len {ps : List Int} {n : Nat} : (lawL ps n).length ≤ n := by
  unfold lawL
  exact Nat.le_trans (List.length_filterMap_le _ _) (by simp)
/-- a sorted list is the strictly sorted one of its items -/
theorem strict_uniq {α : Type} {f : α → Int} : ∀ {zs ws : List α}, zs.Perm ws → zs.Pairwise (fun a b => f a ≤ f b) → ws.Pairwise (fun a b => f a < f b) → zs = ws
  | [], ws, p, _, _ => p.nil_eq
  | z :: zs, [], p, _, _ => by have := p.length_eq; simp at this
  | z :: zs, w :: ws, p, h, hw => by
    have e : z = w := by
      rcases List.mem_cons.mp (p.mem_iff.mp List.mem_cons_self) with e | m
      · exact e
      · rcases List.mem_cons.mp (p.mem_iff.mpr (List.mem_cons_self (a := w) (l := ws))) with e | m2
        · exact e.symm
        · have h1 := (List.pairwise_cons.mp hw).1 z m
          have h2 := (List.pairwise_cons.mp h).1 w m2
          omega
    subst e
    rw [strict_uniq p.cons_inv (List.pairwise_cons.mp h).2 (List.pairwise_cons.mp hw).2]
def prI (p : Nat × Nat) : List Int := [(p.1 : Int), (p.2 : Int)]
def prD (p : Nat × Nat) : D := .tup [.int (p.1 : Int), .int (p.2 : Int)]
def prP (p : Nat × Nat) : PyData := .tuple [.int (p.1 : Int), .int (p.2 : Int)]
theorem code_pr (p : Nat × Nat) : TS.code 20000 (prI p) = p.1 * 20000 + p.2 := by
  simp only [prI, TS.code, List.length_cons, List.length_nil]
  omega
theorem pr_code {a b : Nat × Nat} (h : a.1 < b.1) (ha : a.2 < 20000) : TS.code 20000 (prI a) < TS.code 20000 (prI b) := by
  rw [code_pr, code_pr]; omega
theorem prI_D (p : Nat × Nat) : tupI (prI p) = prD p := rfl
def RR_links_in : DS := (dSeq (dSetD 1) (dSeq (dSetO 2 dNil) (dSeq (dFor (dEnum (dMethP mm_pnotes (dVar 0) dNil)) (dUnp 2 (gMore (dName 3) (gMore (dName 4) gNone))) (dSeq (dSet (dName 5) (dBin kIx (dVar 4) (dC (.int 2)))) (dSeq (dIfS (dTest (dInO false 1 (dVar 5))) (dSeq (dApO 2 (dTup (dCons (dGetO 1 (dVar 5)) (dCons (dVar 3) dNil)))) dNext) dNext) (dSeq (dDPutO 1 (dVar 5) (dVar 3)) dNext)))) (dFrz 2 (dSeq (dRet (dB (kSortL 2) (dCons (dVar 2) dNil))) dNext)))))
def mm_links_in : SpD := mD 6 1 (RR_links_in)
def RR_linksN : DS := (dSeq (dSetD 1) (dSeq (dSetO 2 dNil) (dSeq (dFor (dEnum (dMethP mm_pnotes (dVar 0) dNil)) (dUnp 2 (gMore (dName 3) (gMore (dName 4) gNone))) (dSeq (dSet (dName 5) (dBin kIx (dVar 4) (dC (.int 2)))) (dSeq (dIfS (dTest (dInO false 1 (dVar 5))) (dSeq (dApO 2 (dTup (dCons (dGetO 1 (dVar 5)) (dCons (dVar 3) dNil)))) dNext) dNext) (dSeq (dDPutO 1 (dVar 5) (dVar 3)) dNext)))) (dFrz 2 (dSeq (dRet (dB (kSortLN 2) (dCons (dVar 2) dNil))) dNext)))))
def mm_linksN : SpD := mD 6 1 (RR_linksN)
def RR_law_links : DS := (dSeq (dSetO 1 dNil) (dSeq (dFor (dRng1 (dB kLen (dCons (dVar 0) dNil))) (dName 2) (dSeq (dSetC 3 (dLc (dRng2 (dBin kAdd (dVar 2) (dC (.int 1))) (dB kLen (dCons (dVar 0) dNil))) (dName 4) (dTest (dBin kEq (dBin kIx (dBin kIx (dVar 0) (dVar 4)) (dC (.int 2))) (dBin kIx (dBin kIx (dVar 0) (dVar 2)) (dC (.int 2))))) (dVar 4) [4])) (dSeq (dIfS (dTest (dBin kNe (dVar 3) (dLst dNil))) (dSeq (dApO 1 (dTup (dCons (dVar 2) (dCons (dBin kIx (dVar 3) (dC (.int 0))) dNil)))) dNext) dNext) dNext))) (dSeq (dRetO 1) dNext)))
def mm_law_links : SpD := mD 5 1 (RR_law_links)

theorem pr_sort {zs ws : List (Nat × Nat)} {n : Nat} (p : zs.Perm ws) (hs : (zs.map prI).Pairwise fun a b => TS.code 20000 a ≤ TS.code 20000 b) (hw : ws.Pairwise fun a b => a.1 < b.1) (hb : ∀ p ∈ ws, p.2 < 20000) : zs = ws := by
  refine strict_uniq (f := fun p => TS.code 20000 (prI p)) p (by rw [List.pairwise_map] at hs; exact hs) ?_
  have : ws.Pairwise fun a b => a.1 < b.1 ∧ a.2 < 20000 := by
    refine hw.imp_of_mem fun {a b} ha _ h => ⟨h, hb a ha⟩
  exact this.imp fun {a b} h => pr_code h.1 h.2
theorem perm_map_inv {α β : Type} {f : α → β} : ∀ {l : List β} {ws : List α}, l.Perm (ws.map f) → ∃ zs : List α, zs.Perm ws ∧ l = zs.map f := by
  intro l ws p
  generalize hm : ws.map f = m at p
  induction p generalizing ws with
  | nil => cases ws with
    | nil => exact ⟨[], .nil, rfl⟩
    | cons w ws => cases hm
  | cons x p ih => cases ws with
    | nil => cases hm
    | cons w ws =>
      injection hm with h1 h2
      obtain ⟨zs, pz, rfl⟩ := ih h2
      exact ⟨w :: zs, pz.cons w, by rw [List.map_cons, h1]⟩
  | swap x y l => cases ws with
    | nil => cases hm
    | cons w ws => cases ws with
      | nil => cases hm
      | cons w2 ws =>
        simp only [List.map_cons, List.cons.injEq] at hm
        obtain ⟨rfl, rfl, rfl⟩ := hm
        exact ⟨w2 :: w :: ws, .swap w w2 ws, rfl⟩
  | trans p q ih1 ih2 =>
    obtain ⟨zs, pz, e⟩ := ih2 hm
    obtain ⟨us, pu, e2⟩ := ih1 e.symm
    exact ⟨us, pu.trans pz, e2⟩
theorem filterMap_succ {α : Type} (f : Nat → Option α) (i : Nat) : (List.range (i + 1)).filterMap f = (List.range i).filterMap f ++ (match f i with | some x => [x] | none => []) := by
  rw [List.range_succ, List.filterMap_append]
  congr 1
  cases h : f i with
  | none => simp [h]
  | some x => simp [h]
section
variable {st : List Ob} {Q : SV → List Ob → Prop} {E : XK'} {ts : List Tri}
def lkL (ts : List Tri) : List (Nat × Nat) := lawL (pts ts) ts.length
theorem lkL_lt {p : Nat × Nat} (h : p ∈ lkL ts) : p.1 < p.2 ∧ p.2 < ts.length := ⟨(mem_lawL.mp h).lt, (mem_lawL.mp h).ln⟩
theorem lkL_len : (lkL ts).length ≤ ts.length := lawL_len
/-- the walk of links_in, up to the sorting -/
theorem lkwalk_ok {De : DEnds} {rest : DS} (hl : ts.length < 64) (q : ∀ ks a b e, rest De ⟨[some (.d (.part (ts.map triD))), some (.od ks), some (.ol ((proL (pts ts) ts.length).map prD)), a, b, e], st⟩) :
    (dSeq (dSetD 1) (dSeq (dSetO 2 dNil) (dSeq (dFor (dEnum (dMethP mm_pnotes (dVar 0) dNil)) (dUnp 2 (gMore (dName 3) (gMore (dName 4) gNone))) (dSeq (dSet (dName 5) (dBin kIx (dVar 4) (dC (.int 2)))) (dSeq (dIfS (dTest (dInO false 1 (dVar 5))) (dSeq (dApO 2 (dTup (dCons (dGetO 1 (dVar 5)) (dCons (dVar 3) dNil)))) dNext) dNext) (dSeq (dDPutO 1 (dVar 5) (dVar 3)) dNext)))) rest))) De ⟨[some (.d (.part (ts.map triD))), none, none, none, none, none], st⟩ := by
  simp only [dSeq, dNext, dSetD, dSetO, dNil, dFor, dEnum, dMethP, dVar]
  refine ⟨none0, _, rfl, ⟨_, rfl⟩, pnotes_ok ⟨rfl, _, .inl rfl, ?_⟩⟩
  refine loop_inv (enD 0 (ts.map triD)) (fun i s => ∃ ks F a b e, s = ⟨[some (.d (.part (ts.map triD))), some (.od ks), some (.ol F), a, b, e], st⟩ ∧ F = ((List.range i).filterMap (proF (pts ts))).map prD ∧ Lasts (fun j => .int (j : Int)) (pts ts) i ks) ⟨_, _, _, _, _, rfl, rfl, .nil⟩ (fun i d s nx hd hI k => ?_) (fun s hI => ?_)
  · obtain ⟨ks, F, a, b, e, rfl, rfl, L⟩ := hI
    obtain ⟨hi, rfl⟩ := en_get hd
    refine ⟨True.intro, ?_⟩
    have hg := pts_gi hi
    simp only [dUnp, gMore, gNone, dName, dSeq, dSet, dIfS, dTest, dBin, dInO, dGetO, dVar, dC, dApO, dTup, dCons, dNil, dDPutO, dNext]
    refine ⟨_, rfl, rfl, _, _, rfl, _, _, rfl, rfl, _, rfl, kIx_tri.2.2 ⟨_, rfl, _, _, rfl, rfl, _, rfl, ?_⟩⟩
    have g := L.1 (gi (pts ts) i)
    rw [hg] at g
    have fl : (((List.range i).filterMap (proF (pts ts))).map prD).length < sizeLine := by rw [List.length_map, sizeLine_eq]; have := List.length_filterMap_le (proF (pts ts)) (List.range i); simp at this; omega
    have kl : ks.length < sizeLine := by rw [sizeLine_eq]; have := L.2; omega
    have put := L.put (f := fun j => .int (j : Int))
    rw [hg] at put
    cases hj : lastOn (pts ts) i (gi (pts ts) i) with
    | none =>
      have hp : proF (pts ts) i = none := by unfold proF; rw [hj]; rfl
      rw [hg] at hj
      rw [hj] at g
      rw [if_neg (by rw [if_neg (by decide), g]; simp)]
      refine ⟨_, rfl, _, rfl, _, rfl, _, rfl, kl, ?_⟩
      exact k _ ⟨_, _, _, _, _, rfl, by rw [filterMap_succ, hp, List.append_nil], put⟩
    | some j =>
      have hp : proF (pts ts) i = some (j, i) := by unfold proF; rw [hj]; rfl
      rw [hg] at hj
      rw [hj] at g
      rw [if_pos (by rw [if_neg (by decide), g]; rfl)]
      refine ⟨_, rfl, ⟨_, rfl, _, rfl, _, _, rfl, g, _, rfl, l2 _ _, fl, ?_⟩⟩
      refine ⟨_, rfl, _, rfl, _, rfl, _, rfl, kl, ?_⟩
      exact k _ ⟨_, _, _, _, _, rfl, by rw [filterMap_succ, hp, List.map_append]; rfl, put⟩
  · obtain ⟨ks, F, a, b, e, rfl, rfl, L⟩ := hI
    refine ⟨True.intro, ?_⟩
    rw [enD_len, List.length_map]
    exact q ks a b e
theorem bd_pr {ws : List (Nat × Nat)} (h : ∀ p ∈ ws, p.1 < p.2 ∧ p.2 < 64) : BdL 2 (ws.map prI) := by
  intro t ht
  obtain ⟨p, hp, rfl⟩ := List.mem_map.mp ht
  have := h p hp
  refine ⟨rfl, fun k hk => ?_⟩
  simp only [prI, List.mem_cons, List.not_mem_nil, or_false] at hk
  omega
theorem pro_lt (hl : ts.length < 64) : ∀ p ∈ proL (pts ts) ts.length, p.1 < p.2 ∧ p.2 < 64 := fun p hp => by
  have L := mem_proL.mp hp
  exact ⟨L.lt, by have := L.ln; omega⟩
theorem pro_tup {ws : List (Nat × Nat)} : ws.map prD = (ws.map prI).map tupI := by rw [List.map_map]; rfl
theorem linksin_ok (hl : ts.length < 64) (q : Q (.d (.lst ((lkL ts).map prD))) st) : mm_links_in [.part (ts.map triD)] st Q E := by
  unfold mm_links_in RR_links_in mD
  refine ⟨rfl, lkwalk_ok hl fun ks a b e => ?_⟩
  simp only [dFrz, dSeq, dRet, dB, dCons, dVar, dNil]
  refine ⟨_, rfl, rfl, _, rfl, (proL (pts ts) ts.length).map prI, by rw [← pro_tup]; rfl, by have := proL_len (ps := pts ts) (n := ts.length); simp; omega, bd_pr (pro_lt hl), fun zs pz hz => ?_⟩
  obtain ⟨zs, p2, rfl⟩ := perm_map_inv pz
  rw [pr_sort (n := ts.length) (p2.trans pro_law) hz lawL_lt (fun p hp => by have := (mem_lawL.mp hp).ln; omega)]
  rw [← pro_tup]
  exact q
theorem linksN_ok (hl : ts.length < 64) (q : Q (.d (.obj st.length)) (st ++ [.lst ((lkL ts).map prD)])) : mm_linksN [.part (ts.map triD)] st Q E := by
  unfold mm_linksN RR_linksN mD
  refine ⟨rfl, lkwalk_ok hl fun ks a b e => ?_⟩
  simp only [dFrz, dSeq, dRet, dB, dCons, dVar, dNil]
  refine ⟨_, rfl, rfl, _, rfl, (proL (pts ts) ts.length).map prI, by rw [← pro_tup]; rfl, by have := proL_len (ps := pts ts) (n := ts.length); simp; omega, bd_pr (pro_lt hl), fun zs pz hz => ?_⟩
  obtain ⟨zs, p2, rfl⟩ := perm_map_inv pz
  rw [pr_sort (n := ts.length) (p2.trans pro_law) hz lawL_lt (fun p hp => by have := (mem_lawL.mp hp).ln; omega)]
  rw [← pro_tup]
  exact q
/-- [f(j) for j in range(a, b) if q(j)] -/
theorem comp_rng2 {tt : DT} {te : DE} {sl0 : List (Option SV)} {st : List Ob} {k : Nat} {Q : List D → List Ob → Prop} (a n : Nat) (p : Nat → Bool) (f : Nat → D) (hn : n ≤ 100000)
    (hs : ∀ j, a ≤ j → j < a + n → ∀ (K : D → List Ob → Prop) (K0 : List Ob → Prop), (p j = true → K (f j) st) → (p j = false → K0 st) → tt ⟨sl0.set k (some (.d (.int (j : Int)))), st⟩ (fun b st2 => if b = true then te ⟨sl0.set k (some (.d (.int (j : Int)))), st2⟩ K (fun _ _ => False) else K0 st2) (fun _ _ => False))
    (q : Q (((List.range' a n).filter p).map f) st) : dComp (dName k) tt te sl0 (fun _ => True) (rngD (a : Int) n) [] st Q := by
  have e : rngD (a : Int) n = rngD 0 0 ++ natD (List.range' a n) := by
    unfold rngD natD
    rw [List.range'_eq_map_range, List.map_map]
    simp only [List.range_zero, List.map_nil, List.nil_append]
    refine List.map_congr_left fun i _ => ?_
    show D.int _ = D.int _
    congr 1
  rw [e]
  have key : ∀ (l : List Nat) (acc : List D), (∀ j ∈ l, a ≤ j ∧ j < a + n) → acc.length + l.length ≤ 100000 → Q (acc ++ (l.filter p).map f) st → dComp (dName k) tt te sl0 (fun _ => True) (natD l) acc st Q := by
    intro l
    induction l with
    | nil => intro acc _ _ q; exact ⟨True.intro, by simpa using q⟩
    | cons j l ih =>
      intro acc hb hl q
      rw [List.length_cons] at hl
      refine ⟨True.intro, hs j (hb j List.mem_cons_self).1 (hb j List.mem_cons_self).2 (fun y st3 => acc.length < sizeLine ∧ dComp (dName k) tt te sl0 (fun _ => True) (natD l) (acc ++ [y]) st3 Q) (fun st2 => dComp (dName k) tt te sl0 (fun _ => True) (natD l) acc st2 Q) (fun h => ⟨by rw [sizeLine_eq]; omega, ih _ (fun i hi => hb i (List.mem_cons_of_mem _ hi)) (by rw [List.length_append, List.length_singleton]; omega) ?_⟩) (fun h => ih _ (fun i hi => hb i (List.mem_cons_of_mem _ hi)) (by omega) ?_)⟩
      · rw [List.filter_cons_of_pos h, List.map_cons] at q
        rw [List.append_assoc]; exact q
      · rw [List.filter_cons_of_neg (by rw [h]; decide)] at q
        exact q
  exact key (List.range' a n) [] (fun j hj => List.mem_range'_1.mp hj) (by simpa using hn) (by simpa using q)
theorem kNe_nats {l : List Nat} {K : DK} (hl : l.length ≤ 200) (hb : ∀ j ∈ l, j ≤ 100000) (k : K (.bl (!l.isEmpty)) st) : kNe (.lst (natD l)) (.lst []) st K := kEq_nats hl hb ⟨_, rfl, k⟩
theorem lawlinks_ok (hl : ts.length < 64) (q : Q (.ol ((lkL ts).map prD)) st) : mm_law_links [.lst (ts.map triD)] st Q E := by
  simp only [mm_law_links, RR_law_links, mD, dSeq, dNext, dSetO, dNil, dFor, dRng1, dB, dCons, dVar]
  refine ⟨rfl, none0, _, rfl, kLen_lst ⟨_, rfl, by rw [List.length_map]; omega, by rw [List.length_map]; omega, ?_⟩⟩
  rw [List.length_map]
  refine loop_inv (rngD 0 (ts.length : Int).toNat) (fun i s => ∃ F a b e, s = ⟨[some (.d (.lst (ts.map triD))), some (.ol F), a, b, e], st⟩ ∧ F = ((List.range i).filterMap (lawF (pts ts) ts.length)).map prD) ⟨_, _, _, _, rfl, rfl⟩ (fun i d s nx hd hI k => ?_) (fun s hI => ?_)
  · obtain ⟨F, a, b, e, rfl, rfl⟩ := hI
    obtain ⟨hi, rfl⟩ := rng_get hd
    have hi : i < ts.length := by omega
    rw [show ((0 : Int) + (i : Int)) = (i : Int) by omega]
    refine ⟨True.intro, ?_⟩
    simp only [dName, dSeq, dSetC, dLc, dRng2, dIfS, dTest, dBin, dB, dCons, dLst, dNil, dVar, dC, dApO, dTup, dNext]
    refine ⟨_, rfl, ⟨_, rfl, kLen_lst ⟨_, _, rfl, rfl, by rw [List.length_map]; omega, ?_⟩⟩⟩
    rw [List.length_map, show ((i : Int) + 1) = ((i + 1 : Nat) : Int) by omega, show ((ts.length : Int) - ((i + 1 : Nat) : Int)).toNat = ts.length - (i + 1) by omega]
    refine comp_rng2 (i + 1) (ts.length - (i + 1)) (fun j => decide (gi (pts ts) j = gi (pts ts) i)) (fun j => .int (j : Int)) (by omega) (fun j hj hj2 K K0 hK hK0 => ?_) ?_
    · have hj3 : j < ts.length := by omega
      rw [pts_gi hj3, pts_gi hi] at hK hK0
      simp only [dTest, dBin, dVar, dC]
      refine ⟨_, rfl, _, rfl, kIx_nts hj3 (kIx_tri.2.2 ⟨_, rfl, _, rfl, kIx_nts hi (kIx_tri.2.2 (kEqI ⟨_, rfl, ?_⟩))⟩)⟩
      by_cases h : (gt ts j).2.2 = (gt ts i).2.2
      · rw [if_pos (by simpa using h)]
        exact ⟨_, rfl, hK (by simpa using h)⟩
      · rw [if_neg (by simpa using h)]
        exact hK0 (by simpa using h)
    · have eb : ((List.range' (i + 1) (ts.length - (i + 1))).filter fun j => decide (gi (pts ts) j = gi (pts ts) i)).map (fun j : Nat => D.int (j : Int)) = natD (beh (pts ts) ts.length i) := rfl
      rw [eb]
      have bl : (beh (pts ts) ts.length i).length ≤ 100 := by
        unfold beh
        refine Nat.le_trans (List.length_filter_le _ _) (by simp; omega)
      have bb : ∀ j ∈ beh (pts ts) ts.length i, j ≤ 100000 := fun j hj => by
        have := List.mem_range'_1.mp (List.mem_filter.mp hj).1; omega
      refine ⟨_, rfl, none0, kNe_nats (by omega) bb ⟨_, rfl, ?_⟩⟩
      cases hb : beh (pts ts) ts.length i with
      | nil =>
        have hp : lawF (pts ts) ts.length i = none := by unfold lawF; rw [hb]; rfl
        rw [if_neg (by simp)]
        exact k _ ⟨_, _, _, _, rfl, by rw [filterMap_succ, hp, List.append_nil]⟩
      | cons x l =>
        have hp : lawF (pts ts) ts.length i = some (i, x) := by unfold lawF; rw [hb]; rfl
        rw [if_pos (by simp)]
        refine ⟨_, rfl, _, rfl, _, rfl, told_ix (l := natD l) (d := .int (x : Int)) ⟨l2 _ _, ?_, ?_⟩⟩
        · rw [List.length_map, sizeLine_eq]; have := List.length_filterMap_le (lawF (pts ts) ts.length) (List.range i); simp at this; omega
        · exact k _ ⟨_, _, _, _, rfl, by rw [filterMap_succ, hp, List.map_append]; rfl⟩
  · obtain ⟨F, a, b, e, rfl, rfl⟩ := hI
    refine ⟨True.intro, _, rfl, ?_⟩
    rw [rng_len, show ((ts.length : Int)).toNat = ts.length by omega]
    exact q
end
end Kt
set_option maxHeartbeats 400000
/-! Kt56: waits. -/
namespace Kt
open PySem PySem.Spec L2
theorem sort_uniq : ∀ {l m : List Int}, l.Perm m → l.Pairwise (· ≤ ·) → m.Pairwise (· ≤ ·) → l = m
  | [], m, p, _, _ => p.nil_eq
  | z :: zs, [], p, _, _ => by have := p.length_eq; simp at this
  | z :: zs, w :: ws, p, h, hw => by
    have e : z = w := by
      rcases List.mem_cons.mp (p.mem_iff.mp List.mem_cons_self) with e | m
      · exact e
      · rcases List.mem_cons.mp (p.mem_iff.mpr (List.mem_cons_self (a := w) (l := ws))) with e | m2
        · exact e.symm
        · have h1 := (List.pairwise_cons.mp hw).1 z m
          have h2 := (List.pairwise_cons.mp h).1 w m2
          omega
    subst e
    rw [sort_uniq p.cons_inv (List.pairwise_cons.mp h).2 (List.pairwise_cons.mp hw).2]
def isrt (ns : List Int) : List Int := ns.mergeSort fun a b => decide (a ≤ b)
theorem isrt_perm (ns : List Int) : (isrt ns).Perm ns := List.mergeSort_perm _ _
theorem isrt_sorted (ns : List Int) : (isrt ns).Pairwise (· ≤ ·) := by
  have h := List.pairwise_mergeSort (le := fun a b : Int => decide (a ≤ b)) (fun a b c h1 h2 => by simp at *; omega) (fun a b => by simp; omega) ns
  exact h.imp fun {a b} e => by simpa using e
theorem isrt_of {l ns : List Int} (p : l.Perm ns) (h : l.Pairwise (· ≤ ·)) : l = isrt ns := sort_uniq (p.trans (isrt_perm ns).symm) h (isrt_sorted ns)
theorem kSorted_ints {ns : List Int} {K : DK} {st : List Ob} (k : K (.lst ((isrt ns).map D.int)) st) : kSorted [.lst (ns.map D.int)] st K :=
  ⟨_, ns, rfl, intsOf_map _, fun l p h => by rw [isrt_of p h]; exact k⟩
/-- the moments of a wait -/
def wF (ts : List Tri) (T : Int) (p : Nat × Nat) : Int := (gt ts p.1).2.1 + T
def wT (ts : List Tri) (p : Nat × Nat) : Int := (gt ts p.2).1 - 1
def wtL (ts : List Tri) (T : Int) : List (Nat × Nat) := (lkL ts).filter fun p => decide (wF ts T p ≤ wT ts p)
def wrD (ts : List Tri) (T : Int) (p : Nat × Nat) : D := .tup [.int (p.1 : Int), .int (p.2 : Int), .int (wF ts T p), .int (wT ts p)]
def wrP (ts : List Tri) (T : Int) (p : Nat × Nat) : PyData := .tuple [.int (p.1 : Int), .int (p.2 : Int), .int (wF ts T p), .int (wT ts p)]
def onW (ts : List Tri) (T m : Int) (p : Nat × Nat) : Bool := decide (wF ts T p ≤ m) && decide (m ≤ wT ts p)
def wpL (ts : List Tri) (T m : Int) : List Int := isrt (((wtL ts T).filter (onW ts T m)).map fun p => (gt ts p.1).2.2)
theorem wtL_len {ts : List Tri} {T : Int} : (wtL ts T).length ≤ ts.length := Nat.le_trans (List.length_filter_le _ _) lkL_len
theorem wtL_lt {ts : List Tri} {T : Int} {p : Nat × Nat} (h : p ∈ wtL ts T) : p.1 < p.2 ∧ p.2 < ts.length := lkL_lt (List.mem_filter.mp h).1
theorem wpL_len {ts : List Tri} {T m : Int} : (wpL ts T m).length ≤ ts.length := by
  unfold wpL
  rw [(isrt_perm _).length_eq, List.length_map]
  exact Nat.le_trans (List.length_filter_le _ _) wtL_len
theorem l4 (a b c d : D) : [a, b, c, d].length ≤ sizeLine := four a b c d
def RR_wait_rows : DS := (dSeq (dSet (dName 2) (dMethP mm_pnotes (dVar 0) dNil)) (dSeq (dSet (dName 3) (dLstN dNil)) (dSeq (dFor (dIt (dCall mm_links_in (dCons (dVar 0) dNil))) (dUnp 2 (gMore (dName 4) (gMore (dName 5) gNone))) (dSeq (dSet (dName 6) (dBin kAdd (dBin kIx (dBin kIx (dVar 2) (dVar 4)) (dC (.int 1))) (dVar 1))) (dSeq (dSet (dName 7) (dBin kSub (dBin kIx (dBin kIx (dVar 2) (dVar 5)) (dC (.int 0))) (dC (.int 1)))) (dSeq (dIfS (dTest (dBin kLe (dVar 6) (dVar 7))) (dSeq (dDrop (dApN (dVar 3) (dTup (dCons (dVar 4) (dCons (dVar 5) (dCons (dVar 6) (dCons (dVar 7) dNil))))))) dNext) dNext) dNext)))) (dSeq (dRet (dVar 3)) dNext))))
def mm_wait_rows : SpD := mD 8 2 (RR_wait_rows)
def RR_waits : DS := (dSeq (dDrop (dCall mm_needpart (dCons (dVar 0) dNil))) (dSeq (dDrop (dCall mm_need_time (dCons (dVar 1) dNil))) (dSeq (dRet (dCall mm_wait_rows (dCons (dVar 0) (dCons (dVar 1) dNil)))) dNext)))
def mm_waits : SpD := mD 2 2 (RR_waits)
def RR_Part_note : DS := (dSeq (dIfS (dNot (dTest (dCall m_isint (dCons (dVar 1) (dCons (dC (.int 0)) (dCons (dBin kSub (dB kLen (dCons (dPn (dVar 0)) dNil)) (dC (.int 1))) dNil)))))) (dSeq dNo dNext) dNext) (dSeq (dRet (dBin kIx (dPn (dVar 0)) (dVar 1))) dNext))
def mm_Part_note : SpD := mD 2 2 (RR_Part_note)
def RR_waiting_pitches : DS := (dSeq (dSetC 3 (dLc (dIt (dCallZ mm_wait_rows (dCons (dVar 0) (dCons (dVar 1) dNil)))) (dName 4) (dTest (dChain kLe kLe (dBin kIx (dVar 4) (dC (.int 2))) (dVar 2) (dBin kIx (dVar 4) (dC (.int 3))))) (dVar 4) [4])) (dSeq (dRet (dB kSorted (dCons (dLcE (dLc (dIt (dVar 3)) (dName 4) dYes (dBin kIx (dMethP mm_Part_note (dVar 0) (dCons (dBin kIx (dVar 4) (dC (.int 0))) dNil)) (dC (.int 2))) [4])) dNil))) dNext))
def mm_waiting_pitches : SpD := mD 5 3 (RR_waiting_pitches)
def RR_waiting : DS := (dSeq (dDrop (dCall mm_needpart (dCons (dVar 0) dNil))) (dSeq (dDrop (dCall mm_need_time (dCons (dVar 1) dNil))) (dSeq (dDrop (dCall mm_needmoment (dCons (dVar 2) dNil))) (dSeq (dRet (dCall mm_waiting_pitches (dCons (dVar 0) (dCons (dVar 1) (dCons (dVar 2) dNil))))) dNext))))
def mm_waiting : SpD := mD 3 3 (RR_waiting)
def RR_law_waits : DS := (dSeq (dSetC 2 (dLc (dIt (dCall mm_law_links (dCons (dVar 0) dNil))) (dUnp 2 (gMore (dName 3) (gMore (dName 4) gNone))) dYes (dTup (dCons (dVar 3) (dCons (dVar 4) (dCons (dBin kAdd (dBin kIx (dBin kIx (dVar 0) (dVar 3)) (dC (.int 1))) (dVar 1)) (dCons (dBin kSub (dBin kIx (dBin kIx (dVar 0) (dVar 4)) (dC (.int 0))) (dC (.int 1))) dNil))))) [3, 4])) (dSeq (dRet (dLcE (dLc (dIt (dVar 2)) (dName 5) (dTest (dBin kLe (dBin kIx (dVar 5) (dC (.int 2))) (dBin kIx (dVar 5) (dC (.int 3))))) (dVar 5) [5]))) dNext))
def mm_law_waits : SpD := mD 6 2 (RR_law_waits)
def RR_still : DS := (dSeq (dDrop (dCall mm_needpart (dCons (dVar 0) dNil))) (dSeq (dDrop (dCall mm_need_time (dCons (dVar 1) dNil))) (dSeq (dSet (dName 2) (dC (.int 0))) (dSeq (dFor (dIt (dCall mm_turns (dCons (dVar 0) (dCons (dVar 1) dNil)))) (dName 3) (dSeq (dSet (dName 2) (dB kMax2 (dCons (dVar 2) (dCons (dBin kAdd (dB kLen (dCons (dCall mm_busyp (dCons (dVar 0) (dCons (dVar 1) (dCons (dVar 3) dNil)))) dNil)) (dB kLen (dCons (dCall mm_waiting_pitches (dCons (dVar 0) (dCons (dVar 1) (dCons (dVar 3) dNil)))) dNil))) dNil)))) dNext)) (dSeq (dRet (dVar 2)) dNext)))))
def mm_still : SpD := mD 4 2 (RR_still)

section
variable {st : List Ob} {Q : SV → List Ob → Prop} {E : XK'} {ts : List Tri}
theorem pr0 {p : Nat × Nat} {K : DK} (k : K (.int (p.1 : Int)) st) : kIx (prD p) (.int 0) st K := ix_seq_of (ds := [.int (p.1 : Int), .int (p.2 : Int)]) rfl rfl rfl k
theorem wr0 {T : Int} {p : Nat × Nat} {K : DK} (k : K (.int (p.1 : Int)) st) : kIx (wrD ts T p) (.int 0) st K := ix_seq_of (ds := [.int (p.1 : Int), .int (p.2 : Int), .int (wF ts T p), .int (wT ts p)]) rfl rfl rfl k
theorem wr2 {T : Int} {p : Nat × Nat} {K : DK} (k : K (.int (wF ts T p)) st) : kIx (wrD ts T p) (.int 2) st K := ix_seq_of (ds := [.int (p.1 : Int), .int (p.2 : Int), .int (wF ts T p), .int (wT ts p)]) rfl rfl rfl k
theorem wr3 {T : Int} {p : Nat × Nat} {K : DK} (k : K (.int (wT ts p)) st) : kIx (wrD ts T p) (.int 3) st K := ix_seq_of (ds := [.int (p.1 : Int), .int (p.2 : Int), .int (wF ts T p), .int (wT ts p)]) rfl rfl rfl k
theorem filter_take_succ {α : Type} {p : α → Bool} {l : List α} {i : Nat} {x : α} (h : l[i]? = some x) : (l.take (i + 1)).filter p = (l.take i).filter p ++ if p x = true then [x] else [] := by
  rw [take_succ_get h, List.filter_append]
  congr 1
  by_cases hp : p x = true
  · rw [if_pos hp, List.filter_cons_of_pos hp]; rfl
  · rw [if_neg hp, List.filter_cons_of_neg hp]; rfl
theorem waitrows_ok {T : Int} (hl : ts.length < 64) (q : Q (.d (.obj st.length)) (st ++ [.lst ((wtL ts T).map (wrD ts T))])) : mm_wait_rows [.part (ts.map triD), .int T] st Q E := by
  simp only [mm_wait_rows, RR_wait_rows, mD, dSeq, dNext, dSet, dLstN, dNil, dName, dFor, dIt, dCall, dMethP, dCons, dVar]
  refine ⟨rfl, _, rfl, ⟨_, rfl⟩, pnotes_ok ⟨rfl, none0, _, rfl, linksin_ok hl ⟨rfl, _, rfl, ?_⟩⟩⟩
  refine loop_inv ((lkL ts).map prD) (fun i s => ∃ (F : List D) (a b e f : Option SV), s = ⟨[some (.d (.part (ts.map triD))), some (.d (.int T)), some (.d (.lst (ts.map triD))), some (.d (.obj st.length)), a, b, e, f], st ++ [.lst F]⟩ ∧ F = (((lkL ts).take i).filter fun p => decide (wF ts T p ≤ wT ts p)).map (wrD ts T)) ⟨[], none, none, none, none, rfl, rfl⟩ (fun i d s nx hd hI kk => ?_) (fun s hI => ?_)
  · obtain ⟨F, a, b, e, f, rfl, hF⟩ := hI
    obtain ⟨p, hp, rfl⟩ := el_get hd
    obtain ⟨p1, p2⟩ := lkL_lt (List.mem_of_getElem? hp)
    have hF' := congrArg (List.map (wrD ts T)) (filter_take_succ (p := fun p => decide (wF ts T p ≤ wT ts p)) hp)
    rw [List.map_append, ← hF] at hF'
    have hFl : F.length ≤ 64 := by
      rw [hF, List.length_map]
      refine Nat.le_trans (List.length_filter_le _ _) ?_
      rw [List.length_take]
      have := lkL_len (ts := ts); omega
    refine ⟨True.intro, ?_⟩
    simp only [dUnp, gMore, gNone, dName, dSeq, dSet, dBin, dC, dVar, dIfS, dTest, dDrop, dApN, dTup, dCons, dNil, dNext]
    refine ⟨_, rfl, rfl, _, _, rfl, _, _, rfl, rfl, ?_⟩
    refine ⟨_, rfl, _, rfl, kIx_nts (by omega) (kIx_tri.2.1 ⟨_, rfl, ?_⟩)⟩
    refine ⟨_, rfl, _, rfl, kIx_nts p2 (kIx_tri.1 ⟨True.intro, ?_⟩)⟩
    refine ⟨_, rfl, _, rfl, True.intro, _, rfl, ?_⟩
    by_cases h : wF ts T p ≤ wT ts p
    · rw [if_pos (by simpa using h)] at hF'
      dsimp only
      rw [if_pos (show decide ((gt ts p.1).2.1 + T ≤ (gt ts p.2).1 - 1) = true from decide_eq_true h)]
      refine ⟨_, rfl, ⟨_, _, rfl, app_get⟩, _, rfl, _, rfl, _, rfl, _, rfl, four _ _ _ _, _, _, rfl, app_get, by rw [sizeLine_eq]; omega, ?_⟩
      rw [app_set]
      exact kk _ ⟨_, _, _, _, _, rfl, hF'.symm⟩
    · rw [if_neg (by simpa using h)] at hF'
      dsimp only
      rw [if_neg (show ¬ decide ((gt ts p.1).2.1 + T ≤ (gt ts p.2).1 - 1) = true by rw [decide_eq_true_eq]; exact h)]
      exact kk _ ⟨_, _, _, _, _, rfl, by rw [hF', List.map_nil, List.append_nil]⟩
  · obtain ⟨F, a, b, e, f, rfl, hF⟩ := hI
    rw [List.length_map, List.take_length] at hF
    subst hF
    exact ⟨True.intro, _, rfl, q⟩
theorem ltO_wr (T : Int) (k : Nat) : ∀ l : List (Nat × Nat), ltOA k (l.map (wrD ts T)) = true
  | [] => by simp [ltOA]
  | p :: l => by rw [List.map_cons]; simp only [ltOA, ltO, wrD, ltO_wr T k l, Bool.and_true]
theorem pnote_ok {j : Nat} (h : j < ts.length) (hl : ts.length ≤ 1000) (q : Q (.d (triD (gt ts j))) st) : mm_Part_note [.part (ts.map triD), .int (j : Int)] st Q E := by
  simp only [mm_Part_note, RR_Part_note, mD, dSeq, dIfS, dNot, dTest, dCall, dB, dBin, dPn, dCons, dNil, dVar, dC, dRet, dNext]
  refine ⟨rfl, _, rfl, _, rfl, _, rfl, kLen_lst ⟨True.intro, isint_ok (t := "int") rfl ⟨rfl, _, rfl, ?_⟩⟩⟩
  rw [if_neg (by simp only [isI, List.length_map]; simp; omega)]
  exact ⟨_, rfl, _, rfl, _, rfl, kIx_nts h q⟩
theorem waitp_ok {T m : Int} (hl : ts.length < 64) (q : Q (.d (.lst ((wpL ts T m).map D.int))) st) : mm_waiting_pitches [.part (ts.map triD), .int T, .int m] st Q E := by
  simp only [mm_waiting_pitches, RR_waiting_pitches, mD, dSeq, dNext, dSetC, dLc, dLcE, dIt, dCallZ, dCons, dNil, dVar, dRet, dB]
  refine ⟨rfl, _, rfl, _, rfl, waitrows_ok hl ⟨_, _, rfl, Nat.le_refl _, app_get, ltO_wr _ _ _, ⟨_, rfl⟩, _, rfl, ?_⟩⟩
  have h1 := wtL_len (ts := ts) (T := T)
  refine comp_el (wrD ts T) (wtL ts T) (onW ts T m) (wrD ts T) True.intro (by omega) (fun p hp K K0 hK hK0 => ?_) ?_
  · simp only [dName, dTest, dChain, dBin, dVar, dC]
    refine ⟨_, rfl, wr2 ⟨_, rfl, ⟨True.intro, _, rfl, ?_⟩⟩⟩
    unfold onW at hK hK0
    by_cases h : wF ts T p ≤ m
    · rw [if_pos (by simpa using h)]
      rw [decide_eq_true h, Bool.true_and] at hK hK0
      refine ⟨_, rfl, wr3 ⟨True.intro, _, rfl, ?_⟩⟩
      by_cases h2 : m ≤ wT ts p
      · rw [if_pos (by simpa using h2)]; exact ⟨_, rfl, hK (by simpa using h2)⟩
      · rw [if_neg (by simpa using h2)]; exact hK0 (by simpa using h2)
    · rw [if_neg (by simpa using h)]
      rw [decide_eq_false h, Bool.false_and] at hK0
      exact ⟨_, rfl, hK0 rfl⟩
  refine ⟨_, rfl, _, rfl, ?_⟩
  have h2 : ((wtL ts T).filter (onW ts T m)).length ≤ 100 := Nat.le_trans (List.length_filter_le _ _) (by omega)
  refine comp_el (wrD ts T) ((wtL ts T).filter (onW ts T m)) (fun _ => true) (fun p => .int (gt ts p.1).2.2) True.intro (by omega) (fun p hp K K0 hK hK0 => ?_) ?_
  · have h3 := wtL_lt (List.mem_filter.mp hp).1
    simp only [dName, dYes, if_true, dBin, dMethP, dCons, dNil, dVar, dC]
    exact ⟨_, rfl, ⟨_, rfl⟩, _, rfl, wr0 (pnote_ok (by omega) (by omega) ⟨rfl, kIx_tri.2.2 (hK rfl)⟩)⟩
  rw [List.filter_eq_self.mpr (by simp)]
  have e : ((wtL ts T).filter (onW ts T m)).map (fun p => D.int (gt ts p.1).2.2) = (((wtL ts T).filter (onW ts T m)).map fun p => (gt ts p.1).2.2).map D.int := by rw [List.map_map]; rfl
  rw [e]
  exact kSorted_ints q
theorem waits_ok {T : Int} (hl : ts.length < 64) (hT : 1 ≤ T ∧ T ≤ 9999) (q : Q (.d (.obj st.length)) (st ++ [.lst ((wtL ts T).map (wrD ts T))])) : mm_waits [.part (ts.map triD), .int T] st Q E := by
  simp only [mm_waits, RR_waits, mD, dSeq, dRet, dDrop, dCall, dCons, dNil, dVar]
  exact ⟨rfl, _, rfl, pneed_ok ⟨rfl, _, rfl, time_need (t := "int") rfl (fun _ => ⟨rfl, _, rfl, _, rfl, waitrows_ok hl ⟨rfl, q⟩⟩) fun z => absurd z (by simp [isI]; omega)⟩⟩
theorem waiting_ok {T m : Int} (hl : ts.length < 64) (hT : 1 ≤ T ∧ T ≤ 9999) (hm : 0 ≤ m ∧ m ≤ 19998) (q : Q (.d (.lst ((wpL ts T m).map D.int))) st) : mm_waiting [.part (ts.map triD), .int T, .int m] st Q E := by
  simp only [mm_waiting, RR_waiting, mD, dSeq, dRet, dDrop, dCall, dCons, dNil, dVar]
  exact ⟨rfl, _, rfl, pneed_ok ⟨rfl, _, rfl, time_need (t := "int") rfl (fun _ => ⟨rfl, _, rfl, moment_need (t := "int") rfl (fun _ => ⟨rfl, _, rfl, _, rfl, _, rfl, waitp_ok hl ⟨rfl, q⟩⟩) fun z => absurd z (by simp [isI]; omega)⟩) fun z => absurd z (by simp [isI]; omega)⟩⟩
theorem lawwaits_ok {T : Int} (hl : ts.length < 64) (q : Q (.d (.lst ((wtL ts T).map (wrD ts T)))) st) : mm_law_waits [.lst (ts.map triD), .int T] st Q E := by
  have h1 := lkL_len (ts := ts)
  simp only [mm_law_waits, RR_law_waits, mD, dSeq, dNext, dSetC, dLc, dLcE, dIt, dCall, dCons, dNil, dVar, dRet]
  refine ⟨rfl, _, rfl, lawlinks_ok hl ⟨rfl, _, rfl, ?_⟩⟩
  refine comp_el prD (lkL ts) (fun _ => true) (wrD ts T) True.intro (by omega) (fun p hp K K0 hK hK0 => ?_) ?_
  · obtain ⟨p1, p2⟩ := lkL_lt hp
    simp only [dUnp, gMore, gNone, dName, dYes, if_true, dTup, dCons, dNil, dBin, dVar, dC]
    refine ⟨_, rfl, rfl, _, _, rfl, _, _, rfl, rfl, ?_⟩
    refine ⟨_, rfl, _, rfl, _, rfl, _, rfl, kIx_nts (by omega) (kIx_tri.2.1 ⟨_, rfl, ?_⟩)⟩
    refine ⟨_, rfl, _, rfl, kIx_nts p2 (kIx_tri.1 ⟨True.intro, four _ _ _ _, hK rfl⟩)⟩
  rw [List.filter_eq_self.mpr (by simp)]
  refine ⟨_, rfl, _, rfl, ?_⟩
  refine comp_el (wrD ts T) (lkL ts) (fun p => decide (wF ts T p ≤ wT ts p)) (wrD ts T) True.intro (by omega) (fun p hp K K0 hK hK0 => ?_) ?_
  · simp only [dName, dTest, dBin, dVar, dC]
    refine ⟨_, rfl, wr2 ⟨_, rfl, wr3 ⟨True.intro, _, rfl, ?_⟩⟩⟩
    dsimp only
    by_cases h : wF ts T p ≤ wT ts p
    · rw [if_pos (by simpa using h)]; exact ⟨_, rfl, hK (by simpa using h)⟩
    · rw [if_neg (by simpa using h)]; exact hK0 (by simpa using h)
  exact q
theorem still_ok {T : Int} (hl : ts.length ≤ 31) (hT : 1 ≤ T ∧ T ≤ 9999) (q : ∀ k : Int, Q (.d (.int k)) st) : mm_still [.part (ts.map triD), .int T] st Q E := by
  simp only [mm_still, RR_still, mD, dSeq, dNext, dSet, dDrop, dName, dC, dFor, dIt, dCall, dCons, dNil, dVar]
  refine ⟨rfl, _, rfl, pneed_ok ⟨rfl, _, rfl, time_need (t := "int") rfl (fun _ => ⟨rfl, _, rfl, _, rfl, turns_ok hl ⟨rfl, _, rfl, ?_⟩⟩) fun z => absurd z (by simp [isI]; omega)⟩⟩
  refine loop_inv ((trn ts T).map D.int) (fun i s => ∃ (k : Int) (a : Option SV), s = ⟨[some (.d (.part (ts.map triD))), some (.d (.int T)), some (.d (.int k)), a], st⟩) ⟨_, _, rfl⟩ (fun i d s nx hd hI kk => ?_) (fun s hI => ?_)
  · obtain ⟨k, a, rfl⟩ := hI
    obtain ⟨m, hm, rfl⟩ := ints_get hd
    refine ⟨True.intro, ?_⟩
    simp only [dName, dSeq, dSet, dB, dBin, dCall, dCons, dNil, dVar, dNext]
    refine ⟨_, rfl, _, rfl, _, rfl, _, rfl, busyp_ok (by omega) ⟨rfl, kLen_lst ?_⟩⟩
    refine ⟨_, rfl, _, rfl, _, rfl, waitp_ok (by omega) ⟨rfl, kLen_lst (kAddI (kmax fun x _ _ _ => ?_))⟩⟩
    exact kk _ ⟨_, _, rfl⟩
  · obtain ⟨k, a, rfl⟩ := hI
    refine ⟨True.intro, ?_⟩
    simp only [dRet, dVar]
    exact ⟨_, rfl, q k⟩
end
/-- the law's own loop, with the number of slots at the end -/
theorem lw_lawL {lo hi : Int} {tb rest : DS} {ns : List Int} {Q : SV → List Ob → Prop} {E : XK'} {m : Nat} (hm : 2 ≤ m) (hlo : 0 ≤ lo ∧ lo ≤ 63) (hhi : hi ≤ 63) (hns : ns.length ≤ 63)
    (hs : ∀ (i : Nat) (sl : List (Option SV)) (st : List Ob) (De : DEnds), i < 63 → sl.length = m → sl[0]? = some (some (.d (.frl (ns.map D.int)))) → sl[1]? = some (some (.d (.int (i : Int)))) → (∀ sl' st', sl'.length = m → sl'[0]? = some (some (.d (.frl (ns.map D.int)))) → De.nx ⟨sl', st'⟩) → tb De ⟨sl, st⟩)
    (hr : ∀ (sl : List (Option SV)) (st : List Ob) (De : DEnds), sl.length = m → De.rt = Q → rest De ⟨sl, st⟩) :
    mD m 1 (dSeq (dFor (dRng1 (dB kMax2 (dCons (dC (.int lo)) (dCons (dB kMin2 (dCons (dC (.int hi)) (dCons (dB kLen (dCons (dVar 0) dNil)) dNil))) dNil)))) (dName 1) tb) rest) [.frl (ns.map D.int)] [] Q E := by
  simp only [mD, dSeq, dFor, dRng1, dB, dCons, dNil, dVar, dC, dName]
  have hlen : (ns.map D.int).length = ns.length := List.length_map ..
  refine ⟨rfl, _, rfl, len_seq_of rfl rfl (kmin fun k1 m1 m2 m3 => kmax fun k k1 k2 k3 => ⟨k, rfl, by omega, by omega, ?_⟩)⟩
  refine loop_inv (rngD 0 k.toNat) (fun i s => s.sl.length = m ∧ s.sl[0]? = some (some (.d (.frl (ns.map D.int))))) ⟨by simp; omega, rfl⟩ (fun i d s nx hd hI kk => ?_) (fun s hI => ?_)
  · obtain ⟨hi, rfl⟩ := rng_get hd
    obtain ⟨h1, h2⟩ := hI
    refine ⟨True.intro, ?_⟩
    refine hs i _ _ _ (by omega) (by rw [List.length_set]; exact h1) (by rw [List.getElem?_set_ne (by decide)]; exact h2) ?_ fun sl' st' g1 g2 => kk ⟨sl', st'⟩ ⟨g1, g2⟩
    rw [List.getElem?_set_self (by omega), show ((0 : Int) + (i : Int)) = (i : Int) by omega]
  · exact ⟨True.intro, hr s.sl s.st _ hI.1 rfl⟩
end Kt
set_option maxHeartbeats 4000000
namespace K34
open PySem PySem.Spec L2 Kt
open PyProof.Rows (envOfC)
def top (i : Nat) : Stmt := PySem.Challenge.pw_kettletones_k34_moments_that_show_a_crow.main.body.getD i (.Pass ⟨0, 0, 0, 0⟩)
def xnms : List String := ["BadNote", "BadPart", "BadTime", "BadDrums", "Overlap"]
abbrev st_BadNote : Stmt := inClass (top 5) 0
abbrev st_BadPart : Stmt := inClass (top 6) 0
abbrev st_BadTime : Stmt := inClass (top 7) 0
abbrev st_BadDrums : Stmt := inClass (top 8) 0
abbrev st_Overlap : Stmt := inClass (top 9) 0
abbrev st_is_integer : Stmt := top 12
abbrev N_is_integer : List Str := ["value", "low", "high"]
theorem sc_is_integer : FnScope N_is_integer ["value", "low", "high"] (defScope st_is_integer) := ⟨rfl, rfl, rfl, by decide +kernel, rfl, by decide +kernel, by decide +kernel⟩
def r_is_integer : DS := (dSeq (dRet (dAndV (dIsi "int" (dVar 0)) (dAndV (dNotV (dIsi "bool" (dVar 0))) (dChain kLe kLe (dVar 1) (dVar 0) (dVar 2))))) dNext)
def m_is_integer : SpD := mD 3 3 (r_is_integer)
abbrev st_is_list : Stmt := top 13
abbrev N_is_list : List Str := ["value", "most"]
theorem sc_is_list : FnScope N_is_list ["value", "most"] (defScope st_is_list) := ⟨rfl, rfl, rfl, by decide +kernel, rfl, by decide +kernel, by decide +kernel⟩
def r_is_list : DS := (dSeq (dRet (dAndV (dIsi2 "list" "tuple" (dVar 0)) (dBin kLe (dB kLen (dCons (dVar 0) dNil)) (dVar 1)))) dNext)
def m_is_list : SpD := mD 2 2 (r_is_list)
abbrev st_is_pitch : Stmt := top 18
abbrev N_is_pitch : List Str := ["value"]
theorem sc_is_pitch : FnScope N_is_pitch ["value"] (defScope st_is_pitch) := ⟨rfl, rfl, rfl, by decide +kernel, rfl, by decide +kernel, by decide +kernel⟩
def r_is_pitch : DS := (dSeq (dRet (dCall m_is_integer (dCons (dVar 0) (dCons (dC (.int 0)) (dCons (dC (.int 119)) dNil))))) dNext)
def m_is_pitch : SpD := mD 1 1 (r_is_pitch)
abbrev st_is_note : Stmt := top 25
abbrev N_is_note : List Str := ["value", "start", "end", "pitch"]
theorem sc_is_note : FnScope N_is_note ["value"] (defScope st_is_note) := ⟨rfl, rfl, rfl, by decide +kernel, rfl, by decide +kernel, by decide +kernel⟩
def r_is_note : DS := (dSeq (dIfS (dOr (dNot (dTest (dIsi "tuple" (dVar 0)))) (dTest (dBin kNe (dB kLen (dCons (dVar 0) dNil)) (dC (.int 3))))) (dSeq (dRet (dC (.bl false))) dNext) dNext) (dSeq (dSet (dUnp 3 (gMore (dName 1) (gMore (dName 2) (gMore (dName 3) gNone)))) (dVar 0)) (dSeq (dRet (dAndV (dCall m_is_integer (dCons (dVar 1) (dCons (dC (.int 0)) (dCons (dC (.int 9999)) dNil)))) (dAndV (dCall m_is_integer (dCons (dVar 2) (dCons (dVar 1) (dCons (dC (.int 9999)) dNil)))) (dCall m_is_pitch (dCons (dVar 3) dNil))))) dNext)))
def m_is_note : SpD := mD 4 1 (r_is_note)
abbrev st_need_note : Stmt := top 26
abbrev N_need_note : List Str := ["note"]
theorem sc_need_note : FnScope N_need_note ["note"] (defScope st_need_note) := ⟨rfl, rfl, rfl, by decide +kernel, rfl, by decide +kernel, by decide +kernel⟩
def r_need_note : DS := (dSeq (dIfS (dNot (dTest (dCall m_is_note (dCons (dVar 0) dNil)))) (dSeq (dRaise1 "BadNote" "found" (dCons (dVar 0) dNil)) dNext) dNext) dNext)
def m_need_note : SpD := mD 1 1 (r_need_note)
abbrev st_is_moment : Stmt := top 27
abbrev N_is_moment : List Str := ["value"]
theorem sc_is_moment : FnScope N_is_moment ["value"] (defScope st_is_moment) := ⟨rfl, rfl, rfl, by decide +kernel, rfl, by decide +kernel, by decide +kernel⟩
def r_is_moment : DS := (dSeq (dRet (dCall m_is_integer (dCons (dVar 0) (dCons (dC (.int 0)) (dCons (dC (.int 19998)) dNil))))) dNext)
def m_is_moment : SpD := mD 1 1 (r_is_moment)
abbrev st_Part___init__ : Stmt := inClass (top 29) 0
abbrev N_Part___init__ : List Str := ["self", "notes", "note", "lasts", "pitch"]
theorem sc_Part___init__ : FnScope N_Part___init__ ["self", "notes"] (defScope st_Part___init__) := ⟨rfl, rfl, rfl, by decide +kernel, rfl, by decide +kernel, by decide +kernel⟩
def r_Part___init__ : DS := (dSeq (dIfS (dNot (dTest (dCall m_is_list (dCons (dVar 1) (dCons (dC (.int 60)) dNil))))) (dSeq (dRaise1 "BadPart" "found" (dCons (dVar 1) dNil)) dNext) dNext) (dSeq (dFor (dIt (dVar 1)) (dName 2) (dSeq (dDrop (dCall m_need_note (dCons (dVar 2) dNil))) dNext)) (dSeq (dFldO 0 "part_notes" (dB kSortT (dCons (dVar 1) dNil))) (dSeq (dSetD 3) (dSeq (dFor (dIt (dFldG 0 "part_notes")) (dName 2) (dSeq (dSet (dName 4) (dBin kIx (dVar 2) (dC (.int 2)))) (dSeq (dIfS (dAnd (dTest (dInO false 3 (dVar 4))) (dTest (dBin kLe (dBin kIx (dVar 2) (dC (.int 0))) (dBin kIx (dGetO 3 (dVar 4)) (dC (.int 1)))))) (dSeq (dRaise2 "Overlap" "one" "other" (dCons (dGetO 3 (dVar 4)) (dCons (dVar 2) dNil))) dNext) dNext) (dSeq (dDPutO 3 (dVar 4) (dVar 2)) dNext)))) dNext)))))
def m_Part___init__ : SpI := mI "Part" 5 2 (r_Part___init__)
abbrev st_Part_notes : Stmt := inClass (top 29) 5
abbrev N_Part_notes : List Str := ["self"]
theorem sc_Part_notes : FnScope N_Part_notes ["self"] (defScope st_Part_notes) := ⟨rfl, rfl, rfl, by decide +kernel, rfl, by decide +kernel, by decide +kernel⟩
def r_Part_notes : DS := (dSeq (dRet (dB kList (dCons (dPn (dVar 0)) dNil))) dNext)
def m_Part_notes : SpD := mD 1 1 (r_Part_notes)
abbrev st_need_part : Stmt := top 30
abbrev N_need_part : List Str := ["part"]
theorem sc_need_part : FnScope N_need_part ["part"] (defScope st_need_part) := ⟨rfl, rfl, rfl, by decide +kernel, rfl, by decide +kernel, by decide +kernel⟩
def r_need_part : DS := (dSeq (dIfS (dNot (dTest (dIsP (dVar 0)))) (dSeq (dRaise1 "BadPart" "found" (dCons (dVar 0) dNil)) dNext) dNext) dNext)
def m_need_part : SpD := mD 1 1 (r_need_part)
abbrev st_need_time : Stmt := top 32
abbrev N_need_time : List Str := ["time"]
theorem sc_need_time : FnScope N_need_time ["time"] (defScope st_need_time) := ⟨rfl, rfl, rfl, by decide +kernel, rfl, by decide +kernel, by decide +kernel⟩
def r_need_time : DS := (dSeq (dIfS (dNot (dTest (dCall m_is_integer (dCons (dVar 0) (dCons (dC (.int 1)) (dCons (dC (.int 9999)) dNil)))))) (dSeq (dRaise1 "BadTime" "found" (dCons (dVar 0) dNil)) dNext) dNext) dNext)
def m_need_time : SpD := mD 1 1 (r_need_time)
abbrev st_is_busy : Stmt := top 33
abbrev N_is_busy : List Str := ["note", "time", "moment"]
theorem sc_is_busy : FnScope N_is_busy ["note", "time", "moment"] (defScope st_is_busy) := ⟨rfl, rfl, rfl, by decide +kernel, rfl, by decide +kernel, by decide +kernel⟩
def r_is_busy : DS := (dSeq (dRet (dChain kLe kLt (dBin kIx (dVar 0) (dC (.int 0))) (dVar 2) (dBin kAdd (dBin kIx (dVar 0) (dC (.int 1))) (dVar 1)))) dNext)
def m_is_busy : SpD := mD 3 3 (r_is_busy)
abbrev st_busy_pitches : Stmt := top 34
abbrev N_busy_pitches : List Str := ["part", "time", "moment", "note"]
theorem sc_busy_pitches : FnScope N_busy_pitches ["part", "time", "moment"] (defScope st_busy_pitches) := ⟨rfl, rfl, rfl, by decide +kernel, rfl, by decide +kernel, by decide +kernel⟩
def r_busy_pitches : DS := (dSeq (dRet (dSortSc (dIt (dMethP m_Part_notes (dVar 0) dNil)) (dName 3) (dTest (dCall m_is_busy (dCons (dVar 3) (dCons (dVar 1) (dCons (dVar 2) dNil))))) (dBin kIx (dVar 3) (dC (.int 2))) [3])) dNext)
def m_busy_pitches : SpD := mD 4 3 (r_busy_pitches)
abbrev st_is_drum : Stmt := top 37
abbrev N_is_drum : List Str := ["value", "drums"]
theorem sc_is_drum : FnScope N_is_drum ["value", "drums"] (defScope st_is_drum) := ⟨rfl, rfl, rfl, by decide +kernel, rfl, by decide +kernel, by decide +kernel⟩
def r_is_drum : DS := (dSeq (dRet (dCall m_is_integer (dCons (dVar 0) (dCons (dC (.int 1)) (dCons (dVar 1) dNil))))) dNext)
def m_is_drum : SpD := mD 2 2 (r_is_drum)
abbrev st_need_drums : Stmt := top 38
abbrev N_need_drums : List Str := ["drums"]
theorem sc_need_drums : FnScope N_need_drums ["drums"] (defScope st_need_drums) := ⟨rfl, rfl, rfl, by decide +kernel, rfl, by decide +kernel, by decide +kernel⟩
def r_need_drums : DS := (dSeq (dIfS (dNot (dTest (dCall m_is_drum (dCons (dVar 0) (dCons (dC (.int 12)) dNil))))) (dSeq (dRaise1 "BadDrums" "found" (dCons (dVar 0) dNil)) dNext) dNext) dNext)
def m_need_drums : SpD := mD 1 1 (r_need_drums)
abbrev st_shows_crowd : Stmt := top 40
abbrev N_shows_crowd : List Str := ["part", "time", "drums", "moment"]
theorem sc_shows_crowd : FnScope N_shows_crowd ["part", "time", "drums", "moment"] (defScope st_shows_crowd) := ⟨rfl, rfl, rfl, by decide +kernel, rfl, by decide +kernel, by decide +kernel⟩
def r_shows_crowd : DS := (dSeq (dDrop (dCall m_need_part (dCons (dVar 0) dNil))) (dSeq (dDrop (dCall m_need_time (dCons (dVar 1) dNil))) (dSeq (dDrop (dCall m_need_drums (dCons (dVar 2) dNil))) (dSeq (dRet (dAndV (dCall m_is_moment (dCons (dVar 3) dNil)) (dBin kGt (dB kLen (dCons (dCall m_busy_pitches (dCons (dVar 0) (dCons (dVar 1) (dCons (dVar 3) dNil)))) dNil)) (dVar 2)))) dNext))))
def m_shows_crowd : SpD := mD 4 4 (r_shows_crowd)
abbrev st_law_cell : Stmt := top 42
abbrev N_law_cell : List Str := ["script", "k"]
theorem sc_law_cell : FnScope N_law_cell ["script", "k"] (defScope st_law_cell) := ⟨rfl, rfl, rfl, by decide +kernel, rfl, by decide +kernel, by decide +kernel⟩
def r_law_cell : DS := (dSeq (dIfS (dTest (dBin kLt (dVar 1) (dB kLen (dCons (dVar 0) dNil)))) (dSeq (dRet (dBin kIx (dVar 0) (dVar 1))) dNext) dNext) (dSeq (dRet (dBin kAdd (dBin kMul (dC (.int 49979687)) (dVar 1)) (dC (.int 85)))) dNext))
def m_law_cell : SpD := mD 2 2 (r_law_cell)
abbrev st_law_box : Stmt := top 43
abbrev N_law_box : List Str := ["cell"]
theorem sc_law_box : FnScope N_law_box ["cell"] (defScope st_law_box) := ⟨rfl, rfl, rfl, by decide +kernel, rfl, by decide +kernel, by decide +kernel⟩
def r_law_box : DS := (dSeq (dRet (dLstN (dCons (dB kMax2 (dCons (dC (.int 0)) (dCons (dBin kSub (dVar 0) (dBin kPow (dC (.int 10)) (dC (.int 18)))) dNil))) (dCons (dBin kMod (dVar 0) (dC (.int 2147483629))) (dCons (dC (.int 0)) dNil))))) dNext)
def m_law_box : SpD := mD 1 1 (r_law_box)
abbrev st_law_take : Stmt := top 44
abbrev N_law_take : List Str := ["box", "many", "digit", "one", "two"]
theorem sc_law_take : FnScope N_law_take ["box", "many"] (defScope st_law_take) := ⟨rfl, rfl, rfl, by decide +kernel, rfl, by decide +kernel, by decide +kernel⟩
def r_law_take : DS := (dSeq (dIfS (dTest (dBin kGt (dBin kIx (dVar 0) (dC (.int 0))) (dC (.int 0)))) (dSeq (dSet (dName 2) (dBin kMod (dBin kIx (dVar 0) (dC (.int 0))) (dVar 1))) (dSeq (dPutN (dVar 0) (dC (.int 0)) (dBin kDiv (dBin kIx (dVar 0) (dC (.int 0))) (dVar 1))) (dSeq (dRet (dVar 2)) dNext))) dNext) (dSeq (dPutN (dVar 0) (dC (.int 2)) (dBin kAdd (dBin kIx (dVar 0) (dC (.int 2))) (dC (.int 1)))) (dSeq (dSet (dName 3) (dBin kMod (dBin kPow (dBin kAdd (dBin kAdd (dBin kIx (dVar 0) (dC (.int 1))) (dBin kMul (dC (.int 7919)) (dBin kIx (dVar 0) (dC (.int 2))))) (dC (.int 85))) (dC (.int 5))) (dC (.int 2147483647)))) (dSeq (dSet (dName 4) (dBin kMod (dBin kPow (dBin kAdd (dBin kAdd (dBin kDiv (dVar 3) (dC (.int 8))) (dBin kMul (dBin kMul (dC (.int 104729)) (dBin kIx (dVar 0) (dC (.int 2)))) (dBin kIx (dVar 0) (dC (.int 2))))) (dC (.int 11))) (dC (.int 3))) (dC (.int 2147483587)))) (dSeq (dRet (dBin kMod (dBin kAdd (dBin kDiv (dVar 3) (dC (.int 4))) (dBin kMul (dC (.int 536870909)) (dBin kDiv (dVar 4) (dC (.int 4))))) (dVar 1))) dNext)))))
def m_law_take : SpD := mD 5 2 (r_law_take)
abbrev st_law_even : Stmt := top 45
abbrev N_law_even : List Str := ["told", "due"]
theorem sc_law_even : FnScope N_law_even ["told", "due"] (defScope st_law_even) := ⟨rfl, rfl, rfl, by decide +kernel, rfl, by decide +kernel, by decide +kernel⟩
def r_law_even : DS := (dSeq (dRet (dAndV (dBin kEq (dVar 0) (dVar 1)) (dBin kEq (dB kRepr (dCons (dVar 0) dNil)) (dB kRepr (dCons (dVar 1) dNil))))) dNext)
def m_law_even : SpD := mD 2 2 (r_law_even)
abbrev st_law_notes : Stmt := top 46
abbrev N_law_notes : List Str := ["box", "most", "many", "few", "low", "step", "wide", "at", "found", "k", "end", "pitch", "note"]
theorem sc_law_notes : FnScope N_law_notes ["box", "most"] (defScope st_law_notes) := ⟨rfl, rfl, rfl, by decide +kernel, rfl, by decide +kernel, by decide +kernel⟩
def r_law_notes : DS := (dSeq (dSet (dName 2) (dBin kIx (dLst (dCons (dVar 1) (dCons (dVar 1) (dCons (dCall m_law_take (dCons (dVar 0) (dCons (dBin kAdd (dVar 1) (dC (.int 1))) dNil))) (dCons (dCall m_law_take (dCons (dVar 0) (dCons (dC (.int 4)) dNil))) dNil))))) (dCall m_law_take (dCons (dVar 0) (dCons (dC (.int 4)) dNil))))) (dSeq (dSet (dName 3) (dBin kIx (dLst (dCons (dBin kAdd (dC (.int 1)) (dCall m_law_take (dCons (dVar 0) (dCons (dC (.int 4)) dNil)))) (dCons (dC (.int 3)) (dCons (dC (.int 6)) (dCons (dBin kAdd (dC (.int 1)) (dCall m_law_take (dCons (dVar 0) (dCons (dC (.int 12)) dNil)))) dNil))))) (dCall m_law_take (dCons (dVar 0) (dCons (dC (.int 4)) dNil))))) (dSeq (dPar 4 5 (dCons (dCall m_law_take (dCons (dVar 0) (dCons (dC (.int 60)) dNil))) (dCons (dBin kAdd (dC (.int 1)) (dCall m_law_take (dCons (dVar 0) (dCons (dC (.int 4)) dNil)))) dNil))) (dSeq (dSet (dName 6) (dBin kIx (dLst (dCons (dC (.int 3)) (dCons (dC (.int 8)) (dCons (dC (.int 20)) (dCons (dC (.int 150)) dNil))))) (dCall m_law_take (dCons (dVar 0) (dCons (dC (.int 4)) dNil))))) (dSeq (dSet (dName 7) (dBin kIx (dLst (dCons (dC (.int 0)) (dCons (dCall m_law_take (dCons (dVar 0) (dCons (dC (.int 50)) dNil))) dNil))) (dCall m_law_take (dCons (dVar 0) (dCons (dC (.int 2)) dNil))))) (dSeq (dSet (dName 8) (dLstN dNil)) (dSeq (dFor (dRng1 (dVar 2)) (dName 9) (dSeq (dSet (dName 7) (dBin kAdd (dVar 7) (dCall m_law_take (dCons (dVar 0) (dCons (dVar 6) dNil))))) (dSeq (dSet (dName 10) (dBin kAdd (dVar 7) (dBin kIx (dLst (dCons (dC (.int 0)) (dCons (dC (.int 0)) (dCons (dCall m_law_take (dCons (dVar 0) (dCons (dC (.int 4)) dNil))) (dCons (dCall m_law_take (dCons (dVar 0) (dCons (dVar 6) dNil))) dNil))))) (dCall m_law_take (dCons (dVar 0) (dCons (dC (.int 4)) dNil)))))) (dSeq (dSet (dName 11) (dBin kAdd (dVar 4) (dBin kMul (dVar 5) (dCall m_law_take (dCons (dVar 0) (dCons (dVar 3) dNil)))))) (dSeq (dIfS (dTest (dBin kEq (dLcE (dLc (dIt (dVar 8)) (dName 12) (dAnd (dTest (dBin kEq (dBin kIx (dVar 12) (dC (.int 2))) (dVar 11))) (dTest (dBin kGe (dBin kIx (dVar 12) (dC (.int 1))) (dVar 7)))) (dVar 12) [12])) (dLst dNil))) (dSeq (dDrop (dApN (dVar 8) (dTup (dCons (dVar 7) (dCons (dVar 10) (dCons (dVar 11) dNil)))))) dNext) dNext) dNext))))) (dSeq (dRet (dB kSortT (dCons (dVar 8) dNil))) dNext))))))))
def m_law_notes : SpD := mD 13 2 (r_law_notes)
abbrev st_law_time : Stmt := top 47
abbrev N_law_time : List Str := ["box", "notes", "way", "one", "other", "gap"]
theorem sc_law_time : FnScope N_law_time ["box", "notes"] (defScope st_law_time) := ⟨rfl, rfl, rfl, by decide +kernel, rfl, by decide +kernel, by decide +kernel⟩
def r_law_time : DS := (dSeq (dSet (dName 2) (dCall m_law_take (dCons (dVar 0) (dCons (dC (.int 6)) dNil)))) (dSeq (dIfS (dAnd (dTest (dBin kLt (dVar 2) (dC (.int 3)))) (dTest (dBin kNe (dVar 1) (dLst dNil)))) (dSeq (dPar 3 4 (dCons (dBin kIx (dVar 1) (dCall m_law_take (dCons (dVar 0) (dCons (dB kLen (dCons (dVar 1) dNil)) dNil)))) (dCons (dBin kIx (dVar 1) (dCall m_law_take (dCons (dVar 0) (dCons (dB kLen (dCons (dVar 1) dNil)) dNil)))) dNil))) (dSeq (dSet (dName 5) (dBin kSub (dB kMax2 (dCons (dBin kIx (dVar 3) (dC (.int 0))) (dCons (dBin kIx (dVar 4) (dC (.int 0))) dNil))) (dB kMin2 (dCons (dBin kIx (dVar 3) (dC (.int 1))) (dCons (dBin kIx (dVar 4) (dC (.int 1))) dNil))))) (dSeq (dRet (dB kMin2 (dCons (dC (.int 9999)) (dCons (dB kMax2 (dCons (dC (.int 1)) (dCons (dBin kAdd (dVar 5) (dCall m_law_take (dCons (dVar 0) (dCons (dC (.int 2)) dNil)))) dNil))) dNil)))) dNext))) dNext) (dSeq (dRet (dBin kAdd (dC (.int 1)) (dCall m_law_take (dCons (dVar 0) (dCons (dBin kIx (dLst (dCons (dC (.int 1)) (dCons (dC (.int 6)) (dCons (dC (.int 30)) (dCons (dC (.int 9999)) dNil))))) (dCall m_law_take (dCons (dVar 0) (dCons (dC (.int 4)) dNil)))) dNil))))) dNext)))
def m_law_time : SpD := mD 6 2 (r_law_time)
abbrev st_law_moment : Stmt := top 48
abbrev N_law_moment : List Str := ["box", "notes", "time", "start", "end", "pitch"]
theorem sc_law_moment : FnScope N_law_moment ["box", "notes", "time"] (defScope st_law_moment) := ⟨rfl, rfl, rfl, by decide +kernel, rfl, by decide +kernel, by decide +kernel⟩
def r_law_moment : DS := (dSeq (dIfS (dOr (dTest (dBin kEq (dVar 1) (dLst dNil))) (dTest (dBin kEq (dCall m_law_take (dCons (dVar 0) (dCons (dC (.int 5)) dNil))) (dC (.int 0))))) (dSeq (dRet (dBin kIx (dLst (dCons (dCall m_law_take (dCons (dVar 0) (dCons (dC (.int 19999)) dNil))) (dCons (dCall m_law_take (dCons (dVar 0) (dCons (dC (.int 60)) dNil))) (dCons (dC (.int 19998)) dNil)))) (dCall m_law_take (dCons (dVar 0) (dCons (dC (.int 3)) dNil))))) dNext) dNext) (dSeq (dSet (dUnp 3 (gMore (dName 3) (gMore (dName 4) (gMore (dName 5) gNone)))) (dBin kIx (dVar 1) (dCall m_law_take (dCons (dVar 0) (dCons (dB kLen (dCons (dVar 1) dNil)) dNil))))) (dSeq (dRet (dB kMin2 (dCons (dC (.int 19998)) (dCons (dB kMax2 (dCons (dC (.int 0)) (dCons (dBin kSub (dBin kAdd (dBin kIx (dLst (dCons (dVar 3) (dCons (dVar 4) (dCons (dBin kAdd (dVar 4) (dVar 2)) dNil)))) (dCall m_law_take (dCons (dVar 0) (dCons (dC (.int 3)) dNil)))) (dCall m_law_take (dCons (dVar 0) (dCons (dC (.int 3)) dNil)))) (dC (.int 1))) dNil))) dNil)))) dNext)))
def m_law_moment : SpD := mD 6 3 (r_law_moment)
abbrev st_law_busy : Stmt := top 49
abbrev N_law_busy : List Str := ["notes", "time", "moment", "found", "start", "end", "pitch"]
theorem sc_law_busy : FnScope N_law_busy ["notes", "time", "moment"] (defScope st_law_busy) := ⟨rfl, rfl, rfl, by decide +kernel, rfl, by decide +kernel, by decide +kernel⟩
def r_law_busy : DS := (dSeq (dSet (dName 3) (dLstN dNil)) (dSeq (dFor (dIt (dVar 0)) (dUnp 3 (gMore (dName 4) (gMore (dName 5) (gMore (dName 6) gNone)))) (dSeq (dIfS (dAnd (dTest (dChain kLe kLe (dVar 4) (dVar 2) (dBin kSub (dBin kAdd (dVar 5) (dVar 1)) (dC (.int 1))))) (dTest (dBin kNotIn (dVar 6) (dVar 3)))) (dSeq (dDrop (dApN (dVar 3) (dVar 6))) dNext) dNext) dNext)) (dSeq (dRet (dB kSorted (dCons (dVar 3) dNil))) dNext)))
def m_law_busy : SpD := mD 7 3 (r_law_busy)
abbrev st_law : Stmt := top 50
abbrev N_law : List Str := ["script", "k", "box", "notes", "part", "time", "turn", "moment", "many", "drums", "crowd", "pitch", "value"]
theorem sc_law : FnScope N_law ["script"] (defScope st_law) := ⟨rfl, rfl, rfl, by decide +kernel, rfl, by decide +kernel, by decide +kernel⟩
def r_law : DS := (dSeq (dFor (dRng1 (dB kMax2 (dCons (dC (.int 2)) (dCons (dB kMin2 (dCons (dC (.int 8)) (dCons (dB kLen (dCons (dVar 0) dNil)) dNil))) dNil)))) (dName 1) (dSeq (dSet (dName 2) (dCall m_law_box (dCons (dCall m_law_cell (dCons (dVar 0) (dCons (dVar 1) dNil))) dNil))) (dSeq (dSet (dName 3) (dCall m_law_notes (dCons (dVar 2) (dCons (dC (.int 30)) dNil)))) (dSeq (dSet (dName 4) (dMakeP m_Part___init__ (dCons (dVar 3) dNil))) (dSeq (dSet (dName 5) (dCall m_law_time (dCons (dVar 2) (dCons (dVar 3) dNil)))) (dSeq (dFor (dRng1 (dC (.int 8))) (dName 6) (dSeq (dSet (dName 7) (dCall m_law_moment (dCons (dVar 2) (dCons (dVar 3) (dCons (dVar 5) dNil))))) (dSeq (dSet (dName 8) (dB kLen (dCons (dCallP m_law_busy (dCons (dVar 3) (dCons (dVar 5) (dCons (dVar 7) dNil)))) dNil))) (dSeq (dFor (dIt (dLst (dCons (dVar 8) (dCons (dBin kSub (dVar 8) (dC (.int 1))) (dCons (dBin kAdd (dVar 8) (dC (.int 1))) (dCons (dBin kAdd (dC (.int 1)) (dCall m_law_take (dCons (dVar 2) (dCons (dC (.int 12)) dNil)))) dNil)))))) (dName 9) (dSeq (dIfS (dAnd (dTest (dChain kLe kLe (dC (.int 1)) (dVar 9) (dC (.int 12)))) (dNot (dTest (dCall m_law_even (dCons (dCall m_shows_crowd (dCons (dVar 4) (dCons (dVar 5) (dCons (dVar 9) (dCons (dVar 7) dNil))))) (dCons (dBin kGt (dVar 8) (dVar 9)) dNil)))))) (dSeq (dRet (dC (.bl false))) dNext) dNext) dNext)) dNext)))) (dSeq (dSet (dName 10) (dMakeP m_Part___init__ (dCons (dLcE (dLc (dRng1 (dC (.int 3))) (dName 11) dYes (dTup (dCons (dC (.int 0)) (dCons (dC (.int 9999)) (dCons (dVar 11) dNil)))) [11])) dNil))) (dSeq (dFor (dIt (dLst (dCons (dUn kNeg (dC (.int 1))) (dCons (dC (.int 19999)) (dCons (dC .non) (dCons (dC (.bl true)) (dCons (dC (.bl false)) (dCons (dC (.str "0")) (dCons (dLst (dCons (dC (.int 0)) dNil)) (dCons (dTup (dCons (dC (.int 0)) dNil)) (dCons dDct (dCons (dBin kPow (dC (.int 10)) (dC (.int 29))) (dCons (dTup (dCons (dC (.str "crowd")) (dCons (dC (.int 0)) dNil))) dNil))))))))))))) (dName 12) (dSeq (dIfS (dOr (dTest (dBin kNotB (dCall m_shows_crowd (dCons (dVar 10) (dCons (dC (.int 9999)) (dCons (dC (.int 2)) (dCons (dVar 12) dNil))))) (dC (.bl false)))) (dTest (dBin kNotB (dCall m_shows_crowd (dCons (dVar 10) (dCons (dC (.int 9999)) (dCons (dC (.int 1)) (dCons (dVar 12) dNil))))) (dC (.bl false))))) (dSeq (dRet (dC (.bl false))) dNext) dNext) dNext)) (dSeq (dIfS (dNot (dTest (dCall m_law_even (dCons (dLst (dCons (dCall m_shows_crowd (dCons (dVar 10) (dCons (dC (.int 9999)) (dCons (dC (.int 2)) (dCons (dC (.int 19997)) dNil))))) (dCons (dCall m_shows_crowd (dCons (dVar 10) (dCons (dC (.int 9999)) (dCons (dC (.int 2)) (dCons (dC (.int 19998)) dNil))))) dNil))) (dCons (dLst (dCons (dC (.bl true)) (dCons (dC (.bl false)) dNil))) dNil))))) (dSeq (dRet (dC (.bl false))) dNext) dNext) dNext))))))))) (dSeq (dRet (dC (.bl true))) dNext))
def m_law : SpD := mD 13 1 (r_law)
structure Tx (w : World) (K : PySem.W.Frag) (mg : Str → Option Value) (cl : String → Addr) (f_is_integer f_is_list f_is_pitch f_is_note f_need_note f_is_moment f_Part___init__ f_Part_notes f_need_part f_need_time f_is_busy f_busy_pitches f_is_drum f_need_drums f_shows_crowd f_law_cell f_law_box f_law_take f_law_even f_law_notes f_law_time f_law_moment f_law_busy f_law f_BadNote f_BadPart f_BadTime f_BadDrums f_Overlap : Addr) (xd_is_integer xd_is_list xd_is_pitch xd_is_note xd_need_note xd_is_moment xd_Part___init__ xd_Part_notes xd_need_part xd_need_time xd_is_busy xd_busy_pitches xd_is_drum xd_need_drums xd_shows_crowd xd_law_cell xd_law_box xd_law_take xd_law_even xd_law_notes xd_law_time xd_law_moment xd_law_busy xd_law xd_BadNote xd_BadPart xd_BadTime xd_BadDrums xd_Overlap : FuncData) : Prop where
  d_is_integer : Df K mg "is_integer" "is_integer" st_is_integer ["value", "low", "high"] f_is_integer xd_is_integer
  d_is_list : Df K mg "is_list" "is_list" st_is_list ["value", "most"] f_is_list xd_is_list
  d_is_pitch : Df K mg "is_pitch" "is_pitch" st_is_pitch ["value"] f_is_pitch xd_is_pitch
  d_is_note : Df K mg "is_note" "is_note" st_is_note ["value"] f_is_note xd_is_note
  d_need_note : Df K mg "need_note" "need_note" st_need_note ["note"] f_need_note xd_need_note
  d_is_moment : Df K mg "is_moment" "is_moment" st_is_moment ["value"] f_is_moment xd_is_moment
  p_Part___init__ : If K "Part.__init__" st_Part___init__ ["self", "notes"] f_Part___init__ xd_Part___init__
  pt_Part : PtT K mg cl "Part" "Part" f_Part___init__
  p_Part_notes : Mf K cl "notes" "Part.notes" st_Part_notes ["self"] f_Part_notes xd_Part_notes
  d_need_part : Df K mg "need_part" "need_part" st_need_part ["part"] f_need_part xd_need_part
  d_need_time : Df K mg "need_time" "need_time" st_need_time ["time"] f_need_time xd_need_time
  d_is_busy : Df K mg "is_busy" "is_busy" st_is_busy ["note", "time", "moment"] f_is_busy xd_is_busy
  d_busy_pitches : Df K mg "busy_pitches" "busy_pitches" st_busy_pitches ["part", "time", "moment"] f_busy_pitches xd_busy_pitches
  d_is_drum : Df K mg "is_drum" "is_drum" st_is_drum ["value", "drums"] f_is_drum xd_is_drum
  d_need_drums : Df K mg "need_drums" "need_drums" st_need_drums ["drums"] f_need_drums xd_need_drums
  d_shows_crowd : Df K mg "shows_crowd" "shows_crowd" st_shows_crowd ["part", "time", "drums", "moment"] f_shows_crowd xd_shows_crowd
  d_law_cell : Df K mg "_law_cell" "_law_cell" st_law_cell ["script", "k"] f_law_cell xd_law_cell
  d_law_box : Df K mg "_law_box" "_law_box" st_law_box ["cell"] f_law_box xd_law_box
  d_law_take : Df K mg "_law_take" "_law_take" st_law_take ["box", "many"] f_law_take xd_law_take
  d_law_even : Df K mg "_law_even" "_law_even" st_law_even ["told", "due"] f_law_even xd_law_even
  d_law_notes : Df K mg "_law_notes" "_law_notes" st_law_notes ["box", "most"] f_law_notes xd_law_notes
  d_law_time : Df K mg "_law_time" "_law_time" st_law_time ["box", "notes"] f_law_time xd_law_time
  d_law_moment : Df K mg "_law_moment" "_law_moment" st_law_moment ["box", "notes", "time"] f_law_moment xd_law_moment
  d_law_busy : Df K mg "_law_busy" "_law_busy" st_law_busy ["notes", "time", "moment"] f_law_busy xd_law_busy
  d_law : Df K mg "law" "law" st_law ["script"] f_law xd_law
  e_BadNote : Xt K mg cl "BadNote" "BadNote" "BadNote.__init__" st_BadNote ["self", "found"] f_BadNote xd_BadNote
  n_BadNote_found : PySem.W.findIn K (.ref (cl "BadNote")) "found" = some none
  e_BadPart : Xt K mg cl "BadPart" "BadPart" "BadPart.__init__" st_BadPart ["self", "found"] f_BadPart xd_BadPart
  n_BadPart_found : PySem.W.findIn K (.ref (cl "BadPart")) "found" = some none
  e_BadTime : Xt K mg cl "BadTime" "BadTime" "BadTime.__init__" st_BadTime ["self", "found"] f_BadTime xd_BadTime
  n_BadTime_found : PySem.W.findIn K (.ref (cl "BadTime")) "found" = some none
  e_BadDrums : Xt K mg cl "BadDrums" "BadDrums" "BadDrums.__init__" st_BadDrums ["self", "found"] f_BadDrums xd_BadDrums
  n_BadDrums_found : PySem.W.findIn K (.ref (cl "BadDrums")) "found" = some none
  e_Overlap : Xt K mg cl "Overlap" "Overlap" "Overlap.__init__" st_Overlap ["self", "one", "other"] f_Overlap xd_Overlap
  n_Overlap_one : PySem.W.findIn K (.ref (cl "Overlap")) "one" = some none
  n_Overlap_other : PySem.W.findIn K (.ref (cl "Overlap")) "other" = some none
  cs : Cls K (cl "Part")
  npn : NoAttr K (cl "Part") "part_notes"
  isP : IsT K cl
  h_ToneError : BaseC K (cl "ToneError")
  m_BadNote : mg "BadNote" = some (.ref (cl "BadNote"))
  m_BadPart : mg "BadPart" = some (.ref (cl "BadPart"))
  m_BadTime : mg "BadTime" = some (.ref (cl "BadTime"))
  m_BadDrums : mg "BadDrums" = some (.ref (cl "BadDrums"))
  m_Overlap : mg "Overlap" = some (.ref (cl "Overlap"))
  m_ToneError : mg "ToneError" = some (.ref (cl "ToneError"))
  b_bool : mg "bool" = none
  b_int : mg "int" = none
  b_isinstance : mg "isinstance" = none
  b_len : mg "len" = none
  b_list : mg "list" = none
  b_max : mg "max" = none
  b_min : mg "min" = none
  b_range : mg "range" = none
  b_repr : mg "repr" = none
  b_sorted : mg "sorted" = none
  b_tuple : mg "tuple" = none
  k_HIGHEST : ∃ t, mg "HIGHEST" = some (.int 119 t)
  k_LAST : ∃ t, mg "LAST" = some (.int 9999 t)
  k_LAST_MOMENT : ∃ t, mg "LAST_MOMENT" = some (.int 19998 t)
  k_MOST_DRUMS : ∃ t, mg "MOST_DRUMS" = some (.int 12 t)
  k_MOST_NOTES : ∃ t, mg "MOST_NOTES" = some (.int 60 t)
section
variable {P : Program} {w : World} {K : PySem.W.Frag} {mg : Str → Option Value} {base : Heap} {cl : String → Addr} {f_is_integer f_is_list f_is_pitch f_is_note f_need_note f_is_moment f_Part___init__ f_Part_notes f_need_part f_need_time f_is_busy f_busy_pitches f_is_drum f_need_drums f_shows_crowd f_law_cell f_law_box f_law_take f_law_even f_law_notes f_law_time f_law_moment f_law_busy f_law f_BadNote f_BadPart f_BadTime f_BadDrums f_Overlap : Addr} {xd_is_integer xd_is_list xd_is_pitch xd_is_note xd_need_note xd_is_moment xd_Part___init__ xd_Part_notes xd_need_part xd_need_time xd_is_busy xd_busy_pitches xd_is_drum xd_need_drums xd_shows_crowd xd_law_cell xd_law_box xd_law_take xd_law_even xd_law_notes xd_law_time xd_law_moment xd_law_busy xd_law xd_BadNote xd_BadPart xd_BadTime xd_BadDrums xd_Overlap : FuncData}
theorem i_BadNote (T : Tx w K mg cl f_is_integer f_is_list f_is_pitch f_is_note f_need_note f_is_moment f_Part___init__ f_Part_notes f_need_part f_need_time f_is_busy f_busy_pitches f_is_drum f_need_drums f_shows_crowd f_law_cell f_law_box f_law_take f_law_even f_law_notes f_law_time f_law_moment f_law_busy f_law f_BadNote f_BadPart f_BadTime f_BadDrums f_Overlap xd_is_integer xd_is_list xd_is_pitch xd_is_note xd_need_note xd_is_moment xd_Part___init__ xd_Part_notes xd_need_part xd_need_time xd_is_busy xd_busy_pitches xd_is_drum xd_need_drums xd_shows_crowd xd_law_cell xd_law_box xd_law_take xd_law_even xd_law_notes xd_law_time xd_law_moment xd_law_busy xd_law xd_BadNote xd_BadPart xd_BadTime xd_BadDrums xd_Overlap) : FnOk P w K mg base CX0 1 f_BadNote xd_BadNote ["self", "found"] (spX1 K "found") :=
  ok_x1 (m := "no note") T.e_BadNote.fu ⟨rfl, rfl, rfl, by decide +kernel, rfl, by decide +kernel, by decide +kernel⟩ (fun _ _ _ _ _ _ => pss_cons (ps_expr (pe_basei rfl T.m_ToneError T.h_ToneError (pa_cons (pv 0) (pa_cons pe_str pa_nil)))) (pss_one (ps_ost (pv 0) (pv 1))))
theorem i_BadPart (T : Tx w K mg cl f_is_integer f_is_list f_is_pitch f_is_note f_need_note f_is_moment f_Part___init__ f_Part_notes f_need_part f_need_time f_is_busy f_busy_pitches f_is_drum f_need_drums f_shows_crowd f_law_cell f_law_box f_law_take f_law_even f_law_notes f_law_time f_law_moment f_law_busy f_law f_BadNote f_BadPart f_BadTime f_BadDrums f_Overlap xd_is_integer xd_is_list xd_is_pitch xd_is_note xd_need_note xd_is_moment xd_Part___init__ xd_Part_notes xd_need_part xd_need_time xd_is_busy xd_busy_pitches xd_is_drum xd_need_drums xd_shows_crowd xd_law_cell xd_law_box xd_law_take xd_law_even xd_law_notes xd_law_time xd_law_moment xd_law_busy xd_law xd_BadNote xd_BadPart xd_BadTime xd_BadDrums xd_Overlap) : FnOk P w K mg base CX0 1 f_BadPart xd_BadPart ["self", "found"] (spX1 K "found") :=
  ok_x1 (m := "no part") T.e_BadPart.fu ⟨rfl, rfl, rfl, by decide +kernel, rfl, by decide +kernel, by decide +kernel⟩ (fun _ _ _ _ _ _ => pss_cons (ps_expr (pe_basei rfl T.m_ToneError T.h_ToneError (pa_cons (pv 0) (pa_cons pe_str pa_nil)))) (pss_one (ps_ost (pv 0) (pv 1))))
theorem i_BadTime (T : Tx w K mg cl f_is_integer f_is_list f_is_pitch f_is_note f_need_note f_is_moment f_Part___init__ f_Part_notes f_need_part f_need_time f_is_busy f_busy_pitches f_is_drum f_need_drums f_shows_crowd f_law_cell f_law_box f_law_take f_law_even f_law_notes f_law_time f_law_moment f_law_busy f_law f_BadNote f_BadPart f_BadTime f_BadDrums f_Overlap xd_is_integer xd_is_list xd_is_pitch xd_is_note xd_need_note xd_is_moment xd_Part___init__ xd_Part_notes xd_need_part xd_need_time xd_is_busy xd_busy_pitches xd_is_drum xd_need_drums xd_shows_crowd xd_law_cell xd_law_box xd_law_take xd_law_even xd_law_notes xd_law_time xd_law_moment xd_law_busy xd_law xd_BadNote xd_BadPart xd_BadTime xd_BadDrums xd_Overlap) : FnOk P w K mg base CX0 1 f_BadTime xd_BadTime ["self", "found"] (spX1 K "found") :=
  ok_x1 (m := "no tuning time") T.e_BadTime.fu ⟨rfl, rfl, rfl, by decide +kernel, rfl, by decide +kernel, by decide +kernel⟩ (fun _ _ _ _ _ _ => pss_cons (ps_expr (pe_basei rfl T.m_ToneError T.h_ToneError (pa_cons (pv 0) (pa_cons pe_str pa_nil)))) (pss_one (ps_ost (pv 0) (pv 1))))
theorem i_BadDrums (T : Tx w K mg cl f_is_integer f_is_list f_is_pitch f_is_note f_need_note f_is_moment f_Part___init__ f_Part_notes f_need_part f_need_time f_is_busy f_busy_pitches f_is_drum f_need_drums f_shows_crowd f_law_cell f_law_box f_law_take f_law_even f_law_notes f_law_time f_law_moment f_law_busy f_law f_BadNote f_BadPart f_BadTime f_BadDrums f_Overlap xd_is_integer xd_is_list xd_is_pitch xd_is_note xd_need_note xd_is_moment xd_Part___init__ xd_Part_notes xd_need_part xd_need_time xd_is_busy xd_busy_pitches xd_is_drum xd_need_drums xd_shows_crowd xd_law_cell xd_law_box xd_law_take xd_law_even xd_law_notes xd_law_time xd_law_moment xd_law_busy xd_law xd_BadNote xd_BadPart xd_BadTime xd_BadDrums xd_Overlap) : FnOk P w K mg base CX0 1 f_BadDrums xd_BadDrums ["self", "found"] (spX1 K "found") :=
  ok_x1 (m := "no number of drums") T.e_BadDrums.fu ⟨rfl, rfl, rfl, by decide +kernel, rfl, by decide +kernel, by decide +kernel⟩ (fun _ _ _ _ _ _ => pss_cons (ps_expr (pe_basei rfl T.m_ToneError T.h_ToneError (pa_cons (pv 0) (pa_cons pe_str pa_nil)))) (pss_one (ps_ost (pv 0) (pv 1))))
theorem i_Overlap (T : Tx w K mg cl f_is_integer f_is_list f_is_pitch f_is_note f_need_note f_is_moment f_Part___init__ f_Part_notes f_need_part f_need_time f_is_busy f_busy_pitches f_is_drum f_need_drums f_shows_crowd f_law_cell f_law_box f_law_take f_law_even f_law_notes f_law_time f_law_moment f_law_busy f_law f_BadNote f_BadPart f_BadTime f_BadDrums f_Overlap xd_is_integer xd_is_list xd_is_pitch xd_is_note xd_need_note xd_is_moment xd_Part___init__ xd_Part_notes xd_need_part xd_need_time xd_is_busy xd_busy_pitches xd_is_drum xd_need_drums xd_shows_crowd xd_law_cell xd_law_box xd_law_take xd_law_even xd_law_notes xd_law_time xd_law_moment xd_law_busy xd_law xd_BadNote xd_BadPart xd_BadTime xd_BadDrums xd_Overlap) : FnOk P w K mg base CX0 1 f_Overlap xd_Overlap ["self", "one", "other"] (spX2 K "one" "other") :=
  ok_x2 (m := "notes of one pitch that overlap") T.e_Overlap.fu ⟨rfl, rfl, rfl, by decide +kernel, rfl, by decide +kernel, by decide +kernel⟩ (fun _ _ _ _ _ _ => pss_cons (ps_expr (pe_basei rfl T.m_ToneError T.h_ToneError (pa_cons (pv 0) (pa_cons pe_str pa_nil)))) (pss_cons (ps_ost (pv 0) (pv 1)) (pss_one (ps_ost (pv 0) (pv 2)))))
theorem g_is_integer (T : Tx w K mg cl f_is_integer f_is_list f_is_pitch f_is_note f_need_note f_is_moment f_Part___init__ f_Part_notes f_need_part f_need_time f_is_busy f_busy_pitches f_is_drum f_need_drums f_shows_crowd f_law_cell f_law_box f_law_take f_law_even f_law_notes f_law_time f_law_moment f_law_busy f_law f_BadNote f_BadPart f_BadTime f_BadDrums f_Overlap xd_is_integer xd_is_list xd_is_pitch xd_is_note xd_need_note xd_is_moment xd_Part___init__ xd_Part_notes xd_need_part xd_need_time xd_is_busy xd_busy_pitches xd_is_drum xd_need_drums xd_shows_crowd xd_law_cell xd_law_box xd_law_take xd_law_even xd_law_notes xd_law_time xd_law_moment xd_law_busy xd_law xd_BadNote xd_BadPart xd_BadTime xd_BadDrums xd_Overlap) : FnG P w K mg base 1 f_is_integer xd_is_integer ["value", "low", "high"] (spOf ⟨K, cl⟩ (m_is_integer)) :=
  have nd := sc_is_integer.nd
  fnD (k := 0) T.d_is_integer.fu sc_is_integer fun cdv A out s H E hr hg => (ss_cons (s_ret (x_and (x_isi "int" (by decide +kernel) rfl T.b_isinstance rfl T.b_int (by decide +kernel) (x_var 0)) (x_and (x_not (x_isi "bool" (by decide +kernel) rfl T.b_isinstance rfl T.b_bool (by decide +kernel) (x_var 0))) (x_one (x_chain o_le o_le (x_var 1) (x_var 0) (x_var 2)))))) ss_nil)
theorem g_is_list (T : Tx w K mg cl f_is_integer f_is_list f_is_pitch f_is_note f_need_note f_is_moment f_Part___init__ f_Part_notes f_need_part f_need_time f_is_busy f_busy_pitches f_is_drum f_need_drums f_shows_crowd f_law_cell f_law_box f_law_take f_law_even f_law_notes f_law_time f_law_moment f_law_busy f_law f_BadNote f_BadPart f_BadTime f_BadDrums f_Overlap xd_is_integer xd_is_list xd_is_pitch xd_is_note xd_need_note xd_is_moment xd_Part___init__ xd_Part_notes xd_need_part xd_need_time xd_is_busy xd_busy_pitches xd_is_drum xd_need_drums xd_shows_crowd xd_law_cell xd_law_box xd_law_take xd_law_even xd_law_notes xd_law_time xd_law_moment xd_law_busy xd_law xd_BadNote xd_BadPart xd_BadTime xd_BadDrums xd_Overlap) : FnG P w K mg base 1 f_is_list xd_is_list ["value", "most"] (spOf ⟨K, cl⟩ (m_is_list)) :=
  have nd := sc_is_list.nd
  fnD (k := 0) T.d_is_list.fu sc_is_list fun cdv A out s H E hr hg => (ss_cons (s_ret (x_and (x_isi2 "list" "tuple" (by decide +kernel) (by decide +kernel) rfl T.b_isinstance rfl T.b_list (by decide +kernel) rfl T.b_tuple (by decide +kernel) (x_var 0)) (x_one (x_cmp o_le (x_b c_len rfl T.b_len (by decide +kernel) (a_cons (x_var 0) a_nil)) (x_var 1))))) ss_nil)
theorem g_is_pitch (T : Tx w K mg cl f_is_integer f_is_list f_is_pitch f_is_note f_need_note f_is_moment f_Part___init__ f_Part_notes f_need_part f_need_time f_is_busy f_busy_pitches f_is_drum f_need_drums f_shows_crowd f_law_cell f_law_box f_law_take f_law_even f_law_notes f_law_time f_law_moment f_law_busy f_law f_BadNote f_BadPart f_BadTime f_BadDrums f_Overlap xd_is_integer xd_is_list xd_is_pitch xd_is_note xd_need_note xd_is_moment xd_Part___init__ xd_Part_notes xd_need_part xd_need_time xd_is_busy xd_busy_pitches xd_is_drum xd_need_drums xd_shows_crowd xd_law_cell xd_law_box xd_law_take xd_law_even xd_law_notes xd_law_time xd_law_moment xd_law_busy xd_law xd_BadNote xd_BadPart xd_BadTime xd_BadDrums xd_Overlap) : FnG P w K mg base 2 f_is_pitch xd_is_pitch ["value"] (spOf ⟨K, cl⟩ (m_is_pitch)) :=
  have nd := sc_is_pitch.nd
  fnD (k := 1) T.d_is_pitch.fu sc_is_pitch fun cdv A out s H E hr hg => (ss_cons (s_ret (x_callD (g_is_integer T) T.d_is_integer hr (by decide) hg rfl (a_cons (x_var 0) (a_cons x_int (a_cons (x_gi rfl T.k_HIGHEST) a_nil))))) ss_nil)
theorem g_is_note (T : Tx w K mg cl f_is_integer f_is_list f_is_pitch f_is_note f_need_note f_is_moment f_Part___init__ f_Part_notes f_need_part f_need_time f_is_busy f_busy_pitches f_is_drum f_need_drums f_shows_crowd f_law_cell f_law_box f_law_take f_law_even f_law_notes f_law_time f_law_moment f_law_busy f_law f_BadNote f_BadPart f_BadTime f_BadDrums f_Overlap xd_is_integer xd_is_list xd_is_pitch xd_is_note xd_need_note xd_is_moment xd_Part___init__ xd_Part_notes xd_need_part xd_need_time xd_is_busy xd_busy_pitches xd_is_drum xd_need_drums xd_shows_crowd xd_law_cell xd_law_box xd_law_take xd_law_even xd_law_notes xd_law_time xd_law_moment xd_law_busy xd_law xd_BadNote xd_BadPart xd_BadTime xd_BadDrums xd_Overlap) : FnG P w K mg base 3 f_is_note xd_is_note ["value"] (spOf ⟨K, cl⟩ (m_is_note)) :=
  have nd := sc_is_note.nd
  fnD (k := 2) T.d_is_note.fu sc_is_note fun cdv A out s H E hr hg => (ss_cons (s_if (t_w (w_or (t_not (t_val (x_isi "tuple" (by decide +kernel) rfl T.b_isinstance rfl T.b_tuple (by decide +kernel) (x_var 0)))) (w_or1 (t_cmp (o_ne (hu64 hr)) (x_b c_len rfl T.b_len (by decide +kernel) (a_cons (x_var 0) a_nil)) x_int)))) (ss_cons (s_ret x_bl) ss_nil) ss_nil) (ss_cons (s_asg (x_var 0) (g_tup rfl (gs_cons (g_name 1 nd rfl) (gs_cons (g_name 2 nd rfl) (gs_cons (g_name 3 nd rfl) gs_nil))))) (ss_cons (s_ret (x_and (x_callD (g_is_integer T) T.d_is_integer hr (by decide) hg rfl (a_cons (x_var 1) (a_cons x_int (a_cons (x_gi rfl T.k_LAST) a_nil)))) (x_and (x_callD (g_is_integer T) T.d_is_integer hr (by decide) hg rfl (a_cons (x_var 2) (a_cons (x_var 1) (a_cons (x_gi rfl T.k_LAST) a_nil)))) (x_one (x_callD (g_is_pitch T) T.d_is_pitch hr (by decide) hg rfl (a_cons (x_var 3) a_nil)))))) ss_nil)))
theorem g_need_note (T : Tx w K mg cl f_is_integer f_is_list f_is_pitch f_is_note f_need_note f_is_moment f_Part___init__ f_Part_notes f_need_part f_need_time f_is_busy f_busy_pitches f_is_drum f_need_drums f_shows_crowd f_law_cell f_law_box f_law_take f_law_even f_law_notes f_law_time f_law_moment f_law_busy f_law f_BadNote f_BadPart f_BadTime f_BadDrums f_Overlap xd_is_integer xd_is_list xd_is_pitch xd_is_note xd_need_note xd_is_moment xd_Part___init__ xd_Part_notes xd_need_part xd_need_time xd_is_busy xd_busy_pitches xd_is_drum xd_need_drums xd_shows_crowd xd_law_cell xd_law_box xd_law_take xd_law_even xd_law_notes xd_law_time xd_law_moment xd_law_busy xd_law xd_BadNote xd_BadPart xd_BadTime xd_BadDrums xd_Overlap) : FnG P w K mg base 4 f_need_note xd_need_note ["note"] (spOf ⟨K, cl⟩ (m_need_note)) :=
  have nd := sc_need_note.nd
  fnD (k := 3) T.d_need_note.fu sc_need_note fun cdv A out s H E hr hg => (ss_cons (s_if (t_not (t_val (x_callD (g_is_note T) T.d_is_note hr (by decide) hg rfl (a_cons (x_var 0) a_nil)))) (ss_cons (s_raise1 (nm := "BadNote") T.e_BadNote.T (i_BadNote T) T.n_BadNote_found (hr.mono (by decide)) T.e_BadNote.b rfl rfl T.e_BadNote.m (a_cons (x_var 0) a_nil)) ss_nil) ss_nil) ss_nil)
theorem g_is_moment (T : Tx w K mg cl f_is_integer f_is_list f_is_pitch f_is_note f_need_note f_is_moment f_Part___init__ f_Part_notes f_need_part f_need_time f_is_busy f_busy_pitches f_is_drum f_need_drums f_shows_crowd f_law_cell f_law_box f_law_take f_law_even f_law_notes f_law_time f_law_moment f_law_busy f_law f_BadNote f_BadPart f_BadTime f_BadDrums f_Overlap xd_is_integer xd_is_list xd_is_pitch xd_is_note xd_need_note xd_is_moment xd_Part___init__ xd_Part_notes xd_need_part xd_need_time xd_is_busy xd_busy_pitches xd_is_drum xd_need_drums xd_shows_crowd xd_law_cell xd_law_box xd_law_take xd_law_even xd_law_notes xd_law_time xd_law_moment xd_law_busy xd_law xd_BadNote xd_BadPart xd_BadTime xd_BadDrums xd_Overlap) : FnG P w K mg base 2 f_is_moment xd_is_moment ["value"] (spOf ⟨K, cl⟩ (m_is_moment)) :=
  have nd := sc_is_moment.nd
  fnD (k := 1) T.d_is_moment.fu sc_is_moment fun cdv A out s H E hr hg => (ss_cons (s_ret (x_callD (g_is_integer T) T.d_is_integer hr (by decide) hg rfl (a_cons (x_var 0) (a_cons x_int (a_cons (x_gi rfl T.k_LAST_MOMENT) a_nil))))) ss_nil)
theorem g_Part___init__ (T : Tx w K mg cl f_is_integer f_is_list f_is_pitch f_is_note f_need_note f_is_moment f_Part___init__ f_Part_notes f_need_part f_need_time f_is_busy f_busy_pitches f_is_drum f_need_drums f_shows_crowd f_law_cell f_law_box f_law_take f_law_even f_law_notes f_law_time f_law_moment f_law_busy f_law f_BadNote f_BadPart f_BadTime f_BadDrums f_Overlap xd_is_integer xd_is_list xd_is_pitch xd_is_note xd_need_note xd_is_moment xd_Part___init__ xd_Part_notes xd_need_part xd_need_time xd_is_busy xd_busy_pitches xd_is_drum xd_need_drums xd_shows_crowd xd_law_cell xd_law_box xd_law_take xd_law_even xd_law_notes xd_law_time xd_law_moment xd_law_busy xd_law xd_BadNote xd_BadPart xd_BadTime xd_BadDrums xd_Overlap) : FnG P w K mg base 5 f_Part___init__ xd_Part___init__ ["self", "notes"] (spI ⟨K, cl⟩ "Part" (m_Part___init__)) :=
  have nd := sc_Part___init__.nd
  fnI (k := 4) T.p_Part___init__.fu sc_Part___init__ fun cdv A out s H E hr hg => (ss_cons (s_if (t_not (t_val (x_callD (g_is_list T) T.d_is_list hr (by decide) hg rfl (a_cons (x_var 1) (a_cons (x_gi rfl T.k_MOST_NOTES) a_nil))))) (ss_cons (s_raise1 (nm := "BadPart") T.e_BadPart.T (i_BadPart T) T.n_BadPart_found (hr.mono (by decide)) T.e_BadPart.b rfl rfl T.e_BadPart.m (a_cons (x_var 1) a_nil)) ss_nil) ss_nil) (ss_cons (s_for rfl (w_it (x_var 1)) (g_name 2 nd rfl) (ss_cons (s_expr (x_callD (g_need_note T) T.d_need_note hr (by decide) hg rfl (a_cons (x_var 2) a_nil))) ss_nil)) (ss_cons (s_fldO 0 T.cs T.npn (x_b c_sortT rfl T.b_sorted (by decide +kernel) (a_cons (x_var 1) a_nil)) rfl) (ss_cons (s_setD 3 nd rfl) (ss_cons (s_for rfl (w_it (x_fldG 0 T.cs T.npn rfl)) (g_name 2 nd rfl) (ss_cons (s_asg (x_ix i_seq (x_var 2) x_int) (g_name 4 nd rfl)) (ss_cons (s_if (t_w (w_and (t_inO 3 (hu1 hr) rfl (x_var 4)) (w_and1 (t_cmp o_le (x_ix i_seq (x_var 2) x_int) (x_ix i_seq (x_dgetO 3 (hu1 hr) rfl (x_var 4)) x_int))))) (ss_cons (s_raise2 (nm := "Overlap") T.e_Overlap.T (i_Overlap T) T.n_Overlap_one T.n_Overlap_other (hr.mono (by decide)) T.e_Overlap.b rfl rfl T.e_Overlap.m (a_cons (x_dgetO 3 (hu1 hr) rfl (x_var 4)) (a_cons (x_var 2) a_nil))) ss_nil) ss_nil) (ss_cons (s_dputO 3 (hu1 hr) rfl (x_var 4) (x_var 2)) ss_nil)))) ss_nil)))))
theorem g_Part_notes (T : Tx w K mg cl f_is_integer f_is_list f_is_pitch f_is_note f_need_note f_is_moment f_Part___init__ f_Part_notes f_need_part f_need_time f_is_busy f_busy_pitches f_is_drum f_need_drums f_shows_crowd f_law_cell f_law_box f_law_take f_law_even f_law_notes f_law_time f_law_moment f_law_busy f_law f_BadNote f_BadPart f_BadTime f_BadDrums f_Overlap xd_is_integer xd_is_list xd_is_pitch xd_is_note xd_need_note xd_is_moment xd_Part___init__ xd_Part_notes xd_need_part xd_need_time xd_is_busy xd_busy_pitches xd_is_drum xd_need_drums xd_shows_crowd xd_law_cell xd_law_box xd_law_take xd_law_even xd_law_notes xd_law_time xd_law_moment xd_law_busy xd_law xd_BadNote xd_BadPart xd_BadTime xd_BadDrums xd_Overlap) : FnG P w K mg base 1 f_Part_notes xd_Part_notes ["self"] (spOf ⟨K, cl⟩ (m_Part_notes)) :=
  have nd := sc_Part_notes.nd
  fnD (k := 0) T.p_Part_notes.fu sc_Part_notes fun cdv A out s H E hr hg => (ss_cons (s_ret (x_ty c_list rfl T.b_list (by decide +kernel) (a_cons (x_pn T.cs T.npn (x_var 0)) a_nil))) ss_nil)
theorem g_need_part (T : Tx w K mg cl f_is_integer f_is_list f_is_pitch f_is_note f_need_note f_is_moment f_Part___init__ f_Part_notes f_need_part f_need_time f_is_busy f_busy_pitches f_is_drum f_need_drums f_shows_crowd f_law_cell f_law_box f_law_take f_law_even f_law_notes f_law_time f_law_moment f_law_busy f_law f_BadNote f_BadPart f_BadTime f_BadDrums f_Overlap xd_is_integer xd_is_list xd_is_pitch xd_is_note xd_need_note xd_is_moment xd_Part___init__ xd_Part_notes xd_need_part xd_need_time xd_is_busy xd_busy_pitches xd_is_drum xd_need_drums xd_shows_crowd xd_law_cell xd_law_box xd_law_take xd_law_even xd_law_notes xd_law_time xd_law_moment xd_law_busy xd_law xd_BadNote xd_BadPart xd_BadTime xd_BadDrums xd_Overlap) : FnG P w K mg base 3 f_need_part xd_need_part ["part"] (spOf ⟨K, cl⟩ (m_need_part)) :=
  have nd := sc_need_part.nd
  fnD (k := 2) T.d_need_part.fu sc_need_part fun cdv A out s H E hr hg => (ss_cons (s_if (t_not (t_val (x_isP T.isP T.cs rfl T.b_isinstance rfl T.pt_Part.m (x_var 0)))) (ss_cons (s_raise1 (nm := "BadPart") T.e_BadPart.T (i_BadPart T) T.n_BadPart_found (hr.mono (by decide)) T.e_BadPart.b rfl rfl T.e_BadPart.m (a_cons (x_var 0) a_nil)) ss_nil) ss_nil) ss_nil)
theorem g_need_time (T : Tx w K mg cl f_is_integer f_is_list f_is_pitch f_is_note f_need_note f_is_moment f_Part___init__ f_Part_notes f_need_part f_need_time f_is_busy f_busy_pitches f_is_drum f_need_drums f_shows_crowd f_law_cell f_law_box f_law_take f_law_even f_law_notes f_law_time f_law_moment f_law_busy f_law f_BadNote f_BadPart f_BadTime f_BadDrums f_Overlap xd_is_integer xd_is_list xd_is_pitch xd_is_note xd_need_note xd_is_moment xd_Part___init__ xd_Part_notes xd_need_part xd_need_time xd_is_busy xd_busy_pitches xd_is_drum xd_need_drums xd_shows_crowd xd_law_cell xd_law_box xd_law_take xd_law_even xd_law_notes xd_law_time xd_law_moment xd_law_busy xd_law xd_BadNote xd_BadPart xd_BadTime xd_BadDrums xd_Overlap) : FnG P w K mg base 3 f_need_time xd_need_time ["time"] (spOf ⟨K, cl⟩ (m_need_time)) :=
  have nd := sc_need_time.nd
  fnD (k := 2) T.d_need_time.fu sc_need_time fun cdv A out s H E hr hg => (ss_cons (s_if (t_not (t_val (x_callD (g_is_integer T) T.d_is_integer hr (by decide) hg rfl (a_cons (x_var 0) (a_cons x_int (a_cons (x_gi rfl T.k_LAST) a_nil)))))) (ss_cons (s_raise1 (nm := "BadTime") T.e_BadTime.T (i_BadTime T) T.n_BadTime_found (hr.mono (by decide)) T.e_BadTime.b rfl rfl T.e_BadTime.m (a_cons (x_var 0) a_nil)) ss_nil) ss_nil) ss_nil)
theorem g_is_busy (T : Tx w K mg cl f_is_integer f_is_list f_is_pitch f_is_note f_need_note f_is_moment f_Part___init__ f_Part_notes f_need_part f_need_time f_is_busy f_busy_pitches f_is_drum f_need_drums f_shows_crowd f_law_cell f_law_box f_law_take f_law_even f_law_notes f_law_time f_law_moment f_law_busy f_law f_BadNote f_BadPart f_BadTime f_BadDrums f_Overlap xd_is_integer xd_is_list xd_is_pitch xd_is_note xd_need_note xd_is_moment xd_Part___init__ xd_Part_notes xd_need_part xd_need_time xd_is_busy xd_busy_pitches xd_is_drum xd_need_drums xd_shows_crowd xd_law_cell xd_law_box xd_law_take xd_law_even xd_law_notes xd_law_time xd_law_moment xd_law_busy xd_law xd_BadNote xd_BadPart xd_BadTime xd_BadDrums xd_Overlap) : FnG P w K mg base 1 f_is_busy xd_is_busy ["note", "time", "moment"] (spOf ⟨K, cl⟩ (m_is_busy)) :=
  have nd := sc_is_busy.nd
  fnD (k := 0) T.d_is_busy.fu sc_is_busy fun cdv A out s H E hr hg => (ss_cons (s_ret (x_chain o_le o_lt (x_ix i_seq (x_var 0) x_int) (x_var 2) (x_bin o_add (x_ix i_seq (x_var 0) x_int) (x_var 1)))) ss_nil)
theorem g_busy_pitches (T : Tx w K mg cl f_is_integer f_is_list f_is_pitch f_is_note f_need_note f_is_moment f_Part___init__ f_Part_notes f_need_part f_need_time f_is_busy f_busy_pitches f_is_drum f_need_drums f_shows_crowd f_law_cell f_law_box f_law_take f_law_even f_law_notes f_law_time f_law_moment f_law_busy f_law f_BadNote f_BadPart f_BadTime f_BadDrums f_Overlap xd_is_integer xd_is_list xd_is_pitch xd_is_note xd_need_note xd_is_moment xd_Part___init__ xd_Part_notes xd_need_part xd_need_time xd_is_busy xd_busy_pitches xd_is_drum xd_need_drums xd_shows_crowd xd_law_cell xd_law_box xd_law_take xd_law_even xd_law_notes xd_law_time xd_law_moment xd_law_busy xd_law xd_BadNote xd_BadPart xd_BadTime xd_BadDrums xd_Overlap) : FnG P w K mg base 2 f_busy_pitches xd_busy_pitches ["part", "time", "moment"] (spOf ⟨K, cl⟩ (m_busy_pitches)) :=
  have nd := sc_busy_pitches.nd
  fnD (k := 1) T.d_busy_pitches.fu sc_busy_pitches fun cdv A out s H E hr hg => (ss_cons (s_ret (x_sortSc [("note", 3)] rfl nd rfl T.b_sorted (w_it (x_meth0 (g_Part_notes T) T.p_Part_notes.t T.cs hr (by decide) hg (x_var 0))) (blkOk_by (N := N_busy_pitches) (sc := (defScope st_busy_pitches)) (own := [("note", 3)]) (by decide +kernel)) (b_name 3 nd rfl (by decide)) (fun _ _ _ _ _ => ts_one (t_val (x_callD (g_is_busy T) T.d_is_busy hr (by decide) hg rfl (a_cons (x_var 3) (a_cons (x_var 1) (a_cons (x_var 2) a_nil)))))) (fun _ _ _ _ _ => (x_ix i_seq (x_var 3) x_int)))) ss_nil)
theorem g_is_drum (T : Tx w K mg cl f_is_integer f_is_list f_is_pitch f_is_note f_need_note f_is_moment f_Part___init__ f_Part_notes f_need_part f_need_time f_is_busy f_busy_pitches f_is_drum f_need_drums f_shows_crowd f_law_cell f_law_box f_law_take f_law_even f_law_notes f_law_time f_law_moment f_law_busy f_law f_BadNote f_BadPart f_BadTime f_BadDrums f_Overlap xd_is_integer xd_is_list xd_is_pitch xd_is_note xd_need_note xd_is_moment xd_Part___init__ xd_Part_notes xd_need_part xd_need_time xd_is_busy xd_busy_pitches xd_is_drum xd_need_drums xd_shows_crowd xd_law_cell xd_law_box xd_law_take xd_law_even xd_law_notes xd_law_time xd_law_moment xd_law_busy xd_law xd_BadNote xd_BadPart xd_BadTime xd_BadDrums xd_Overlap) : FnG P w K mg base 2 f_is_drum xd_is_drum ["value", "drums"] (spOf ⟨K, cl⟩ (m_is_drum)) :=
  have nd := sc_is_drum.nd
  fnD (k := 1) T.d_is_drum.fu sc_is_drum fun cdv A out s H E hr hg => (ss_cons (s_ret (x_callD (g_is_integer T) T.d_is_integer hr (by decide) hg rfl (a_cons (x_var 0) (a_cons x_int (a_cons (x_var 1) a_nil))))) ss_nil)
theorem g_need_drums (T : Tx w K mg cl f_is_integer f_is_list f_is_pitch f_is_note f_need_note f_is_moment f_Part___init__ f_Part_notes f_need_part f_need_time f_is_busy f_busy_pitches f_is_drum f_need_drums f_shows_crowd f_law_cell f_law_box f_law_take f_law_even f_law_notes f_law_time f_law_moment f_law_busy f_law f_BadNote f_BadPart f_BadTime f_BadDrums f_Overlap xd_is_integer xd_is_list xd_is_pitch xd_is_note xd_need_note xd_is_moment xd_Part___init__ xd_Part_notes xd_need_part xd_need_time xd_is_busy xd_busy_pitches xd_is_drum xd_need_drums xd_shows_crowd xd_law_cell xd_law_box xd_law_take xd_law_even xd_law_notes xd_law_time xd_law_moment xd_law_busy xd_law xd_BadNote xd_BadPart xd_BadTime xd_BadDrums xd_Overlap) : FnG P w K mg base 3 f_need_drums xd_need_drums ["drums"] (spOf ⟨K, cl⟩ (m_need_drums)) :=
  have nd := sc_need_drums.nd
  fnD (k := 2) T.d_need_drums.fu sc_need_drums fun cdv A out s H E hr hg => (ss_cons (s_if (t_not (t_val (x_callD (g_is_drum T) T.d_is_drum hr (by decide) hg rfl (a_cons (x_var 0) (a_cons (x_gi rfl T.k_MOST_DRUMS) a_nil))))) (ss_cons (s_raise1 (nm := "BadDrums") T.e_BadDrums.T (i_BadDrums T) T.n_BadDrums_found (hr.mono (by decide)) T.e_BadDrums.b rfl rfl T.e_BadDrums.m (a_cons (x_var 0) a_nil)) ss_nil) ss_nil) ss_nil)
theorem g_shows_crowd (T : Tx w K mg cl f_is_integer f_is_list f_is_pitch f_is_note f_need_note f_is_moment f_Part___init__ f_Part_notes f_need_part f_need_time f_is_busy f_busy_pitches f_is_drum f_need_drums f_shows_crowd f_law_cell f_law_box f_law_take f_law_even f_law_notes f_law_time f_law_moment f_law_busy f_law f_BadNote f_BadPart f_BadTime f_BadDrums f_Overlap xd_is_integer xd_is_list xd_is_pitch xd_is_note xd_need_note xd_is_moment xd_Part___init__ xd_Part_notes xd_need_part xd_need_time xd_is_busy xd_busy_pitches xd_is_drum xd_need_drums xd_shows_crowd xd_law_cell xd_law_box xd_law_take xd_law_even xd_law_notes xd_law_time xd_law_moment xd_law_busy xd_law xd_BadNote xd_BadPart xd_BadTime xd_BadDrums xd_Overlap) : FnG P w K mg base 4 f_shows_crowd xd_shows_crowd ["part", "time", "drums", "moment"] (spOf ⟨K, cl⟩ (m_shows_crowd)) :=
  have nd := sc_shows_crowd.nd
  fnD (k := 3) T.d_shows_crowd.fu sc_shows_crowd fun cdv A out s H E hr hg => (ss_cons (s_expr (x_callD (g_need_part T) T.d_need_part hr (by decide) hg rfl (a_cons (x_var 0) a_nil))) (ss_cons (s_expr (x_callD (g_need_time T) T.d_need_time hr (by decide) hg rfl (a_cons (x_var 1) a_nil))) (ss_cons (s_expr (x_callD (g_need_drums T) T.d_need_drums hr (by decide) hg rfl (a_cons (x_var 2) a_nil))) (ss_cons (s_ret (x_and (x_callD (g_is_moment T) T.d_is_moment hr (by decide) hg rfl (a_cons (x_var 3) a_nil)) (x_one (x_cmp o_gt (x_b c_len rfl T.b_len (by decide +kernel) (a_cons (x_callD (g_busy_pitches T) T.d_busy_pitches hr (by decide) hg rfl (a_cons (x_var 0) (a_cons (x_var 1) (a_cons (x_var 3) a_nil)))) a_nil)) (x_var 2))))) ss_nil))))
theorem g_law_cell (T : Tx w K mg cl f_is_integer f_is_list f_is_pitch f_is_note f_need_note f_is_moment f_Part___init__ f_Part_notes f_need_part f_need_time f_is_busy f_busy_pitches f_is_drum f_need_drums f_shows_crowd f_law_cell f_law_box f_law_take f_law_even f_law_notes f_law_time f_law_moment f_law_busy f_law f_BadNote f_BadPart f_BadTime f_BadDrums f_Overlap xd_is_integer xd_is_list xd_is_pitch xd_is_note xd_need_note xd_is_moment xd_Part___init__ xd_Part_notes xd_need_part xd_need_time xd_is_busy xd_busy_pitches xd_is_drum xd_need_drums xd_shows_crowd xd_law_cell xd_law_box xd_law_take xd_law_even xd_law_notes xd_law_time xd_law_moment xd_law_busy xd_law xd_BadNote xd_BadPart xd_BadTime xd_BadDrums xd_Overlap) : FnG P w K mg base 1 f_law_cell xd_law_cell ["script", "k"] (spOf ⟨K, cl⟩ (m_law_cell)) :=
  have nd := sc_law_cell.nd
  fnD (k := 0) T.d_law_cell.fu sc_law_cell fun cdv A out s H E hr hg => (ss_cons (s_if (t_cmp o_lt (x_var 1) (x_b c_len rfl T.b_len (by decide +kernel) (a_cons (x_var 0) a_nil))) (ss_cons (s_ret (x_ix i_seq (x_var 0) (x_var 1))) ss_nil) ss_nil) (ss_cons (s_ret (x_bin o_add (x_bin o_mul x_int (x_var 1)) x_int)) ss_nil))
theorem g_law_box (T : Tx w K mg cl f_is_integer f_is_list f_is_pitch f_is_note f_need_note f_is_moment f_Part___init__ f_Part_notes f_need_part f_need_time f_is_busy f_busy_pitches f_is_drum f_need_drums f_shows_crowd f_law_cell f_law_box f_law_take f_law_even f_law_notes f_law_time f_law_moment f_law_busy f_law f_BadNote f_BadPart f_BadTime f_BadDrums f_Overlap xd_is_integer xd_is_list xd_is_pitch xd_is_note xd_need_note xd_is_moment xd_Part___init__ xd_Part_notes xd_need_part xd_need_time xd_is_busy xd_busy_pitches xd_is_drum xd_need_drums xd_shows_crowd xd_law_cell xd_law_box xd_law_take xd_law_even xd_law_notes xd_law_time xd_law_moment xd_law_busy xd_law xd_BadNote xd_BadPart xd_BadTime xd_BadDrums xd_Overlap) : FnG P w K mg base 1 f_law_box xd_law_box ["cell"] (spOf ⟨K, cl⟩ (m_law_box)) :=
  have nd := sc_law_box.nd
  fnD (k := 0) T.d_law_box.fu sc_law_box fun cdv A out s H E hr hg => (ss_cons (s_ret (x_lstN (a_cons (x_b (c_max2 rfl) rfl T.b_max (by decide +kernel) (a_cons x_int (a_cons (x_bin o_sub (x_var 0) (x_bin o_pow x_int x_int)) a_nil))) (a_cons (x_bin o_mod (x_var 0) x_int) (a_cons x_int a_nil))))) ss_nil)
theorem g_law_take (T : Tx w K mg cl f_is_integer f_is_list f_is_pitch f_is_note f_need_note f_is_moment f_Part___init__ f_Part_notes f_need_part f_need_time f_is_busy f_busy_pitches f_is_drum f_need_drums f_shows_crowd f_law_cell f_law_box f_law_take f_law_even f_law_notes f_law_time f_law_moment f_law_busy f_law f_BadNote f_BadPart f_BadTime f_BadDrums f_Overlap xd_is_integer xd_is_list xd_is_pitch xd_is_note xd_need_note xd_is_moment xd_Part___init__ xd_Part_notes xd_need_part xd_need_time xd_is_busy xd_busy_pitches xd_is_drum xd_need_drums xd_shows_crowd xd_law_cell xd_law_box xd_law_take xd_law_even xd_law_notes xd_law_time xd_law_moment xd_law_busy xd_law xd_BadNote xd_BadPart xd_BadTime xd_BadDrums xd_Overlap) : FnG P w K mg base 1 f_law_take xd_law_take ["box", "many"] (spOf ⟨K, cl⟩ (m_law_take)) :=
  have nd := sc_law_take.nd
  fnD (k := 0) T.d_law_take.fu sc_law_take fun cdv A out s H E hr hg => (ss_cons (s_if (t_cmp o_gt (x_ix i_seq (x_var 0) x_int) x_int) (ss_cons (s_asg (x_bin o_mod (x_ix i_seq (x_var 0) x_int) (x_var 1)) (g_name 2 nd rfl)) (ss_cons (s_putN (x_var 0) x_int (x_bin o_div (x_ix i_seq (x_var 0) x_int) (x_var 1))) (ss_cons (s_ret (x_var 2)) ss_nil))) ss_nil) (ss_cons (s_putN (x_var 0) x_int (x_bin o_add (x_ix i_seq (x_var 0) x_int) x_int)) (ss_cons (s_asg (x_bin o_mod (x_bin o_pow (x_bin o_add (x_bin o_add (x_ix i_seq (x_var 0) x_int) (x_bin o_mul x_int (x_ix i_seq (x_var 0) x_int))) x_int) x_int) x_int) (g_name 3 nd rfl)) (ss_cons (s_asg (x_bin o_mod (x_bin o_pow (x_bin o_add (x_bin o_add (x_bin o_div (x_var 3) x_int) (x_bin o_mul (x_bin o_mul x_int (x_ix i_seq (x_var 0) x_int)) (x_ix i_seq (x_var 0) x_int))) x_int) x_int) x_int) (g_name 4 nd rfl)) (ss_cons (s_ret (x_bin o_mod (x_bin o_add (x_bin o_div (x_var 3) x_int) (x_bin o_mul x_int (x_bin o_div (x_var 4) x_int))) (x_var 1))) ss_nil)))))
theorem g_law_even (T : Tx w K mg cl f_is_integer f_is_list f_is_pitch f_is_note f_need_note f_is_moment f_Part___init__ f_Part_notes f_need_part f_need_time f_is_busy f_busy_pitches f_is_drum f_need_drums f_shows_crowd f_law_cell f_law_box f_law_take f_law_even f_law_notes f_law_time f_law_moment f_law_busy f_law f_BadNote f_BadPart f_BadTime f_BadDrums f_Overlap xd_is_integer xd_is_list xd_is_pitch xd_is_note xd_need_note xd_is_moment xd_Part___init__ xd_Part_notes xd_need_part xd_need_time xd_is_busy xd_busy_pitches xd_is_drum xd_need_drums xd_shows_crowd xd_law_cell xd_law_box xd_law_take xd_law_even xd_law_notes xd_law_time xd_law_moment xd_law_busy xd_law xd_BadNote xd_BadPart xd_BadTime xd_BadDrums xd_Overlap) : FnG P w K mg base 1 f_law_even xd_law_even ["told", "due"] (spOf ⟨K, cl⟩ (m_law_even)) :=
  have nd := sc_law_even.nd
  fnD (k := 0) T.d_law_even.fu sc_law_even fun cdv A out s H E hr hg => (ss_cons (s_ret (x_and (x_cmp (o_eq (hu64 hr)) (x_var 0) (x_var 1)) (x_one (x_cmp (o_eq (hu64 hr)) (x_b (c_repr hg (hu66 hr)) rfl T.b_repr (by decide +kernel) (a_cons (x_var 0) a_nil)) (x_b (c_repr hg (hu66 hr)) rfl T.b_repr (by decide +kernel) (a_cons (x_var 1) a_nil)))))) ss_nil)
theorem g_law_notes (T : Tx w K mg cl f_is_integer f_is_list f_is_pitch f_is_note f_need_note f_is_moment f_Part___init__ f_Part_notes f_need_part f_need_time f_is_busy f_busy_pitches f_is_drum f_need_drums f_shows_crowd f_law_cell f_law_box f_law_take f_law_even f_law_notes f_law_time f_law_moment f_law_busy f_law f_BadNote f_BadPart f_BadTime f_BadDrums f_Overlap xd_is_integer xd_is_list xd_is_pitch xd_is_note xd_need_note xd_is_moment xd_Part___init__ xd_Part_notes xd_need_part xd_need_time xd_is_busy xd_busy_pitches xd_is_drum xd_need_drums xd_shows_crowd xd_law_cell xd_law_box xd_law_take xd_law_even xd_law_notes xd_law_time xd_law_moment xd_law_busy xd_law xd_BadNote xd_BadPart xd_BadTime xd_BadDrums xd_Overlap) : FnG P w K mg base 2 f_law_notes xd_law_notes ["box", "most"] (spOf ⟨K, cl⟩ (m_law_notes)) :=
  have nd := sc_law_notes.nd
  fnD (k := 1) T.d_law_notes.fu sc_law_notes fun cdv A out s H E hr hg => (ss_cons (s_asg (x_ix i_seq (x_lst (a_cons (x_var 1) (a_cons (x_var 1) (a_cons (x_callD (g_law_take T) T.d_law_take hr (by decide) hg rfl (a_cons (x_var 0) (a_cons (x_bin o_add (x_var 1) x_int) a_nil))) (a_cons (x_callD (g_law_take T) T.d_law_take hr (by decide) hg rfl (a_cons (x_var 0) (a_cons x_int a_nil))) a_nil))))) (x_callD (g_law_take T) T.d_law_take hr (by decide) hg rfl (a_cons (x_var 0) (a_cons x_int a_nil)))) (g_name 2 nd rfl)) (ss_cons (s_asg (x_ix i_seq (x_lst (a_cons (x_bin o_add x_int (x_callD (g_law_take T) T.d_law_take hr (by decide) hg rfl (a_cons (x_var 0) (a_cons x_int a_nil)))) (a_cons x_int (a_cons x_int (a_cons (x_bin o_add x_int (x_callD (g_law_take T) T.d_law_take hr (by decide) hg rfl (a_cons (x_var 0) (a_cons x_int a_nil)))) a_nil))))) (x_callD (g_law_take T) T.d_law_take hr (by decide) hg rfl (a_cons (x_var 0) (a_cons x_int a_nil)))) (g_name 3 nd rfl)) (ss_cons (s_par 4 5 rfl nd rfl rfl (by decide) rfl rfl (a_cons (x_callD (g_law_take T) T.d_law_take hr (by decide) hg rfl (a_cons (x_var 0) (a_cons x_int a_nil))) (a_cons (x_bin o_add x_int (x_callD (g_law_take T) T.d_law_take hr (by decide) hg rfl (a_cons (x_var 0) (a_cons x_int a_nil)))) a_nil))) (ss_cons (s_asg (x_ix i_seq (x_lst (a_cons x_int (a_cons x_int (a_cons x_int (a_cons x_int a_nil))))) (x_callD (g_law_take T) T.d_law_take hr (by decide) hg rfl (a_cons (x_var 0) (a_cons x_int a_nil)))) (g_name 6 nd rfl)) (ss_cons (s_asg (x_ix i_seq (x_lst (a_cons x_int (a_cons (x_callD (g_law_take T) T.d_law_take hr (by decide) hg rfl (a_cons (x_var 0) (a_cons x_int a_nil))) a_nil))) (x_callD (g_law_take T) T.d_law_take hr (by decide) hg rfl (a_cons (x_var 0) (a_cons x_int a_nil)))) (g_name 7 nd rfl)) (ss_cons (s_asg (x_lstN a_nil) (g_name 8 nd rfl)) (ss_cons (s_for rfl (w_range1 rfl T.b_range (x_var 2)) (g_name 9 nd rfl) (ss_cons (s_asg (x_bin o_add (x_var 7) (x_callD (g_law_take T) T.d_law_take hr (by decide) hg rfl (a_cons (x_var 0) (a_cons (x_var 6) a_nil)))) (g_name 7 nd rfl)) (ss_cons (s_asg (x_bin o_add (x_var 7) (x_ix i_seq (x_lst (a_cons x_int (a_cons x_int (a_cons (x_callD (g_law_take T) T.d_law_take hr (by decide) hg rfl (a_cons (x_var 0) (a_cons x_int a_nil))) (a_cons (x_callD (g_law_take T) T.d_law_take hr (by decide) hg rfl (a_cons (x_var 0) (a_cons (x_var 6) a_nil))) a_nil))))) (x_callD (g_law_take T) T.d_law_take hr (by decide) hg rfl (a_cons (x_var 0) (a_cons x_int a_nil))))) (g_name 10 nd rfl)) (ss_cons (s_asg (x_bin o_add (x_var 4) (x_bin o_mul (x_var 5) (x_callD (g_law_take T) T.d_law_take hr (by decide) hg rfl (a_cons (x_var 0) (a_cons (x_var 3) a_nil))))) (g_name 11 nd rfl)) (ss_cons (s_if (t_cmp (o_eq (hu64 hr)) (x_lc [("note", 12)] rfl nd (w_it (x_var 8)) (blkOk_by (N := N_law_notes) (sc := (defScope st_law_notes)) (own := [("note", 12)]) (by decide +kernel)) (b_name 12 nd rfl (by decide)) (fun _ _ _ _ _ => ts_one (t_w (w_and (t_cmp (o_eq (hu64 hr)) (x_ix i_seq (x_var 12) x_int) (x_var 11)) (w_and1 (t_cmp o_ge (x_ix i_seq (x_var 12) x_int) (x_var 7)))))) (fun _ _ _ _ _ => (x_var 12))) (x_lst a_nil)) (ss_cons (s_expr (x_appN (x_var 8) (x_tup (a_cons (x_var 7) (a_cons (x_var 10) (a_cons (x_var 11) a_nil)))))) ss_nil) ss_nil) ss_nil))))) (ss_cons (s_ret (x_b c_sortT rfl T.b_sorted (by decide +kernel) (a_cons (x_var 8) a_nil))) ss_nil))))))))
theorem g_law_time (T : Tx w K mg cl f_is_integer f_is_list f_is_pitch f_is_note f_need_note f_is_moment f_Part___init__ f_Part_notes f_need_part f_need_time f_is_busy f_busy_pitches f_is_drum f_need_drums f_shows_crowd f_law_cell f_law_box f_law_take f_law_even f_law_notes f_law_time f_law_moment f_law_busy f_law f_BadNote f_BadPart f_BadTime f_BadDrums f_Overlap xd_is_integer xd_is_list xd_is_pitch xd_is_note xd_need_note xd_is_moment xd_Part___init__ xd_Part_notes xd_need_part xd_need_time xd_is_busy xd_busy_pitches xd_is_drum xd_need_drums xd_shows_crowd xd_law_cell xd_law_box xd_law_take xd_law_even xd_law_notes xd_law_time xd_law_moment xd_law_busy xd_law xd_BadNote xd_BadPart xd_BadTime xd_BadDrums xd_Overlap) : FnG P w K mg base 2 f_law_time xd_law_time ["box", "notes"] (spOf ⟨K, cl⟩ (m_law_time)) :=
  have nd := sc_law_time.nd
  fnD (k := 1) T.d_law_time.fu sc_law_time fun cdv A out s H E hr hg => (ss_cons (s_asg (x_callD (g_law_take T) T.d_law_take hr (by decide) hg rfl (a_cons (x_var 0) (a_cons x_int a_nil))) (g_name 2 nd rfl)) (ss_cons (s_if (t_w (w_and (t_cmp o_lt (x_var 2) x_int) (w_and1 (t_cmp (o_ne (hu64 hr)) (x_var 1) (x_lst a_nil))))) (ss_cons (s_par 3 4 rfl nd rfl rfl (by decide) rfl rfl (a_cons (x_ix i_seq (x_var 1) (x_callD (g_law_take T) T.d_law_take hr (by decide) hg rfl (a_cons (x_var 0) (a_cons (x_b c_len rfl T.b_len (by decide +kernel) (a_cons (x_var 1) a_nil)) a_nil)))) (a_cons (x_ix i_seq (x_var 1) (x_callD (g_law_take T) T.d_law_take hr (by decide) hg rfl (a_cons (x_var 0) (a_cons (x_b c_len rfl T.b_len (by decide +kernel) (a_cons (x_var 1) a_nil)) a_nil)))) a_nil))) (ss_cons (s_asg (x_bin o_sub (x_b (c_max2 rfl) rfl T.b_max (by decide +kernel) (a_cons (x_ix i_seq (x_var 3) x_int) (a_cons (x_ix i_seq (x_var 4) x_int) a_nil))) (x_b (c_min2 rfl) rfl T.b_min (by decide +kernel) (a_cons (x_ix i_seq (x_var 3) x_int) (a_cons (x_ix i_seq (x_var 4) x_int) a_nil)))) (g_name 5 nd rfl)) (ss_cons (s_ret (x_b (c_min2 rfl) rfl T.b_min (by decide +kernel) (a_cons x_int (a_cons (x_b (c_max2 rfl) rfl T.b_max (by decide +kernel) (a_cons x_int (a_cons (x_bin o_add (x_var 5) (x_callD (g_law_take T) T.d_law_take hr (by decide) hg rfl (a_cons (x_var 0) (a_cons x_int a_nil)))) a_nil))) a_nil)))) ss_nil))) ss_nil) (ss_cons (s_ret (x_bin o_add x_int (x_callD (g_law_take T) T.d_law_take hr (by decide) hg rfl (a_cons (x_var 0) (a_cons (x_ix i_seq (x_lst (a_cons x_int (a_cons x_int (a_cons x_int (a_cons x_int a_nil))))) (x_callD (g_law_take T) T.d_law_take hr (by decide) hg rfl (a_cons (x_var 0) (a_cons x_int a_nil)))) a_nil))))) ss_nil)))
theorem g_law_moment (T : Tx w K mg cl f_is_integer f_is_list f_is_pitch f_is_note f_need_note f_is_moment f_Part___init__ f_Part_notes f_need_part f_need_time f_is_busy f_busy_pitches f_is_drum f_need_drums f_shows_crowd f_law_cell f_law_box f_law_take f_law_even f_law_notes f_law_time f_law_moment f_law_busy f_law f_BadNote f_BadPart f_BadTime f_BadDrums f_Overlap xd_is_integer xd_is_list xd_is_pitch xd_is_note xd_need_note xd_is_moment xd_Part___init__ xd_Part_notes xd_need_part xd_need_time xd_is_busy xd_busy_pitches xd_is_drum xd_need_drums xd_shows_crowd xd_law_cell xd_law_box xd_law_take xd_law_even xd_law_notes xd_law_time xd_law_moment xd_law_busy xd_law xd_BadNote xd_BadPart xd_BadTime xd_BadDrums xd_Overlap) : FnG P w K mg base 2 f_law_moment xd_law_moment ["box", "notes", "time"] (spOf ⟨K, cl⟩ (m_law_moment)) :=
  have nd := sc_law_moment.nd
  fnD (k := 1) T.d_law_moment.fu sc_law_moment fun cdv A out s H E hr hg => (ss_cons (s_if (t_w (w_or (t_cmp (o_eq (hu64 hr)) (x_var 1) (x_lst a_nil)) (w_or1 (t_cmp (o_eq (hu64 hr)) (x_callD (g_law_take T) T.d_law_take hr (by decide) hg rfl (a_cons (x_var 0) (a_cons x_int a_nil))) x_int)))) (ss_cons (s_ret (x_ix i_seq (x_lst (a_cons (x_callD (g_law_take T) T.d_law_take hr (by decide) hg rfl (a_cons (x_var 0) (a_cons x_int a_nil))) (a_cons (x_callD (g_law_take T) T.d_law_take hr (by decide) hg rfl (a_cons (x_var 0) (a_cons x_int a_nil))) (a_cons x_int a_nil)))) (x_callD (g_law_take T) T.d_law_take hr (by decide) hg rfl (a_cons (x_var 0) (a_cons x_int a_nil))))) ss_nil) ss_nil) (ss_cons (s_asg (x_ix i_seq (x_var 1) (x_callD (g_law_take T) T.d_law_take hr (by decide) hg rfl (a_cons (x_var 0) (a_cons (x_b c_len rfl T.b_len (by decide +kernel) (a_cons (x_var 1) a_nil)) a_nil)))) (g_tup rfl (gs_cons (g_name 3 nd rfl) (gs_cons (g_name 4 nd rfl) (gs_cons (g_name 5 nd rfl) gs_nil))))) (ss_cons (s_ret (x_b (c_min2 rfl) rfl T.b_min (by decide +kernel) (a_cons x_int (a_cons (x_b (c_max2 rfl) rfl T.b_max (by decide +kernel) (a_cons x_int (a_cons (x_bin o_sub (x_bin o_add (x_ix i_seq (x_lst (a_cons (x_var 3) (a_cons (x_var 4) (a_cons (x_bin o_add (x_var 4) (x_var 2)) a_nil)))) (x_callD (g_law_take T) T.d_law_take hr (by decide) hg rfl (a_cons (x_var 0) (a_cons x_int a_nil)))) (x_callD (g_law_take T) T.d_law_take hr (by decide) hg rfl (a_cons (x_var 0) (a_cons x_int a_nil)))) x_int) a_nil))) a_nil)))) ss_nil)))
theorem g_law_busy (T : Tx w K mg cl f_is_integer f_is_list f_is_pitch f_is_note f_need_note f_is_moment f_Part___init__ f_Part_notes f_need_part f_need_time f_is_busy f_busy_pitches f_is_drum f_need_drums f_shows_crowd f_law_cell f_law_box f_law_take f_law_even f_law_notes f_law_time f_law_moment f_law_busy f_law f_BadNote f_BadPart f_BadTime f_BadDrums f_Overlap xd_is_integer xd_is_list xd_is_pitch xd_is_note xd_need_note xd_is_moment xd_Part___init__ xd_Part_notes xd_need_part xd_need_time xd_is_busy xd_busy_pitches xd_is_drum xd_need_drums xd_shows_crowd xd_law_cell xd_law_box xd_law_take xd_law_even xd_law_notes xd_law_time xd_law_moment xd_law_busy xd_law xd_BadNote xd_BadPart xd_BadTime xd_BadDrums xd_Overlap) : FnG P w K mg base 1 f_law_busy xd_law_busy ["notes", "time", "moment"] (spOf ⟨K, cl⟩ (m_law_busy)) :=
  have nd := sc_law_busy.nd
  fnD (k := 0) T.d_law_busy.fu sc_law_busy fun cdv A out s H E hr hg => (ss_cons (s_asg (x_lstN a_nil) (g_name 3 nd rfl)) (ss_cons (s_for rfl (w_it (x_var 0)) (g_tup rfl (gs_cons (g_name 4 nd rfl) (gs_cons (g_name 5 nd rfl) (gs_cons (g_name 6 nd rfl) gs_nil)))) (ss_cons (s_if (t_w (w_and (t_chain o_le o_le (x_var 4) (x_var 2) (x_bin o_sub (x_bin o_add (x_var 5) (x_var 1)) x_int)) (w_and1 (t_cmp o_notIn (x_var 6) (x_var 3))))) (ss_cons (s_expr (x_appN (x_var 3) (x_var 6))) ss_nil) ss_nil) ss_nil)) (ss_cons (s_ret (x_b c_sorted rfl T.b_sorted (by decide +kernel) (a_cons (x_var 3) a_nil))) ss_nil)))
theorem g_law (T : Tx w K mg cl f_is_integer f_is_list f_is_pitch f_is_note f_need_note f_is_moment f_Part___init__ f_Part_notes f_need_part f_need_time f_is_busy f_busy_pitches f_is_drum f_need_drums f_shows_crowd f_law_cell f_law_box f_law_take f_law_even f_law_notes f_law_time f_law_moment f_law_busy f_law f_BadNote f_BadPart f_BadTime f_BadDrums f_Overlap xd_is_integer xd_is_list xd_is_pitch xd_is_note xd_need_note xd_is_moment xd_Part___init__ xd_Part_notes xd_need_part xd_need_time xd_is_busy xd_busy_pitches xd_is_drum xd_need_drums xd_shows_crowd xd_law_cell xd_law_box xd_law_take xd_law_even xd_law_notes xd_law_time xd_law_moment xd_law_busy xd_law xd_BadNote xd_BadPart xd_BadTime xd_BadDrums xd_Overlap) : FnG P w K mg base 7 f_law xd_law ["script"] (spOf ⟨K, cl⟩ (m_law)) :=
  have nd := sc_law.nd
  fnD (k := 6) T.d_law.fu sc_law fun cdv A out s H E hr hg => (ss_cons (s_for rfl (w_range1 rfl T.b_range (x_b (c_max2 rfl) rfl T.b_max (by decide +kernel) (a_cons x_int (a_cons (x_b (c_min2 rfl) rfl T.b_min (by decide +kernel) (a_cons x_int (a_cons (x_b c_len rfl T.b_len (by decide +kernel) (a_cons (x_var 0) a_nil)) a_nil))) a_nil)))) (g_name 1 nd rfl) (ss_cons (s_asg (x_callD (g_law_box T) T.d_law_box hr (by decide) hg rfl (a_cons (x_callD (g_law_cell T) T.d_law_cell hr (by decide) hg rfl (a_cons (x_var 0) (a_cons (x_var 1) a_nil))) a_nil)) (g_name 2 nd rfl)) (ss_cons (s_asg (x_callD (g_law_notes T) T.d_law_notes hr (by decide) hg rfl (a_cons (x_var 2) (a_cons x_int a_nil))) (g_name 3 nd rfl)) (ss_cons (s_asg (x_makeP (g_Part___init__ T) T.pt_Part T.p_Part___init__.b hr (by decide) hg rfl (a_cons (x_var 3) a_nil)) (g_name 4 nd rfl)) (ss_cons (s_asg (x_callD (g_law_time T) T.d_law_time hr (by decide) hg rfl (a_cons (x_var 2) (a_cons (x_var 3) a_nil))) (g_name 5 nd rfl)) (ss_cons (s_for rfl (w_range1 rfl T.b_range x_int) (g_name 6 nd rfl) (ss_cons (s_asg (x_callD (g_law_moment T) T.d_law_moment hr (by decide) hg rfl (a_cons (x_var 2) (a_cons (x_var 3) (a_cons (x_var 5) a_nil)))) (g_name 7 nd rfl)) (ss_cons (s_asg (x_b c_len rfl T.b_len (by decide +kernel) (a_cons (x_callP (g_law_busy T) T.d_law_busy hr (by decide) hg rfl (a_cons (x_var 3) (a_cons (x_var 5) (a_cons (x_var 7) a_nil)))) a_nil)) (g_name 8 nd rfl)) (ss_cons (s_for rfl (w_it (x_lst (a_cons (x_var 8) (a_cons (x_bin o_sub (x_var 8) x_int) (a_cons (x_bin o_add (x_var 8) x_int) (a_cons (x_bin o_add x_int (x_callD (g_law_take T) T.d_law_take hr (by decide) hg rfl (a_cons (x_var 2) (a_cons x_int a_nil)))) a_nil)))))) (g_name 9 nd rfl) (ss_cons (s_if (t_w (w_and (t_chain o_le o_le x_int (x_var 9) x_int) (w_and1 (t_not (t_val (x_callD (g_law_even T) T.d_law_even hr (by decide) hg rfl (a_cons (x_callD (g_shows_crowd T) T.d_shows_crowd hr (by decide) hg rfl (a_cons (x_var 4) (a_cons (x_var 5) (a_cons (x_var 9) (a_cons (x_var 7) a_nil))))) (a_cons (x_cmp o_gt (x_var 8) (x_var 9)) a_nil)))))))) (ss_cons (s_ret x_bl) ss_nil) ss_nil) ss_nil)) ss_nil)))) (ss_cons (s_asg (x_makeP (g_Part___init__ T) T.pt_Part T.p_Part___init__.b hr (by decide) hg rfl (a_cons (x_lc [("pitch", 11)] rfl nd (w_range1 rfl T.b_range x_int) (blkOk_by (N := N_law) (sc := (defScope st_law)) (own := [("pitch", 11)]) (by decide +kernel)) (b_name 11 nd rfl (by decide)) (fun _ _ _ _ _ => ts_nil) (fun _ _ _ _ _ => (x_tup (a_cons x_int (a_cons x_int (a_cons (x_var 11) a_nil)))))) a_nil)) (g_name 10 nd rfl)) (ss_cons (s_for rfl (w_it (x_lst (a_cons (x_un u_neg x_int) (a_cons x_int (a_cons x_non (a_cons x_bl (a_cons x_bl (a_cons x_str (a_cons (x_lst (a_cons x_int a_nil)) (a_cons (x_tup (a_cons x_int a_nil)) (a_cons x_dct (a_cons (x_bin o_pow x_int x_int) (a_cons (x_tup (a_cons x_str (a_cons x_int a_nil))) a_nil))))))))))))) (g_name 12 nd rfl) (ss_cons (s_if (t_w (w_or (t_cmp o_notB (x_callD (g_shows_crowd T) T.d_shows_crowd hr (by decide) hg rfl (a_cons (x_var 10) (a_cons x_int (a_cons x_int (a_cons (x_var 12) a_nil))))) x_bl) (w_or1 (t_cmp o_notB (x_callD (g_shows_crowd T) T.d_shows_crowd hr (by decide) hg rfl (a_cons (x_var 10) (a_cons x_int (a_cons x_int (a_cons (x_var 12) a_nil))))) x_bl)))) (ss_cons (s_ret x_bl) ss_nil) ss_nil) ss_nil)) (ss_cons (s_if (t_not (t_val (x_callD (g_law_even T) T.d_law_even hr (by decide) hg rfl (a_cons (x_lst (a_cons (x_callD (g_shows_crowd T) T.d_shows_crowd hr (by decide) hg rfl (a_cons (x_var 10) (a_cons x_int (a_cons x_int (a_cons x_int a_nil))))) (a_cons (x_callD (g_shows_crowd T) T.d_shows_crowd hr (by decide) hg rfl (a_cons (x_var 10) (a_cons x_int (a_cons x_int (a_cons x_int a_nil))))) a_nil))) (a_cons (x_lst (a_cons x_bl (a_cons x_bl a_nil))) a_nil))))) (ss_cons (s_ret x_bl) ss_nil) ss_nil) ss_nil))))))))) (ss_cons (s_ret x_bl) ss_nil))
end
end K34
set_option maxHeartbeats 400000
namespace K34
open PySem PySem.Spec L2 Kt
theorem tk_eq : m_law_take = m_take 85 := rfl
theorem pt_eq : m_Part___init__ = m_part := rfl
theorem lt_eq : m_law_time = mm_law_time 85 := rfl
theorem lm_eq : m_law_moment = mm_law_moment 85 := rfl
theorem lb_eq : m_law_busy = mm_law_busy := rfl
theorem np_eq : m_need_part = mm_needpart := rfl
theorem nt_eq : m_need_time = mm_need_time := rfl
theorem bp_eq : m_busy_pitches = mm_busyp := rfl
theorem id_eq : m_is_drum = mm_is_drum := rfl
theorem im_eq : m_is_moment = mm_ismoment := rfl
section
variable {st : List Ob} {Q : SV → List Ob → Prop} {E : XK'} {ts : List Tri}
theorem ismoment_ok {d : D} {t : String} (h : tyD st d = some t) (q : Q (.d (.bl (isI d 0 19998))) st) : mm_ismoment [d] st Q E := by
  simp only [mm_ismoment, RR_ismoment, mD, dSeq, dRet, dCall, dCons, dNil, dVar, dC]
  exact ⟨rfl, d, rfl, isint_ok h ⟨rfl, q⟩⟩
theorem needdrums_ok {dr : Int} (h : 1 ≤ dr ∧ dr ≤ 12) (q : Q (.d .non) st) : m_need_drums [.int dr] st Q E := by
  simp only [m_need_drums, r_need_drums, id_eq, mD, dSeq, dIfS, dNot, dTest, dCall, dCons, dNil, dVar, dC, dNext]
  refine ⟨rfl, _, rfl, isdrum_ok (t := "int") rfl ⟨rfl, _, rfl, ?_⟩⟩
  rw [if_neg (by simp [isI]; omega)]
  exact q
theorem shows_ok {T dr m : Int} (hl : ts.length < 64) (hT : 1 ≤ T ∧ T ≤ 9999) (hd : 1 ≤ dr ∧ dr ≤ 12) (hm : 0 ≤ m ∧ m ≤ 19998) (q : Q (.d (.bl (decide ((nbz ts T m : Int) > dr)))) st) : m_shows_crowd [.part (ts.map triD), .int T, .int dr, .int m] st Q E := by
  simp only [m_shows_crowd, r_shows_crowd, np_eq, nt_eq, bp_eq, im_eq, mD, dSeq, dRet, dDrop, dAndV, dBin, dB, dCall, dCons, dNil, dVar]
  refine ⟨rfl, _, rfl, pneed_ok ⟨rfl, _, rfl, time_need (t := "int") rfl (fun _ => ⟨rfl, _, rfl, needdrums_ok hd ⟨rfl, _, rfl, ismoment_ok (t := "int") rfl ⟨rfl, _, rfl, ?_⟩⟩⟩) fun z => absurd z (by simp [isI]; omega)⟩⟩
  rw [if_pos (by simp [isI]; omega)]
  refine ⟨_, rfl, _, rfl, _, rfl, busyp_ok hl ⟨rfl, kLen_lst ⟨_, rfl, True.intro, ?_⟩⟩⟩
  rw [List.length_map]
  exact q
theorem shows_no {T dr : Int} {d : D} {t : String} (hT : 1 ≤ T ∧ T ≤ 9999) (hd : 1 ≤ dr ∧ dr ≤ 12) (h : tyD st d = some t) (hi : isI d 0 19998 = false) (q : Q (.d (.bl false)) st) : m_shows_crowd [.part (ts.map triD), .int T, .int dr, d] st Q E := by
  simp only [m_shows_crowd, r_shows_crowd, np_eq, nt_eq, bp_eq, im_eq, mD, dSeq, dRet, dDrop, dAndV, dBin, dB, dCall, dCons, dNil, dVar]
  refine ⟨rfl, _, rfl, pneed_ok ⟨rfl, _, rfl, time_need (t := "int") rfl (fun _ => ⟨rfl, _, rfl, needdrums_ok hd ⟨rfl, _, rfl, ismoment_ok h ⟨rfl, _, rfl, ?_⟩⟩⟩) fun z => absurd z (by simp [isI]; omega)⟩⟩
  rw [if_neg (by rw [hi]; decide)]
  exact q
end
def h1 : DS := (dSet (dName 2) (dCall m_law_box (dCons (dCall m_law_cell (dCons (dVar 0) (dCons (dVar 1) dNil))) dNil)))
def h2 : DS := (dSet (dName 3) (dCall m_law_notes (dCons (dVar 2) (dCons (dC (.int 30)) dNil))))
def h3 : DS := (dSet (dName 4) (dMakeP m_Part___init__ (dCons (dVar 3) dNil)))
def h4 : DS := (dSet (dName 5) (dCall m_law_time (dCons (dVar 2) (dCons (dVar 3) dNil))))
def h5 : DS := (dFor (dRng1 (dC (.int 8))) (dName 6) (dSeq (dSet (dName 7) (dCall m_law_moment (dCons (dVar 2) (dCons (dVar 3) (dCons (dVar 5) dNil))))) (dSeq (dSet (dName 8) (dB kLen (dCons (dCallP m_law_busy (dCons (dVar 3) (dCons (dVar 5) (dCons (dVar 7) dNil)))) dNil))) (dSeq (dFor (dIt (dLst (dCons (dVar 8) (dCons (dBin kSub (dVar 8) (dC (.int 1))) (dCons (dBin kAdd (dVar 8) (dC (.int 1))) (dCons (dBin kAdd (dC (.int 1)) (dCall m_law_take (dCons (dVar 2) (dCons (dC (.int 12)) dNil)))) dNil)))))) (dName 9) (dSeq (dIfS (dAnd (dTest (dChain kLe kLe (dC (.int 1)) (dVar 9) (dC (.int 12)))) (dNot (dTest (dCall m_law_even (dCons (dCall m_shows_crowd (dCons (dVar 4) (dCons (dVar 5) (dCons (dVar 9) (dCons (dVar 7) dNil))))) (dCons (dBin kGt (dVar 8) (dVar 9)) dNil)))))) (dSeq (dRet (dC (.bl false))) dNext) dNext) dNext)) dNext))))
def h6 : DS := (dSet (dName 10) (dMakeP m_Part___init__ (dCons (dLcE (dLc (dRng1 (dC (.int 3))) (dName 11) dYes (dTup (dCons (dC (.int 0)) (dCons (dC (.int 9999)) (dCons (dVar 11) dNil)))) [11])) dNil)))
def h7 : DS := (dFor (dIt (dLst (dCons (dUn kNeg (dC (.int 1))) (dCons (dC (.int 19999)) (dCons (dC .non) (dCons (dC (.bl true)) (dCons (dC (.bl false)) (dCons (dC (.str "0")) (dCons (dLst (dCons (dC (.int 0)) dNil)) (dCons (dTup (dCons (dC (.int 0)) dNil)) (dCons dDct (dCons (dBin kPow (dC (.int 10)) (dC (.int 29))) (dCons (dTup (dCons (dC (.str "crowd")) (dCons (dC (.int 0)) dNil))) dNil))))))))))))) (dName 12) (dSeq (dIfS (dOr (dTest (dBin kNotB (dCall m_shows_crowd (dCons (dVar 10) (dCons (dC (.int 9999)) (dCons (dC (.int 2)) (dCons (dVar 12) dNil))))) (dC (.bl false)))) (dTest (dBin kNotB (dCall m_shows_crowd (dCons (dVar 10) (dCons (dC (.int 9999)) (dCons (dC (.int 1)) (dCons (dVar 12) dNil))))) (dC (.bl false))))) (dSeq (dRet (dC (.bl false))) dNext) dNext) dNext))
def h8 : DS := (dIfS (dNot (dTest (dCall m_law_even (dCons (dLst (dCons (dCall m_shows_crowd (dCons (dVar 10) (dCons (dC (.int 9999)) (dCons (dC (.int 2)) (dCons (dC (.int 19997)) dNil))))) (dCons (dCall m_shows_crowd (dCons (dVar 10) (dCons (dC (.int 9999)) (dCons (dC (.int 2)) (dCons (dC (.int 19998)) dNil))))) dNil))) (dCons (dLst (dCons (dC (.bl true)) (dCons (dC (.bl false)) dNil))) dNil))))) (dSeq (dRet (dC (.bl false))) dNext) dNext)
def bodyL : DS := (dSeq h1 (dSeq h2 (dSeq h3 (dSeq h4 (dSeq h5 (dSeq h6 (dSeq h7 (dSeq h8 dNext))))))))
theorem r_law_eq : r_law = (dSeq (dFor (dRng1 (dB kMax2 (dCons (dC (.int 2)) (dCons (dB kMin2 (dCons (dC (.int 8)) (dCons (dB kLen (dCons (dVar 0) dNil)) dNil))) dNil)))) (dName 1) bodyL) (dSeq (dRet (dC (.bl true))) dNext)) := rfl
def iA : DS := (dSeq (dIfS (dAnd (dTest (dChain kLe kLe (dC (.int 1)) (dVar 9) (dC (.int 12)))) (dNot (dTest (dCall m_law_even (dCons (dCall m_shows_crowd (dCons (dVar 4) (dCons (dVar 5) (dCons (dVar 9) (dCons (dVar 7) dNil))))) (dCons (dBin kGt (dVar 8) (dVar 9)) dNil)))))) (dSeq (dRet (dC (.bl false))) dNext) dNext) dNext)
def iL : DS := (dFor (dIt (dLst (dCons (dVar 8) (dCons (dBin kSub (dVar 8) (dC (.int 1))) (dCons (dBin kAdd (dVar 8) (dC (.int 1))) (dCons (dBin kAdd (dC (.int 1)) (dCall m_law_take (dCons (dVar 2) (dCons (dC (.int 12)) dNil)))) dNil)))))) (dName 9) iA)
def iM : DS := (dSet (dName 7) (dCall m_law_moment (dCons (dVar 2) (dCons (dVar 3) (dCons (dVar 5) dNil)))))
def iN : DS := (dSet (dName 8) (dB kLen (dCons (dCallP m_law_busy (dCons (dVar 3) (dCons (dVar 5) (dCons (dVar 7) dNil)))) dNil)))
theorem h5_eq : h5 = dFor (dRng1 (dC (.int 8))) (dName 6) (dSeq iM (dSeq iN (dSeq iL dNext))) := rfl
def cr : List Tri := [(0, 9999, 0), (0, 9999, 1), (0, 9999, 2)]
theorem cr_v : ∀ t ∈ cr, vN t := by simp only [vN, cr]; decide
theorem cr_s : srt cr = cr := srt_same (fun t ht => (cr_v t ht).bd) (by decide)
section
variable {st : List Ob} {De : DEnds} {n c : Nat} {ts : List Tri} {T m : Int} {p0 p1 p2 p3 p4 p5 p6 p7 p8 p9 p10 p11 p12 : Option SV}
theorem iA_ok {x : Int} (hl : ts.length ≤ 60) (hT : 1 ≤ T ∧ T ≤ 9999) (hm : 0 ≤ m ∧ m ≤ 19998) (q : De.nx ⟨[p0, p1, p2, p3, some (.d (.part (ts.map triD))), some (.d (.int T)), p6, some (.d (.int m)), some (.d (.int (nbz ts T m : Int))), some (.d (.int x)), p10, p11, p12], st⟩) :
    iA De ⟨[p0, p1, p2, p3, some (.d (.part (ts.map triD))), some (.d (.int T)), p6, some (.d (.int m)), some (.d (.int (nbz ts T m : Int))), some (.d (.int x)), p10, p11, p12], st⟩ := by
  simp only [iA, dSeq, dNext, dIfS, dAnd, dNot, dTest, dChain, dBin, dCall, dCons, dNil, dVar, dC, dRet]
  refine ⟨_, rfl, True.intro, _, rfl, ?_⟩
  dsimp only
  by_cases h1 : 1 ≤ x
  · rw [if_pos (by simpa using h1)]
    refine ⟨True.intro, _, rfl, ?_⟩
    dsimp only
    by_cases h2 : x ≤ 12
    · rw [if_pos (by simpa using h2)]
      refine ⟨_, rfl, _, rfl, _, rfl, _, rfl, shows_ok (by omega) hT ⟨h1, h2⟩ hm ⟨rfl, _, rfl, _, rfl, True.intro, ?_⟩⟩
      refine even_bl ⟨rfl, _, rfl, ?_⟩
      rw [if_neg (by decide)]
      exact q
    · rw [if_neg (by simpa using h2), if_neg (by decide)]
      exact q
  · rw [if_neg (by simpa using h1)]
    refine ⟨_, rfl, ?_⟩
    rw [if_neg (by decide)]
    exact q
theorem iL_ok (h : Bx st n c) (hc : c + 1 ≤ 1000000) (hl : ts.length ≤ 60) (hT : 1 ≤ T ∧ T ≤ 9999) (hm : 0 ≤ m ∧ m ≤ 19998) (q : ∀ x st', Stp n st st' (c + 1) → De.nx ⟨[p0, p1, some (.d (.obj n)), p3, some (.d (.part (ts.map triD))), some (.d (.int T)), p6, some (.d (.int m)), some (.d (.int (nbz ts T m : Int))), x, p10, p11, p12], st'⟩) :
    iL De ⟨[p0, p1, some (.d (.obj n)), p3, some (.d (.part (ts.map triD))), some (.d (.int T)), p6, some (.d (.int m)), some (.d (.int (nbz ts T m : Int))), p9, p10, p11, p12], st⟩ := by
  simp only [iL, tk_eq, dFor, dIt, dLst, dBin, dCall, dCons, dNil, dVar, dC]
  refine ⟨_, rfl, _, rfl, ⟨True.intro, _, rfl, _, rfl, take_ok (many := 12) h (by omega) (by decide) (by decide) (fun r s1 r0 r1 g1 => ⟨rfl, kAddI ⟨four _ _ _ _, _, rfl, ?_⟩⟩)⟩⟩
  refine loop_inv _ (fun i s => ∃ x, s = ⟨[p0, p1, some (.d (.obj n)), p3, some (.d (.part (ts.map triD))), some (.d (.int T)), p6, some (.d (.int m)), some (.d (.int (nbz ts T m : Int))), x, p10, p11, p12], s1⟩) ⟨_, rfl⟩ (fun i d s nx hd hI k => ?_) (fun s hI => ?_)
  · obtain ⟨x, rfl⟩ := hI
    obtain ⟨y, rfl⟩ : ∃ y : Int, d = .int y := by
      have := List.mem_of_getElem? hd
      simp only [List.mem_cons, List.not_mem_nil, or_false] at this
      rcases this with rfl | rfl | rfl | rfl <;> exact ⟨_, rfl⟩
    refine ⟨True.intro, ?_⟩
    simp only [dName]
    exact iA_ok hl hT hm (k _ ⟨_, rfl⟩)
  · obtain ⟨x, rfl⟩ := hI
    exact ⟨True.intro, q _ _ g1⟩
theorem h5_ok (h : Bx st n c) (hc : c + 50 ≤ 1000000) (hl : ts.length ≤ 60) (hv : ∀ t ∈ ts, vN t) (hT : 1 ≤ T ∧ T ≤ 9999)
    (q : ∀ a b e f st', De.nx ⟨[p0, p1, some (.d (.obj n)), some (.d (.lst (ts.map triD))), some (.d (.part (ts.map triD))), some (.d (.int T)), a, b, e, f, p10, p11, p12], st'⟩) :
    h5 De ⟨[p0, p1, some (.d (.obj n)), some (.d (.lst (ts.map triD))), some (.d (.part (ts.map triD))), some (.d (.int T)), p6, p7, p8, p9, p10, p11, p12], st⟩ := by
  rw [h5_eq]
  refine ⟨8, rfl, by decide, by decide, ?_⟩
  refine loop_inv (rngD 0 (8 : Int).toNat) (fun i s => ∃ a b e f st', s = ⟨[p0, p1, some (.d (.obj n)), some (.d (.lst (ts.map triD))), some (.d (.part (ts.map triD))), some (.d (.int T)), a, b, e, f, p10, p11, p12], st'⟩ ∧ Bx st' n (c + 5 * i)) ⟨_, _, _, _, _, rfl, h⟩ (fun i d s nx hd hI k => ?_) (fun s hI => ?_)
  · obtain ⟨a, b, e, f, s0, rfl, b0⟩ := hI
    obtain ⟨hi, rfl⟩ := rng_get hd
    have hi : i < 8 := hi
    refine ⟨True.intro, ?_⟩
    simp only [iM, iN, lm_eq, lb_eq, dName, dSeq, dSet, dB, dCall, dCallP, dCons, dNil, dVar, dNext]
    refine ⟨_, rfl, _, rfl, _, rfl, moment_ok (c0 := 85) b0 (by omega) hv (by omega) fun m s1 m0 m1 g1 => ⟨rfl, ?_⟩⟩
    refine ⟨_, rfl, _, rfl, _, rfl, lbusy_ok (by omega) fun o => ⟨rfl, ⟨_, rfl⟩, by show ltO _ (.lst _) = true; simp only [ltO]; exact ltO_ints _ _, kLen_lst ?_⟩⟩
    rw [List.length_map]
    refine iL_ok g1.2 (by omega) hl hT ⟨m0, m1⟩ fun x s2 g2 => ?_
    exact k _ ⟨_, _, _, _, _, rfl, g2.2.mono (by omega)⟩
  · obtain ⟨a, b, e, f, s0, rfl, b0⟩ := hI
    exact ⟨True.intro, q _ _ _ _ _⟩
theorem h6_ok (q : De.nx ⟨[p0, p1, p2, p3, p4, p5, p6, p7, p8, p9, some (.d (.part (cr.map triD))), p11, p12], st⟩) :
    h6 De ⟨[p0, p1, p2, p3, p4, p5, p6, p7, p8, p9, p10, p11, p12], st⟩ := by
  simp only [h6, pt_eq, dSet, dMakeP, dLcE, dLc, dRng1, dCons, dNil, dC]
  refine ⟨3, rfl, by decide, by decide, ?_⟩
  refine comp_rng 3 (fun _ => true) (fun j => .tup [.int 0, .int 9999, .int (j : Int)]) (by decide) (fun j hj K K0 hK hK0 => ?_) ?_
  · simp only [dYes, if_true, dTup, dCons, dNil, dVar, dC]
    exact ⟨_, rfl, three _ _ _, hK rfl⟩
  refine fun x => part_ok (ts := cr) (by decide) cr_v (by rw [cr_s]; unfold noOv cr; decide) ⟨_, rfl, ?_⟩
  rw [cr_s]
  simp only [dName]
  exact q
def iV : DS := (dSeq (dIfS (dOr (dTest (dBin kNotB (dCall m_shows_crowd (dCons (dVar 10) (dCons (dC (.int 9999)) (dCons (dC (.int 2)) (dCons (dVar 12) dNil))))) (dC (.bl false)))) (dTest (dBin kNotB (dCall m_shows_crowd (dCons (dVar 10) (dCons (dC (.int 9999)) (dCons (dC (.int 1)) (dCons (dVar 12) dNil))))) (dC (.bl false))))) (dSeq (dRet (dC (.bl false))) dNext) dNext) dNext)
theorem iV_ok {d : D} {t : String} (h : tyD st d = some t) (hi : isI d 0 19998 = false) (q : De.nx ⟨[p0, p1, p2, p3, p4, p5, p6, p7, p8, p9, some (.d (.part (cr.map triD))), p11, some (.d d)], st⟩) :
    iV De ⟨[p0, p1, p2, p3, p4, p5, p6, p7, p8, p9, some (.d (.part (cr.map triD))), p11, some (.d d)], st⟩ := by
  simp only [iV, dSeq, dNext, dIfS, dOr, dTest, dBin, dCall, dCons, dNil, dVar, dC, dRet]
  refine ⟨_, rfl, _, rfl, shows_no (by decide) (by decide) h hi ⟨rfl, _, rfl, ?_⟩⟩
  rw [if_neg (by decide)]
  refine ⟨_, rfl, _, rfl, shows_no (by decide) (by decide) h hi ⟨rfl, _, rfl, ?_⟩⟩
  rw [if_neg (by decide)]
  exact q
theorem h7_eq : h7 = (dFor (dIt (dLst (dCons (dUn kNeg (dC (.int 1))) (dCons (dC (.int 19999)) (dCons (dC .non) (dCons (dC (.bl true)) (dCons (dC (.bl false)) (dCons (dC (.str "0")) (dCons (dLst (dCons (dC (.int 0)) dNil)) (dCons (dTup (dCons (dC (.int 0)) dNil)) (dCons dDct (dCons (dBin kPow (dC (.int 10)) (dC (.int 29))) (dCons (dTup (dCons (dC (.str "crowd")) (dCons (dC (.int 0)) dNil))) dNil))))))))))))) (dName 12) iV) := rfl
theorem h7_ok (q : ∀ x, De.nx ⟨[p0, p1, p2, p3, p4, p5, p6, p7, p8, p9, some (.d (.part (cr.map triD))), p11, x], st⟩) :
    h7 De ⟨[p0, p1, p2, p3, p4, p5, p6, p7, p8, p9, some (.d (.part (cr.map triD))), p11, p12], st⟩ := by
  rw [h7_eq]
  simp only [dFor, dIt, dLst, dUn, unS, kNeg, dTup, dDct, dBin, kPow, kI, dCons, dNil, dC]
  refine ⟨l1 _, l1 _, ⟨by decide, by decide, by decide⟩, l2 _ _, ?_, _, rfl, ?_⟩
  · exact Nat.le_trans (Nat.le_of_eq (rfl : _ = 11)) (by rw [sizeLine_eq]; decide)
  refine loop_inv _ (fun i s => ∃ x, s = ⟨[p0, p1, p2, p3, p4, p5, p6, p7, p8, p9, some (.d (.part (cr.map triD))), p11, x], st⟩) ⟨_, rfl⟩ (fun i d s nx hd hI k => ?_) (fun s hI => ?_)
  · obtain ⟨x, rfl⟩ := hI
    have hw : (∃ t, tyD st d = some t) ∧ isI d 0 19998 = false := by
      have := List.mem_of_getElem? hd
      simp only [List.mem_cons, List.not_mem_nil, or_false] at this
      rcases this with rfl | rfl | rfl | rfl | rfl | rfl | rfl | rfl | rfl | rfl | rfl <;> exact ⟨⟨_, rfl⟩, by decide⟩
    obtain ⟨⟨t, ht⟩, hi⟩ := hw
    refine ⟨True.intro, ?_⟩
    simp only [dName]
    exact iV_ok ht hi (k _ ⟨_, rfl⟩)
  · obtain ⟨x, rfl⟩ := hI
    exact ⟨True.intro, q _⟩
theorem h8_ok (q : De.nx ⟨[p0, p1, p2, p3, p4, p5, p6, p7, p8, p9, some (.d (.part (cr.map triD))), p11, p12], st⟩) :
    h8 De ⟨[p0, p1, p2, p3, p4, p5, p6, p7, p8, p9, some (.d (.part (cr.map triD))), p11, p12], st⟩ := by
  simp only [h8, dSeq, dNext, dIfS, dNot, dTest, dLst, dCall, dCons, dNil, dVar, dC, dRet]
  refine ⟨_, rfl, shows_ok (by decide) (by decide) (by decide) (by decide) ⟨rfl, _, rfl, shows_ok (by decide) (by decide) (by decide) (by decide) ⟨rfl, l2 _ _, l2 _ _, ?_⟩⟩⟩
  have e1 : decide ((nbz cr 9999 19997 : Int) > 2) = true := by decide
  have e2 : decide ((nbz cr 9999 19998 : Int) > 2) = false := by decide
  rw [e1, e2]
  refine even_ok (p := .list [.bool true, .bool false]) ⟨by decide +kernel, by decide +kernel, by decide +kernel⟩ rfl rfl ⟨rfl, _, rfl, ?_⟩
  rw [if_neg (by decide)]
  exact q
theorem law_ok (_ : String → Addr) (ns : List Int) (hns : ns.length ≤ 63) (hb : ∀ z ∈ ns, Builtin.Int.intBits z ≤ 1048576) : m_law [.frl (ns.map D.int)] [] (fun r _ => r = .d (.bl true)) (fun _ _ => False) := by
  show mD 13 1 r_law _ _ _ _
  rw [r_law_eq]
  refine lw_law (by decide) (by decide) (by decide) hns (fun i sl st De hi hl e0 e1 k => ?_) fun sl st De hQ => ?_
  · match sl, hl, e0, e1 with
    | [a0, a1, a2, a3, a4, a5, a6, a7, a8, a9, a10, a11, a12], _, e0, e1 =>
      cases e0; cases e1
      unfold bodyL
      simp only [dSeq]
      refine lw_box rfl rfl (by omega) (by omega) (by decide) fun o b1 => ?_
      refine lw_notes (c0 := 85) (mb := 30) rfl (by omega) (fun Q E q => q 30 _ (by decide) (by decide) b1.self) (by decide) (by decide) fun ts st2 hl hv ho hs g2 => ?_
      refine lw_part rfl (by omega) hv ho hs ?_
      refine lw_time (c0 := 85) rfl rfl g2.bx (by omega) (by omega) hv (by decide) fun T st4 T1 T2 g4 => ?_
      refine h5_ok g4.2 (by omega) (by omega) hv ⟨T1, T2⟩ fun _ _ _ _ _ => ?_
      refine h6_ok ?_
      refine h7_ok fun _ => ?_
      refine h8_ok ?_
      exact k _ _ rfl rfl
  · simp only [dSeq, dRet, dC]
    rw [hQ]
end
end K34
set_option maxHeartbeats 4000000
namespace K34
open PySem PySem.Spec L2 Kt
open PyProof.Rows (envOfC)
theorem mkT {w : World} {K : PySem.W.Frag} {h : Heap} {mg : Str → Option Value} (X : K.In h) (G : h.Ns mainGlobals mg)
  {f_is_integer f_is_list f_is_pitch f_is_note f_need_note f_is_moment f_need_part f_need_time f_is_busy f_busy_pitches f_is_drum f_need_drums f_shows_crowd f_law_cell f_law_box f_law_take f_law_even f_law_notes f_law_time f_law_moment f_law_busy f_law f_Part___init__ f_Part_notes f_BadNote f_BadPart f_BadTime f_BadDrums f_Overlap C_BadNote C_BadPart C_BadTime C_BadDrums C_Overlap C_ToneError C_Part : Addr}
  {oc_is_integer kV_is_integer dc_is_integer pm_is_integer cd_is_integer ct_is_integer oc_is_list kV_is_list dc_is_list pm_is_list cd_is_list ct_is_list oc_is_pitch kV_is_pitch dc_is_pitch pm_is_pitch cd_is_pitch ct_is_pitch oc_is_note kV_is_note dc_is_note pm_is_note cd_is_note ct_is_note oc_need_note kV_need_note dc_need_note pm_need_note cd_need_note ct_need_note oc_is_moment kV_is_moment dc_is_moment pm_is_moment cd_is_moment ct_is_moment oc_need_part kV_need_part dc_need_part pm_need_part cd_need_part ct_need_part oc_need_time kV_need_time dc_need_time pm_need_time cd_need_time ct_need_time oc_is_busy kV_is_busy dc_is_busy pm_is_busy cd_is_busy ct_is_busy oc_busy_pitches kV_busy_pitches dc_busy_pitches pm_busy_pitches cd_busy_pitches ct_busy_pitches oc_is_drum kV_is_drum dc_is_drum pm_is_drum cd_is_drum ct_is_drum oc_need_drums kV_need_drums dc_need_drums pm_need_drums cd_need_drums ct_need_drums oc_shows_crowd kV_shows_crowd dc_shows_crowd pm_shows_crowd cd_shows_crowd ct_shows_crowd oc_law_cell kV_law_cell dc_law_cell pm_law_cell cd_law_cell ct_law_cell oc_law_box kV_law_box dc_law_box pm_law_box cd_law_box ct_law_box oc_law_take kV_law_take dc_law_take pm_law_take cd_law_take ct_law_take oc_law_even kV_law_even dc_law_even pm_law_even cd_law_even ct_law_even oc_law_notes kV_law_notes dc_law_notes pm_law_notes cd_law_notes ct_law_notes oc_law_time kV_law_time dc_law_time pm_law_time cd_law_time ct_law_time oc_law_moment kV_law_moment dc_law_moment pm_law_moment cd_law_moment ct_law_moment oc_law_busy kV_law_busy dc_law_busy pm_law_busy cd_law_busy ct_law_busy oc_law kV_law dc_law pm_law cd_law ct_law oc_Part___init__ kV_Part___init__ dc_Part___init__ pm_Part___init__ cd_Part___init__ ct_Part___init__ oc_Part_notes kV_Part_notes dc_Part_notes pm_Part_notes cd_Part_notes ct_Part_notes oc_BadNote kV_BadNote dc_BadNote pm_BadNote cd_BadNote ct_BadNote oc_BadPart kV_BadPart dc_BadPart pm_BadPart cd_BadPart ct_BadPart oc_BadTime kV_BadTime dc_BadTime pm_BadTime cd_BadTime ct_BadTime oc_BadDrums kV_BadDrums dc_BadDrums pm_BadDrums cd_BadDrums ct_BadDrums oc_Overlap kV_Overlap dc_Overlap pm_Overlap cd_Overlap ct_Overlap : Value}
  {od_is_integer an_is_integer od_is_list an_is_list od_is_pitch an_is_pitch od_is_note an_is_note od_need_note an_need_note od_is_moment an_is_moment od_need_part an_need_part od_need_time an_need_time od_is_busy an_is_busy od_busy_pitches an_busy_pitches od_is_drum an_is_drum od_need_drums an_need_drums od_shows_crowd an_shows_crowd od_law_cell an_law_cell od_law_box an_law_box od_law_take an_law_take od_law_even an_law_even od_law_notes an_law_notes od_law_time an_law_time od_law_moment an_law_moment od_law_busy an_law_busy od_law an_law od_Part___init__ an_Part___init__ od_Part_notes an_Part_notes od_BadNote an_BadNote od_BadPart an_BadPart od_BadTime an_BadTime od_BadDrums an_BadDrums od_Overlap an_Overlap : Option Addr}
  {sl_is_integer sl_is_list sl_is_pitch sl_is_note sl_need_note sl_is_moment sl_need_part sl_need_time sl_is_busy sl_busy_pitches sl_is_drum sl_need_drums sl_shows_crowd sl_law_cell sl_law_box sl_law_take sl_law_even sl_law_notes sl_law_time sl_law_moment sl_law_busy sl_law sl_Part___init__ sl_Part_notes sl_BadNote sl_BadPart sl_BadTime sl_BadDrums sl_Overlap : Array (Option Value)}
  {nm_BadNote q_BadNote nm_BadPart q_BadPart nm_BadTime q_BadTime nm_BadDrums q_BadDrums nm_Overlap q_Overlap : Str}
  {N_BadNote N_BadPart N_BadTime N_BadDrums N_Overlap : Addr}
  {bs_BadNote sub_BadNote bs_BadPart sub_BadPart bs_BadTime sub_BadTime bs_BadDrums sub_BadDrums bs_Overlap sub_Overlap : List Value}
  {sn_BadNote sn_BadPart sn_BadTime sn_BadDrums sn_Overlap : List Str}
  {ab_BadNote ab_BadPart ab_BadTime ab_BadDrums ab_Overlap : Bool}
  {col_BadNote col_BadPart col_BadTime col_BadDrums col_Overlap : Option Bool}
  {dd_BadNote dd_BadPart dd_BadTime dd_BadDrums dd_Overlap : Option Addr}
  {m0_BadNote m1_BadNote m2_BadNote m3_BadNote m5_BadNote m0_BadPart m1_BadPart m2_BadPart m3_BadPart m5_BadPart m0_BadTime m1_BadTime m2_BadTime m3_BadTime m5_BadTime m0_BadDrums m1_BadDrums m2_BadDrums m3_BadDrums m5_BadDrums m0_Overlap m1_Overlap m2_Overlap m3_Overlap m5_Overlap : Option Value}
  {tk_HIGHEST tk_LAST tk_LAST_MOMENT tk_MOST_DRUMS tk_MOST_NOTES : Tok}
  (aC_BadNote : PySem.W.nsIn K mainGlobals "BadNote" = some (some (.ref C_BadNote)))
  (aC_BadPart : PySem.W.nsIn K mainGlobals "BadPart" = some (some (.ref C_BadPart)))
  (aC_BadTime : PySem.W.nsIn K mainGlobals "BadTime" = some (some (.ref C_BadTime)))
  (aC_BadDrums : PySem.W.nsIn K mainGlobals "BadDrums" = some (some (.ref C_BadDrums)))
  (aC_Overlap : PySem.W.nsIn K mainGlobals "Overlap" = some (some (.ref C_Overlap)))
  (aC_ToneError : PySem.W.nsIn K mainGlobals "ToneError" = some (some (.ref C_ToneError)))
  (aC_Part : PySem.W.nsIn K mainGlobals "Part" = some (some (.ref C_Part)))
  (a_is_integer : PySem.W.nsIn K mainGlobals "is_integer" = some (some (.ref f_is_integer)))
  (a_is_list : PySem.W.nsIn K mainGlobals "is_list" = some (some (.ref f_is_list)))
  (a_is_pitch : PySem.W.nsIn K mainGlobals "is_pitch" = some (some (.ref f_is_pitch)))
  (a_is_note : PySem.W.nsIn K mainGlobals "is_note" = some (some (.ref f_is_note)))
  (a_need_note : PySem.W.nsIn K mainGlobals "need_note" = some (some (.ref f_need_note)))
  (a_is_moment : PySem.W.nsIn K mainGlobals "is_moment" = some (some (.ref f_is_moment)))
  (a_need_part : PySem.W.nsIn K mainGlobals "need_part" = some (some (.ref f_need_part)))
  (a_need_time : PySem.W.nsIn K mainGlobals "need_time" = some (some (.ref f_need_time)))
  (a_is_busy : PySem.W.nsIn K mainGlobals "is_busy" = some (some (.ref f_is_busy)))
  (a_busy_pitches : PySem.W.nsIn K mainGlobals "busy_pitches" = some (some (.ref f_busy_pitches)))
  (a_is_drum : PySem.W.nsIn K mainGlobals "is_drum" = some (some (.ref f_is_drum)))
  (a_need_drums : PySem.W.nsIn K mainGlobals "need_drums" = some (some (.ref f_need_drums)))
  (a_shows_crowd : PySem.W.nsIn K mainGlobals "shows_crowd" = some (some (.ref f_shows_crowd)))
  (a_law_cell : PySem.W.nsIn K mainGlobals "_law_cell" = some (some (.ref f_law_cell)))
  (a_law_box : PySem.W.nsIn K mainGlobals "_law_box" = some (some (.ref f_law_box)))
  (a_law_take : PySem.W.nsIn K mainGlobals "_law_take" = some (some (.ref f_law_take)))
  (a_law_even : PySem.W.nsIn K mainGlobals "_law_even" = some (some (.ref f_law_even)))
  (a_law_notes : PySem.W.nsIn K mainGlobals "_law_notes" = some (some (.ref f_law_notes)))
  (a_law_time : PySem.W.nsIn K mainGlobals "_law_time" = some (some (.ref f_law_time)))
  (a_law_moment : PySem.W.nsIn K mainGlobals "_law_moment" = some (some (.ref f_law_moment)))
  (a_law_busy : PySem.W.nsIn K mainGlobals "_law_busy" = some (some (.ref f_law_busy)))
  (a_law : PySem.W.nsIn K mainGlobals "law" = some (some (.ref f_law)))
  (i_BadNote : PySem.W.findIn K (.ref C_BadNote) "__init__" = some (some (.ref f_BadNote)))
  (i_BadPart : PySem.W.findIn K (.ref C_BadPart) "__init__" = some (some (.ref f_BadPart)))
  (i_BadTime : PySem.W.findIn K (.ref C_BadTime) "__init__" = some (some (.ref f_BadTime)))
  (i_BadDrums : PySem.W.findIn K (.ref C_BadDrums) "__init__" = some (some (.ref f_BadDrums)))
  (i_Overlap : PySem.W.findIn K (.ref C_Overlap) "__init__" = some (some (.ref f_Overlap)))
  (t_Part___init__ : PySem.W.findIn K (.ref C_Part) "__init__" = some (some (.ref f_Part___init__)))
  (t_Part_notes : PySem.W.findIn K (.ref C_Part) "notes" = some (some (.ref f_Part_notes)))
  (l_is_integer : K.lookup f_is_integer = some ⟨oc_is_integer, od_is_integer, .func (PySem.W.fnOf "is_integer" "is_integer" (defArgs st_is_integer) (defBody st_is_integer) (defScope st_is_integer) .none kV_is_integer dc_is_integer pm_is_integer an_is_integer cd_is_integer ct_is_integer), sl_is_integer⟩)
  (c_is_integer : PySem.W.codeIn K cd_is_integer "is_integer" = true)
  (k_is_integer : PySem.W.keepIn K (.ref f_is_integer) = true)
  (l_is_list : K.lookup f_is_list = some ⟨oc_is_list, od_is_list, .func (PySem.W.fnOf "is_list" "is_list" (defArgs st_is_list) (defBody st_is_list) (defScope st_is_list) .none kV_is_list dc_is_list pm_is_list an_is_list cd_is_list ct_is_list), sl_is_list⟩)
  (c_is_list : PySem.W.codeIn K cd_is_list "is_list" = true)
  (k_is_list : PySem.W.keepIn K (.ref f_is_list) = true)
  (l_is_pitch : K.lookup f_is_pitch = some ⟨oc_is_pitch, od_is_pitch, .func (PySem.W.fnOf "is_pitch" "is_pitch" (defArgs st_is_pitch) (defBody st_is_pitch) (defScope st_is_pitch) .none kV_is_pitch dc_is_pitch pm_is_pitch an_is_pitch cd_is_pitch ct_is_pitch), sl_is_pitch⟩)
  (c_is_pitch : PySem.W.codeIn K cd_is_pitch "is_pitch" = true)
  (k_is_pitch : PySem.W.keepIn K (.ref f_is_pitch) = true)
  (l_is_note : K.lookup f_is_note = some ⟨oc_is_note, od_is_note, .func (PySem.W.fnOf "is_note" "is_note" (defArgs st_is_note) (defBody st_is_note) (defScope st_is_note) .none kV_is_note dc_is_note pm_is_note an_is_note cd_is_note ct_is_note), sl_is_note⟩)
  (c_is_note : PySem.W.codeIn K cd_is_note "is_note" = true)
  (k_is_note : PySem.W.keepIn K (.ref f_is_note) = true)
  (l_need_note : K.lookup f_need_note = some ⟨oc_need_note, od_need_note, .func (PySem.W.fnOf "need_note" "need_note" (defArgs st_need_note) (defBody st_need_note) (defScope st_need_note) .none kV_need_note dc_need_note pm_need_note an_need_note cd_need_note ct_need_note), sl_need_note⟩)
  (c_need_note : PySem.W.codeIn K cd_need_note "need_note" = true)
  (k_need_note : PySem.W.keepIn K (.ref f_need_note) = true)
  (l_is_moment : K.lookup f_is_moment = some ⟨oc_is_moment, od_is_moment, .func (PySem.W.fnOf "is_moment" "is_moment" (defArgs st_is_moment) (defBody st_is_moment) (defScope st_is_moment) .none kV_is_moment dc_is_moment pm_is_moment an_is_moment cd_is_moment ct_is_moment), sl_is_moment⟩)
  (c_is_moment : PySem.W.codeIn K cd_is_moment "is_moment" = true)
  (k_is_moment : PySem.W.keepIn K (.ref f_is_moment) = true)
  (l_need_part : K.lookup f_need_part = some ⟨oc_need_part, od_need_part, .func (PySem.W.fnOf "need_part" "need_part" (defArgs st_need_part) (defBody st_need_part) (defScope st_need_part) .none kV_need_part dc_need_part pm_need_part an_need_part cd_need_part ct_need_part), sl_need_part⟩)
  (c_need_part : PySem.W.codeIn K cd_need_part "need_part" = true)
  (k_need_part : PySem.W.keepIn K (.ref f_need_part) = true)
  (l_need_time : K.lookup f_need_time = some ⟨oc_need_time, od_need_time, .func (PySem.W.fnOf "need_time" "need_time" (defArgs st_need_time) (defBody st_need_time) (defScope st_need_time) .none kV_need_time dc_need_time pm_need_time an_need_time cd_need_time ct_need_time), sl_need_time⟩)
  (c_need_time : PySem.W.codeIn K cd_need_time "need_time" = true)
  (k_need_time : PySem.W.keepIn K (.ref f_need_time) = true)
  (l_is_busy : K.lookup f_is_busy = some ⟨oc_is_busy, od_is_busy, .func (PySem.W.fnOf "is_busy" "is_busy" (defArgs st_is_busy) (defBody st_is_busy) (defScope st_is_busy) .none kV_is_busy dc_is_busy pm_is_busy an_is_busy cd_is_busy ct_is_busy), sl_is_busy⟩)
  (c_is_busy : PySem.W.codeIn K cd_is_busy "is_busy" = true)
  (k_is_busy : PySem.W.keepIn K (.ref f_is_busy) = true)
  (l_busy_pitches : K.lookup f_busy_pitches = some ⟨oc_busy_pitches, od_busy_pitches, .func (PySem.W.fnOf "busy_pitches" "busy_pitches" (defArgs st_busy_pitches) (defBody st_busy_pitches) (defScope st_busy_pitches) .none kV_busy_pitches dc_busy_pitches pm_busy_pitches an_busy_pitches cd_busy_pitches ct_busy_pitches), sl_busy_pitches⟩)
  (c_busy_pitches : PySem.W.codeIn K cd_busy_pitches "busy_pitches" = true)
  (k_busy_pitches : PySem.W.keepIn K (.ref f_busy_pitches) = true)
  (l_is_drum : K.lookup f_is_drum = some ⟨oc_is_drum, od_is_drum, .func (PySem.W.fnOf "is_drum" "is_drum" (defArgs st_is_drum) (defBody st_is_drum) (defScope st_is_drum) .none kV_is_drum dc_is_drum pm_is_drum an_is_drum cd_is_drum ct_is_drum), sl_is_drum⟩)
  (c_is_drum : PySem.W.codeIn K cd_is_drum "is_drum" = true)
  (k_is_drum : PySem.W.keepIn K (.ref f_is_drum) = true)
  (l_need_drums : K.lookup f_need_drums = some ⟨oc_need_drums, od_need_drums, .func (PySem.W.fnOf "need_drums" "need_drums" (defArgs st_need_drums) (defBody st_need_drums) (defScope st_need_drums) .none kV_need_drums dc_need_drums pm_need_drums an_need_drums cd_need_drums ct_need_drums), sl_need_drums⟩)
  (c_need_drums : PySem.W.codeIn K cd_need_drums "need_drums" = true)
  (k_need_drums : PySem.W.keepIn K (.ref f_need_drums) = true)
  (l_shows_crowd : K.lookup f_shows_crowd = some ⟨oc_shows_crowd, od_shows_crowd, .func (PySem.W.fnOf "shows_crowd" "shows_crowd" (defArgs st_shows_crowd) (defBody st_shows_crowd) (defScope st_shows_crowd) .none kV_shows_crowd dc_shows_crowd pm_shows_crowd an_shows_crowd cd_shows_crowd ct_shows_crowd), sl_shows_crowd⟩)
  (c_shows_crowd : PySem.W.codeIn K cd_shows_crowd "shows_crowd" = true)
  (k_shows_crowd : PySem.W.keepIn K (.ref f_shows_crowd) = true)
  (l_law_cell : K.lookup f_law_cell = some ⟨oc_law_cell, od_law_cell, .func (PySem.W.fnOf "_law_cell" "_law_cell" (defArgs st_law_cell) (defBody st_law_cell) (defScope st_law_cell) .none kV_law_cell dc_law_cell pm_law_cell an_law_cell cd_law_cell ct_law_cell), sl_law_cell⟩)
  (c_law_cell : PySem.W.codeIn K cd_law_cell "_law_cell" = true)
  (k_law_cell : PySem.W.keepIn K (.ref f_law_cell) = true)
  (l_law_box : K.lookup f_law_box = some ⟨oc_law_box, od_law_box, .func (PySem.W.fnOf "_law_box" "_law_box" (defArgs st_law_box) (defBody st_law_box) (defScope st_law_box) .none kV_law_box dc_law_box pm_law_box an_law_box cd_law_box ct_law_box), sl_law_box⟩)
  (c_law_box : PySem.W.codeIn K cd_law_box "_law_box" = true)
  (k_law_box : PySem.W.keepIn K (.ref f_law_box) = true)
  (l_law_take : K.lookup f_law_take = some ⟨oc_law_take, od_law_take, .func (PySem.W.fnOf "_law_take" "_law_take" (defArgs st_law_take) (defBody st_law_take) (defScope st_law_take) .none kV_law_take dc_law_take pm_law_take an_law_take cd_law_take ct_law_take), sl_law_take⟩)
  (c_law_take : PySem.W.codeIn K cd_law_take "_law_take" = true)
  (k_law_take : PySem.W.keepIn K (.ref f_law_take) = true)
  (l_law_even : K.lookup f_law_even = some ⟨oc_law_even, od_law_even, .func (PySem.W.fnOf "_law_even" "_law_even" (defArgs st_law_even) (defBody st_law_even) (defScope st_law_even) .none kV_law_even dc_law_even pm_law_even an_law_even cd_law_even ct_law_even), sl_law_even⟩)
  (c_law_even : PySem.W.codeIn K cd_law_even "_law_even" = true)
  (k_law_even : PySem.W.keepIn K (.ref f_law_even) = true)
  (l_law_notes : K.lookup f_law_notes = some ⟨oc_law_notes, od_law_notes, .func (PySem.W.fnOf "_law_notes" "_law_notes" (defArgs st_law_notes) (defBody st_law_notes) (defScope st_law_notes) .none kV_law_notes dc_law_notes pm_law_notes an_law_notes cd_law_notes ct_law_notes), sl_law_notes⟩)
  (c_law_notes : PySem.W.codeIn K cd_law_notes "_law_notes" = true)
  (k_law_notes : PySem.W.keepIn K (.ref f_law_notes) = true)
  (l_law_time : K.lookup f_law_time = some ⟨oc_law_time, od_law_time, .func (PySem.W.fnOf "_law_time" "_law_time" (defArgs st_law_time) (defBody st_law_time) (defScope st_law_time) .none kV_law_time dc_law_time pm_law_time an_law_time cd_law_time ct_law_time), sl_law_time⟩)
  (c_law_time : PySem.W.codeIn K cd_law_time "_law_time" = true)
  (k_law_time : PySem.W.keepIn K (.ref f_law_time) = true)
  (l_law_moment : K.lookup f_law_moment = some ⟨oc_law_moment, od_law_moment, .func (PySem.W.fnOf "_law_moment" "_law_moment" (defArgs st_law_moment) (defBody st_law_moment) (defScope st_law_moment) .none kV_law_moment dc_law_moment pm_law_moment an_law_moment cd_law_moment ct_law_moment), sl_law_moment⟩)
  (c_law_moment : PySem.W.codeIn K cd_law_moment "_law_moment" = true)
  (k_law_moment : PySem.W.keepIn K (.ref f_law_moment) = true)
  (l_law_busy : K.lookup f_law_busy = some ⟨oc_law_busy, od_law_busy, .func (PySem.W.fnOf "_law_busy" "_law_busy" (defArgs st_law_busy) (defBody st_law_busy) (defScope st_law_busy) .none kV_law_busy dc_law_busy pm_law_busy an_law_busy cd_law_busy ct_law_busy), sl_law_busy⟩)
  (c_law_busy : PySem.W.codeIn K cd_law_busy "_law_busy" = true)
  (k_law_busy : PySem.W.keepIn K (.ref f_law_busy) = true)
  (l_law : K.lookup f_law = some ⟨oc_law, od_law, .func (PySem.W.fnOf "law" "law" (defArgs st_law) (defBody st_law) (defScope st_law) .none kV_law dc_law pm_law an_law cd_law ct_law), sl_law⟩)
  (c_law : PySem.W.codeIn K cd_law "law" = true)
  (k_law : PySem.W.keepIn K (.ref f_law) = true)
  (l_Part___init__ : K.lookup f_Part___init__ = some ⟨oc_Part___init__, od_Part___init__, .func (PySem.W.fnOf "__init__" "Part.__init__" (defArgs st_Part___init__) (defBody st_Part___init__) (defScope st_Part___init__) .none kV_Part___init__ dc_Part___init__ pm_Part___init__ an_Part___init__ cd_Part___init__ ct_Part___init__), sl_Part___init__⟩)
  (c_Part___init__ : PySem.W.codeIn K cd_Part___init__ "Part.__init__" = true)
  (k_Part___init__ : PySem.W.keepIn K (.ref f_Part___init__) = true)
  (l_Part_notes : K.lookup f_Part_notes = some ⟨oc_Part_notes, od_Part_notes, .func (PySem.W.fnOf "notes" "Part.notes" (defArgs st_Part_notes) (defBody st_Part_notes) (defScope st_Part_notes) .none kV_Part_notes dc_Part_notes pm_Part_notes an_Part_notes cd_Part_notes ct_Part_notes), sl_Part_notes⟩)
  (c_Part_notes : PySem.W.codeIn K cd_Part_notes "Part.notes" = true)
  (k_Part_notes : PySem.W.keepIn K (.ref f_Part_notes) = true)
  (l_BadNote : K.lookup f_BadNote = some ⟨oc_BadNote, od_BadNote, .func (PySem.W.fnOf "__init__" "BadNote.__init__" (defArgs st_BadNote) (defBody st_BadNote) (defScope st_BadNote) .none kV_BadNote dc_BadNote pm_BadNote an_BadNote cd_BadNote ct_BadNote), sl_BadNote⟩)
  (c_BadNote : PySem.W.codeIn K cd_BadNote "BadNote.__init__" = true)
  (k_BadNote : PySem.W.keepIn K (.ref f_BadNote) = true)
  (l_BadPart : K.lookup f_BadPart = some ⟨oc_BadPart, od_BadPart, .func (PySem.W.fnOf "__init__" "BadPart.__init__" (defArgs st_BadPart) (defBody st_BadPart) (defScope st_BadPart) .none kV_BadPart dc_BadPart pm_BadPart an_BadPart cd_BadPart ct_BadPart), sl_BadPart⟩)
  (c_BadPart : PySem.W.codeIn K cd_BadPart "BadPart.__init__" = true)
  (k_BadPart : PySem.W.keepIn K (.ref f_BadPart) = true)
  (l_BadTime : K.lookup f_BadTime = some ⟨oc_BadTime, od_BadTime, .func (PySem.W.fnOf "__init__" "BadTime.__init__" (defArgs st_BadTime) (defBody st_BadTime) (defScope st_BadTime) .none kV_BadTime dc_BadTime pm_BadTime an_BadTime cd_BadTime ct_BadTime), sl_BadTime⟩)
  (c_BadTime : PySem.W.codeIn K cd_BadTime "BadTime.__init__" = true)
  (k_BadTime : PySem.W.keepIn K (.ref f_BadTime) = true)
  (l_BadDrums : K.lookup f_BadDrums = some ⟨oc_BadDrums, od_BadDrums, .func (PySem.W.fnOf "__init__" "BadDrums.__init__" (defArgs st_BadDrums) (defBody st_BadDrums) (defScope st_BadDrums) .none kV_BadDrums dc_BadDrums pm_BadDrums an_BadDrums cd_BadDrums ct_BadDrums), sl_BadDrums⟩)
  (c_BadDrums : PySem.W.codeIn K cd_BadDrums "BadDrums.__init__" = true)
  (k_BadDrums : PySem.W.keepIn K (.ref f_BadDrums) = true)
  (l_Overlap : K.lookup f_Overlap = some ⟨oc_Overlap, od_Overlap, .func (PySem.W.fnOf "__init__" "Overlap.__init__" (defArgs st_Overlap) (defBody st_Overlap) (defScope st_Overlap) .none kV_Overlap dc_Overlap pm_Overlap an_Overlap cd_Overlap ct_Overlap), sl_Overlap⟩)
  (c_Overlap : PySem.W.codeIn K cd_Overlap "Overlap.__init__" = true)
  (k_Overlap : PySem.W.keepIn K (.ref f_Overlap) = true)
  (fn_Part___init__ : PySem.W.isFn K (.ref f_Part___init__) = true)
  (fn_Part_notes : PySem.W.isFn K (.ref f_Part_notes) = true)
  (mi_Part : PySem.W.makesIn K C_Part = true)
  (kp_Part : PySem.W.keepIn K (.ref C_Part) = true)
  (pg_Part : PySem.W.plainGet K C_Part Str.empty = true)
  (hs_Part : PySem.W.hasDictIn K C_Part = true)
  (po_Part : PySem.W.plainOver K C_Part = true)
  (so_Part : PySem.W.findIn K (.ref C_Part) "__setattr__" = some (some (.builtin "object.__setattr__")))
  (kl_Part : PySem.W.findIn K (.ref C_Part) "__class__" = some (some (.builtin "object.__class__")))
  (mr_Part : PySem.W.mroIn K C_Part (.type "object") = some true)
  (kg : PySem.W.specialIn K (.builtin "object.__class__") "__get__" = some (some (.builtin "getset_descriptor.__get__")))
  (kt : PySem.W.takesIn K (.builtin "object.__class__") = some true)
  (na_Part : PySem.W.findIn K (.ref C_Part) "part_notes" = some none)
  (x_BadNote : K.lookup C_BadNote = some (excClassObj nm_BadNote q_BadNote C_BadNote N_BadNote bs_BadNote [.ref C_ToneError, .type "ValueError", .type "Exception", .type "BaseException", .type "object"] true sn_BadNote sub_BadNote ab_BadNote col_BadNote dd_BadNote m0_BadNote m1_BadNote m2_BadNote m3_BadNote m5_BadNote "ValueError.__new__"))
  (sa_BadNote : PySem.W.findIn K (.ref C_BadNote) "__setattr__" = some (some (.builtin "object.__setattr__")))
  (ex_BadNote : PySem.W.subIn K (.ref C_BadNote) (.type "BaseException") = some true)
  (ty_BadNote : PySem.W.typeIn K (.ref C_BadNote) = some (.type "type"))
  (kc_BadNote : PySem.W.keepIn K (.ref C_BadNote) = true)
  (tf_BadNote : PySem.W.typeIn K (.ref f_BadNote) = some (.type "function"))
  (ga_BadNote : PySem.W.findIn K (.ref C_BadNote) "__getattribute__" = some (some (.builtin "BaseException.__getattribute__")))
  (gg_BadNote : PySem.W.findIn K (.ref C_BadNote) "__getattr__" = some none)
  (hd_BadNote : PySem.W.hasDictIn K C_BadNote = true)
  (nf_BadNote_found : PySem.W.findIn K (.ref C_BadNote) "found" = some none)
  (x_BadPart : K.lookup C_BadPart = some (excClassObj nm_BadPart q_BadPart C_BadPart N_BadPart bs_BadPart [.ref C_ToneError, .type "ValueError", .type "Exception", .type "BaseException", .type "object"] true sn_BadPart sub_BadPart ab_BadPart col_BadPart dd_BadPart m0_BadPart m1_BadPart m2_BadPart m3_BadPart m5_BadPart "ValueError.__new__"))
  (sa_BadPart : PySem.W.findIn K (.ref C_BadPart) "__setattr__" = some (some (.builtin "object.__setattr__")))
  (ex_BadPart : PySem.W.subIn K (.ref C_BadPart) (.type "BaseException") = some true)
  (ty_BadPart : PySem.W.typeIn K (.ref C_BadPart) = some (.type "type"))
  (kc_BadPart : PySem.W.keepIn K (.ref C_BadPart) = true)
  (tf_BadPart : PySem.W.typeIn K (.ref f_BadPart) = some (.type "function"))
  (ga_BadPart : PySem.W.findIn K (.ref C_BadPart) "__getattribute__" = some (some (.builtin "BaseException.__getattribute__")))
  (gg_BadPart : PySem.W.findIn K (.ref C_BadPart) "__getattr__" = some none)
  (hd_BadPart : PySem.W.hasDictIn K C_BadPart = true)
  (nf_BadPart_found : PySem.W.findIn K (.ref C_BadPart) "found" = some none)
  (x_BadTime : K.lookup C_BadTime = some (excClassObj nm_BadTime q_BadTime C_BadTime N_BadTime bs_BadTime [.ref C_ToneError, .type "ValueError", .type "Exception", .type "BaseException", .type "object"] true sn_BadTime sub_BadTime ab_BadTime col_BadTime dd_BadTime m0_BadTime m1_BadTime m2_BadTime m3_BadTime m5_BadTime "ValueError.__new__"))
  (sa_BadTime : PySem.W.findIn K (.ref C_BadTime) "__setattr__" = some (some (.builtin "object.__setattr__")))
  (ex_BadTime : PySem.W.subIn K (.ref C_BadTime) (.type "BaseException") = some true)
  (ty_BadTime : PySem.W.typeIn K (.ref C_BadTime) = some (.type "type"))
  (kc_BadTime : PySem.W.keepIn K (.ref C_BadTime) = true)
  (tf_BadTime : PySem.W.typeIn K (.ref f_BadTime) = some (.type "function"))
  (ga_BadTime : PySem.W.findIn K (.ref C_BadTime) "__getattribute__" = some (some (.builtin "BaseException.__getattribute__")))
  (gg_BadTime : PySem.W.findIn K (.ref C_BadTime) "__getattr__" = some none)
  (hd_BadTime : PySem.W.hasDictIn K C_BadTime = true)
  (nf_BadTime_found : PySem.W.findIn K (.ref C_BadTime) "found" = some none)
  (x_BadDrums : K.lookup C_BadDrums = some (excClassObj nm_BadDrums q_BadDrums C_BadDrums N_BadDrums bs_BadDrums [.ref C_ToneError, .type "ValueError", .type "Exception", .type "BaseException", .type "object"] true sn_BadDrums sub_BadDrums ab_BadDrums col_BadDrums dd_BadDrums m0_BadDrums m1_BadDrums m2_BadDrums m3_BadDrums m5_BadDrums "ValueError.__new__"))
  (sa_BadDrums : PySem.W.findIn K (.ref C_BadDrums) "__setattr__" = some (some (.builtin "object.__setattr__")))
  (ex_BadDrums : PySem.W.subIn K (.ref C_BadDrums) (.type "BaseException") = some true)
  (ty_BadDrums : PySem.W.typeIn K (.ref C_BadDrums) = some (.type "type"))
  (kc_BadDrums : PySem.W.keepIn K (.ref C_BadDrums) = true)
  (tf_BadDrums : PySem.W.typeIn K (.ref f_BadDrums) = some (.type "function"))
  (ga_BadDrums : PySem.W.findIn K (.ref C_BadDrums) "__getattribute__" = some (some (.builtin "BaseException.__getattribute__")))
  (gg_BadDrums : PySem.W.findIn K (.ref C_BadDrums) "__getattr__" = some none)
  (hd_BadDrums : PySem.W.hasDictIn K C_BadDrums = true)
  (nf_BadDrums_found : PySem.W.findIn K (.ref C_BadDrums) "found" = some none)
  (x_Overlap : K.lookup C_Overlap = some (excClassObj nm_Overlap q_Overlap C_Overlap N_Overlap bs_Overlap [.ref C_ToneError, .type "ValueError", .type "Exception", .type "BaseException", .type "object"] true sn_Overlap sub_Overlap ab_Overlap col_Overlap dd_Overlap m0_Overlap m1_Overlap m2_Overlap m3_Overlap m5_Overlap "ValueError.__new__"))
  (sa_Overlap : PySem.W.findIn K (.ref C_Overlap) "__setattr__" = some (some (.builtin "object.__setattr__")))
  (ex_Overlap : PySem.W.subIn K (.ref C_Overlap) (.type "BaseException") = some true)
  (ty_Overlap : PySem.W.typeIn K (.ref C_Overlap) = some (.type "type"))
  (kc_Overlap : PySem.W.keepIn K (.ref C_Overlap) = true)
  (tf_Overlap : PySem.W.typeIn K (.ref f_Overlap) = some (.type "function"))
  (ga_Overlap : PySem.W.findIn K (.ref C_Overlap) "__getattribute__" = some (some (.builtin "BaseException.__getattribute__")))
  (gg_Overlap : PySem.W.findIn K (.ref C_Overlap) "__getattr__" = some none)
  (hd_Overlap : PySem.W.hasDictIn K C_Overlap = true)
  (nf_Overlap_one : PySem.W.findIn K (.ref C_Overlap) "one" = some none)
  (nf_Overlap_other : PySem.W.findIn K (.ref C_Overlap) "other" = some none)
  (bg_ToneError : PySem.W.specialIn K (.ref C_ToneError) "__getattribute__" = some (some (.builtin "type.__getattribute__")))
  (br_ToneError : PySem.W.readsIn K C_ToneError (.type "type") = true)
  (bf_ToneError : PySem.W.findCls K (.ref C_ToneError) (.type "type") "__init__" = some (.val (.builtin "ValueError.__init__")))
  (z_bool : PySem.W.nsIn K mainGlobals "bool" = some none)
  (z_int : PySem.W.nsIn K mainGlobals "int" = some none)
  (z_isinstance : PySem.W.nsIn K mainGlobals "isinstance" = some none)
  (z_len : PySem.W.nsIn K mainGlobals "len" = some none)
  (z_list : PySem.W.nsIn K mainGlobals "list" = some none)
  (z_max : PySem.W.nsIn K mainGlobals "max" = some none)
  (z_min : PySem.W.nsIn K mainGlobals "min" = some none)
  (z_range : PySem.W.nsIn K mainGlobals "range" = some none)
  (z_repr : PySem.W.nsIn K mainGlobals "repr" = some none)
  (z_sorted : PySem.W.nsIn K mainGlobals "sorted" = some none)
  (z_tuple : PySem.W.nsIn K mainGlobals "tuple" = some none)
  (v_HIGHEST : PySem.W.nsIn K mainGlobals "HIGHEST" = some (some (.int 119 tk_HIGHEST)))
  (v_LAST : PySem.W.nsIn K mainGlobals "LAST" = some (some (.int 9999 tk_LAST)))
  (v_LAST_MOMENT : PySem.W.nsIn K mainGlobals "LAST_MOMENT" = some (some (.int 19998 tk_LAST_MOMENT)))
  (v_MOST_DRUMS : PySem.W.nsIn K mainGlobals "MOST_DRUMS" = some (some (.int 12 tk_MOST_DRUMS)))
  (v_MOST_NOTES : PySem.W.nsIn K mainGlobals "MOST_NOTES" = some (some (.int 60 tk_MOST_NOTES)))
  (no_Part : (tyNs.all fun t => PySem.W.kitOne K (.type t) (.ref C_Part) == some false) = true)
  : Tx w K mg (clOf [("BadNote", C_BadNote), ("BadPart", C_BadPart), ("BadTime", C_BadTime), ("BadDrums", C_BadDrums), ("Overlap", C_Overlap), ("ToneError", C_ToneError), ("Part", C_Part)]) f_is_integer f_is_list f_is_pitch f_is_note f_need_note f_is_moment f_Part___init__ f_Part_notes f_need_part f_need_time f_is_busy f_busy_pitches f_is_drum f_need_drums f_shows_crowd f_law_cell f_law_box f_law_take f_law_even f_law_notes f_law_time f_law_moment f_law_busy f_law f_BadNote f_BadPart f_BadTime f_BadDrums f_Overlap (PySem.W.fnOf "is_integer" "is_integer" (defArgs st_is_integer) (defBody st_is_integer) (defScope st_is_integer) .none kV_is_integer dc_is_integer pm_is_integer an_is_integer cd_is_integer ct_is_integer) (PySem.W.fnOf "is_list" "is_list" (defArgs st_is_list) (defBody st_is_list) (defScope st_is_list) .none kV_is_list dc_is_list pm_is_list an_is_list cd_is_list ct_is_list) (PySem.W.fnOf "is_pitch" "is_pitch" (defArgs st_is_pitch) (defBody st_is_pitch) (defScope st_is_pitch) .none kV_is_pitch dc_is_pitch pm_is_pitch an_is_pitch cd_is_pitch ct_is_pitch) (PySem.W.fnOf "is_note" "is_note" (defArgs st_is_note) (defBody st_is_note) (defScope st_is_note) .none kV_is_note dc_is_note pm_is_note an_is_note cd_is_note ct_is_note) (PySem.W.fnOf "need_note" "need_note" (defArgs st_need_note) (defBody st_need_note) (defScope st_need_note) .none kV_need_note dc_need_note pm_need_note an_need_note cd_need_note ct_need_note) (PySem.W.fnOf "is_moment" "is_moment" (defArgs st_is_moment) (defBody st_is_moment) (defScope st_is_moment) .none kV_is_moment dc_is_moment pm_is_moment an_is_moment cd_is_moment ct_is_moment) (PySem.W.fnOf "__init__" "Part.__init__" (defArgs st_Part___init__) (defBody st_Part___init__) (defScope st_Part___init__) .none kV_Part___init__ dc_Part___init__ pm_Part___init__ an_Part___init__ cd_Part___init__ ct_Part___init__) (PySem.W.fnOf "notes" "Part.notes" (defArgs st_Part_notes) (defBody st_Part_notes) (defScope st_Part_notes) .none kV_Part_notes dc_Part_notes pm_Part_notes an_Part_notes cd_Part_notes ct_Part_notes) (PySem.W.fnOf "need_part" "need_part" (defArgs st_need_part) (defBody st_need_part) (defScope st_need_part) .none kV_need_part dc_need_part pm_need_part an_need_part cd_need_part ct_need_part) (PySem.W.fnOf "need_time" "need_time" (defArgs st_need_time) (defBody st_need_time) (defScope st_need_time) .none kV_need_time dc_need_time pm_need_time an_need_time cd_need_time ct_need_time) (PySem.W.fnOf "is_busy" "is_busy" (defArgs st_is_busy) (defBody st_is_busy) (defScope st_is_busy) .none kV_is_busy dc_is_busy pm_is_busy an_is_busy cd_is_busy ct_is_busy) (PySem.W.fnOf "busy_pitches" "busy_pitches" (defArgs st_busy_pitches) (defBody st_busy_pitches) (defScope st_busy_pitches) .none kV_busy_pitches dc_busy_pitches pm_busy_pitches an_busy_pitches cd_busy_pitches ct_busy_pitches) (PySem.W.fnOf "is_drum" "is_drum" (defArgs st_is_drum) (defBody st_is_drum) (defScope st_is_drum) .none kV_is_drum dc_is_drum pm_is_drum an_is_drum cd_is_drum ct_is_drum) (PySem.W.fnOf "need_drums" "need_drums" (defArgs st_need_drums) (defBody st_need_drums) (defScope st_need_drums) .none kV_need_drums dc_need_drums pm_need_drums an_need_drums cd_need_drums ct_need_drums) (PySem.W.fnOf "shows_crowd" "shows_crowd" (defArgs st_shows_crowd) (defBody st_shows_crowd) (defScope st_shows_crowd) .none kV_shows_crowd dc_shows_crowd pm_shows_crowd an_shows_crowd cd_shows_crowd ct_shows_crowd) (PySem.W.fnOf "_law_cell" "_law_cell" (defArgs st_law_cell) (defBody st_law_cell) (defScope st_law_cell) .none kV_law_cell dc_law_cell pm_law_cell an_law_cell cd_law_cell ct_law_cell) (PySem.W.fnOf "_law_box" "_law_box" (defArgs st_law_box) (defBody st_law_box) (defScope st_law_box) .none kV_law_box dc_law_box pm_law_box an_law_box cd_law_box ct_law_box) (PySem.W.fnOf "_law_take" "_law_take" (defArgs st_law_take) (defBody st_law_take) (defScope st_law_take) .none kV_law_take dc_law_take pm_law_take an_law_take cd_law_take ct_law_take) (PySem.W.fnOf "_law_even" "_law_even" (defArgs st_law_even) (defBody st_law_even) (defScope st_law_even) .none kV_law_even dc_law_even pm_law_even an_law_even cd_law_even ct_law_even) (PySem.W.fnOf "_law_notes" "_law_notes" (defArgs st_law_notes) (defBody st_law_notes) (defScope st_law_notes) .none kV_law_notes dc_law_notes pm_law_notes an_law_notes cd_law_notes ct_law_notes) (PySem.W.fnOf "_law_time" "_law_time" (defArgs st_law_time) (defBody st_law_time) (defScope st_law_time) .none kV_law_time dc_law_time pm_law_time an_law_time cd_law_time ct_law_time) (PySem.W.fnOf "_law_moment" "_law_moment" (defArgs st_law_moment) (defBody st_law_moment) (defScope st_law_moment) .none kV_law_moment dc_law_moment pm_law_moment an_law_moment cd_law_moment ct_law_moment) (PySem.W.fnOf "_law_busy" "_law_busy" (defArgs st_law_busy) (defBody st_law_busy) (defScope st_law_busy) .none kV_law_busy dc_law_busy pm_law_busy an_law_busy cd_law_busy ct_law_busy) (PySem.W.fnOf "law" "law" (defArgs st_law) (defBody st_law) (defScope st_law) .none kV_law dc_law pm_law an_law cd_law ct_law) (PySem.W.fnOf "__init__" "BadNote.__init__" (defArgs st_BadNote) (defBody st_BadNote) (defScope st_BadNote) .none kV_BadNote dc_BadNote pm_BadNote an_BadNote cd_BadNote ct_BadNote) (PySem.W.fnOf "__init__" "BadPart.__init__" (defArgs st_BadPart) (defBody st_BadPart) (defScope st_BadPart) .none kV_BadPart dc_BadPart pm_BadPart an_BadPart cd_BadPart ct_BadPart) (PySem.W.fnOf "__init__" "BadTime.__init__" (defArgs st_BadTime) (defBody st_BadTime) (defScope st_BadTime) .none kV_BadTime dc_BadTime pm_BadTime an_BadTime cd_BadTime ct_BadTime) (PySem.W.fnOf "__init__" "BadDrums.__init__" (defArgs st_BadDrums) (defBody st_BadDrums) (defScope st_BadDrums) .none kV_BadDrums dc_BadDrums pm_BadDrums an_BadDrums cd_BadDrums ct_BadDrums) (PySem.W.fnOf "__init__" "Overlap.__init__" (defArgs st_Overlap) (defBody st_Overlap) (defScope st_Overlap) .none kV_Overlap dc_Overlap pm_Overlap an_Overlap cd_Overlap ct_Overlap) := by
  have y_BadNote : (clOf [("BadNote", C_BadNote), ("BadPart", C_BadPart), ("BadTime", C_BadTime), ("BadDrums", C_BadDrums), ("Overlap", C_Overlap), ("ToneError", C_ToneError), ("Part", C_Part)]) "BadNote" = C_BadNote := by first | rfl | with_unfolding_all rfl | simp [clOf, List.lookup]
  have y_BadPart : (clOf [("BadNote", C_BadNote), ("BadPart", C_BadPart), ("BadTime", C_BadTime), ("BadDrums", C_BadDrums), ("Overlap", C_Overlap), ("ToneError", C_ToneError), ("Part", C_Part)]) "BadPart" = C_BadPart := by first | rfl | with_unfolding_all rfl | simp [clOf, List.lookup]
  have y_BadTime : (clOf [("BadNote", C_BadNote), ("BadPart", C_BadPart), ("BadTime", C_BadTime), ("BadDrums", C_BadDrums), ("Overlap", C_Overlap), ("ToneError", C_ToneError), ("Part", C_Part)]) "BadTime" = C_BadTime := by first | rfl | with_unfolding_all rfl | simp [clOf, List.lookup]
  have y_BadDrums : (clOf [("BadNote", C_BadNote), ("BadPart", C_BadPart), ("BadTime", C_BadTime), ("BadDrums", C_BadDrums), ("Overlap", C_Overlap), ("ToneError", C_ToneError), ("Part", C_Part)]) "BadDrums" = C_BadDrums := by first | rfl | with_unfolding_all rfl | simp [clOf, List.lookup]
  have y_Overlap : (clOf [("BadNote", C_BadNote), ("BadPart", C_BadPart), ("BadTime", C_BadTime), ("BadDrums", C_BadDrums), ("Overlap", C_Overlap), ("ToneError", C_ToneError), ("Part", C_Part)]) "Overlap" = C_Overlap := by first | rfl | with_unfolding_all rfl | simp [clOf, List.lookup]
  have y_ToneError : (clOf [("BadNote", C_BadNote), ("BadPart", C_BadPart), ("BadTime", C_BadTime), ("BadDrums", C_BadDrums), ("Overlap", C_Overlap), ("ToneError", C_ToneError), ("Part", C_Part)]) "ToneError" = C_ToneError := by first | rfl | with_unfolding_all rfl | simp [clOf, List.lookup]
  have y_Part : (clOf [("BadNote", C_BadNote), ("BadPart", C_BadPart), ("BadTime", C_BadTime), ("BadDrums", C_BadDrums), ("Overlap", C_Overlap), ("ToneError", C_ToneError), ("Part", C_Part)]) "Part" = C_Part := by first | rfl | with_unfolding_all rfl | simp [clOf, List.lookup]
  exact {
    d_is_integer := ⟨fun_mk l_is_integer c_is_integer k_is_integer, (fun_mk (st := st_is_integer) l_is_integer c_is_integer k_is_integer).binds (ps := ["value", "low", "high"]) fun _ _ _ _ _ _ us hl => match us, hl with | [_, _, _], _ => rfl, PySem.W.mg_of X G a_is_integer⟩,
    d_is_list := ⟨fun_mk l_is_list c_is_list k_is_list, (fun_mk (st := st_is_list) l_is_list c_is_list k_is_list).binds (ps := ["value", "most"]) fun _ _ _ _ _ _ us hl => match us, hl with | [_, _], _ => rfl, PySem.W.mg_of X G a_is_list⟩,
    d_is_pitch := ⟨fun_mk l_is_pitch c_is_pitch k_is_pitch, (fun_mk (st := st_is_pitch) l_is_pitch c_is_pitch k_is_pitch).binds (ps := ["value"]) fun _ _ _ _ _ _ us hl => match us, hl with | [_], _ => rfl, PySem.W.mg_of X G a_is_pitch⟩,
    d_is_note := ⟨fun_mk l_is_note c_is_note k_is_note, (fun_mk (st := st_is_note) l_is_note c_is_note k_is_note).binds (ps := ["value"]) fun _ _ _ _ _ _ us hl => match us, hl with | [_], _ => rfl, PySem.W.mg_of X G a_is_note⟩,
    d_need_note := ⟨fun_mk l_need_note c_need_note k_need_note, (fun_mk (st := st_need_note) l_need_note c_need_note k_need_note).binds (ps := ["note"]) fun _ _ _ _ _ _ us hl => match us, hl with | [_], _ => rfl, PySem.W.mg_of X G a_need_note⟩,
    d_is_moment := ⟨fun_mk l_is_moment c_is_moment k_is_moment, (fun_mk (st := st_is_moment) l_is_moment c_is_moment k_is_moment).binds (ps := ["value"]) fun _ _ _ _ _ _ us hl => match us, hl with | [_], _ => rfl, PySem.W.mg_of X G a_is_moment⟩,
    d_need_part := ⟨fun_mk l_need_part c_need_part k_need_part, (fun_mk (st := st_need_part) l_need_part c_need_part k_need_part).binds (ps := ["part"]) fun _ _ _ _ _ _ us hl => match us, hl with | [_], _ => rfl, PySem.W.mg_of X G a_need_part⟩,
    d_need_time := ⟨fun_mk l_need_time c_need_time k_need_time, (fun_mk (st := st_need_time) l_need_time c_need_time k_need_time).binds (ps := ["time"]) fun _ _ _ _ _ _ us hl => match us, hl with | [_], _ => rfl, PySem.W.mg_of X G a_need_time⟩,
    d_is_busy := ⟨fun_mk l_is_busy c_is_busy k_is_busy, (fun_mk (st := st_is_busy) l_is_busy c_is_busy k_is_busy).binds (ps := ["note", "time", "moment"]) fun _ _ _ _ _ _ us hl => match us, hl with | [_, _, _], _ => rfl, PySem.W.mg_of X G a_is_busy⟩,
    d_busy_pitches := ⟨fun_mk l_busy_pitches c_busy_pitches k_busy_pitches, (fun_mk (st := st_busy_pitches) l_busy_pitches c_busy_pitches k_busy_pitches).binds (ps := ["part", "time", "moment"]) fun _ _ _ _ _ _ us hl => match us, hl with | [_, _, _], _ => rfl, PySem.W.mg_of X G a_busy_pitches⟩,
    d_is_drum := ⟨fun_mk l_is_drum c_is_drum k_is_drum, (fun_mk (st := st_is_drum) l_is_drum c_is_drum k_is_drum).binds (ps := ["value", "drums"]) fun _ _ _ _ _ _ us hl => match us, hl with | [_, _], _ => rfl, PySem.W.mg_of X G a_is_drum⟩,
    d_need_drums := ⟨fun_mk l_need_drums c_need_drums k_need_drums, (fun_mk (st := st_need_drums) l_need_drums c_need_drums k_need_drums).binds (ps := ["drums"]) fun _ _ _ _ _ _ us hl => match us, hl with | [_], _ => rfl, PySem.W.mg_of X G a_need_drums⟩,
    d_shows_crowd := ⟨fun_mk l_shows_crowd c_shows_crowd k_shows_crowd, (fun_mk (st := st_shows_crowd) l_shows_crowd c_shows_crowd k_shows_crowd).binds (ps := ["part", "time", "drums", "moment"]) fun _ _ _ _ _ _ us hl => match us, hl with | [_, _, _, _], _ => rfl, PySem.W.mg_of X G a_shows_crowd⟩,
    d_law_cell := ⟨fun_mk l_law_cell c_law_cell k_law_cell, (fun_mk (st := st_law_cell) l_law_cell c_law_cell k_law_cell).binds (ps := ["script", "k"]) fun _ _ _ _ _ _ us hl => match us, hl with | [_, _], _ => rfl, PySem.W.mg_of X G a_law_cell⟩,
    d_law_box := ⟨fun_mk l_law_box c_law_box k_law_box, (fun_mk (st := st_law_box) l_law_box c_law_box k_law_box).binds (ps := ["cell"]) fun _ _ _ _ _ _ us hl => match us, hl with | [_], _ => rfl, PySem.W.mg_of X G a_law_box⟩,
    d_law_take := ⟨fun_mk l_law_take c_law_take k_law_take, (fun_mk (st := st_law_take) l_law_take c_law_take k_law_take).binds (ps := ["box", "many"]) fun _ _ _ _ _ _ us hl => match us, hl with | [_, _], _ => rfl, PySem.W.mg_of X G a_law_take⟩,
    d_law_even := ⟨fun_mk l_law_even c_law_even k_law_even, (fun_mk (st := st_law_even) l_law_even c_law_even k_law_even).binds (ps := ["told", "due"]) fun _ _ _ _ _ _ us hl => match us, hl with | [_, _], _ => rfl, PySem.W.mg_of X G a_law_even⟩,
    d_law_notes := ⟨fun_mk l_law_notes c_law_notes k_law_notes, (fun_mk (st := st_law_notes) l_law_notes c_law_notes k_law_notes).binds (ps := ["box", "most"]) fun _ _ _ _ _ _ us hl => match us, hl with | [_, _], _ => rfl, PySem.W.mg_of X G a_law_notes⟩,
    d_law_time := ⟨fun_mk l_law_time c_law_time k_law_time, (fun_mk (st := st_law_time) l_law_time c_law_time k_law_time).binds (ps := ["box", "notes"]) fun _ _ _ _ _ _ us hl => match us, hl with | [_, _], _ => rfl, PySem.W.mg_of X G a_law_time⟩,
    d_law_moment := ⟨fun_mk l_law_moment c_law_moment k_law_moment, (fun_mk (st := st_law_moment) l_law_moment c_law_moment k_law_moment).binds (ps := ["box", "notes", "time"]) fun _ _ _ _ _ _ us hl => match us, hl with | [_, _, _], _ => rfl, PySem.W.mg_of X G a_law_moment⟩,
    d_law_busy := ⟨fun_mk l_law_busy c_law_busy k_law_busy, (fun_mk (st := st_law_busy) l_law_busy c_law_busy k_law_busy).binds (ps := ["notes", "time", "moment"]) fun _ _ _ _ _ _ us hl => match us, hl with | [_, _, _], _ => rfl, PySem.W.mg_of X G a_law_busy⟩,
    d_law := ⟨fun_mk l_law c_law k_law, (fun_mk (st := st_law) l_law c_law k_law).binds (ps := ["script"]) fun _ _ _ _ _ _ us hl => match us, hl with | [_], _ => rfl, PySem.W.mg_of X G a_law⟩,
    p_Part___init__ := ⟨fun_mk l_Part___init__ c_Part___init__ k_Part___init__, (fun_mk (st := st_Part___init__) l_Part___init__ c_Part___init__ k_Part___init__).binds (ps := ["self", "notes"]) fun _ _ _ _ _ _ us hl => match us, hl with | [_, _], _ => rfl⟩,
    pt_Part := ⟨by rw [y_Part]; exact ⟨mi_Part, t_Part___init__, fn_Part___init__, kp_Part⟩, by rw [y_Part]; exact ⟨pg_Part, hs_Part, po_Part, so_Part⟩, by rw [y_Part]; exact PySem.W.mg_of X G aC_Part⟩,
    p_Part_notes := ⟨fun_mk l_Part_notes c_Part_notes k_Part_notes, ⟨by rw [y_Part]; exact ⟨t_Part_notes, fn_Part_notes, k_Part_notes⟩, (fun_mk (st := st_Part_notes) l_Part_notes c_Part_notes k_Part_notes).binds (ps := ["self"]) fun _ _ _ _ _ _ us hl => match us, hl with | [_], _ => rfl⟩⟩,
    cs := by rw [y_Part]; exact ⟨pg_Part, hs_Part, po_Part, so_Part⟩,
    npn := by rw [y_Part]; exact na_Part,
    isP := ⟨by rw [y_Part]; exact kl_Part, kg, kt, by rw [y_Part]; exact mr_Part, by rw [y_Part]; exact fun t ht => by simpa using List.all_eq_true.mp no_Part t ht⟩,
    e_BadNote := ⟨fun_mk l_BadNote c_BadNote k_BadNote, (fun_mk (st := st_BadNote) l_BadNote c_BadNote k_BadNote).binds (ps := ["self", "found"]) fun _ _ _ _ _ _ us hl => match us, hl with | [_, _], _ => rfl, by rw [y_BadNote]; exact PySem.W.mg_of X G aC_BadNote, by rw [y_BadNote]; exact ⟨oexc_of x_BadNote (by first | rfl | decide +kernel) sa_BadNote ex_BadNote ty_BadNote kc_BadNote, i_BadNote, tf_BadNote⟩, by rw [y_BadNote]; exact ⟨ga_BadNote, gg_BadNote, ex_BadNote, hd_BadNote⟩⟩,
    n_BadNote_found := by rw [y_BadNote]; exact nf_BadNote_found,
    e_BadPart := ⟨fun_mk l_BadPart c_BadPart k_BadPart, (fun_mk (st := st_BadPart) l_BadPart c_BadPart k_BadPart).binds (ps := ["self", "found"]) fun _ _ _ _ _ _ us hl => match us, hl with | [_, _], _ => rfl, by rw [y_BadPart]; exact PySem.W.mg_of X G aC_BadPart, by rw [y_BadPart]; exact ⟨oexc_of x_BadPart (by first | rfl | decide +kernel) sa_BadPart ex_BadPart ty_BadPart kc_BadPart, i_BadPart, tf_BadPart⟩, by rw [y_BadPart]; exact ⟨ga_BadPart, gg_BadPart, ex_BadPart, hd_BadPart⟩⟩,
    n_BadPart_found := by rw [y_BadPart]; exact nf_BadPart_found,
    e_BadTime := ⟨fun_mk l_BadTime c_BadTime k_BadTime, (fun_mk (st := st_BadTime) l_BadTime c_BadTime k_BadTime).binds (ps := ["self", "found"]) fun _ _ _ _ _ _ us hl => match us, hl with | [_, _], _ => rfl, by rw [y_BadTime]; exact PySem.W.mg_of X G aC_BadTime, by rw [y_BadTime]; exact ⟨oexc_of x_BadTime (by first | rfl | decide +kernel) sa_BadTime ex_BadTime ty_BadTime kc_BadTime, i_BadTime, tf_BadTime⟩, by rw [y_BadTime]; exact ⟨ga_BadTime, gg_BadTime, ex_BadTime, hd_BadTime⟩⟩,
    n_BadTime_found := by rw [y_BadTime]; exact nf_BadTime_found,
    e_BadDrums := ⟨fun_mk l_BadDrums c_BadDrums k_BadDrums, (fun_mk (st := st_BadDrums) l_BadDrums c_BadDrums k_BadDrums).binds (ps := ["self", "found"]) fun _ _ _ _ _ _ us hl => match us, hl with | [_, _], _ => rfl, by rw [y_BadDrums]; exact PySem.W.mg_of X G aC_BadDrums, by rw [y_BadDrums]; exact ⟨oexc_of x_BadDrums (by first | rfl | decide +kernel) sa_BadDrums ex_BadDrums ty_BadDrums kc_BadDrums, i_BadDrums, tf_BadDrums⟩, by rw [y_BadDrums]; exact ⟨ga_BadDrums, gg_BadDrums, ex_BadDrums, hd_BadDrums⟩⟩,
    n_BadDrums_found := by rw [y_BadDrums]; exact nf_BadDrums_found,
    e_Overlap := ⟨fun_mk l_Overlap c_Overlap k_Overlap, (fun_mk (st := st_Overlap) l_Overlap c_Overlap k_Overlap).binds (ps := ["self", "one", "other"]) fun _ _ _ _ _ _ us hl => match us, hl with | [_, _, _], _ => rfl, by rw [y_Overlap]; exact PySem.W.mg_of X G aC_Overlap, by rw [y_Overlap]; exact ⟨oexc_of x_Overlap (by first | rfl | decide +kernel) sa_Overlap ex_Overlap ty_Overlap kc_Overlap, i_Overlap, tf_Overlap⟩, by rw [y_Overlap]; exact ⟨ga_Overlap, gg_Overlap, ex_Overlap, hd_Overlap⟩⟩,
    n_Overlap_one := by rw [y_Overlap]; exact nf_Overlap_one,
    n_Overlap_other := by rw [y_Overlap]; exact nf_Overlap_other,
    h_ToneError := by rw [y_ToneError]; exact ⟨bg_ToneError, br_ToneError, bf_ToneError⟩,
    m_BadNote := by rw [y_BadNote]; exact PySem.W.mg_of X G aC_BadNote,
    m_BadPart := by rw [y_BadPart]; exact PySem.W.mg_of X G aC_BadPart,
    m_BadTime := by rw [y_BadTime]; exact PySem.W.mg_of X G aC_BadTime,
    m_BadDrums := by rw [y_BadDrums]; exact PySem.W.mg_of X G aC_BadDrums,
    m_Overlap := by rw [y_Overlap]; exact PySem.W.mg_of X G aC_Overlap,
    m_ToneError := by rw [y_ToneError]; exact PySem.W.mg_of X G aC_ToneError,
    b_bool := PySem.W.mg_none_of X G z_bool,
    b_int := PySem.W.mg_none_of X G z_int,
    b_isinstance := PySem.W.mg_none_of X G z_isinstance,
    b_len := PySem.W.mg_none_of X G z_len,
    b_list := PySem.W.mg_none_of X G z_list,
    b_max := PySem.W.mg_none_of X G z_max,
    b_min := PySem.W.mg_none_of X G z_min,
    b_range := PySem.W.mg_none_of X G z_range,
    b_repr := PySem.W.mg_none_of X G z_repr,
    b_sorted := PySem.W.mg_none_of X G z_sorted,
    b_tuple := PySem.W.mg_none_of X G z_tuple,
    k_HIGHEST := ⟨_, PySem.W.mg_of X G v_HIGHEST⟩,
    k_LAST := ⟨_, PySem.W.mg_of X G v_LAST⟩,
    k_LAST_MOMENT := ⟨_, PySem.W.mg_of X G v_LAST_MOMENT⟩,
    k_MOST_DRUMS := ⟨_, PySem.W.mg_of X G v_MOST_DRUMS⟩,
    k_MOST_NOTES := ⟨_, PySem.W.mg_of X G v_MOST_NOTES⟩ }
theorem fin {P : Program} {w : World} {K : PySem.W.Frag} {h : Heap} {mg : Str → Option Value} {fa : Addr} (X : K.In h) (G : h.Ns mainGlobals mg) (hfa : mg "law" = some (.ref fa))
  {f_is_integer f_is_list f_is_pitch f_is_note f_need_note f_is_moment f_need_part f_need_time f_is_busy f_busy_pitches f_is_drum f_need_drums f_shows_crowd f_law_cell f_law_box f_law_take f_law_even f_law_notes f_law_time f_law_moment f_law_busy f_law f_Part___init__ f_Part_notes f_BadNote f_BadPart f_BadTime f_BadDrums f_Overlap C_BadNote C_BadPart C_BadTime C_BadDrums C_Overlap C_ToneError C_Part : Addr}
  {oc_is_integer kV_is_integer dc_is_integer pm_is_integer cd_is_integer ct_is_integer oc_is_list kV_is_list dc_is_list pm_is_list cd_is_list ct_is_list oc_is_pitch kV_is_pitch dc_is_pitch pm_is_pitch cd_is_pitch ct_is_pitch oc_is_note kV_is_note dc_is_note pm_is_note cd_is_note ct_is_note oc_need_note kV_need_note dc_need_note pm_need_note cd_need_note ct_need_note oc_is_moment kV_is_moment dc_is_moment pm_is_moment cd_is_moment ct_is_moment oc_need_part kV_need_part dc_need_part pm_need_part cd_need_part ct_need_part oc_need_time kV_need_time dc_need_time pm_need_time cd_need_time ct_need_time oc_is_busy kV_is_busy dc_is_busy pm_is_busy cd_is_busy ct_is_busy oc_busy_pitches kV_busy_pitches dc_busy_pitches pm_busy_pitches cd_busy_pitches ct_busy_pitches oc_is_drum kV_is_drum dc_is_drum pm_is_drum cd_is_drum ct_is_drum oc_need_drums kV_need_drums dc_need_drums pm_need_drums cd_need_drums ct_need_drums oc_shows_crowd kV_shows_crowd dc_shows_crowd pm_shows_crowd cd_shows_crowd ct_shows_crowd oc_law_cell kV_law_cell dc_law_cell pm_law_cell cd_law_cell ct_law_cell oc_law_box kV_law_box dc_law_box pm_law_box cd_law_box ct_law_box oc_law_take kV_law_take dc_law_take pm_law_take cd_law_take ct_law_take oc_law_even kV_law_even dc_law_even pm_law_even cd_law_even ct_law_even oc_law_notes kV_law_notes dc_law_notes pm_law_notes cd_law_notes ct_law_notes oc_law_time kV_law_time dc_law_time pm_law_time cd_law_time ct_law_time oc_law_moment kV_law_moment dc_law_moment pm_law_moment cd_law_moment ct_law_moment oc_law_busy kV_law_busy dc_law_busy pm_law_busy cd_law_busy ct_law_busy oc_law kV_law dc_law pm_law cd_law ct_law oc_Part___init__ kV_Part___init__ dc_Part___init__ pm_Part___init__ cd_Part___init__ ct_Part___init__ oc_Part_notes kV_Part_notes dc_Part_notes pm_Part_notes cd_Part_notes ct_Part_notes oc_BadNote kV_BadNote dc_BadNote pm_BadNote cd_BadNote ct_BadNote oc_BadPart kV_BadPart dc_BadPart pm_BadPart cd_BadPart ct_BadPart oc_BadTime kV_BadTime dc_BadTime pm_BadTime cd_BadTime ct_BadTime oc_BadDrums kV_BadDrums dc_BadDrums pm_BadDrums cd_BadDrums ct_BadDrums oc_Overlap kV_Overlap dc_Overlap pm_Overlap cd_Overlap ct_Overlap : Value}
  {od_is_integer an_is_integer od_is_list an_is_list od_is_pitch an_is_pitch od_is_note an_is_note od_need_note an_need_note od_is_moment an_is_moment od_need_part an_need_part od_need_time an_need_time od_is_busy an_is_busy od_busy_pitches an_busy_pitches od_is_drum an_is_drum od_need_drums an_need_drums od_shows_crowd an_shows_crowd od_law_cell an_law_cell od_law_box an_law_box od_law_take an_law_take od_law_even an_law_even od_law_notes an_law_notes od_law_time an_law_time od_law_moment an_law_moment od_law_busy an_law_busy od_law an_law od_Part___init__ an_Part___init__ od_Part_notes an_Part_notes od_BadNote an_BadNote od_BadPart an_BadPart od_BadTime an_BadTime od_BadDrums an_BadDrums od_Overlap an_Overlap : Option Addr}
  {sl_is_integer sl_is_list sl_is_pitch sl_is_note sl_need_note sl_is_moment sl_need_part sl_need_time sl_is_busy sl_busy_pitches sl_is_drum sl_need_drums sl_shows_crowd sl_law_cell sl_law_box sl_law_take sl_law_even sl_law_notes sl_law_time sl_law_moment sl_law_busy sl_law sl_Part___init__ sl_Part_notes sl_BadNote sl_BadPart sl_BadTime sl_BadDrums sl_Overlap : Array (Option Value)}
  {nm_BadNote q_BadNote nm_BadPart q_BadPart nm_BadTime q_BadTime nm_BadDrums q_BadDrums nm_Overlap q_Overlap : Str}
  {N_BadNote N_BadPart N_BadTime N_BadDrums N_Overlap : Addr}
  {bs_BadNote sub_BadNote bs_BadPart sub_BadPart bs_BadTime sub_BadTime bs_BadDrums sub_BadDrums bs_Overlap sub_Overlap : List Value}
  {sn_BadNote sn_BadPart sn_BadTime sn_BadDrums sn_Overlap : List Str}
  {ab_BadNote ab_BadPart ab_BadTime ab_BadDrums ab_Overlap : Bool}
  {col_BadNote col_BadPart col_BadTime col_BadDrums col_Overlap : Option Bool}
  {dd_BadNote dd_BadPart dd_BadTime dd_BadDrums dd_Overlap : Option Addr}
  {m0_BadNote m1_BadNote m2_BadNote m3_BadNote m5_BadNote m0_BadPart m1_BadPart m2_BadPart m3_BadPart m5_BadPart m0_BadTime m1_BadTime m2_BadTime m3_BadTime m5_BadTime m0_BadDrums m1_BadDrums m2_BadDrums m3_BadDrums m5_BadDrums m0_Overlap m1_Overlap m2_Overlap m3_Overlap m5_Overlap : Option Value}
  {tk_HIGHEST tk_LAST tk_LAST_MOMENT tk_MOST_DRUMS tk_MOST_NOTES : Tok}
  (aC_BadNote : PySem.W.nsIn K mainGlobals "BadNote" = some (some (.ref C_BadNote)))
  (aC_BadPart : PySem.W.nsIn K mainGlobals "BadPart" = some (some (.ref C_BadPart)))
  (aC_BadTime : PySem.W.nsIn K mainGlobals "BadTime" = some (some (.ref C_BadTime)))
  (aC_BadDrums : PySem.W.nsIn K mainGlobals "BadDrums" = some (some (.ref C_BadDrums)))
  (aC_Overlap : PySem.W.nsIn K mainGlobals "Overlap" = some (some (.ref C_Overlap)))
  (aC_ToneError : PySem.W.nsIn K mainGlobals "ToneError" = some (some (.ref C_ToneError)))
  (aC_Part : PySem.W.nsIn K mainGlobals "Part" = some (some (.ref C_Part)))
  (a_is_integer : PySem.W.nsIn K mainGlobals "is_integer" = some (some (.ref f_is_integer)))
  (a_is_list : PySem.W.nsIn K mainGlobals "is_list" = some (some (.ref f_is_list)))
  (a_is_pitch : PySem.W.nsIn K mainGlobals "is_pitch" = some (some (.ref f_is_pitch)))
  (a_is_note : PySem.W.nsIn K mainGlobals "is_note" = some (some (.ref f_is_note)))
  (a_need_note : PySem.W.nsIn K mainGlobals "need_note" = some (some (.ref f_need_note)))
  (a_is_moment : PySem.W.nsIn K mainGlobals "is_moment" = some (some (.ref f_is_moment)))
  (a_need_part : PySem.W.nsIn K mainGlobals "need_part" = some (some (.ref f_need_part)))
  (a_need_time : PySem.W.nsIn K mainGlobals "need_time" = some (some (.ref f_need_time)))
  (a_is_busy : PySem.W.nsIn K mainGlobals "is_busy" = some (some (.ref f_is_busy)))
  (a_busy_pitches : PySem.W.nsIn K mainGlobals "busy_pitches" = some (some (.ref f_busy_pitches)))
  (a_is_drum : PySem.W.nsIn K mainGlobals "is_drum" = some (some (.ref f_is_drum)))
  (a_need_drums : PySem.W.nsIn K mainGlobals "need_drums" = some (some (.ref f_need_drums)))
  (a_shows_crowd : PySem.W.nsIn K mainGlobals "shows_crowd" = some (some (.ref f_shows_crowd)))
  (a_law_cell : PySem.W.nsIn K mainGlobals "_law_cell" = some (some (.ref f_law_cell)))
  (a_law_box : PySem.W.nsIn K mainGlobals "_law_box" = some (some (.ref f_law_box)))
  (a_law_take : PySem.W.nsIn K mainGlobals "_law_take" = some (some (.ref f_law_take)))
  (a_law_even : PySem.W.nsIn K mainGlobals "_law_even" = some (some (.ref f_law_even)))
  (a_law_notes : PySem.W.nsIn K mainGlobals "_law_notes" = some (some (.ref f_law_notes)))
  (a_law_time : PySem.W.nsIn K mainGlobals "_law_time" = some (some (.ref f_law_time)))
  (a_law_moment : PySem.W.nsIn K mainGlobals "_law_moment" = some (some (.ref f_law_moment)))
  (a_law_busy : PySem.W.nsIn K mainGlobals "_law_busy" = some (some (.ref f_law_busy)))
  (a_law : PySem.W.nsIn K mainGlobals "law" = some (some (.ref f_law)))
  (i_BadNote : PySem.W.findIn K (.ref C_BadNote) "__init__" = some (some (.ref f_BadNote)))
  (i_BadPart : PySem.W.findIn K (.ref C_BadPart) "__init__" = some (some (.ref f_BadPart)))
  (i_BadTime : PySem.W.findIn K (.ref C_BadTime) "__init__" = some (some (.ref f_BadTime)))
  (i_BadDrums : PySem.W.findIn K (.ref C_BadDrums) "__init__" = some (some (.ref f_BadDrums)))
  (i_Overlap : PySem.W.findIn K (.ref C_Overlap) "__init__" = some (some (.ref f_Overlap)))
  (t_Part___init__ : PySem.W.findIn K (.ref C_Part) "__init__" = some (some (.ref f_Part___init__)))
  (t_Part_notes : PySem.W.findIn K (.ref C_Part) "notes" = some (some (.ref f_Part_notes)))
  (l_is_integer : K.lookup f_is_integer = some ⟨oc_is_integer, od_is_integer, .func (PySem.W.fnOf "is_integer" "is_integer" (defArgs st_is_integer) (defBody st_is_integer) (defScope st_is_integer) .none kV_is_integer dc_is_integer pm_is_integer an_is_integer cd_is_integer ct_is_integer), sl_is_integer⟩)
  (c_is_integer : PySem.W.codeIn K cd_is_integer "is_integer" = true)
  (k_is_integer : PySem.W.keepIn K (.ref f_is_integer) = true)
  (l_is_list : K.lookup f_is_list = some ⟨oc_is_list, od_is_list, .func (PySem.W.fnOf "is_list" "is_list" (defArgs st_is_list) (defBody st_is_list) (defScope st_is_list) .none kV_is_list dc_is_list pm_is_list an_is_list cd_is_list ct_is_list), sl_is_list⟩)
  (c_is_list : PySem.W.codeIn K cd_is_list "is_list" = true)
  (k_is_list : PySem.W.keepIn K (.ref f_is_list) = true)
  (l_is_pitch : K.lookup f_is_pitch = some ⟨oc_is_pitch, od_is_pitch, .func (PySem.W.fnOf "is_pitch" "is_pitch" (defArgs st_is_pitch) (defBody st_is_pitch) (defScope st_is_pitch) .none kV_is_pitch dc_is_pitch pm_is_pitch an_is_pitch cd_is_pitch ct_is_pitch), sl_is_pitch⟩)
  (c_is_pitch : PySem.W.codeIn K cd_is_pitch "is_pitch" = true)
  (k_is_pitch : PySem.W.keepIn K (.ref f_is_pitch) = true)
  (l_is_note : K.lookup f_is_note = some ⟨oc_is_note, od_is_note, .func (PySem.W.fnOf "is_note" "is_note" (defArgs st_is_note) (defBody st_is_note) (defScope st_is_note) .none kV_is_note dc_is_note pm_is_note an_is_note cd_is_note ct_is_note), sl_is_note⟩)
  (c_is_note : PySem.W.codeIn K cd_is_note "is_note" = true)
  (k_is_note : PySem.W.keepIn K (.ref f_is_note) = true)
  (l_need_note : K.lookup f_need_note = some ⟨oc_need_note, od_need_note, .func (PySem.W.fnOf "need_note" "need_note" (defArgs st_need_note) (defBody st_need_note) (defScope st_need_note) .none kV_need_note dc_need_note pm_need_note an_need_note cd_need_note ct_need_note), sl_need_note⟩)
  (c_need_note : PySem.W.codeIn K cd_need_note "need_note" = true)
  (k_need_note : PySem.W.keepIn K (.ref f_need_note) = true)
  (l_is_moment : K.lookup f_is_moment = some ⟨oc_is_moment, od_is_moment, .func (PySem.W.fnOf "is_moment" "is_moment" (defArgs st_is_moment) (defBody st_is_moment) (defScope st_is_moment) .none kV_is_moment dc_is_moment pm_is_moment an_is_moment cd_is_moment ct_is_moment), sl_is_moment⟩)
  (c_is_moment : PySem.W.codeIn K cd_is_moment "is_moment" = true)
  (k_is_moment : PySem.W.keepIn K (.ref f_is_moment) = true)
  (l_need_part : K.lookup f_need_part = some ⟨oc_need_part, od_need_part, .func (PySem.W.fnOf "need_part" "need_part" (defArgs st_need_part) (defBody st_need_part) (defScope st_need_part) .none kV_need_part dc_need_part pm_need_part an_need_part cd_need_part ct_need_part), sl_need_part⟩)
  (c_need_part : PySem.W.codeIn K cd_need_part "need_part" = true)
  (k_need_part : PySem.W.keepIn K (.ref f_need_part) = true)
  (l_need_time : K.lookup f_need_time = some ⟨oc_need_time, od_need_time, .func (PySem.W.fnOf "need_time" "need_time" (defArgs st_need_time) (defBody st_need_time) (defScope st_need_time) .none kV_need_time dc_need_time pm_need_time an_need_time cd_need_time ct_need_time), sl_need_time⟩)
  (c_need_time : PySem.W.codeIn K cd_need_time "need_time" = true)
  (k_need_time : PySem.W.keepIn K (.ref f_need_time) = true)
  (l_is_busy : K.lookup f_is_busy = some ⟨oc_is_busy, od_is_busy, .func (PySem.W.fnOf "is_busy" "is_busy" (defArgs st_is_busy) (defBody st_is_busy) (defScope st_is_busy) .none kV_is_busy dc_is_busy pm_is_busy an_is_busy cd_is_busy ct_is_busy), sl_is_busy⟩)
  (c_is_busy : PySem.W.codeIn K cd_is_busy "is_busy" = true)
  (k_is_busy : PySem.W.keepIn K (.ref f_is_busy) = true)
  (l_busy_pitches : K.lookup f_busy_pitches = some ⟨oc_busy_pitches, od_busy_pitches, .func (PySem.W.fnOf "busy_pitches" "busy_pitches" (defArgs st_busy_pitches) (defBody st_busy_pitches) (defScope st_busy_pitches) .none kV_busy_pitches dc_busy_pitches pm_busy_pitches an_busy_pitches cd_busy_pitches ct_busy_pitches), sl_busy_pitches⟩)
  (c_busy_pitches : PySem.W.codeIn K cd_busy_pitches "busy_pitches" = true)
  (k_busy_pitches : PySem.W.keepIn K (.ref f_busy_pitches) = true)
  (l_is_drum : K.lookup f_is_drum = some ⟨oc_is_drum, od_is_drum, .func (PySem.W.fnOf "is_drum" "is_drum" (defArgs st_is_drum) (defBody st_is_drum) (defScope st_is_drum) .none kV_is_drum dc_is_drum pm_is_drum an_is_drum cd_is_drum ct_is_drum), sl_is_drum⟩)
  (c_is_drum : PySem.W.codeIn K cd_is_drum "is_drum" = true)
  (k_is_drum : PySem.W.keepIn K (.ref f_is_drum) = true)
  (l_need_drums : K.lookup f_need_drums = some ⟨oc_need_drums, od_need_drums, .func (PySem.W.fnOf "need_drums" "need_drums" (defArgs st_need_drums) (defBody st_need_drums) (defScope st_need_drums) .none kV_need_drums dc_need_drums pm_need_drums an_need_drums cd_need_drums ct_need_drums), sl_need_drums⟩)
  (c_need_drums : PySem.W.codeIn K cd_need_drums "need_drums" = true)
  (k_need_drums : PySem.W.keepIn K (.ref f_need_drums) = true)
  (l_shows_crowd : K.lookup f_shows_crowd = some ⟨oc_shows_crowd, od_shows_crowd, .func (PySem.W.fnOf "shows_crowd" "shows_crowd" (defArgs st_shows_crowd) (defBody st_shows_crowd) (defScope st_shows_crowd) .none kV_shows_crowd dc_shows_crowd pm_shows_crowd an_shows_crowd cd_shows_crowd ct_shows_crowd), sl_shows_crowd⟩)
  (c_shows_crowd : PySem.W.codeIn K cd_shows_crowd "shows_crowd" = true)
  (k_shows_crowd : PySem.W.keepIn K (.ref f_shows_crowd) = true)
  (l_law_cell : K.lookup f_law_cell = some ⟨oc_law_cell, od_law_cell, .func (PySem.W.fnOf "_law_cell" "_law_cell" (defArgs st_law_cell) (defBody st_law_cell) (defScope st_law_cell) .none kV_law_cell dc_law_cell pm_law_cell an_law_cell cd_law_cell ct_law_cell), sl_law_cell⟩)
  (c_law_cell : PySem.W.codeIn K cd_law_cell "_law_cell" = true)
  (k_law_cell : PySem.W.keepIn K (.ref f_law_cell) = true)
  (l_law_box : K.lookup f_law_box = some ⟨oc_law_box, od_law_box, .func (PySem.W.fnOf "_law_box" "_law_box" (defArgs st_law_box) (defBody st_law_box) (defScope st_law_box) .none kV_law_box dc_law_box pm_law_box an_law_box cd_law_box ct_law_box), sl_law_box⟩)
  (c_law_box : PySem.W.codeIn K cd_law_box "_law_box" = true)
  (k_law_box : PySem.W.keepIn K (.ref f_law_box) = true)
  (l_law_take : K.lookup f_law_take = some ⟨oc_law_take, od_law_take, .func (PySem.W.fnOf "_law_take" "_law_take" (defArgs st_law_take) (defBody st_law_take) (defScope st_law_take) .none kV_law_take dc_law_take pm_law_take an_law_take cd_law_take ct_law_take), sl_law_take⟩)
  (c_law_take : PySem.W.codeIn K cd_law_take "_law_take" = true)
  (k_law_take : PySem.W.keepIn K (.ref f_law_take) = true)
  (l_law_even : K.lookup f_law_even = some ⟨oc_law_even, od_law_even, .func (PySem.W.fnOf "_law_even" "_law_even" (defArgs st_law_even) (defBody st_law_even) (defScope st_law_even) .none kV_law_even dc_law_even pm_law_even an_law_even cd_law_even ct_law_even), sl_law_even⟩)
  (c_law_even : PySem.W.codeIn K cd_law_even "_law_even" = true)
  (k_law_even : PySem.W.keepIn K (.ref f_law_even) = true)
  (l_law_notes : K.lookup f_law_notes = some ⟨oc_law_notes, od_law_notes, .func (PySem.W.fnOf "_law_notes" "_law_notes" (defArgs st_law_notes) (defBody st_law_notes) (defScope st_law_notes) .none kV_law_notes dc_law_notes pm_law_notes an_law_notes cd_law_notes ct_law_notes), sl_law_notes⟩)
  (c_law_notes : PySem.W.codeIn K cd_law_notes "_law_notes" = true)
  (k_law_notes : PySem.W.keepIn K (.ref f_law_notes) = true)
  (l_law_time : K.lookup f_law_time = some ⟨oc_law_time, od_law_time, .func (PySem.W.fnOf "_law_time" "_law_time" (defArgs st_law_time) (defBody st_law_time) (defScope st_law_time) .none kV_law_time dc_law_time pm_law_time an_law_time cd_law_time ct_law_time), sl_law_time⟩)
  (c_law_time : PySem.W.codeIn K cd_law_time "_law_time" = true)
  (k_law_time : PySem.W.keepIn K (.ref f_law_time) = true)
  (l_law_moment : K.lookup f_law_moment = some ⟨oc_law_moment, od_law_moment, .func (PySem.W.fnOf "_law_moment" "_law_moment" (defArgs st_law_moment) (defBody st_law_moment) (defScope st_law_moment) .none kV_law_moment dc_law_moment pm_law_moment an_law_moment cd_law_moment ct_law_moment), sl_law_moment⟩)
  (c_law_moment : PySem.W.codeIn K cd_law_moment "_law_moment" = true)
  (k_law_moment : PySem.W.keepIn K (.ref f_law_moment) = true)
  (l_law_busy : K.lookup f_law_busy = some ⟨oc_law_busy, od_law_busy, .func (PySem.W.fnOf "_law_busy" "_law_busy" (defArgs st_law_busy) (defBody st_law_busy) (defScope st_law_busy) .none kV_law_busy dc_law_busy pm_law_busy an_law_busy cd_law_busy ct_law_busy), sl_law_busy⟩)
  (c_law_busy : PySem.W.codeIn K cd_law_busy "_law_busy" = true)
  (k_law_busy : PySem.W.keepIn K (.ref f_law_busy) = true)
  (l_law : K.lookup f_law = some ⟨oc_law, od_law, .func (PySem.W.fnOf "law" "law" (defArgs st_law) (defBody st_law) (defScope st_law) .none kV_law dc_law pm_law an_law cd_law ct_law), sl_law⟩)
  (c_law : PySem.W.codeIn K cd_law "law" = true)
  (k_law : PySem.W.keepIn K (.ref f_law) = true)
  (l_Part___init__ : K.lookup f_Part___init__ = some ⟨oc_Part___init__, od_Part___init__, .func (PySem.W.fnOf "__init__" "Part.__init__" (defArgs st_Part___init__) (defBody st_Part___init__) (defScope st_Part___init__) .none kV_Part___init__ dc_Part___init__ pm_Part___init__ an_Part___init__ cd_Part___init__ ct_Part___init__), sl_Part___init__⟩)
  (c_Part___init__ : PySem.W.codeIn K cd_Part___init__ "Part.__init__" = true)
  (k_Part___init__ : PySem.W.keepIn K (.ref f_Part___init__) = true)
  (l_Part_notes : K.lookup f_Part_notes = some ⟨oc_Part_notes, od_Part_notes, .func (PySem.W.fnOf "notes" "Part.notes" (defArgs st_Part_notes) (defBody st_Part_notes) (defScope st_Part_notes) .none kV_Part_notes dc_Part_notes pm_Part_notes an_Part_notes cd_Part_notes ct_Part_notes), sl_Part_notes⟩)
  (c_Part_notes : PySem.W.codeIn K cd_Part_notes "Part.notes" = true)
  (k_Part_notes : PySem.W.keepIn K (.ref f_Part_notes) = true)
  (l_BadNote : K.lookup f_BadNote = some ⟨oc_BadNote, od_BadNote, .func (PySem.W.fnOf "__init__" "BadNote.__init__" (defArgs st_BadNote) (defBody st_BadNote) (defScope st_BadNote) .none kV_BadNote dc_BadNote pm_BadNote an_BadNote cd_BadNote ct_BadNote), sl_BadNote⟩)
  (c_BadNote : PySem.W.codeIn K cd_BadNote "BadNote.__init__" = true)
  (k_BadNote : PySem.W.keepIn K (.ref f_BadNote) = true)
  (l_BadPart : K.lookup f_BadPart = some ⟨oc_BadPart, od_BadPart, .func (PySem.W.fnOf "__init__" "BadPart.__init__" (defArgs st_BadPart) (defBody st_BadPart) (defScope st_BadPart) .none kV_BadPart dc_BadPart pm_BadPart an_BadPart cd_BadPart ct_BadPart), sl_BadPart⟩)
  (c_BadPart : PySem.W.codeIn K cd_BadPart "BadPart.__init__" = true)
  (k_BadPart : PySem.W.keepIn K (.ref f_BadPart) = true)
  (l_BadTime : K.lookup f_BadTime = some ⟨oc_BadTime, od_BadTime, .func (PySem.W.fnOf "__init__" "BadTime.__init__" (defArgs st_BadTime) (defBody st_BadTime) (defScope st_BadTime) .none kV_BadTime dc_BadTime pm_BadTime an_BadTime cd_BadTime ct_BadTime), sl_BadTime⟩)
  (c_BadTime : PySem.W.codeIn K cd_BadTime "BadTime.__init__" = true)
  (k_BadTime : PySem.W.keepIn K (.ref f_BadTime) = true)
  (l_BadDrums : K.lookup f_BadDrums = some ⟨oc_BadDrums, od_BadDrums, .func (PySem.W.fnOf "__init__" "BadDrums.__init__" (defArgs st_BadDrums) (defBody st_BadDrums) (defScope st_BadDrums) .none kV_BadDrums dc_BadDrums pm_BadDrums an_BadDrums cd_BadDrums ct_BadDrums), sl_BadDrums⟩)
  (c_BadDrums : PySem.W.codeIn K cd_BadDrums "BadDrums.__init__" = true)
  (k_BadDrums : PySem.W.keepIn K (.ref f_BadDrums) = true)
  (l_Overlap : K.lookup f_Overlap = some ⟨oc_Overlap, od_Overlap, .func (PySem.W.fnOf "__init__" "Overlap.__init__" (defArgs st_Overlap) (defBody st_Overlap) (defScope st_Overlap) .none kV_Overlap dc_Overlap pm_Overlap an_Overlap cd_Overlap ct_Overlap), sl_Overlap⟩)
  (c_Overlap : PySem.W.codeIn K cd_Overlap "Overlap.__init__" = true)
  (k_Overlap : PySem.W.keepIn K (.ref f_Overlap) = true)
  (fn_Part___init__ : PySem.W.isFn K (.ref f_Part___init__) = true)
  (fn_Part_notes : PySem.W.isFn K (.ref f_Part_notes) = true)
  (mi_Part : PySem.W.makesIn K C_Part = true)
  (kp_Part : PySem.W.keepIn K (.ref C_Part) = true)
  (pg_Part : PySem.W.plainGet K C_Part Str.empty = true)
  (hs_Part : PySem.W.hasDictIn K C_Part = true)
  (po_Part : PySem.W.plainOver K C_Part = true)
  (so_Part : PySem.W.findIn K (.ref C_Part) "__setattr__" = some (some (.builtin "object.__setattr__")))
  (kl_Part : PySem.W.findIn K (.ref C_Part) "__class__" = some (some (.builtin "object.__class__")))
  (mr_Part : PySem.W.mroIn K C_Part (.type "object") = some true)
  (kg : PySem.W.specialIn K (.builtin "object.__class__") "__get__" = some (some (.builtin "getset_descriptor.__get__")))
  (kt : PySem.W.takesIn K (.builtin "object.__class__") = some true)
  (na_Part : PySem.W.findIn K (.ref C_Part) "part_notes" = some none)
  (x_BadNote : K.lookup C_BadNote = some (excClassObj nm_BadNote q_BadNote C_BadNote N_BadNote bs_BadNote [.ref C_ToneError, .type "ValueError", .type "Exception", .type "BaseException", .type "object"] true sn_BadNote sub_BadNote ab_BadNote col_BadNote dd_BadNote m0_BadNote m1_BadNote m2_BadNote m3_BadNote m5_BadNote "ValueError.__new__"))
  (sa_BadNote : PySem.W.findIn K (.ref C_BadNote) "__setattr__" = some (some (.builtin "object.__setattr__")))
  (ex_BadNote : PySem.W.subIn K (.ref C_BadNote) (.type "BaseException") = some true)
  (ty_BadNote : PySem.W.typeIn K (.ref C_BadNote) = some (.type "type"))
  (kc_BadNote : PySem.W.keepIn K (.ref C_BadNote) = true)
  (tf_BadNote : PySem.W.typeIn K (.ref f_BadNote) = some (.type "function"))
  (ga_BadNote : PySem.W.findIn K (.ref C_BadNote) "__getattribute__" = some (some (.builtin "BaseException.__getattribute__")))
  (gg_BadNote : PySem.W.findIn K (.ref C_BadNote) "__getattr__" = some none)
  (hd_BadNote : PySem.W.hasDictIn K C_BadNote = true)
  (nf_BadNote_found : PySem.W.findIn K (.ref C_BadNote) "found" = some none)
  (x_BadPart : K.lookup C_BadPart = some (excClassObj nm_BadPart q_BadPart C_BadPart N_BadPart bs_BadPart [.ref C_ToneError, .type "ValueError", .type "Exception", .type "BaseException", .type "object"] true sn_BadPart sub_BadPart ab_BadPart col_BadPart dd_BadPart m0_BadPart m1_BadPart m2_BadPart m3_BadPart m5_BadPart "ValueError.__new__"))
  (sa_BadPart : PySem.W.findIn K (.ref C_BadPart) "__setattr__" = some (some (.builtin "object.__setattr__")))
  (ex_BadPart : PySem.W.subIn K (.ref C_BadPart) (.type "BaseException") = some true)
  (ty_BadPart : PySem.W.typeIn K (.ref C_BadPart) = some (.type "type"))
  (kc_BadPart : PySem.W.keepIn K (.ref C_BadPart) = true)
  (tf_BadPart : PySem.W.typeIn K (.ref f_BadPart) = some (.type "function"))
  (ga_BadPart : PySem.W.findIn K (.ref C_BadPart) "__getattribute__" = some (some (.builtin "BaseException.__getattribute__")))
  (gg_BadPart : PySem.W.findIn K (.ref C_BadPart) "__getattr__" = some none)
  (hd_BadPart : PySem.W.hasDictIn K C_BadPart = true)
  (nf_BadPart_found : PySem.W.findIn K (.ref C_BadPart) "found" = some none)
  (x_BadTime : K.lookup C_BadTime = some (excClassObj nm_BadTime q_BadTime C_BadTime N_BadTime bs_BadTime [.ref C_ToneError, .type "ValueError", .type "Exception", .type "BaseException", .type "object"] true sn_BadTime sub_BadTime ab_BadTime col_BadTime dd_BadTime m0_BadTime m1_BadTime m2_BadTime m3_BadTime m5_BadTime "ValueError.__new__"))
  (sa_BadTime : PySem.W.findIn K (.ref C_BadTime) "__setattr__" = some (some (.builtin "object.__setattr__")))
  (ex_BadTime : PySem.W.subIn K (.ref C_BadTime) (.type "BaseException") = some true)
  (ty_BadTime : PySem.W.typeIn K (.ref C_BadTime) = some (.type "type"))
  (kc_BadTime : PySem.W.keepIn K (.ref C_BadTime) = true)
  (tf_BadTime : PySem.W.typeIn K (.ref f_BadTime) = some (.type "function"))
  (ga_BadTime : PySem.W.findIn K (.ref C_BadTime) "__getattribute__" = some (some (.builtin "BaseException.__getattribute__")))
  (gg_BadTime : PySem.W.findIn K (.ref C_BadTime) "__getattr__" = some none)
  (hd_BadTime : PySem.W.hasDictIn K C_BadTime = true)
  (nf_BadTime_found : PySem.W.findIn K (.ref C_BadTime) "found" = some none)
  (x_BadDrums : K.lookup C_BadDrums = some (excClassObj nm_BadDrums q_BadDrums C_BadDrums N_BadDrums bs_BadDrums [.ref C_ToneError, .type "ValueError", .type "Exception", .type "BaseException", .type "object"] true sn_BadDrums sub_BadDrums ab_BadDrums col_BadDrums dd_BadDrums m0_BadDrums m1_BadDrums m2_BadDrums m3_BadDrums m5_BadDrums "ValueError.__new__"))
  (sa_BadDrums : PySem.W.findIn K (.ref C_BadDrums) "__setattr__" = some (some (.builtin "object.__setattr__")))
  (ex_BadDrums : PySem.W.subIn K (.ref C_BadDrums) (.type "BaseException") = some true)
  (ty_BadDrums : PySem.W.typeIn K (.ref C_BadDrums) = some (.type "type"))
  (kc_BadDrums : PySem.W.keepIn K (.ref C_BadDrums) = true)
  (tf_BadDrums : PySem.W.typeIn K (.ref f_BadDrums) = some (.type "function"))
  (ga_BadDrums : PySem.W.findIn K (.ref C_BadDrums) "__getattribute__" = some (some (.builtin "BaseException.__getattribute__")))
  (gg_BadDrums : PySem.W.findIn K (.ref C_BadDrums) "__getattr__" = some none)
  (hd_BadDrums : PySem.W.hasDictIn K C_BadDrums = true)
  (nf_BadDrums_found : PySem.W.findIn K (.ref C_BadDrums) "found" = some none)
  (x_Overlap : K.lookup C_Overlap = some (excClassObj nm_Overlap q_Overlap C_Overlap N_Overlap bs_Overlap [.ref C_ToneError, .type "ValueError", .type "Exception", .type "BaseException", .type "object"] true sn_Overlap sub_Overlap ab_Overlap col_Overlap dd_Overlap m0_Overlap m1_Overlap m2_Overlap m3_Overlap m5_Overlap "ValueError.__new__"))
  (sa_Overlap : PySem.W.findIn K (.ref C_Overlap) "__setattr__" = some (some (.builtin "object.__setattr__")))
  (ex_Overlap : PySem.W.subIn K (.ref C_Overlap) (.type "BaseException") = some true)
  (ty_Overlap : PySem.W.typeIn K (.ref C_Overlap) = some (.type "type"))
  (kc_Overlap : PySem.W.keepIn K (.ref C_Overlap) = true)
  (tf_Overlap : PySem.W.typeIn K (.ref f_Overlap) = some (.type "function"))
  (ga_Overlap : PySem.W.findIn K (.ref C_Overlap) "__getattribute__" = some (some (.builtin "BaseException.__getattribute__")))
  (gg_Overlap : PySem.W.findIn K (.ref C_Overlap) "__getattr__" = some none)
  (hd_Overlap : PySem.W.hasDictIn K C_Overlap = true)
  (nf_Overlap_one : PySem.W.findIn K (.ref C_Overlap) "one" = some none)
  (nf_Overlap_other : PySem.W.findIn K (.ref C_Overlap) "other" = some none)
  (bg_ToneError : PySem.W.specialIn K (.ref C_ToneError) "__getattribute__" = some (some (.builtin "type.__getattribute__")))
  (br_ToneError : PySem.W.readsIn K C_ToneError (.type "type") = true)
  (bf_ToneError : PySem.W.findCls K (.ref C_ToneError) (.type "type") "__init__" = some (.val (.builtin "ValueError.__init__")))
  (z_bool : PySem.W.nsIn K mainGlobals "bool" = some none)
  (z_int : PySem.W.nsIn K mainGlobals "int" = some none)
  (z_isinstance : PySem.W.nsIn K mainGlobals "isinstance" = some none)
  (z_len : PySem.W.nsIn K mainGlobals "len" = some none)
  (z_list : PySem.W.nsIn K mainGlobals "list" = some none)
  (z_max : PySem.W.nsIn K mainGlobals "max" = some none)
  (z_min : PySem.W.nsIn K mainGlobals "min" = some none)
  (z_range : PySem.W.nsIn K mainGlobals "range" = some none)
  (z_repr : PySem.W.nsIn K mainGlobals "repr" = some none)
  (z_sorted : PySem.W.nsIn K mainGlobals "sorted" = some none)
  (z_tuple : PySem.W.nsIn K mainGlobals "tuple" = some none)
  (v_HIGHEST : PySem.W.nsIn K mainGlobals "HIGHEST" = some (some (.int 119 tk_HIGHEST)))
  (v_LAST : PySem.W.nsIn K mainGlobals "LAST" = some (some (.int 9999 tk_LAST)))
  (v_LAST_MOMENT : PySem.W.nsIn K mainGlobals "LAST_MOMENT" = some (some (.int 19998 tk_LAST_MOMENT)))
  (v_MOST_DRUMS : PySem.W.nsIn K mainGlobals "MOST_DRUMS" = some (some (.int 12 tk_MOST_DRUMS)))
  (v_MOST_NOTES : PySem.W.nsIn K mainGlobals "MOST_NOTES" = some (some (.int 60 tk_MOST_NOTES)))
  (no_Part : (tyNs.all fun t => PySem.W.kitOne K (.type t) (.ref C_Part) == some false) = true)
  : ∃ (fd : FuncData) (cl : String → Addr), (∀ (s : Shared) (u : Value), BindsTo s fd ⟨[u], []⟩ [("script", u)]) ∧ ∀ base : Heap, K.In base → base.Ns mainGlobals mg → FnG P w K mg base 7 fa fd ["script"] (spOf ⟨K, cl⟩ (m_law)) := by
  have e := hfa.symm.trans (PySem.W.mg_of X G a_law)
  cases e
  have T := mkT (w := w) X G aC_BadNote aC_BadPart aC_BadTime aC_BadDrums aC_Overlap aC_ToneError aC_Part a_is_integer a_is_list a_is_pitch a_is_note a_need_note a_is_moment a_need_part a_need_time a_is_busy a_busy_pitches a_is_drum a_need_drums a_shows_crowd a_law_cell a_law_box a_law_take a_law_even a_law_notes a_law_time a_law_moment a_law_busy a_law i_BadNote i_BadPart i_BadTime i_BadDrums i_Overlap t_Part___init__ t_Part_notes l_is_integer c_is_integer k_is_integer l_is_list c_is_list k_is_list l_is_pitch c_is_pitch k_is_pitch l_is_note c_is_note k_is_note l_need_note c_need_note k_need_note l_is_moment c_is_moment k_is_moment l_need_part c_need_part k_need_part l_need_time c_need_time k_need_time l_is_busy c_is_busy k_is_busy l_busy_pitches c_busy_pitches k_busy_pitches l_is_drum c_is_drum k_is_drum l_need_drums c_need_drums k_need_drums l_shows_crowd c_shows_crowd k_shows_crowd l_law_cell c_law_cell k_law_cell l_law_box c_law_box k_law_box l_law_take c_law_take k_law_take l_law_even c_law_even k_law_even l_law_notes c_law_notes k_law_notes l_law_time c_law_time k_law_time l_law_moment c_law_moment k_law_moment l_law_busy c_law_busy k_law_busy l_law c_law k_law l_Part___init__ c_Part___init__ k_Part___init__ l_Part_notes c_Part_notes k_Part_notes l_BadNote c_BadNote k_BadNote l_BadPart c_BadPart k_BadPart l_BadTime c_BadTime k_BadTime l_BadDrums c_BadDrums k_BadDrums l_Overlap c_Overlap k_Overlap fn_Part___init__ fn_Part_notes mi_Part kp_Part pg_Part hs_Part po_Part so_Part kl_Part mr_Part kg kt na_Part x_BadNote sa_BadNote ex_BadNote ty_BadNote kc_BadNote tf_BadNote ga_BadNote gg_BadNote hd_BadNote nf_BadNote_found x_BadPart sa_BadPart ex_BadPart ty_BadPart kc_BadPart tf_BadPart ga_BadPart gg_BadPart hd_BadPart nf_BadPart_found x_BadTime sa_BadTime ex_BadTime ty_BadTime kc_BadTime tf_BadTime ga_BadTime gg_BadTime hd_BadTime nf_BadTime_found x_BadDrums sa_BadDrums ex_BadDrums ty_BadDrums kc_BadDrums tf_BadDrums ga_BadDrums gg_BadDrums hd_BadDrums nf_BadDrums_found x_Overlap sa_Overlap ex_Overlap ty_Overlap kc_Overlap tf_Overlap ga_Overlap gg_Overlap hd_Overlap nf_Overlap_one nf_Overlap_other bg_ToneError br_ToneError bf_ToneError z_bool z_int z_isinstance z_len z_list z_max z_min z_range z_repr z_sorted z_tuple v_HIGHEST v_LAST v_LAST_MOMENT v_MOST_DRUMS v_MOST_NOTES no_Part
  exact ⟨_, _, fun s u => .of_eq rfl, fun base _ _ => g_law T⟩
end K34
open PySem PySem.W PyProof.Rows in
set_option maxRecDepth 100000 in
set_option maxHeartbeats 0 in
theorem PySem.Challenge.cw_kettletones_k34_moments_that_show_a_crow_holds : PySem.Challenge.rw_kettletones_k34_moments_that_show_a_crow.Holds := by
  w_on; o_law; k_head; (case hw => w_witness2)
  k_fill
  refine Kt.walk_ofG (l := PySem.Challenge.rw_kettletones_k34_moments_that_show_a_crow) (n := 63) (k := 7) (x := "script") (sd := fun _ => K34.m_law) rfl (by decide) rfl ⟨rfl, by decide, by decide⟩ (fun w h Y => PySem.W.kIn_of Y) ?F K34.law_ok
  case F =>
    intro w mg fa h KX G hmg
    refine' K34.fin KX G hmg ?aC_BadNote ?aC_BadPart ?aC_BadTime ?aC_BadDrums ?aC_Overlap ?aC_ToneError ?aC_Part ?a_is_integer ?a_is_list ?a_is_pitch ?a_is_note ?a_need_note ?a_is_moment ?a_need_part ?a_need_time ?a_is_busy ?a_busy_pitches ?a_is_drum ?a_need_drums ?a_shows_crowd ?a_law_cell ?a_law_box ?a_law_take ?a_law_even ?a_law_notes ?a_law_time ?a_law_moment ?a_law_busy ?a_law ?i_BadNote ?i_BadPart ?i_BadTime ?i_BadDrums ?i_Overlap ?t_Part___init__ ?t_Part_notes ?l_is_integer ?c_is_integer ?k_is_integer ?l_is_list ?c_is_list ?k_is_list ?l_is_pitch ?c_is_pitch ?k_is_pitch ?l_is_note ?c_is_note ?k_is_note ?l_need_note ?c_need_note ?k_need_note ?l_is_moment ?c_is_moment ?k_is_moment ?l_need_part ?c_need_part ?k_need_part ?l_need_time ?c_need_time ?k_need_time ?l_is_busy ?c_is_busy ?k_is_busy ?l_busy_pitches ?c_busy_pitches ?k_busy_pitches ?l_is_drum ?c_is_drum ?k_is_drum ?l_need_drums ?c_need_drums ?k_need_drums ?l_shows_crowd ?c_shows_crowd ?k_shows_crowd ?l_law_cell ?c_law_cell ?k_law_cell ?l_law_box ?c_law_box ?k_law_box ?l_law_take ?c_law_take ?k_law_take ?l_law_even ?c_law_even ?k_law_even ?l_law_notes ?c_law_notes ?k_law_notes ?l_law_time ?c_law_time ?k_law_time ?l_law_moment ?c_law_moment ?k_law_moment ?l_law_busy ?c_law_busy ?k_law_busy ?l_law ?c_law ?k_law ?l_Part___init__ ?c_Part___init__ ?k_Part___init__ ?l_Part_notes ?c_Part_notes ?k_Part_notes ?l_BadNote ?c_BadNote ?k_BadNote ?l_BadPart ?c_BadPart ?k_BadPart ?l_BadTime ?c_BadTime ?k_BadTime ?l_BadDrums ?c_BadDrums ?k_BadDrums ?l_Overlap ?c_Overlap ?k_Overlap ?fn_Part___init__ ?fn_Part_notes ?mi_Part ?kp_Part ?pg_Part ?hs_Part ?po_Part ?so_Part ?kl_Part ?mr_Part ?kg ?kt ?na_Part ?x_BadNote ?sa_BadNote ?ex_BadNote ?ty_BadNote ?kc_BadNote ?tf_BadNote ?ga_BadNote ?gg_BadNote ?hd_BadNote ?nf_BadNote_found ?x_BadPart ?sa_BadPart ?ex_BadPart ?ty_BadPart ?kc_BadPart ?tf_BadPart ?ga_BadPart ?gg_BadPart ?hd_BadPart ?nf_BadPart_found ?x_BadTime ?sa_BadTime ?ex_BadTime ?ty_BadTime ?kc_BadTime ?tf_BadTime ?ga_BadTime ?gg_BadTime ?hd_BadTime ?nf_BadTime_found ?x_BadDrums ?sa_BadDrums ?ex_BadDrums ?ty_BadDrums ?kc_BadDrums ?tf_BadDrums ?ga_BadDrums ?gg_BadDrums ?hd_BadDrums ?nf_BadDrums_found ?x_Overlap ?sa_Overlap ?ex_Overlap ?ty_Overlap ?kc_Overlap ?tf_Overlap ?ga_Overlap ?gg_Overlap ?hd_Overlap ?nf_Overlap_one ?nf_Overlap_other ?bg_ToneError ?br_ToneError ?bf_ToneError ?z_bool ?z_int ?z_isinstance ?z_len ?z_list ?z_max ?z_min ?z_range ?z_repr ?z_sorted ?z_tuple ?v_HIGHEST ?v_LAST ?v_LAST_MOMENT ?v_MOST_DRUMS ?v_MOST_NOTES ?no_Part
    (case aC_BadNote => k_is)
    (case aC_BadPart => k_is)
    (case aC_BadTime => k_is)
    (case aC_BadDrums => k_is)
    (case aC_Overlap => k_is)
    (case aC_ToneError => k_is)
    (case aC_Part => k_is)
    (case a_is_integer => k_is)
    (case a_is_list => k_is)
    (case a_is_pitch => k_is)
    (case a_is_note => k_is)
    (case a_need_note => k_is)
    (case a_is_moment => k_is)
    (case a_need_part => k_is)
    (case a_need_time => k_is)
    (case a_is_busy => k_is)
    (case a_busy_pitches => k_is)
    (case a_is_drum => k_is)
    (case a_need_drums => k_is)
    (case a_shows_crowd => k_is)
    (case a_law_cell => k_is)
    (case a_law_box => k_is)
    (case a_law_take => k_is)
    (case a_law_even => k_is)
    (case a_law_notes => k_is)
    (case a_law_time => k_is)
    (case a_law_moment => k_is)
    (case a_law_busy => k_is)
    (case a_law => k_is)
    (case i_BadNote => k_is)
    (case i_BadPart => k_is)
    (case i_BadTime => k_is)
    (case i_BadDrums => k_is)
    (case i_Overlap => k_is)
    (case t_Part___init__ => k_is)
    (case t_Part_notes => k_is)
    (case l_is_integer => k_is)
    (case c_is_integer => k_is)
    (case k_is_integer => k_is)
    (case l_is_list => k_is)
    (case c_is_list => k_is)
    (case k_is_list => k_is)
    (case l_is_pitch => k_is)
    (case c_is_pitch => k_is)
    (case k_is_pitch => k_is)
    (case l_is_note => k_is)
    (case c_is_note => k_is)
    (case k_is_note => k_is)
    (case l_need_note => k_is)
    (case c_need_note => k_is)
    (case k_need_note => k_is)
    (case l_is_moment => k_is)
    (case c_is_moment => k_is)
    (case k_is_moment => k_is)
    (case l_need_part => k_is)
    (case c_need_part => k_is)
    (case k_need_part => k_is)
    (case l_need_time => k_is)
    (case c_need_time => k_is)
    (case k_need_time => k_is)
    (case l_is_busy => k_is)
    (case c_is_busy => k_is)
    (case k_is_busy => k_is)
    (case l_busy_pitches => k_is)
    (case c_busy_pitches => k_is)
    (case k_busy_pitches => k_is)
    (case l_is_drum => k_is)
    (case c_is_drum => k_is)
    (case k_is_drum => k_is)
    (case l_need_drums => k_is)
    (case c_need_drums => k_is)
    (case k_need_drums => k_is)
    (case l_shows_crowd => k_is)
    (case c_shows_crowd => k_is)
    (case k_shows_crowd => k_is)
    (case l_law_cell => k_is)
    (case c_law_cell => k_is)
    (case k_law_cell => k_is)
    (case l_law_box => k_is)
    (case c_law_box => k_is)
    (case k_law_box => k_is)
    (case l_law_take => k_is)
    (case c_law_take => k_is)
    (case k_law_take => k_is)
    (case l_law_even => k_is)
    (case c_law_even => k_is)
    (case k_law_even => k_is)
    (case l_law_notes => k_is)
    (case c_law_notes => k_is)
    (case k_law_notes => k_is)
    (case l_law_time => k_is)
    (case c_law_time => k_is)
    (case k_law_time => k_is)
    (case l_law_moment => k_is)
    (case c_law_moment => k_is)
    (case k_law_moment => k_is)
    (case l_law_busy => k_is)
    (case c_law_busy => k_is)
    (case k_law_busy => k_is)
    (case l_law => k_is)
    (case c_law => k_is)
    (case k_law => k_is)
    (case l_Part___init__ => k_is)
    (case c_Part___init__ => k_is)
    (case k_Part___init__ => k_is)
    (case l_Part_notes => k_is)
    (case c_Part_notes => k_is)
    (case k_Part_notes => k_is)
    (case l_BadNote => k_is)
    (case c_BadNote => k_is)
    (case k_BadNote => k_is)
    (case l_BadPart => k_is)
    (case c_BadPart => k_is)
    (case k_BadPart => k_is)
    (case l_BadTime => k_is)
    (case c_BadTime => k_is)
    (case k_BadTime => k_is)
    (case l_BadDrums => k_is)
    (case c_BadDrums => k_is)
    (case k_BadDrums => k_is)
    (case l_Overlap => k_is)
    (case c_Overlap => k_is)
    (case k_Overlap => k_is)
    (case fn_Part___init__ => k_is)
    (case fn_Part_notes => k_is)
    (case mi_Part => k_is)
    (case kp_Part => k_is)
    (case pg_Part => k_is)
    (case hs_Part => k_is)
    (case po_Part => k_is)
    (case so_Part => k_is)
    (case kl_Part => k_is)
    (case mr_Part => k_is)
    (case kg => k_is)
    (case kt => k_is)
    (case na_Part => k_is)
    (case x_BadNote => k_is)
    (case sa_BadNote => k_is)
    (case ex_BadNote => k_is)
    (case ty_BadNote => k_is)
    (case kc_BadNote => k_is)
    (case tf_BadNote => k_is)
    (case ga_BadNote => k_is)
    (case gg_BadNote => k_is)
    (case hd_BadNote => k_is)
    (case nf_BadNote_found => k_is)
    (case x_BadPart => k_is)
    (case sa_BadPart => k_is)
    (case ex_BadPart => k_is)
    (case ty_BadPart => k_is)
    (case kc_BadPart => k_is)
    (case tf_BadPart => k_is)
    (case ga_BadPart => k_is)
    (case gg_BadPart => k_is)
    (case hd_BadPart => k_is)
    (case nf_BadPart_found => k_is)
    (case x_BadTime => k_is)
    (case sa_BadTime => k_is)
    (case ex_BadTime => k_is)
    (case ty_BadTime => k_is)
    (case kc_BadTime => k_is)
    (case tf_BadTime => k_is)
    (case ga_BadTime => k_is)
    (case gg_BadTime => k_is)
    (case hd_BadTime => k_is)
    (case nf_BadTime_found => k_is)
    (case x_BadDrums => k_is)
    (case sa_BadDrums => k_is)
    (case ex_BadDrums => k_is)
    (case ty_BadDrums => k_is)
    (case kc_BadDrums => k_is)
    (case tf_BadDrums => k_is)
    (case ga_BadDrums => k_is)
    (case gg_BadDrums => k_is)
    (case hd_BadDrums => k_is)
    (case nf_BadDrums_found => k_is)
    (case x_Overlap => k_is)
    (case sa_Overlap => k_is)
    (case ex_Overlap => k_is)
    (case ty_Overlap => k_is)
    (case kc_Overlap => k_is)
    (case tf_Overlap => k_is)
    (case ga_Overlap => k_is)
    (case gg_Overlap => k_is)
    (case hd_Overlap => k_is)
    (case nf_Overlap_one => k_is)
    (case nf_Overlap_other => k_is)
    (case bg_ToneError => k_is)
    (case br_ToneError => k_is)
    (case bf_ToneError => k_is)
    (case z_bool => k_is)
    (case z_int => k_is)
    (case z_isinstance => k_is)
    (case z_len => k_is)
    (case z_list => k_is)
    (case z_max => k_is)
    (case z_min => k_is)
    (case z_range => k_is)
    (case z_repr => k_is)
    (case z_sorted => k_is)
    (case z_tuple => k_is)
    (case v_HIGHEST => k_is)
    (case v_LAST => k_is)
    (case v_LAST_MOMENT => k_is)
    (case v_MOST_DRUMS => k_is)
    (case v_MOST_NOTES => k_is)
    (case no_Part => kernel_rfl)
